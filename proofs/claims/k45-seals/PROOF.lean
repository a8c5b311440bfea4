import PyProof.Rows.All
import Wide.All
import OpenK.AllK
import Wide.FinOn
import HandS.ForMost
import HandS.Wide
import HandS.WideBits
import HandS.IsInst
import HandS.TupAny
import HandS.Deep
import HandS.EndBits
import HandS.Style
import PySem.Challenge.RW_judgedplay_k45_seals_hold
set_option Elab.async false
set_option linter.all false
set_option maxRecDepth 100000
set_option maxHeartbeats 4000000
/-! ### my own layer: introduction forms for the readings -/
namespace Jp
open PySem PySem.Spec PyProof.Rows L2
/-! rules by names -/
section
variable {X : Cx}
def rInt1 : List V → Hp → VK → Prop := fun xs H Q => (∃ i, xs = [.int i] ∧ Q (.int i) H) ∨ ∃ k, xs = [.bl k] ∧ Q (.int (if k then 1 else 0)) H
theorem c_int : CallR X (.type "int") rInt1 := call_int1
def rAbs : List V → Hp → VK → Prop := fun xs H Q => ∃ i, xs = [.int i] ∧ Q (.int (if i < 0 then -i else i)) H
theorem c_abs : CallR X (.builtin "abs") rAbs := call_abs
def rMax2 : List V → Hp → VK → Prop := fun xs H Q => ∃ i j, xs = [.int i, .int j] ∧ Q (.int (if j > i then j else i)) H
theorem c_max2 (hc : X.calm = true) : CallR X (.builtin "max") rMax2 := call_max2 hc
def rMin2 : List V → Hp → VK → Prop := fun xs H Q => ∃ i j, xs = [.int i, .int j] ∧ Q (.int (if j < i then j else i)) H
theorem c_min2 (hc : X.calm = true) : CallR X (.builtin "min") rMin2 := call_min2 hc
def rLen (K : PySem.W.Frag) : List V → Hp → VK → Prop := fun xs H Q => ∃ x n, xs = [x] ∧ LenV K x H n ∧ Q (.int (n : Nat)) H
theorem c_len : CallR X (.builtin "len") (rLen X.K) := call_len
def rLenD : List V → Hp → VK → Prop := fun xs H Q => ∃ a kvs, xs = [V.ref a] ∧ H a = some (.dK kvs) ∧ Q (.int kvs.length) H
theorem c_lenD : CallR X (.builtin "len") rLenD := call_lenD
def rTupOf (K : PySem.W.Frag) : List V → Hp → VK → Prop := fun xs H Q => ∃ p ys, xs = [.ref p] ∧ ((SqL K H p ys ∧ ∀ l, H l = none → Q (.ref l) (upd H l (.tup ys))) ∨ (SqT K H p ys ∧ Q (.ref p) H))
theorem c_tup : CallR X (.type "tuple") (rTupOf X.K) := call_tuple_of
def rLstOf (K : PySem.W.Frag) : List V → Hp → VK → Prop := fun xs H Q => ∃ p ys, xs = [.ref p] ∧ (SqL K H p ys ∨ SqT K H p ys) ∧ ∀ l, H l = none → Q (.ref l) (upd H l (.lst ys))
theorem c_lst : CallR X (.type "list") (rLstOf X.K) := call_list_of
def rBool1 : List V → Hp → VK → Prop := fun xs H Q => (∃ i, xs = [.int i] ∧ Q (.bl (i != 0)) H) ∨ ∃ k, xs = [.bl k] ∧ Q (.bl k) H
theorem c_bool1 : CallR X (.type "bool") rBool1 := call_bool1
def rIsNon : R2 := fun x y H Q => y = .non ∧ Q (.bl (decide (x = .non))) H
theorem o_isN : OpR X (compareOp .Is) rIsNon := op_isN
def rNotNon : R2 := fun x y H Q => y = .non ∧ Q (.bl (!decide (x = .non))) H
theorem o_notN : OpR X (compareOp .IsNot) rNotNon := op_notN
def rAddStr : R2 := fun x y H Q => ∃ i j, x = .str i ∧ y = .str j ∧ i.length + j.length ≤ sizeLine ∧ Q (.str (i ++ j)) H
theorem o_addS : OpR X (binaryOp .Add) rAddStr := op_add_str
theorem o_iaddS : OpR X (inplaceOp .Add) rAddStr := iop_add_str
end
section
variable {K : PySem.W.Frag} {σ : L2.St} {H : Hp} {Q : VK}
theorem i_isN {x : V} (q : Q (.bl (decide (x = .non))) H) : rIsNon x .non H Q := ⟨rfl, q⟩
theorem i_notN {x : V} (q : Q (.bl (!decide (x = .non))) H) : rNotNon x .non H Q := ⟨rfl, q⟩
theorem i_int {i : Int} (q : Q (.int i) H) : rInt1 [.int i] H Q := .inl ⟨i, rfl, q⟩
theorem i_intB {k : Bool} (q : Q (.int (if k then 1 else 0)) H) : rInt1 [.bl k] H Q := .inr ⟨k, rfl, q⟩
theorem i_abs {i : Int} (q : Q (.int (if i < 0 then -i else i)) H) : rAbs [.int i] H Q := ⟨i, rfl, q⟩
theorem i_max2 {i j : Int} (q : Q (.int (if j > i then j else i)) H) : rMax2 [.int i, .int j] H Q := ⟨i, j, rfl, q⟩
theorem i_min2 {i j : Int} (q : Q (.int (if j < i then j else i)) H) : rMin2 [.int i, .int j] H Q := ⟨i, j, rfl, q⟩
theorem i_lenL {p : Addr} {xs : List V} (h : SqL K H p xs) (q : Q (.int xs.length) H) : rLen K [.ref p] H Q := ⟨.ref p, xs.length, rfl, .inl ⟨xs, h, rfl⟩, q⟩
theorem i_lenT {p : Addr} {xs : List V} (h : SqT K H p xs) (q : Q (.int xs.length) H) : rLen K [.ref p] H Q := ⟨.ref p, xs.length, rfl, .inr ⟨xs, h, rfl⟩, q⟩
theorem i_lenS {x : Str} (h : x.length ≤ sizeLine) (q : Q (.int x.length) H) : rLen K [.str x] H Q := ⟨.str x, x.length, rfl, ⟨h, rfl⟩, q⟩
theorem i_lenD {p : Addr} {kvs : List (L2.Key × V)} (h : H p = some (.dK kvs)) (q : Q (.int kvs.length) H) : rLenD [.ref p] H Q := ⟨p, kvs, rfl, h, q⟩
theorem i_tupL {p : Addr} {ys : List V} (h : SqL K H p ys) (q : ∀ l, H l = none → Q (.ref l) (upd H l (.tup ys))) : rTupOf K [.ref p] H Q := ⟨p, ys, rfl, .inl ⟨h, q⟩⟩
theorem i_tupT {p : Addr} {ys : List V} (h : SqT K H p ys) (q : Q (.ref p) H) : rTupOf K [.ref p] H Q := ⟨p, ys, rfl, .inr ⟨h, q⟩⟩
theorem i_lstL {p : Addr} {ys : List V} (h : SqL K H p ys) (q : ∀ l, H l = none → Q (.ref l) (upd H l (.lst ys))) : rLstOf K [.ref p] H Q := ⟨p, ys, rfl, .inl h, q⟩
theorem i_lstT {p : Addr} {ys : List V} (h : SqT K H p ys) (q : ∀ l, H l = none → Q (.ref l) (upd H l (.lst ys))) : rLstOf K [.ref p] H Q := ⟨p, ys, rfl, .inr h, q⟩
theorem i_catA {p b : Addr} {xs ys : List V} (h1 : SqT K H p xs) (h2 : SqT K H b ys) (hl : xs.length + ys.length ≤ sizeLine) (q : ∀ (r : Addr) (H' : Hp), (∀ b o, H b = some o → H' b = some o) → SqT K H' r (xs ++ ys) → Q (.ref r) H') : rCatA K (.ref p) (.ref b) H Q := by
  refine ⟨p, b, xs, ys, rfl, rfl, h1, h2, hl, fun e => ?_, fun _ e => ?_, fun _ _ r hr => ?_⟩
  · subst e; exact q b H (fun _ _ h => h) h2
  · subst e; exact q p H (fun _ _ h => h) (by rw [List.append_nil]; exact h1)
  · exact q r _ (fun b o e => by rw [upd_ne (ne_of_none e hr)]; exact e) (.inl (.inl upd_same))
theorem i_catI {p b : Addr} {ns ms : List Int} (h1 : SqT K H p (ns.map V.int)) (h2 : SqT K H b (ms.map V.int)) (hl : ns.length + ms.length ≤ 10000) (q : ∀ (r : Addr) (H' : Hp), (∀ b o, H b = some o → H' b = some o) → SqT K H' r ((ns ++ ms).map V.int) → Q (.ref r) H') : rCatA K (.ref p) (.ref b) H Q :=
  i_catA h1 h2 (by rw [List.length_map, List.length_map]; exact Nat.le_trans hl (by decide)) fun r H' s t => q r H' s (by rw [List.map_append]; exact t)
/-- ns[lo:hi] -/
def cutI (ns : List Int) (lo hi : Option Int) : List Int := (ns.drop (HT.sIx ns.length 0 lo)).take (HT.sIx ns.length ns.length hi - HT.sIx ns.length 0 lo)
theorem cutI_len (ns : List Int) (lo hi : Option Int) : (cutI ns lo hi).length ≤ ns.length := by
  unfold cutI
  rw [List.length_take, List.length_drop]
  omega
theorem i_slI {p : Addr} {ns : List Int} {lo hi : Option Int} (h : SqT K H p (ns.map V.int)) (hw : ¬ (HT.sIx ns.length 0 lo = 0 ∧ HT.sIx ns.length ns.length hi = ns.length))
    (q : ∀ (r : Addr) (H' : Hp), (∀ b o, H b = some o → H' b = some o) → SqT K H' r ((cutI ns lo hi).map V.int) → Q (.ref r) H') : rSlT K (.ref p) lo hi H Q := by
  refine ⟨p, _, rfl, h, by rw [List.length_map]; exact hw, fun r hr => q r _ (fun b o e => by rw [upd_ne (ne_of_none e hr)]; exact e) (.inl (.inl ?_))⟩
  rw [upd_same]
  unfold cutV cutI
  rw [List.length_map, List.map_take, List.map_drop]
theorem i_sl {r : V → Option Int → Option Int → Hp → VK → Prop} {te : TE} {tl th : TO} (h : te σ H fun x H1 => tl σ H1 fun l H2 => th σ H2 fun u H3 => r x l u H3 Q) : tSl r te tl th σ H Q := h
theorem i_noPart {Q : Option Int → Hp → Prop} (q : Q none H) : tNoPart σ H Q := q
theorem i_part {t : TE} {Q : Option Int → Hp → Prop} (h : t σ H fun x H1 => ∃ i, x = .int i ∧ Q (some i) H1) : tPart t σ H Q := h
theorem i_cat {p b : Addr} {xs zs : List V} (h1 : H p = some (.lst xs)) (h2 : H b = some (.lst zs)) (hl : xs.length + zs.length ≤ sizeLine) (q : ∀ r, H r = none → Q (.ref r) (upd H r (.lst (xs ++ zs)))) : rCat (.ref p) (.ref b) H Q := ⟨p, b, xs, zs, rfl, rfl, h1, h2, hl, q⟩
theorem i_chain {r r' : R2} {ta tb tc : TE} (h : ta σ H fun x H1 => tb σ H1 fun y H2 => r x y H2 fun z H3 => ∃ k, z = .bl k ∧ (if k = true then tc σ H3 fun w' H4 => r' y w' H4 Q else Q (.bl false) H3)) : tChain r r' ta tb tc σ H Q := h
theorem i_popAt {p : Addr} {xs : List V} {i : Int} {y : V} (h : H p = some (.lst xs)) (h0 : 0 ≤ i) (h1 : i < xs.length) (h2 : xs.length ≤ 1000000) (e : xs[i.toNat]? = some y) (q : Q y (upd H p (.lst (xs.eraseIdx i.toNat)))) : rPopAt (.ref p) [.int i] H Q :=
  ⟨p, xs, i, i.toNat, y, rfl, rfl, h, by omega, by omega, seqIndex_of h0 h1, e, q⟩
theorem i_isI {i : Int} {Q : Int → Prop} (q : Q i) : ∃ i', V.int i = .int i' ∧ Q i' := ⟨i, rfl, q⟩
theorem i_bm {T : String} {r : V → List V → Hp → VK → Prop} {to : TE} {t : TA} (h : to σ H fun x H1 => tyV K T x H1 ∧ t σ H1 fun xs H2 => r x xs H2 Q) : tBM K T r to t σ H Q := h
theorem i_bm0 {T : String} {r : V → List V → Hp → VK → Prop} {to : TE} (h : to σ H fun x H1 => tyV K T x H1 ∧ r x [] H1 Q) : tBM0 K T r to σ H Q := h
theorem i_tyL {p : Addr} {xs : List V} {R : Prop} (s : SqL K H p xs) (q : R) : tyV K "list" (.ref p) H ∧ R := ⟨.inl ⟨rfl, xs, s⟩, q⟩
theorem i_app {p : Addr} {xs : List V} {y : V} (h : H p = some (.lst xs)) (hl : xs.length < sizeLine) (q : Q .non (upd H p (.lst (xs ++ [y])))) : rAppend (.ref p) [y] H Q := ⟨p, xs, y, rfl, rfl, h, hl, q⟩
theorem i_addS {x y : Str} (h : x.length + y.length ≤ sizeLine) (q : Q (.str (x ++ y)) H) : rAddStr (.str x) (.str y) H Q := ⟨x, y, rfl, rfl, h, q⟩
theorem i_isi {x : V} {n : String} {t : Value} {b : Bool} (ty : TyX K H x t) (e : PySem.W.kitOne K t (.type n) = some b) (q : Q (.bl b) H) : rIsi K [x, .ty n] H Q := ⟨x, .ty n, t, .type n, b, rfl, .ty n, ty, e, q⟩
theorem i_var {i : Nat} {v : V} (h : σ[i]? = some (some v)) (q : Q v H) : tVar i σ H Q := ⟨v, h, q⟩
theorem i_c {v : V} (q : Q v H) : tC v σ H Q := q
theorem i_op {r : R2} {ta tb : TE} (h : ta σ H fun x H1 => tb σ H1 fun y H2 => r x y H2 Q) : tOp r ta tb σ H Q := h
theorem i_un {r : V → Hp → VK → Prop} {ta : TE} (h : ta σ H fun x H1 => r x H1 Q) : tUn r ta σ H Q := h
theorem i_rI0 {g : Int → Int → V} {i j : Int} (q : Q (g i j) H) : rI0 g (.int i) (.int j) H Q := ⟨i, j, rfl, rfl, q⟩
theorem i_rI {C : Int → Int → Prop} {g : Int → Int → V} {i j : Int} (c : C i j) (q : Q (g i j) H) : rI C g (.int i) (.int j) H Q := ⟨i, j, rfl, rfl, c, q⟩
theorem i_rU {g : Int → V} {i : Int} (q : Q (g i) H) : rU g (.int i) H Q := ⟨i, rfl, q⟩
theorem i_eqI {i j : Int} (q : Q (.bl (decide (i = j))) H) : rEq (.int i) (.int j) H Q := ⟨rfl, by
  have e : decide (V.int i = V.int j) = decide (i = j) := by simp
  rw [e]; exact q⟩
theorem i_neI {i j : Int} (q : Q (.bl (!decide (i = j))) H) : rNe (.int i) (.int j) H Q := ⟨rfl, by
  have e : decide (V.int i = V.int j) = decide (i = j) := by simp
  rw [e]; exact q⟩
theorem i_eqB {i j : Bool} (q : Q (.bl (decide (i = j))) H) : rEq (.bl i) (.bl j) H Q := ⟨rfl, by
  have e : decide (V.bl i = V.bl j) = decide (i = j) := by simp
  rw [e]; exact q⟩
theorem i_neB {i j : Bool} (q : Q (.bl (!decide (i = j))) H) : rNe (.bl i) (.bl j) H Q := ⟨rfl, by
  have e : decide (V.bl i = V.bl j) = decide (i = j) := by simp
  rw [e]; exact q⟩
theorem i_eqS {i j : Str} (q : Q (.bl (decide (i = j))) H) : rEq (.str i) (.str j) H Q := ⟨rfl, by
  have e : decide (V.str i = V.str j) = decide (i = j) := by simp
  rw [e]; exact q⟩
theorem i_neS {i j : Str} (q : Q (.bl (!decide (i = j))) H) : rNe (.str i) (.str j) H Q := ⟨rfl, by
  have e : decide (V.str i = V.str j) = decide (i = j) := by simp
  rw [e]; exact q⟩
/-! index -/
theorem i_ixL {p : Addr} {xs : List V} {i : Int} {v : V} (h : SqL K H p xs) (e : atI xs i = some v) (q : Q v H) : rIxL K (.ref p) (.int i) H Q := ⟨p, xs, i, v, rfl, rfl, h, e, q⟩
theorem i_ixT {p : Addr} {xs : List V} {i : Int} {v : V} (h : SqT K H p xs) (e : atI xs i = some v) (q : Q v H) : rIxT K (.ref p) (.int i) H Q := ⟨p, xs, i, v, rfl, rfl, h, e, q⟩
theorem i_ix1 {x y : V} (h : rIxL K x y H Q) : rIx K x y H Q := .inl h
theorem i_ix2 {x y : V} (h : rIxT K x y H Q) : rIx K x y H Q := .inr (.inl h)
/-! arguments, calls, displays -/
theorem i_nil {Q : List V → Hp → Prop} (q : Q [] H) : tNil σ H Q := q
theorem i_cons {ta : TE} {tr : TA} {Q : List V → Hp → Prop} (h : ta σ H fun x H1 => tr σ H1 fun xs H2 => Q (x :: xs) H2) : tCons ta tr σ H Q := h
theorem i_call {sp : Sp} {E : XK} {t : TA} (h : t σ H fun vs H1 => sp (vs ++ []) H1 Q E) : tCall sp [] E t σ H Q := h
theorem i_cb {r : List V → Hp → VK → Prop} {t : TA} (h : t σ H fun vs H1 => r vs H1 Q) : tCB r t σ H Q := h
theorem i_tup {t : TA} (h : t σ H fun xs H1 => xs.length ≤ sizeLine ∧ ∀ p, H1 p = none → Q (.ref p) (upd H1 p (.tup xs))) : tTup t σ H Q := h
theorem i_lst {t : TA} (h : t σ H fun xs H1 => xs.length ≤ sizeLine ∧ ∀ p, H1 p = none → Q (.ref p) (upd H1 p (.lst xs))) : tLst t σ H Q := h
theorem i_new {n : Nat} {R : Addr → Prop} (h : n ≤ sizeLine) (q : ∀ p, H p = none → R p) : n ≤ sizeLine ∧ ∀ p, H p = none → R p := ⟨h, q⟩
theorem i_if {c : TT} {ta tb : TE} (h : c σ H fun b H1 => if b = true then ta σ H1 Q else tb σ H1 Q) : tIf c ta tb σ H Q := h
theorem i_andV {ta tb : TE} (h : ta σ H fun x H1 => ∃ c, x = .bl c ∧ if c = true then tb σ H1 Q else Q (.bl false) H1) : tAndV ta tb σ H Q := h
theorem i_orV {ta tb : TE} (h : ta σ H fun x H1 => ∃ c, x = .bl c ∧ if c = true then Q (.bl true) H1 else tb σ H1 Q) : tOrV ta tb σ H Q := h
theorem i_notV {ta : TE} (h : ta σ H fun x H1 => ∃ c, x = .bl c ∧ Q (.bl (!c)) H1) : tNotV ta σ H Q := h
/-! tests -/
theorem i_test {t : TE} {Q : Bool → Hp → Prop} (h : t σ H fun x H1 => ∃ k, x = .bl k ∧ Q k H1) : tTest t σ H Q := h
theorem i_B {t : TE} {Q : Bool → Hp → Prop} (h : t σ H fun x H1 => ∃ k, x = .bl k ∧ Q k H1) : tB t σ H Q := h
theorem i_isb {k : Bool} {Q : Bool → Prop} (q : Q k) : ∃ k', V.bl k = .bl k' ∧ Q k' := ⟨k, rfl, q⟩
theorem i_and {t u : TT} {Q : Bool → Hp → Prop} (h : t σ H fun c H1 => if c = true then u σ H1 Q else Q false H1) : tAnd t u σ H Q := h
theorem i_or {t u : TT} {Q : Bool → Hp → Prop} (h : t σ H fun c H1 => if c = true then Q true H1 else u σ H1 Q) : tOr t u σ H Q := h
theorem i_not {t : TT} {Q : Bool → Hp → Prop} (h : t σ H fun c H1 => Q (!c) H1) : tNot t σ H Q := h
/-! statements -/
section
variable {nx : L2.St → Hp → Prop} {rt : VK} {bk ct : L2.St → Hp → Prop}
theorem i_seq {t u : TS} (h : t ⟨u ⟨nx, rt, bk, ct⟩, rt, bk, ct⟩ σ H) : tSeq t u ⟨nx, rt, bk, ct⟩ σ H := h
theorem i_next (h : nx σ H) : tNext ⟨nx, rt, bk, ct⟩ σ H := h
theorem i_asg {te : TE} {g : TG} (h : te σ H fun x H1 => g x σ H1 nx) : tAsg te g ⟨nx, rt, bk, ct⟩ σ H := h
theorem i_drop {te : TE} (h : te σ H fun _ H1 => nx σ H1) : tDrop te ⟨nx, rt, bk, ct⟩ σ H := h
theorem i_ret {te : TE} (h : te σ H rt) : tRet te ⟨nx, rt, bk, ct⟩ σ H := h
theorem i_retN (h : rt .non H) : tRetN ⟨nx, rt, bk, ct⟩ σ H := h
theorem i_ifS {c : TT} {t u : TS} (h : c σ H fun b H1 => if b = true then t ⟨nx, rt, bk, ct⟩ σ H1 else u ⟨nx, rt, bk, ct⟩ σ H1) : tIfS c t u ⟨nx, rt, bk, ct⟩ σ H := h
theorem i_ifC {c : TT} {t u : TS} (J : L2.St → Hp → Prop) (h1 : ∀ σ' H', J σ' H' → nx σ' H') (h2 : ∀ N : L2.St → Hp → Prop, (∀ σ' H', J σ' H' → N σ' H') → tIfS c t u ⟨N, rt, bk, ct⟩ σ H) : tIfS c t u ⟨nx, rt, bk, ct⟩ σ H := h2 _ h1
theorem i_break (h : bk σ H) : tBreak ⟨nx, rt, bk, ct⟩ σ H := h
theorem i_cont (h : ct σ H) : tCont ⟨nx, rt, bk, ct⟩ σ H := h
theorem i_augE {i : Nat} {te : TE} {ti : TIp} {x : V} (e : σ[i]? = some (some x)) (h : te σ H fun y H1 => ti x y H1 fun z H2 => gName i z σ H2 nx) : tAug i te ti ⟨nx, rt, bk, ct⟩ σ H := ⟨x, e, h⟩
theorem i_augS {to ti te : TE} {tget : V → V → Hp → VK → Prop} {tip : TIp} {tset : TSet} (h : to σ H fun o H1 => ti σ H1 fun i H2 => tget o i H2 fun x H3 => te σ H3 fun y H4 => tip x y H4 fun z H5 => tset o i z H5 fun H6 => nx σ H6) : tAugS to ti te tget tip tset ⟨nx, rt, bk, ct⟩ σ H := h
theorem i_ipI {f : Int → Int → Int} {i j : Int} (q : Q (.int (f i j)) H) : ipI f (.int i) (.int j) H Q := ⟨i, j, rfl, rfl, q⟩
theorem i_for {wi : TI} {g : TG} {tb : TS} (h : wi σ H fun J H1 => ∃ W : Nat → Nat → L2.St → Hp → Prop, (∃ m, W 0 m σ H1) ∧ ∀ i m σ H, W i m σ H →
  (J.stop i H ∧ nx σ H) ∨ (J.go i H ∧ ∃ N : L2.St → Hp → Prop, (∀ σ' H', N σ' H' → ∃ m', m' < m ∧ W (i + 1) m' σ' H') ∧ ∀ x H', J.yld i H x H' → g x σ H' fun σ2 H2 => tb ⟨N, rt, nx, N⟩ σ2 H2)) : tFor wi g tb ⟨nx, rt, bk, ct⟩ σ H := h
theorem i_iList {tl : TE} {R : It → Hp → Prop} (h : tl σ H fun x H1 => ∃ a, x = .ref a ∧ (∃ xs, SqL K H1 a xs) ∧ R (Itl K a) H1) : iList K tl σ H R := h
theorem i_iTup {tl : TE} {R : It → Hp → Prop} (h : tl σ H fun x H1 => ∃ a, x = .ref a ∧ (∃ xs, SqT K H1 a xs) ∧ R (Itt K a) H1) : iTup K tl σ H R := h
theorem i_isL {a : Addr} {xs : List V} {R : Addr → Prop} (s : SqL K H a xs) (h : R a) : ∃ a', V.ref a = .ref a' ∧ (∃ xs, SqL K H a' xs) ∧ R a' := ⟨a, rfl, ⟨xs, s⟩, h⟩
theorem i_isT {a : Addr} {xs : List V} {R : Addr → Prop} (s : SqT K H a xs) (h : R a) : ∃ a', V.ref a = .ref a' ∧ (∃ xs, SqT K H a' xs) ∧ R a' := ⟨a, rfl, ⟨xs, s⟩, h⟩
theorem i_rng1 {ta : TA} {R : It → Hp → Prop} (h : ta σ H fun vs H1 => ∃ j : Int, vs = [.int j] ∧ -(2 ^ 62) ≤ j ∧ j < 2 ^ 62 ∧ R (Itr 0 j.toNat) H1) : iRng1 ta σ H R := h
theorem i_rng2 {ta : TA} {R : It → Hp → Prop} (h : ta σ H fun vs H1 => ∃ i j : Int, vs = [.int i, .int j] ∧ (-(2 ^ 62) ≤ i ∧ i < 2 ^ 62 ∧ -(2 ^ 62) ≤ j ∧ j < 2 ^ 62) ∧ R (Itr i (j - i).toNat) H1) : iRng2 ta σ H R := h
theorem i_isR1 {j : Int} {R : Int → Prop} (h1 : -(2 ^ 62) ≤ j) (h2 : j < 2 ^ 62) (h : R j) : ∃ j' : Int, [V.int j] = [.int j'] ∧ -(2 ^ 62) ≤ j' ∧ j' < 2 ^ 62 ∧ R j' := ⟨j, rfl, h1, h2, h⟩
theorem i_isR2 {i j : Int} {R : Int → Int → Prop} (h1 : -(2 ^ 62) ≤ i) (h2 : i < 2 ^ 62) (h3 : -(2 ^ 62) ≤ j) (h4 : j < 2 ^ 62) (h : R i j) : ∃ i' j' : Int, [V.int i, V.int j] = [.int i', .int j'] ∧ (-(2 ^ 62) ≤ i' ∧ i' < 2 ^ 62 ∧ -(2 ^ 62) ≤ j' ∧ j' < 2 ^ 62) ∧ R i' j' := ⟨i, j, rfl, ⟨h1, h2, h3, h4⟩, h⟩
end
/-! comprehensions -/
theorem i_lc {wi : TI} {g : TG} {tt : TT} {te : TE} {ws : List Nat} {σ' : L2.St} (e : wipe σ ws = σ') (h : wi σ H fun J H1 => ∀ D, H1 D = none → ∃ W : Nat → Nat → Hp → Prop, (∃ m, W 0 m (upd H1 D (.lst []))) ∧ ∀ i m H, W i m H →
  (J.stop i H ∧ Q (.ref D) H) ∨ (J.go i H ∧ ∃ Nx : Hp → Prop, (∀ H', Nx H' → ∃ m', m' < m ∧ W (i + 1) m' H') ∧ ∀ x H', J.yld i H x H' → g x σ' H' fun σ2 H2 => wipe σ2 ws = σ' ∧ tt σ2 H2 fun b H3 =>
    if b = true then te σ2 H3 fun y H4 => ∃ acc, H4 D = some (.lst acc) ∧ acc.length < sizeLine ∧ Nx (upd H4 D (.lst (acc ++ [y]))) else Nx H3)) : tLc wi g tt te ws σ H Q := by subst e; exact h
/-! targets -/
theorem i_gNameE {i : Nat} {v : V} {σ' : L2.St} {Q : L2.St → Hp → Prop} (e : σ.set i (some v) = σ') (q : Q σ' H) : gName i v σ H Q := by subst e; exact q
theorem st_of {t : TS} {D : Ends} {σ σ' : L2.St} {H : Hp} (e : σ = σ') (h : t D σ' H) : t D σ H := by subst e; exact h
theorem i_gName {i : Nat} {v : V} {Q : L2.St → Hp → Prop} (q : Q (σ.set i (some v)) H) : gName i v σ H Q := q
theorem i_gSub {to ti : TE} {t : TSet} {v : V} {Q : L2.St → Hp → Prop} (h : to σ H fun o H1 => ti σ H1 fun i H2 => t o i v H2 fun H3 => Q σ H3) : gSub to ti t v σ H Q := h
theorem i_setL {p : Addr} {xs : List V} {k : Int} {j : Nat} {v : V} {Q : Hp → Prop} (h : H p = some (.lst xs)) (e : ixN xs.length k = some j) (q : Q (upd H p (.lst (xs.set j v)))) : rSetL (.ref p) (.int k) v H Q := ⟨p, xs, k, j, rfl, rfl, h, e, q⟩
theorem i_gTup {n : Nat} {t : TGs} {a : Addr} {xs : List V} {Q : L2.St → Hp → Prop} (h : SqT K H a xs) (e : xs.length = n) (q : t xs σ H Q) : gTup K n t (.ref a) σ H Q := ⟨a, xs, rfl, h, e, q⟩
theorem i_gNil {Q : L2.St → Hp → Prop} (q : Q σ H) : gNil [] σ H Q := ⟨rfl, q⟩
theorem i_gCons {t : TG} {u : TGs} {v : V} {r : List V} {Q : L2.St → Hp → Prop} (q : t v σ H fun σ' H' => u r σ' H' Q) : gCons t u (v :: r) σ H Q := ⟨v, r, rfl, q⟩
/-! builtins' calls -/
end
/-! ### heaps -/
/-- all but p is as it was -/
def Kp (p : Addr) (H H' : Hp) : Prop := ∀ b o, H b = some o → b ≠ p → H' b = some o
theorem Kp.refl {p : Addr} {H : Hp} : Kp p H H := fun _ _ e _ => e
theorem Kp.of {p : Addr} {H H' : Hp} (s : Same H H') : Kp p H H' := fun b o e _ => s b o e
theorem Kp.trans {p : Addr} {H H1 H2 : Hp} (a : Kp p H H1) (b : Kp p H1 H2) : Kp p H H2 := fun c o e n => b c o (a c o e n) n
theorem Kp.upd {p : Addr} {H : Hp} {o : HO} : Kp p H (upd H p o) := fun b u e n => by rw [upd_ne n]; exact e
theorem same_new {H : Hp} {p : Addr} {o : HO} (h : H p = none) : Same H (upd H p o) := fun b x e => by
  rw [upd_ne (ne_of_none e h)]
  exact e
theorem Same.tup {K : PySem.W.Frag} {H H' : Hp} {a : Addr} {xs : List V} (e : Same H H') (h : SqT K H a xs) : SqT K H' a xs := by
  rcases h with (h | ⟨o, h⟩) | h
  · exact .inl (.inl (e _ _ h))
  · exact .inl (.inr ⟨o, e _ _ h⟩)
  · exact .inr h
/-- all tuples are as they were -/
def Tps (H H' : Hp) : Prop := ∀ a, (∀ xs, H a = some (.tup xs) → H' a = some (.tup xs)) ∧ ∀ o xs, H a = some (.frz o (.tup xs)) → H' a = some (.frz o (.tup xs))
theorem Tps.sq {K : PySem.W.Frag} {H H' : Hp} {a : Addr} {xs : List V} (e : Tps H H') (h : SqT K H a xs) : SqT K H' a xs := by
  rcases h with (h | ⟨o, h⟩) | h
  · exact .inl (.inl ((e a).1 _ h))
  · exact .inl (.inr ⟨o, (e a).2 _ _ h⟩)
  · exact .inr h
theorem Tps.refl {H : Hp} : Tps H H := fun _ => ⟨fun _ h => h, fun _ _ h => h⟩
theorem Tps.trans {H H1 H2 : Hp} (a : Tps H H1) (b : Tps H1 H2) : Tps H H2 := fun c => ⟨fun xs h => (b c).1 xs ((a c).1 xs h), fun o xs h => (b c).2 o xs ((a c).2 o xs h)⟩
theorem Tps.of {H H' : Hp} (s : Same H H') : Tps H H' := fun a => ⟨fun xs h => s _ _ h, fun o xs h => s _ _ h⟩
theorem Kp.tps {p : Addr} {H H' : Hp} (k : Kp p H H') {xs : List V} (h : H p = some (.lst xs)) : Tps H H' := fun a => ⟨fun ys e => k _ _ e (ne_of e h (by intro z; cases z)), fun o ys e => k _ _ e (ne_of e h (by intro z; cases z))⟩
theorem Kp.seq {K : PySem.W.Frag} {p b : Addr} {H H' : Hp} {xs : List V} (k : Kp p H H') (h : SqL K H b xs) (n : b ≠ p) : SqL K H' b xs := by
  rcases h with (h | ⟨o, h⟩) | h
  · exact .inl (.inl (k _ _ h n))
  · exact .inl (.inr ⟨o, k _ _ h n⟩)
  · exact .inr h
/-! ### data -/
def Shp (n : Nat) (d : PyData) : Prop := d.canLay0 = true ∧ d.depth ≤ n
theorem Shp.shaped {n : Nat} {d : PyData} (h : Shp n d) (hn : n ≤ 64) : SeqAt.shaped d = true := by
  unfold SeqAt.shaped
  rw [h.1, decide_eq_true (Nat.le_trans h.2 hn)]
  rfl
theorem Shp.eqv {n : Nat} {d : PyData} (h : Shp n d) : PyData.eqv d d = true := SeqAt.eqv_refl d h.1
theorem Shp.int (i : Int) : Shp 0 (.int i) := ⟨by simp [PyData.canLay0], by simp [PyData.depth]⟩
theorem Shp.non : Shp 0 .none := ⟨by simp [PyData.canLay0], by simp [PyData.depth]⟩
theorem Shp.bool (b : Bool) : Shp 0 (.bool b) := ⟨by simp [PyData.canLay0], by simp [PyData.depth]⟩
theorem Shp.mono {n m : Nat} {d : PyData} (h : Shp n d) (hm : n ≤ m) : Shp m d := ⟨h.1, Nat.le_trans h.2 hm⟩
theorem shpAll {n : Nat} : ∀ {ds : List PyData}, (∀ d ∈ ds, Shp n d) → PyData.canLayAll0 ds = true ∧ PyData.depthAll ds ≤ n
  | [], _ => ⟨by simp [PyData.canLayAll0], by simp [PyData.depthAll]⟩
  | d :: ds, h => by
    have h1 := h d List.mem_cons_self
    have h2 := shpAll (ds := ds) fun x hx => h x (List.mem_cons_of_mem _ hx)
    refine ⟨by rw [PyData.canLayAll0, h1.1, h2.1]; rfl, ?_⟩
    rw [PyData.depthAll]
    exact Nat.max_le.mpr ⟨h1.2, h2.2⟩
theorem Shp.tup {n : Nat} {ds : List PyData} (h : ∀ d ∈ ds, Shp n d) : Shp (n + 1) (.tuple ds) := by
  have := shpAll h
  exact ⟨by rw [PyData.canLay0]; exact this.1, by rw [PyData.depth]; omega⟩
theorem Shp.lst {n : Nat} {ds : List PyData} (h : ∀ d ∈ ds, Shp n d) : Shp (n + 1) (.list ds) := by
  have := shpAll h
  exact ⟨by rw [PyData.canLay0]; exact this.1, by rw [PyData.depth]; omega⟩
theorem dpAll_of {K : PySem.W.Frag} {H : Hp} : ∀ {xs : List V} {ds : List PyData}, xs.length = ds.length → (∀ (i : Nat) x d, xs[i]? = some x → ds[i]? = some d → Dp K H x d) → DpAll K H xs ds
  | [], [], _, _ => .nil
  | x :: xs, d :: ds, hl, h => .cons (h 0 x d rfl rfl) (dpAll_of (by simpa using hl) fun i y e h1 h2 => h (i + 1) y e (by simpa using h1) (by simpa using h2))
theorem dp_ints {K : PySem.W.Frag} {H : Hp} {a : Addr} {ns : List Int} (h : SqT K H a (ns.map V.int)) : Dp K H (.ref a) (.tuple (ns.map PyData.int)) := by
  refine .tup h (dpAll_of (by simp) fun i x d h1 h2 => ?_)
  rw [List.getElem?_map] at h1 h2
  cases e : ns[i]? with
  | none => rw [e] at h1; cases h1
  | some z =>
    rw [e] at h1 h2
    cases h1
    cases h2
    exact .int z
/-! ### slices of tuples -/
section
variable {prog : Program} {w : World} {A : Around} {E : Value → Shared → Prop} {s : Shared}
theorem tup_whole {t sl : Addr} {items : Array Value} {vl vu : Value} {lo hi : Option Int} {Q : Value → Shared → Prop} (ht : IsTup s.heap t items) (hs : s.heap.IsSliceOf sl vl vu .none) (pl : IsPart vl lo) (pu : IsPart vu hi)
    (h0 : HT.sIx items.size 0 lo = 0) (h1 : HT.sIx items.size items.size hi = items.size) (h : Q (.ref t) s) : wpAny (model prog w) A (getItem (.ref t) (.ref sl)) Q E s := by
  have hTs : s.TypeIs (.ref sl) "slice" := by
    obtain ⟨os, hos, hcs, _⟩ := id hs
    exact ⟨os, hos, hcs⟩
  unfold getItem
  try with_reducible refine wpAny_holding ?_
  first | refine wpAny_bind (wpAny_pure ?_) | skip
  refine wpAny_bind (wpAny_sequenceKey ht.typeIs (by decide) (wpAny_bind (wpAny_callSpecial?_slot (name := Str.ofString "__getitem__") ht.typeIs PyProof.Rows.slot_tuple_getitem (wpAny_call_entry PyProof.Rows.slot_tuple_getitem ht.typeIs entry_tuple_getitem ?_ (args_tuple_getitem _ _)))))
  show wpAny _ _ (Builtin.Tuple.tupleItemsOf (.ref t) >>= _) _ _ s
  refine wpAny_bind (tupleItemsOf_ ht (wpAny_bind (wpAny_typeOf hTs ?_)))
  rw [if_pos (by decide)]
  refine wpAny_bind (HT.sliceApplied_gen hs pl pu ?_)
  show wpAny _ _ (if (((HT.sIx items.size 0 lo : Nat) : Int) == 0 && (1 : Int) == 1 && (HT.sIx items.size items.size hi - HT.sIx items.size 0 lo) == items.size) = true then _ else _) _ _ s
  rw [h0, h1, if_pos (by simp)]
  unfold Builtin.Tuple.tupleIsExact
  refine wpAny_bind (wpAny_bind (wpAny_typeOf ht.typeIs (wpAny_pure ?_)))
  rw [if_pos (by decide)]
  first
    | exact wpAny_bind (wpAny_rule (wpAny_pure ⟨_, rfl, wpAny_pure h⟩))
    | exact wpAny_bind (wpAny_rule (wpAny_bind (wpAny_pure (wpAny_pure ⟨_, rfl, wpAny_pure h⟩))))
end
section
variable {X : Cx}
/-- t[lo:hi], the whole of it too (that is t itself) -/
def rSlQ (K : PySem.W.Frag) : V → Option Int → Option Int → Hp → VK → Prop := fun x lo hi H Q => ∃ a xs, x = .ref a ∧ SqT K H a xs ∧
  (cutV xs lo hi = xs → Q (.ref a) H) ∧ ∀ p, H p = none → Q (.ref p) (upd H p (.tup (cutV xs lo hi)))
theorem sl_tupQ : SlR X (rSlQ X.K) := by
  intro pins s σ H x v vl vu lo hi sl Q I rx hs pl pu h
  obtain ⟨a, xs, e, hx, q0, q1⟩ := h
  by_cases hw : HT.sIx xs.length 0 lo = 0 ∧ HT.sIx xs.length xs.length hi = xs.length
  · subst e
    cases rx
    obtain ⟨its, r, ht, hz⟩ := I.tuple hx
    have hlen : its.toArray.size = xs.length := by rw [List.size_toArray]; exact r.length.symm
    refine ⟨"tuple", _, PyProof.Rows.slot_tuple_getitem.lookup, ht.typeIs, ?_⟩
    refine tup_whole ht hs pl pu (by rw [hlen]; exact hw.1) (by rw [hlen]; exact hw.2) ⟨.ref a, H, I, rfl, q0 ?_⟩
    unfold cutV
    rw [hw.1, hw.2]
    simp
  · exact sl_tup pins s σ H x v vl vu lo hi sl Q I rx hs pl pu ⟨a, xs, e, hx, hw, q1⟩
end
/-! ### loops -/
section
variable {K : PySem.W.Frag} {a : Addr} {xs : List V} {g : TG} {tb : TS} {σ : L2.St} {H : Hp} {nx : L2.St → Hp → Prop} {rt : VK}
theorem f_list (Pv : Nat → L2.St → Hp → Prop) (h0 : Pv 0 σ H) (hl : ∀ i σ H, i ≤ xs.length → Pv i σ H → SqL K H a xs)
    (hs : ∀ i x σ H, xs[i]? = some x → Pv i σ H → g x σ H fun σ2 H2 => tb ⟨Pv (i + 1), rt, nx, Pv (i + 1)⟩ σ2 H2) (hd : ∀ σ H, Pv xs.length σ H → nx σ H) :
    ∃ W : Nat → Nat → L2.St → Hp → Prop, (∃ m, W 0 m σ H) ∧ ∀ i m σ H, W i m σ H →
      ((Itl K a).stop i H ∧ nx σ H) ∨ ((Itl K a).go i H ∧ ∃ N : L2.St → Hp → Prop, (∀ σ' H', N σ' H' → ∃ m', m' < m ∧ W (i + 1) m' σ' H') ∧ ∀ x H', (Itl K a).yld i H x H' → g x σ H' fun σ2 H2 => tb ⟨N, rt, nx, N⟩ σ2 H2) :=
  for_list (D := ⟨nx, rt, fun _ _ => False, fun _ _ => False⟩) Pv h0 hl hs hd
theorem f_tup (Pv : Nat → L2.St → Hp → Prop) (h0 : Pv 0 σ H) (hl : ∀ i σ H, i ≤ xs.length → Pv i σ H → SqT K H a xs)
    (hs : ∀ i x σ H, xs[i]? = some x → Pv i σ H → g x σ H fun σ2 H2 => tb ⟨Pv (i + 1), rt, nx, Pv (i + 1)⟩ σ2 H2) (hd : ∀ σ H, Pv xs.length σ H → nx σ H) :
    ∃ W : Nat → Nat → L2.St → Hp → Prop, (∃ m, W 0 m σ H) ∧ ∀ i m σ H, W i m σ H →
      ((Itt K a).stop i H ∧ nx σ H) ∨ ((Itt K a).go i H ∧ ∃ N : L2.St → Hp → Prop, (∀ σ' H', N σ' H' → ∃ m', m' < m ∧ W (i + 1) m' σ' H') ∧ ∀ x H', (Itt K a).yld i H x H' → g x σ H' fun σ2 H2 => tb ⟨N, rt, nx, N⟩ σ2 H2) :=
  for_tup (D := ⟨nx, rt, fun _ _ => False, fun _ _ => False⟩) Pv h0 hl hs hd
theorem f_range {lo : Int} {n : Nat} (Pv : Nat → L2.St → Hp → Prop) (h0 : Pv 0 σ H)
    (hs : ∀ i σ H, i < n → Pv i σ H → g (.int (lo + i)) σ H fun σ2 H2 => tb ⟨Pv (i + 1), rt, nx, Pv (i + 1)⟩ σ2 H2) (hd : ∀ σ H, Pv n σ H → nx σ H) :
    ∃ W : Nat → Nat → L2.St → Hp → Prop, (∃ m, W 0 m σ H) ∧ ∀ i m σ H, W i m σ H →
      ((Itr lo n).stop i H ∧ nx σ H) ∨ ((Itr lo n).go i H ∧ ∃ N : L2.St → Hp → Prop, (∀ σ' H', N σ' H' → ∃ m', m' < m ∧ W (i + 1) m' σ' H') ∧ ∀ x H', (Itr lo n).yld i H x H' → g x σ H' fun σ2 H2 => tb ⟨N, rt, nx, N⟩ σ2 H2) :=
  for_range (D := ⟨nx, rt, fun _ _ => False, fun _ _ => False⟩) Pv h0 hs hd
variable {tt : TT} {te : TE} {ws : List Nat} {D : Addr} {Qd : Hp → Prop} {σ' : L2.St}
theorem l_list (Pv : Nat → Hp → Prop) (h0 : Pv 0 (upd H D (.lst []))) (hl : ∀ i H, i ≤ xs.length → Pv i H → SqL K H a xs)
    (hs : ∀ i x H, xs[i]? = some x → Pv i H → g x σ' H fun σ2 H2 => wipe σ2 ws = σ' ∧ tt σ2 H2 fun b H3 =>
      if b = true then te σ2 H3 fun y H4 => ∃ acc, H4 D = some (.lst acc) ∧ acc.length < sizeLine ∧ Pv (i + 1) (upd H4 D (.lst (acc ++ [y]))) else Pv (i + 1) H3) (hd : ∀ H, Pv xs.length H → Qd H) (e : wipe σ' ws = σ' := by rfl) :
    ∃ W : Nat → Nat → Hp → Prop, (∃ m, W 0 m (upd H D (.lst []))) ∧ ∀ i m H, W i m H →
      ((Itl K a).stop i H ∧ Qd H) ∨ ((Itl K a).go i H ∧ ∃ Nx : Hp → Prop, (∀ H', Nx H' → ∃ m', m' < m ∧ W (i + 1) m' H') ∧ ∀ x H', (Itl K a).yld i H x H' → g x σ' H' fun σ2 H2 => wipe σ2 ws = σ' ∧ tt σ2 H2 fun b H3 =>
        if b = true then te σ2 H3 fun y H4 => ∃ acc, H4 D = some (.lst acc) ∧ acc.length < sizeLine ∧ Nx (upd H4 D (.lst (acc ++ [y]))) else Nx H3) := by
  have h := lc_list (K := K) (a := a) (xs := xs) (g := g) (tt := tt) (te := te) (vs := ws) (σ := σ') (H1 := H) (D := D) (Qd := Qd) Pv h0 hl (by rw [e]; exact hs) hd
  rw [e] at h
  exact h
theorem l_tup (Pv : Nat → Hp → Prop) (h0 : Pv 0 (upd H D (.lst []))) (hl : ∀ i H, i ≤ xs.length → Pv i H → SqT K H a xs)
    (hs : ∀ i x H, xs[i]? = some x → Pv i H → g x σ' H fun σ2 H2 => wipe σ2 ws = σ' ∧ tt σ2 H2 fun b H3 =>
      if b = true then te σ2 H3 fun y H4 => ∃ acc, H4 D = some (.lst acc) ∧ acc.length < sizeLine ∧ Pv (i + 1) (upd H4 D (.lst (acc ++ [y]))) else Pv (i + 1) H3) (hd : ∀ H, Pv xs.length H → Qd H) (e : wipe σ' ws = σ' := by rfl) :
    ∃ W : Nat → Nat → Hp → Prop, (∃ m, W 0 m (upd H D (.lst []))) ∧ ∀ i m H, W i m H →
      ((Itt K a).stop i H ∧ Qd H) ∨ ((Itt K a).go i H ∧ ∃ Nx : Hp → Prop, (∀ H', Nx H' → ∃ m', m' < m ∧ W (i + 1) m' H') ∧ ∀ x H', (Itt K a).yld i H x H' → g x σ' H' fun σ2 H2 => wipe σ2 ws = σ' ∧ tt σ2 H2 fun b H3 =>
        if b = true then te σ2 H3 fun y H4 => ∃ acc, H4 D = some (.lst acc) ∧ acc.length < sizeLine ∧ Nx (upd H4 D (.lst (acc ++ [y]))) else Nx H3) := by
  have h := lc_tup (K := K) (a := a) (xs := xs) (g := g) (tt := tt) (te := te) (vs := ws) (σ := σ') (H1 := H) (D := D) (Qd := Qd) Pv h0 hl (by rw [e]; exact hs) hd
  rw [e] at h
  exact h
theorem l_range {lo : Int} {n : Nat} (Pv : Nat → Hp → Prop) (h0 : Pv 0 (upd H D (.lst [])))
    (hs : ∀ i H, i < n → Pv i H → g (.int (lo + i)) σ' H fun σ2 H2 => wipe σ2 ws = σ' ∧ tt σ2 H2 fun b H3 =>
      if b = true then te σ2 H3 fun y H4 => ∃ acc, H4 D = some (.lst acc) ∧ acc.length < sizeLine ∧ Pv (i + 1) (upd H4 D (.lst (acc ++ [y]))) else Pv (i + 1) H3) (hd : ∀ H, Pv n H → Qd H) (e : wipe σ' ws = σ' := by rfl) :
    ∃ W : Nat → Nat → Hp → Prop, (∃ m, W 0 m (upd H D (.lst []))) ∧ ∀ i m H, W i m H →
      ((Itr lo n).stop i H ∧ Qd H) ∨ ((Itr lo n).go i H ∧ ∃ Nx : Hp → Prop, (∀ H', Nx H' → ∃ m', m' < m ∧ W (i + 1) m' H') ∧ ∀ x H', (Itr lo n).yld i H x H' → g x σ' H' fun σ2 H2 => wipe σ2 ws = σ' ∧ tt σ2 H2 fun b H3 =>
        if b = true then te σ2 H3 fun y H4 => ∃ acc, H4 D = some (.lst acc) ∧ acc.length < sizeLine ∧ Nx (upd H4 D (.lst (acc ++ [y]))) else Nx H3) := by
  have h := lc_range (lo := lo) (n := n) (g := g) (tt := tt) (te := te) (vs := ws) (σ := σ') (H1 := H) (D := D) (Qd := Qd) Pv h0 (by rw [e]; exact hs) hd
  rw [e] at h
  exact h
/-! a comprehension whose elements lay nothing -/
theorem l_rangeP {lo : Int} {n : Nat} (f : Nat → V) (hD : H D = none) (hn : n ≤ 1000000)
    (hs : ∀ i H' (R : VK), i < n → Same H H' → R (f i) H' → g (.int (lo + i)) σ' H' fun σ2 H2 => wipe σ2 ws = σ' ∧ tt σ2 H2 fun b H3 => if b = true then te σ2 H3 R else False)
    (hd : ∀ H', Same H H' → H' D = some (.lst ((List.range n).map f)) → Qd H') (e : wipe σ' ws = σ' := by rfl)
    (htt : ∀ (σ2 : L2.St) (H2 : Hp) (A : Hp → Prop) (B : Hp → Prop), (tt σ2 H2 fun b H3 => if b = true then A H3 else False) → tt σ2 H2 fun b H3 => if b = true then A H3 else B H3 := by intro _ _ _ _ h; exact h) (hg : ∀ x (σ2 : L2.St) (H2 : Hp) (A B : L2.St → Hp → Prop), (∀ s h, A s h → B s h) → g x σ2 H2 A → g x σ2 H2 B := by intro _ _ _ _ _ h q; exact h _ _ q) :
    ∃ W : Nat → Nat → Hp → Prop, (∃ m, W 0 m (upd H D (.lst []))) ∧ ∀ i m H, W i m H →
      ((Itr lo n).stop i H ∧ Qd H) ∨ ((Itr lo n).go i H ∧ ∃ Nx : Hp → Prop, (∀ H', Nx H' → ∃ m', m' < m ∧ W (i + 1) m' H') ∧ ∀ x H', (Itr lo n).yld i H x H' → g x σ' H' fun σ2 H2 => wipe σ2 ws = σ' ∧ tt σ2 H2 fun b H3 =>
        if b = true then te σ2 H3 fun y H4 => ∃ acc, H4 D = some (.lst acc) ∧ acc.length < sizeLine ∧ Nx (upd H4 D (.lst (acc ++ [y]))) else Nx H3) := by
  refine l_range (fun i H' => Same H H' ∧ H' D = some (.lst ((List.range i).map f))) ⟨same_new hD, upd_same⟩ (fun i H' hi h => ?_) (fun H' h => hd H' h.1 h.2) e
  obtain ⟨s, hD'⟩ := h
  refine hg _ _ _ _ _ (fun σ2 H2 q => ⟨q.1, htt _ _ _ _ q.2⟩) (hs i H' _ hi s ⟨_, hD', ?_, fun b o hb => ?_, ?_⟩)
  · rw [List.length_map, List.length_range, sizeLine_eq]; omega
  · rw [upd_ne (ne_of_none hb hD)]; exact s _ _ hb
  · rw [upd_same, List.range_succ, List.map_append] <;> rfl
theorem l_listP (f : Nat → V) (hD : H D = none) (hn : xs.length ≤ 1000000) (hx : SqL K H a xs)
    (hs : ∀ i x H' (R : VK), xs[i]? = some x → Same H H' → R (f i) H' → g x σ' H' fun σ2 H2 => wipe σ2 ws = σ' ∧ tt σ2 H2 fun b H3 => if b = true then te σ2 H3 R else False)
    (hd : ∀ H', Same H H' → H' D = some (.lst ((List.range xs.length).map f)) → Qd H') (e : wipe σ' ws = σ' := by rfl)
    (htt : ∀ (σ2 : L2.St) (H2 : Hp) (A : Hp → Prop) (B : Hp → Prop), (tt σ2 H2 fun b H3 => if b = true then A H3 else False) → tt σ2 H2 fun b H3 => if b = true then A H3 else B H3 := by intro _ _ _ _ h; exact h) (hg : ∀ x (σ2 : L2.St) (H2 : Hp) (A B : L2.St → Hp → Prop), (∀ s h, A s h → B s h) → g x σ2 H2 A → g x σ2 H2 B := by intro _ _ _ _ _ h q; exact h _ _ q) :
    ∃ W : Nat → Nat → Hp → Prop, (∃ m, W 0 m (upd H D (.lst []))) ∧ ∀ i m H, W i m H →
      ((Itl K a).stop i H ∧ Qd H) ∨ ((Itl K a).go i H ∧ ∃ Nx : Hp → Prop, (∀ H', Nx H' → ∃ m', m' < m ∧ W (i + 1) m' H') ∧ ∀ x H', (Itl K a).yld i H x H' → g x σ' H' fun σ2 H2 => wipe σ2 ws = σ' ∧ tt σ2 H2 fun b H3 =>
        if b = true then te σ2 H3 fun y H4 => ∃ acc, H4 D = some (.lst acc) ∧ acc.length < sizeLine ∧ Nx (upd H4 D (.lst (acc ++ [y]))) else Nx H3) := by
  refine l_list (xs := xs) (fun i H' => Same H H' ∧ H' D = some (.lst ((List.range i).map f))) ⟨same_new hD, upd_same⟩ (fun i H' _ h => Same.seq h.1 hx) (fun i x H' hi h => ?_) (fun H' h => hd H' h.1 h.2) e
  obtain ⟨s, hD'⟩ := h
  have hlt := (List.getElem?_eq_some_iff.mp hi).1
  refine hg _ _ _ _ _ (fun σ2 H2 q => ⟨q.1, htt _ _ _ _ q.2⟩) (hs i x H' _ hi s ⟨_, hD', ?_, fun b o hb => ?_, ?_⟩)
  · rw [List.length_map, List.length_range, sizeLine_eq]; omega
  · rw [upd_ne (ne_of_none hb hD)]; exact s _ _ hb
  · rw [upd_same, List.range_succ, List.map_append] <;> rfl
theorem l_tupP (f : Nat → V) (hD : H D = none) (hn : xs.length ≤ 1000000) (hx : SqT K H a xs)
    (hs : ∀ i x H' (R : VK), xs[i]? = some x → Same H H' → R (f i) H' → g x σ' H' fun σ2 H2 => wipe σ2 ws = σ' ∧ tt σ2 H2 fun b H3 => if b = true then te σ2 H3 R else False)
    (hd : ∀ H', Same H H' → H' D = some (.lst ((List.range xs.length).map f)) → Qd H') (e : wipe σ' ws = σ' := by rfl)
    (htt : ∀ (σ2 : L2.St) (H2 : Hp) (A : Hp → Prop) (B : Hp → Prop), (tt σ2 H2 fun b H3 => if b = true then A H3 else False) → tt σ2 H2 fun b H3 => if b = true then A H3 else B H3 := by intro _ _ _ _ h; exact h) (hg : ∀ x (σ2 : L2.St) (H2 : Hp) (A B : L2.St → Hp → Prop), (∀ s h, A s h → B s h) → g x σ2 H2 A → g x σ2 H2 B := by intro _ _ _ _ _ h q; exact h _ _ q) :
    ∃ W : Nat → Nat → Hp → Prop, (∃ m, W 0 m (upd H D (.lst []))) ∧ ∀ i m H, W i m H →
      ((Itt K a).stop i H ∧ Qd H) ∨ ((Itt K a).go i H ∧ ∃ Nx : Hp → Prop, (∀ H', Nx H' → ∃ m', m' < m ∧ W (i + 1) m' H') ∧ ∀ x H', (Itt K a).yld i H x H' → g x σ' H' fun σ2 H2 => wipe σ2 ws = σ' ∧ tt σ2 H2 fun b H3 =>
        if b = true then te σ2 H3 fun y H4 => ∃ acc, H4 D = some (.lst acc) ∧ acc.length < sizeLine ∧ Nx (upd H4 D (.lst (acc ++ [y]))) else Nx H3) := by
  refine l_tup (xs := xs) (fun i H' => Same H H' ∧ H' D = some (.lst ((List.range i).map f))) ⟨same_new hD, upd_same⟩ (fun i H' _ h => Same.tup h.1 hx) (fun i x H' hi h => ?_) (fun H' h => hd H' h.1 h.2) e
  obtain ⟨s, hD'⟩ := h
  have hlt := (List.getElem?_eq_some_iff.mp hi).1
  refine hg _ _ _ _ _ (fun σ2 H2 q => ⟨q.1, htt _ _ _ _ q.2⟩) (hs i x H' _ hi s ⟨_, hD', ?_, fun b o hb => ?_, ?_⟩)
  · rw [List.length_map, List.length_range, sizeLine_eq]; omega
  · rw [upd_ne (ne_of_none hb hD)]; exact s _ _ hb
  · rw [upd_same, List.range_succ, List.map_append] <;> rfl
end
theorem i_yes {σ : L2.St} {H : Hp} {Q : Bool → Hp → Prop} (q : Q true H) : tYes σ H Q := q
/-! ### ifs -/
theorem c_dec {P A B : Prop} [Decidable P] (h1 : P → A) (h2 : ¬ P → B) : if decide P = true then A else B := by
  by_cases h : P
  · rw [if_pos (decide_eq_true h)]; exact h1 h
  · rw [if_neg (by rw [decide_eq_false h]; exact Bool.false_ne_true)]; exact h2 h
theorem c_decN {P A B : Prop} [Decidable P] (h1 : ¬ P → A) (h2 : P → B) : if (!decide P) = true then A else B := by
  by_cases h : P
  · rw [if_neg (by rw [decide_eq_true h]; exact Bool.false_ne_true)]; exact h2 h
  · rw [if_pos (by rw [decide_eq_false h]; rfl)]; exact h1 h
theorem c_nt {A B : Prop} (h : B) : if (!true) = true then A else B := iteF h
theorem c_nf {A B : Prop} (h : A) : if (!false) = true then A else B := iteT h
theorem c_bool {b : Bool} {A B : Prop} (h1 : b = true → A) (h2 : b = false → B) : if b = true then A else B := by
  cases b
  · exact iteF (h2 rfl)
  · exact iteT (h1 rfl)
theorem c_yes {P A B : Prop} [Decidable P] (h : P) (h1 : A) : if decide P = true then A else B := by rw [if_pos (decide_eq_true h)]; exact h1
theorem c_no {P A B : Prop} [Decidable P] (h : ¬ P) (h1 : B) : if decide P = true then A else B := by rw [if_neg (by rw [decide_eq_false h]; exact Bool.false_ne_true)]; exact h1
theorem c_yesN {P A B : Prop} [Decidable P] (h : ¬ P) (h1 : A) : if (!decide P) = true then A else B := by rw [if_pos (by rw [decide_eq_false h]; rfl)]; exact h1
theorem c_noN {P A B : Prop} [Decidable P] (h : P) (h1 : B) : if (!decide P) = true then A else B := by rw [if_neg (by rw [decide_eq_true h]; exact Bool.false_ne_true)]; exact h1
section
variable {K : PySem.W.Frag} {σ : L2.St} {H : Hp} {Q : VK}
theorem i_slA {p : Addr} {xs : List V} {lo hi : Option Int} (h : SqT K H p xs) (q : ∀ (r : Addr) (H' : Hp), Same H H' → SqT K H' r (cutV xs lo hi) → Q (.ref r) H') : rSlQ K (.ref p) lo hi H Q :=
  ⟨p, xs, rfl, h, fun e => q p H (Same.refl H) (by rw [e]; exact h), fun r hr => q r _ (same_new hr) (SqT.of upd_same)⟩
theorem i_eqD {x y : V} {d e : PyData} {n m : Nat} (h1 : Dp K H x d) (h2 : Dp K H y e) (s1 : Shp n d) (s2 : Shp m e) (hn : n ≤ 64) (hm : m ≤ 64) (q : Q (.bl (PyData.eqv d e)) H) : rEqD K x y H Q := ⟨d, e, h1, h2, s1.shaped hn, s2.shaped hm, q⟩
theorem i_neD {x y : V} {d e : PyData} {n m : Nat} (h1 : Dp K H x d) (h2 : Dp K H y e) (s1 : Shp n d) (s2 : Shp m e) (hn : n ≤ 64) (hm : m ≤ 64) (q : Q (.bl (!PyData.eqv d e)) H) : rNeD K x y H Q := ⟨d, e, h1, h2, s1.shaped hn, s2.shaped hm, q⟩
/-- == and != of the same data -/
theorem i_eqS' {x y : V} {d : PyData} {n : Nat} (h1 : Dp K H x d) (h2 : Dp K H y d) (s1 : Shp n d) (hn : n ≤ 64) (q : Q (.bl true) H) : rEqD K x y H Q := i_eqD h1 h2 s1 s1 hn hn (by rw [s1.eqv]; exact q)
theorem i_neS' {x y : V} {d : PyData} {n : Nat} (h1 : Dp K H x d) (h2 : Dp K H y d) (s1 : Shp n d) (hn : n ≤ 64) (q : Q (.bl false) H) : rNeD K x y H Q := i_neD h1 h2 s1 s1 hn hn (by rw [s1.eqv]; exact q)
theorem i_while {c : TT} {tb : TS} {nx : L2.St → Hp → Prop} {rt : VK} {bk ct : L2.St → Hp → Prop} (W : Nat → L2.St → Hp → Prop) (h0 : ∃ m, W m σ H) (h : ∀ m σ H, W m σ H →
  c σ H fun b H1 => if b = true then ∃ N : L2.St → Hp → Prop, (∀ σ' H', N σ' H' → ∃ m', m' < m ∧ W m' σ' H') ∧ tb ⟨N, rt, nx, N⟩ σ H1 else nx σ H1) : tWhile c tb ⟨nx, rt, bk, ct⟩ σ H := ⟨W, h0, h⟩
theorem i_par {i j : Nat} {ta : TA} {nx : L2.St → Hp → Prop} {rt : VK} {bk ct : L2.St → Hp → Prop} (h : ta σ H fun vs H1 => ∃ v w, vs = [v, w] ∧ nx ((σ.set i (some v)).set j (some w)) H1) : tPar i j ta ⟨nx, rt, bk, ct⟩ σ H := h
theorem i_two {x y : V} {R : V → V → Prop} (q : R x y) : ∃ v w, [x, y] = [v, w] ∧ R v w := ⟨x, y, rfl, q⟩
theorem Dp.same {K : PySem.W.Frag} {H H' : Hp} (s : Same H H') : ∀ (d : PyData) (v : V), Dp K H v d → Dp K H' v d := by
  intro d v h
  exact Dp.rec (motive_1 := fun v d _ => Dp K H' v d) (motive_2 := fun vs ds _ => DpAll K H' vs ds) .non (fun b => .bl b) (fun i => .int i) (fun x => .str x) (fun h _ q => .lst (s.seq h) q) (fun h _ q => .tup (Same.tup s h) q) .nil (fun _ _ h1 h2 => .cons h1 h2) h
end
/-! ### a def that can be called -/
structure Df (K : PySem.W.Frag) (mg : Str → Option Value) (x : Str) (st : Stmt) (f : Addr) (fd : FuncData) (ps : List Str) : Prop where
  fn : Fun K x x st f fd
  mgf : mg x = some (.ref f)
  bi : Binds K fd ps []
/-- a def of the text by its promise: it lets no exception out -/
structure Cl (P : Program) (w : World) (K : PySem.W.Frag) (mg : Str → Option Value) (base : Heap) (k : Nat) (x : Str) (sp : Sp) : Prop where
  ex : ∃ (f : Addr) (fd : FuncData) (ps : List Str), FnOk P w K mg base CX0 k f fd ps sp ∧ mg x = some (.ref f) ∧ PySem.W.keepIn K (.ref f) = true ∧ Binds K fd ps []
section
variable {P : Program} {w : World} {K : PySem.W.Frag} {mg : Str → Option Value} {base : Heap}
theorem Df.ok {x : Str} {st : Stmt} {f : Addr} {fd : FuncData} {ps N : List Str} {k : Nat} {sp : Sp} (F : Df K mg x st f fd ps) (S : FnScope N ps (defScope st)) (len : ∀ vs H Q E, sp vs H Q E → vs.length = ps.length)
    (hbody : ∀ (cdv : Value) (A : Around) (outer : List Env) (s : Shared) (H : Hp) (vs : List V) (Q : VK) (E : XK), Room k (A.deeper (envOfC x (defScope st) s.heap.objs.size f cdv)) → sp vs H Q E →
      ∃ t, PSs (cxOf CX0 P w K mg base N x (defScope st) f cdv A outer s H E).nox (defBody st) t ∧ t { nx := fun _ H' => Q .non H', rt := Q } (start N vs) H) : FnOk P w K mg base CX0 (k + 1) f fd ps sp :=
  F.fn.ok S len hbody
theorem Df.cl {x : Str} {st : Stmt} {f : Addr} {fd : FuncData} {ps : List Str} {k : Nat} {sp : Sp} (F : Df K mg x st f fd ps) (o : FnOk P w K mg base CX0 k f fd ps sp) : Cl P w K mg base k x sp :=
  ⟨f, fd, ps, o, F.mgf, F.fn.kp, F.bi⟩
variable {X : Cx}
theorem pe_cl {x : Str} {sp : Sp} {j k : Nat} {e : Expr} {es : List Expr} {t : TA} {p pos : Pos} (c : Cl X.prog X.w X.K X.mg X.base k x sp) (hr : Room j X.A) (hk : k ≤ j) (hg : Gl X x) (ha : PA X (e :: es) t)
    (hdb : (x == ("__debug__" : Str)) = false := by decide) (he : starEach (e :: es) X.env = (false, eval e X.env) :: starEach es X.env := by rfl) (hpl : (backTo pos (starEach es X.env)).any (·.1) = false := by rfl) :
    PE X (.Call (.Name x p) (e :: es) [] pos) (tCall sp [] E0 t) := by
  obtain ⟨f, fd, ps, F, hm, kp, b⟩ := c.ex
  exact pe_call F (hr.mono hk) hg hm kp b .nil pass0 ha hdb he hpl
theorem pe_cl0 {x : Str} {sp : Sp} {j k : Nat} {p pos : Pos} (c : Cl X.prog X.w X.K X.mg X.base k x sp) (hr : Room j X.A) (hk : k ≤ j) (hg : Gl X x) (hdb : (x == ("__debug__" : Str)) = false := by decide) :
    PE X (.Call (.Name x p) [] [] pos) (tCall sp [] E0 tNil) := by
  obtain ⟨f, fd, ps, F, hm, kp, b⟩ := c.ex
  exact pe_call0 F (hr.mono hk) hg hm kp b .nil pass0 hdb
/-- a constant of the module's top -/
def Cn (mg : Str → Option Value) (x : Str) (v : V) : Prop := ∃ u, mg x = some u ∧ RelV v u
theorem pe_cn {x : Str} {v : V} {pos : Pos} (hg : Gl X x) (h : Cn X.mg x v) (hd : (x == ("__debug__" : Str)) = false := by decide) : PE X (.Name x pos) (tC v) := by
  obtain ⟨u, hm, r⟩ := h
  exact pe_glob hg hm r hd
section
variable {K : PySem.W.Frag} {T : String} {name : Str} {id : String} {r : V → List V → Hp → VK → Prop} {o e : Expr} {es : List Expr} {apos cpos pos : Pos} {to ta : TE} {t : TA}
theorem pe_bm0K (hK : X.K = K) (pa : PlainAttrs T) (slot : Slot T name id) (hty : typeOf (.builtin id) = pure (.type "method_descriptor")) (hm : MtR X id r) (ho : PE X o to)
    (hbase : attributeBase o name X.env (eval o X.env) = eval o X.env := by rfl) (hline : (apos.endLine == cpos.line) = true := by rfl) : PE X (.Call (.Attribute o name apos) [] [] cpos) (tBM0 K T r to) := by
  subst hK; exact pe_bm0 pa slot hty hm ho hbase hline
theorem pe_bmK (hK : X.K = K) (pa : PlainAttrs T) (slot : Slot T name id) (hty : typeOf (.builtin id) = pure (.type "method_descriptor")) (hm : MtR X id r) (ho : PE X o to) (ha : PA X (e :: es) t)
    (hbase : attributeBase o name X.env (eval o X.env) = eval o X.env := by rfl)
    (hfew : ((backTo cpos (starEach (e :: es) X.env)).all (fun x => !x.1) && (backToKw cpos (keywordEach [] X.env)).all (fun x => x.1.isSome)
      && decide ((e :: es).length + ([] : List Keyword).length + (if ([] : List Keyword).isEmpty then 0 else 1) < 30)) = true := by rfl)
    (hline : (apos.endLine == cpos.line) = true := by rfl) (hs : starEach (e :: es) X.env = (false, eval e X.env) :: starEach es X.env := by rfl) (hplain : (backTo cpos (starEach es X.env)).any (·.1) = false := by rfl) :
    PE X (.Call (.Attribute o name apos) (e :: es) [] cpos) (tBM K T r to t) := by
  subst hK; exact pe_bm pa slot hty hm ho ha hbase hfew hline hs hplain
theorem pe_fldK (hK : X.K = K) {f : Str} (he : PE X e ta) (hb : attributeBase e f X.env (eval e X.env) = eval e X.env) : PE X (.Attribute e f pos) (tFld K ta f) := by
  subst hK; exact pe_fld he hb
theorem pg_tupK (hK : X.K = K) {es : List Expr} {k : Nat} {t : TGs} {n : Nat} (hc : X.calm = true) (h : PGs X es t)
    (hn : (assignEach es X.env).length = n := by rfl) (hst : (assignEach es X.env).findIdx? (·.1) = none := by rfl) : PG X (.Tuple es k pos) (gTup K n t) := by
  subst hK; exact pg_tup hc h hn hst
end
theorem get_list : L2.PGet X (rIxL X.K) := by
  intro pins s σ H x y v u Q I rx ry h
  obtain ⟨p, xs, i, z, rfl, rfl, hq, he, q⟩ := h
  cases rx
  obtain ⟨t, rfl⟩ := ry
  obtain ⟨its, r, pl, hz⟩ := I.list hq
  obtain ⟨j, h1, h2, h3, h4, h5⟩ := atI_get he
  obtain ⟨w, ew, rw'⟩ := r.get h2
  have hl := r.length
  have hn := line63
  have fin : EP X pins σ Q w s := ⟨z, H, I, rw', q⟩
  by_cases h0 : 0 ≤ i
  · have hj : i.toNat = j := by
      rw [seqIndex_of h0 h5] at h1
      exact Option.some.inj h1
    exact wpAny_getItem_list pl.isList h0 (by omega) (by rw [hj]; simpa using ew) fin
  · have hj : (i + (its.toArray.size : Int)).toNat = j := by
      rw [seqIndex_neg (by omega) h4] at h1
      rw [List.size_toArray, ← hl]
      exact Option.some.inj h1
    exact wpAny_getItem_list_neg pl.isList (by omega) (by rw [List.size_toArray] <;> omega) (by omega) (by rw [hj]; simpa using ew) fin
end
theorem perm_erase {α : Type} : ∀ (l : List α) (i : Nat) (h : i < l.length), (l[i] :: l.eraseIdx i).Perm l
  | x :: r, 0, _ => List.Perm.refl _
  | x :: r, i + 1, h => (List.Perm.swap x (r[i]'(Nat.lt_of_succ_lt_succ h)) (r.eraseIdx i)).trans ((perm_erase r i (Nat.lt_of_succ_lt_succ h)).cons x)
theorem ints_at {ns : List Int} {i : Nat} {x : V} (h : (ns.map V.int)[i]? = some x) : ∃ z, x = .int z ∧ ns[i]? = some z ∧ ns.take (i + 1) = ns.take i ++ [z] ∧ i < ns.length := by
  rw [List.getElem?_map] at h
  cases e : ns[i]? with
  | none => rw [e] at h; cases h
  | some z =>
    rw [e] at h
    exact ⟨z, (Option.some.inj h).symm, rfl, by rw [List.take_add_one, e]; rfl, (List.getElem?_eq_some_iff.mp e).1⟩
theorem at_lt {α : Type} {xs : List α} {i : Int} (h0 : 0 ≤ i) (h : i < xs.length) : ∃ v, atI xs i = some v ∧ v ∈ xs ∧ xs[i.toNat]? = some v := by
  have hl : i.toNat < xs.length := by omega
  refine ⟨xs[i.toNat], ?_, List.getElem_mem hl, List.getElem?_eq_getElem hl⟩
  have := atI_nat (xs := xs) (j := i.toNat) (v := xs[i.toNat]) (List.getElem?_eq_getElem hl)
  rw [Int.toNat_of_nonneg h0] at this
  exact this
theorem ixN_of {n : Nat} {i : Int} (h0 : 0 ≤ i) (h : i < n) : ixN n i = some i.toNat := by
  unfold ixN
  rw [if_pos h0, if_pos h]
end Jp

namespace Law
open PySem PySem.Spec PyProof.Rows L2 Jp
/-! ### the walk's small steps -/
local macro_rules | `(tactic| wtm_at "jset") => `(tactic| (first | (simp only [wipe, List.map_cons, List.map_nil, List.set_cons_zero, List.set_cons_succ]; done) | (simp only [wipe, List.map_cons, List.map_nil, List.set_cons_zero, List.set_cons_succ]; exact rfl) | exact rfl))
local macro_rules | `(tactic| wtm_at "jw1") => `(tactic| first
  | ((with_reducible refine' i_var ?h ?_); (case h => exact rfl))
  | with_reducible refine' i_c ?_ | with_reducible refine' i_op ?_ | with_reducible refine' i_seq ?_ | with_reducible refine' i_asg ?_
  | ((with_reducible refine' i_gNameE ?e ?_); (case e => wtm_at "jset"))
  | with_reducible refine' i_ret ?_ | with_reducible refine' i_test ?_ | with_reducible refine' i_isb ?_
  | with_reducible refine' i_cons ?_ | with_reducible refine' i_nil ?_ | with_reducible refine' i_call ?_ | with_reducible refine' i_cb ?_
  | with_reducible refine' i_rI0 ?_ | ((with_reducible refine' i_rI ?c ?_); (case c => wtm_at "jside")) | with_reducible refine' i_rU ?_
  | with_reducible refine' i_eqI ?_ | with_reducible refine' i_neI ?_ | with_reducible refine' i_eqB ?_ | with_reducible refine' i_neB ?_ | with_reducible refine' i_eqS ?_ | with_reducible refine' i_neS ?_
  | with_reducible refine' i_isN ?_ | with_reducible refine' i_notN ?_
  | with_reducible refine' i_un ?_ | with_reducible refine' i_drop ?_ | with_reducible refine' i_retN ?_ | with_reducible refine' i_next ?_
  | ((with_reducible refine' i_ixL ?h ?e ?_); (case h => wtm_at "jsq"); (case e => wtm_at "jat"))
  | ((with_reducible refine' i_ixT ?h ?e ?_); (case h => wtm_at "jsq"); (case e => wtm_at "jat"))
  | ((with_reducible refine' i_ix1 (i_ixL ?h ?e ?_)); (case h => wtm_at "jsq"); (case e => wtm_at "jat"))
  | ((with_reducible refine' i_ix2 (i_ixT ?h ?e ?_)); (case h => wtm_at "jsq"); (case e => wtm_at "jat"))
  | with_reducible refine' i_gSub ?_
  | ((with_reducible refine' i_setL ?h ?e ?_); (case h => wtm_at "jhp"); (case e => wtm_at "jixn"))
  | ((with_reducible refine' i_gTup ?h ?e ?_); (case h => wtm_at "jsq"); (case e => rfl)) | with_reducible refine' i_gCons ?_ | with_reducible refine' i_gNil ?_
  | with_reducible refine' i_int ?_ | with_reducible refine' i_intB ?_ | with_reducible refine' i_abs ?_ | with_reducible refine' i_max2 ?_ | with_reducible refine' i_min2 ?_
  | ((with_reducible refine' i_lenL ?h ?_); (case h => wtm_at "jsq")) | ((with_reducible refine' i_lenT ?h ?_); (case h => wtm_at "jsq"))
  | ((with_reducible refine' i_tupL ?h ?_); (case h => wtm_at "jsq")) | ((with_reducible refine' i_lstL ?h ?_); (case h => wtm_at "jsq")) | ((with_reducible refine' i_lstT ?h ?_); (case h => wtm_at "jsq")) | ((with_reducible refine' i_tupT ?h ?_); (case h => wtm_at "jsq"))
  | ((with_reducible refine' i_new ?h ?_); (case h => wtm_at "jlen"))
  | with_reducible refine' i_tup ?_ | with_reducible refine' i_lst ?_ | with_reducible refine' i_if ?_ | with_reducible refine' i_andV ?_ | with_reducible refine' i_orV ?_ | with_reducible refine' i_notV ?_ | with_reducible refine' i_B ?_
  | with_reducible refine' i_and ?_ | with_reducible refine' i_or ?_ | with_reducible refine' i_not ?_ | with_reducible refine' i_break ?_ | with_reducible refine' i_cont ?_
  | ((with_reducible refine' i_augE ?h ?_); (case h => exact rfl)) | with_reducible refine' i_augS ?_ | with_reducible refine' i_ipI ?_
  | with_reducible refine' i_for ?_ | with_reducible refine' i_iList ?_ | with_reducible refine' i_iTup ?_ | ((with_reducible refine' i_isL ?h ?_); (case h => wtm_at "jsq")) | ((with_reducible refine' i_isT ?h ?_); (case h => wtm_at "jsq"))
  | with_reducible refine' i_rng1 ?_ | with_reducible refine' i_rng2 ?_
  | ((with_reducible refine' i_isR1 ?h1 ?h2 ?_); (case h1 => wtm_at "jside"); (case h2 => wtm_at "jside"))
  | ((with_reducible refine' i_isR2 ?h1 ?h2 ?h3 ?h4 ?_); (case h1 => wtm_at "jside"); (case h2 => wtm_at "jside"); (case h3 => wtm_at "jside"); (case h4 => wtm_at "jside"))
  | ((with_reducible refine' i_lc ?e ?_); (case e => wtm_at "jset"))
  | with_reducible refine' i_yes ?_ | with_reducible refine' i_sl ?_ | with_reducible refine' i_par ?_ | with_reducible refine' i_two ?_ | with_reducible refine' i_noPart ?_ | with_reducible refine' i_part ?_ | with_reducible refine' i_isI ?_
  | with_reducible refine' i_bm ?_ | with_reducible refine' i_bm0 ?_ | ((with_reducible refine' i_tyL ?h ?_); (case h => wtm_at "jsq"))
  | ((with_reducible refine' i_app ?h ?e ?_); (case h => wtm_at "jhp"); (case e => wtm_at "jsmall"))
  | with_reducible refine' i_chain ?_ | ((with_reducible refine' i_cat ?h1 ?h2 ?e ?_); (case h1 => wtm_at "jhp"); (case h2 => wtm_at "jhp"); (case e => wtm_at "jlen"))
  | with_reducible refine iteT ?_ | with_reducible refine iteF ?_ | with_reducible refine' c_nt ?_ | with_reducible refine' c_nf ?_)
local macro_rules | `(tactic| wtm_at "js") => `(tactic| repeat (wtm_at "jw1"))
local macro_rules | `(tactic| wtm_at "jw") => `(tactic| repeat (first | wtm_at "jw1" | with_reducible refine' i_ifS ?_))
local macro_rules | `(tactic| wtm_at "jlen") => `(tactic| first | decide | (simp [sizeLine]; done) | omega)
/- a condition of an operation -/
local macro_rules | `(tactic| wtm_at "jside") => `(tactic| first | with_reducible assumption | omega | decide | (simp only [List.length_map]; omega) | (refine Or.inl ?_; decide) | (refine Or.inr ?_; decide) | (refine ⟨?_, ?_⟩ <;> omega) | (refine Or.inl ?_; constructor <;> omega) | (refine Or.inr ?_; constructor <;> omega) | (refine ⟨by decide, by decide, by decide⟩) | (with_reducible refine wide_div ?_ (b := 64) ?_ ?_ ?_ <;> first | omega | decide))
/- H p = some o -/
local macro_rules | `(tactic| wtm_at "jhp") => `(tactic| first | assumption | with_reducible exact upd_same | ((with_reducible refine' Eq.trans (upd_ne ?hne) ?hgo); (case hne => wtm_at "jne"); (case hgo => wtm_at "jhp")))
local macro_rules | `(tactic| wtm_at "jne") => `(tactic| first | assumption | (refine Ne.symm ?_; assumption) | (refine ne_of_none (by assumption) (by assumption)) | (refine (ne_of_none (by assumption) (by assumption)).symm))
local macro_rules | `(tactic| wtm_at "jsq") => `(tactic| first | assumption | ((with_reducible refine' SqL.of ?hh); (case hh => wtm_at "jhp")) | ((with_reducible refine' SqT.of ?hh); (case hh => wtm_at "jhp")) | ((with_reducible refine' Same.seq (same_new ?hn) ?hh); (case hn => assumption); (case hh => wtm_at "jsq")) | ((with_reducible refine' Same.tup (same_new ?hn) ?hh); (case hn => assumption); (case hh => wtm_at "jsq")))
/- the item at a place -/
local macro_rules | `(tactic| wtm_at "jat") => `(tactic| first | exact rfl | assumption)
local macro_rules | `(tactic| wtm_at "jixn") => `(tactic| first | exact rfl | assumption)
local macro_rules | `(tactic| wtm_at "jsmall") => `(tactic| first | assumption | exact small1000 (by first | assumption | omega | (simp; done) | (simp; omega)))

def top (i : Nat) : Stmt := PySem.Challenge.pw_judgedplay_k45_seals_hold.main.body.getD i (.Pass ⟨0, 0, 0, 0⟩)
abbrev s__law_begin : Stmt := top 14
abbrev N__law_begin : List Str := ["script", "cell"]
theorem sc__law_begin : FnScope N__law_begin ["script"] (defScope s__law_begin) := ⟨rfl, rfl, rfl, by decide +kernel, rfl, by decide +kernel, by decide +kernel⟩
abbrev s__law_cards : Stmt := top 18
abbrev N__law_cards : List Str := ["seed", "seats", "prime", "found", "seat", "secret", "lock", "base", "rest"]
theorem sc__law_cards : FnScope N__law_cards ["seed", "seats"] (defScope s__law_cards) := ⟨rfl, rfl, rfl, by decide +kernel, rfl, by decide +kernel, by decide +kernel⟩
abbrev s__law_draw : Stmt := top 15
abbrev N__law_draw : List Str := ["d", "many", "found", "size", "cell"]
theorem sc__law_draw : FnScope N__law_draw ["d", "many"] (defScope s__law_draw) := ⟨rfl, rfl, rfl, by decide +kernel, rfl, by decide +kernel, by decide +kernel⟩
abbrev s__law_pick : Stmt := top 16
abbrev N__law_pick : List Str := ["d", "row"]
theorem sc__law_pick : FnScope N__law_pick ["d", "row"] (defScope s__law_pick) := ⟨rfl, rfl, rfl, by decide +kernel, rfl, by decide +kernel, by decide +kernel⟩
abbrev s__law_statement_row : Stmt := top 20
abbrev N__law_statement_row : List Str := ["d", "tick", "most", "value"]
theorem sc__law_statement_row : FnScope N__law_statement_row ["d"] (defScope s__law_statement_row) := ⟨rfl, rfl, rfl, by decide +kernel, rfl, by decide +kernel, by decide +kernel⟩
abbrev s_number_of : Stmt := top 10
abbrev N_number_of : List Str := ["kind", "seat", "tick", "value"]
theorem sc_number_of : FnScope N_number_of ["kind", "seat", "tick", "value"] (defScope s_number_of) := ⟨rfl, rfl, rfl, by decide +kernel, rfl, by decide +kernel, by decide +kernel⟩
abbrev s_seal_of : Stmt := top 11
abbrev N_seal_of : List Str := ["secret", "kind", "seat", "tick", "value"]
theorem sc_seal_of : FnScope N_seal_of ["secret", "kind", "seat", "tick", "value"] (defScope s_seal_of) := ⟨rfl, rfl, rfl, by decide +kernel, rfl, by decide +kernel, by decide +kernel⟩
abbrev s_is_int : Stmt := top 1
abbrev N_is_int : List Str := ["thing"]
theorem sc_is_int : FnScope N_is_int ["thing"] (defScope s_is_int) := ⟨rfl, rfl, rfl, by decide +kernel, rfl, by decide +kernel, by decide +kernel⟩
abbrev s_is_between : Stmt := top 2
abbrev N_is_between : List Str := ["thing", "low", "high"]
theorem sc_is_between : FnScope N_is_between ["thing", "low", "high"] (defScope s_is_between) := ⟨rfl, rfl, rfl, by decide +kernel, rfl, by decide +kernel, by decide +kernel⟩
abbrev s_holds : Stmt := top 12
abbrev N_holds : List Str := ["lock", "kind", "seat", "tick", "value", "seal"]
theorem sc_holds : FnScope N_holds ["lock", "kind", "seat", "tick", "value", "seal"] (defScope s_holds) := ⟨rfl, rfl, rfl, by decide +kernel, rfl, by decide +kernel, by decide +kernel⟩
abbrev s__law_odd_things_hold : Stmt := top 25
abbrev N__law_odd_things_hold : List Str := ["lock", "row", "seal", "odd", "at", "parts"]
theorem sc__law_odd_things_hold : FnScope N__law_odd_things_hold ["lock", "row", "seal"] (defScope s__law_odd_things_hold) := ⟨rfl, rfl, rfl, by decide +kernel, rfl, by decide +kernel, by decide +kernel⟩
abbrev s__law_seal : Stmt := top 19
abbrev N__law_seal : List Str := ["secret", "kind", "seat", "tick", "value"]
theorem sc__law_seal : FnScope N__law_seal ["secret", "kind", "seat", "tick", "value"] (defScope s__law_seal) := ⟨rfl, rfl, rfl, by decide +kernel, rfl, by decide +kernel, by decide +kernel⟩
abbrev s__law_due_holds : Stmt := top 21
abbrev N__law_due_holds : List Str := ["lock", "row", "seal", "kind", "seat", "tick", "value"]
theorem sc__law_due_holds : FnScope N__law_due_holds ["lock", "row", "seal"] (defScope s__law_due_holds) := ⟨rfl, rfl, rfl, by decide +kernel, rfl, by decide +kernel, by decide +kernel⟩
abbrev s__law_is_told : Stmt := top 22
abbrev N__law_is_told : List Str := ["lock", "row", "seal", "told"]
theorem sc__law_is_told : FnScope N__law_is_told ["lock", "row", "seal"] (defScope s__law_is_told) := ⟨rfl, rfl, rfl, by decide +kernel, rfl, by decide +kernel, by decide +kernel⟩
abbrev s__law_is_int : Stmt := top 17
abbrev N__law_is_int : List Str := ["thing"]
theorem sc__law_is_int : FnScope N__law_is_int ["thing"] (defScope s__law_is_int) := ⟨rfl, rfl, rfl, by decide +kernel, rfl, by decide +kernel, by decide +kernel⟩
abbrev s__law_same_numbers : Stmt := top 23
abbrev N__law_same_numbers : List Str := ["row", "kind", "seat", "tick", "value", "found", "a", "b", "c"]
theorem sc__law_same_numbers : FnScope N__law_same_numbers ["row"] (defScope s__law_same_numbers) := ⟨rfl, rfl, rfl, by decide +kernel, rfl, by decide +kernel, by decide +kernel⟩
abbrev s__law_near_rows : Stmt := top 24
abbrev N__law_near_rows : List Str := ["d", "row", "kind", "seat", "tick", "value", "found", "k"]
theorem sc__law_near_rows : FnScope N__law_near_rows ["d", "row"] (defScope s__law_near_rows) := ⟨rfl, rfl, rfl, by decide +kernel, rfl, by decide +kernel, by decide +kernel⟩
abbrev s_law : Stmt := top 26
abbrev N_law : List Str := ["script", "d", "prime", "deck", "others", "row", "second", "lock", "secret", "seal", "seals", "number", "other", "above", "card"]
theorem sc_law : FnScope N_law ["script"] (defScope s_law) := ⟨rfl, rfl, rfl, by decide +kernel, rfl, by decide +kernel, by decide +kernel⟩
/-- what the text's top has: built-ins that are still so, constants -/
structure Txt (mg : Str → Option Value) : Prop where
  b_int : mg "int" = none
  b_range : mg "range" = none
  b_tuple : mg "tuple" = none
  b_len : mg "len" = none
  b_abs : mg "abs" = none
  b_isinstance : mg "isinstance" = none
  b_bool : mg "bool" = none
  c_MODULUS : Cn mg "MODULUS" (.int 2305843009213693951)
  c_WORD : Cn mg "WORD" (.int 0)
  c_PARCEL : Cn mg "PARCEL" (.int 2)
  c_MOST_SEAT : Cn mg "MOST_SEAT" (.int 3)
  c_MOST_TICK : Cn mg "MOST_TICK" (.int 63)
  c_MOST_VALUE : Cn mg "MOST_VALUE" (.int 1099511627775)
def rOdd : R2 := fun x y H Q => ∃ n : Nat, x = .int (n : Int) ∧ y = .int 1 ∧ Q (.int ((n % 2 : Nat) : Int)) H
theorem o_odd {X : Cx} : OpR X (binaryOp .BitAnd) rOdd := op_odd
theorem i_odd {n : Nat} {H : Hp} {Q : VK} (q : Q (.int ((n % 2 : Nat) : Int)) H) : rOdd (.int (n : Int)) (.int 1) H Q := ⟨n, rfl, rfl, q⟩
theorem i_notB {a b : Bool} {H : Hp} {Q : VK} (q : Q (.bl (!decide (a = b))) H) : rNotB (.bl a) (.bl b) H Q := ⟨a, b, rfl, rfl, q⟩
/-! ### the draws -/
/-- a row of draws stands at p, its cells at a -/
def DrawAt (H : Hp) (p a : Addr) : Prop := ∃ (ns : List Int) (pos pend seed : Int), H p = some (.lst [.ref a, .int pos, .int pend, .int seed]) ∧ H a = some (.lst (ns.map V.int)) ∧ a ≠ p ∧ 0 ≤ pos
theorem DrawAt.same {H H' : Hp} {p a : Addr} (d : DrawAt H p a) (s : Same H H') : DrawAt H' p a := by
  obtain ⟨ns, pos, pend, seed, h1, h2, h3, h4⟩ := d
  exact ⟨ns, pos, pend, seed, s _ _ h1, s _ _ h2, h3, h4⟩
/-- behind draws: the row stands, all else is as it was -/
structure Drew (p a : Addr) (H H' : Hp) : Prop where
  at_ : DrawAt H' p a
  kp : Kp p H H'
theorem Drew.trans {p a : Addr} {H H1 H2 : Hp} (x : Drew p a H H1) (y : Drew p a H1 H2) : Drew p a H H2 := ⟨y.at_, x.kp.trans y.kp⟩
theorem Drew.new {p a q : Addr} {H H1 : Hp} {o : HO} (x : Drew p a H H1) (h : H1 q = none) : Drew p a H (upd H1 q o) := ⟨x.at_.same (same_new h), x.kp.trans (.of (same_new h))⟩
theorem Drew.same {p a : Addr} {H H1 H2 : Hp} (x : Drew p a H H1) (s : Same H1 H2) : Drew p a H H2 := ⟨x.at_.same s, x.kp.trans (.of s)⟩
theorem DrawAt.drew {p a : Addr} {H : Hp} (d : DrawAt H p a) : Drew p a H H := ⟨d, Kp.refl⟩
theorem DrawAt.some {H : Hp} {p a : Addr} (d : DrawAt H p a) : ∃ xs, H p = some (.lst xs) := by
  obtain ⟨ns, pos, pend, seed, h1, _⟩ := d
  exact ⟨_, h1⟩
theorem DrawAt.ne_none {H : Hp} {p a q : Addr} (d : DrawAt H p a) (h : H q = none) : q ≠ p := by
  obtain ⟨xs, e⟩ := d.some
  exact (ne_of_none e h).symm
theorem DrawAt.ne_noneA {H : Hp} {p a q : Addr} (d : DrawAt H p a) (h : H q = none) : q ≠ a := by
  obtain ⟨ns, pos, pend, seed, _, h1, _⟩ := d
  exact (ne_of_none h1 h).symm
theorem Drew.free {p a q : Addr} {H H' : Hp} (w : Drew p a H H') (h : H' q = none) : H q = none := by
  cases e : H q with
  | none => rfl
  | some o =>
    by_cases hq : q = p
    · obtain ⟨xs, e'⟩ := w.at_.some
      rw [hq, e'] at h; cases h
    · rw [w.kp _ _ e hq] at h; cases h
/-- a thing of our own, made behind H, is written -/
theorem Drew.put {p a q : Addr} {H H1 : Hp} {o : HO} (x : Drew p a H H1) (d : DrawAt H p a) (h : H q = none) : Drew p a H (upd H1 q o) := by
  have n1 := d.ne_none h
  have n2 := d.ne_noneA h
  obtain ⟨ns, pos, pend, seed, h1, h2, h3, h4⟩ := x.at_
  refine ⟨⟨ns, pos, pend, seed, by rw [upd_ne n1.symm]; exact h1, by rw [upd_ne n2.symm]; exact h2, h3, h4⟩, fun b u hb hne => ?_⟩
  rw [upd_ne (ne_of_none hb h)]
  exact x.kp _ _ hb hne
theorem Drew.tps {p a : Addr} {H H' : Hp} (w : Drew p a H H') (d : DrawAt H p a) : Tps H H' := by
  obtain ⟨xs, e⟩ := d.some
  exact w.kp.tps e
def sp__law_begin (K : PySem.W.Frag) : Sp := fun vs H Q _ => ∃ (a : Addr) (ns : List Int), vs = [.ref a] ∧ SqL K H a (ns.map V.int) ∧ ns.length ≤ 63 ∧
  ∀ (p c : Addr) (H' : Hp), Same H H' → H p = none → H c = none → DrawAt H' p c → Q (.ref p) H'
theorem ok__law_begin {P : Program} {w : World} {K : PySem.W.Frag} {mg : Str → Option Value} {base : Heap} {f : Addr} {fd : FuncData} (F : Df K mg "_law_begin" s__law_begin f fd ["script"]) (T : Txt mg) : FnOk P w K mg base CX0 1 f fd ["script"] (sp__law_begin K) := by
  refine F.ok sc__law_begin (fun vs H Q E h => ?_) (fun cdv A outer s H vs Q E hr h => ?_)
  · obtain ⟨a, ns, rfl, _⟩ := h
    rfl
  · obtain ⟨a, ns, rfl, hS, hl, k⟩ := h
    refine ⟨_, (pss_one (ps_ret (pe_lst (pa_cons (pe_lc (own := [("cell", 1)]) (g := gName 1) (tt := tYes) rfl sc__law_begin.nd (pi_list (pv 0)) (blkOk_by (own := [("cell", 1)]) (N := N__law_begin) (sc := defScope s__law_begin) (by decide +kernel)) (fun _ _ _ _ _ => (pg_name (i := 1) sc__law_begin.nd rfl (Or.inl rfl))) (fun _ _ _ _ _ => pts_nil) (fun _ _ _ _ _ => (pe_callTy (T := "int") c_int (by rfl) T.b_int (by decide +kernel) (pa_cons (pv 1) pa_nil)))) (pa_cons pe_int (pa_cons pe_int (pa_cons pe_int pa_nil))))))), ?_⟩
    try dsimp only [cxOf, Cx.nox, Cx.wish]
    refine st_of (σ' := [some _, none]) rfl ?_
    wtm_at "jw"
    intro D hD
    refine l_list (xs := ns.map V.int) (fun i H1 => Same H H1 ∧ H1 D = some (.lst ((ns.take i).map V.int))) ⟨same_new hD, upd_same⟩ (fun i H1 _ h => h.1.seq hS) (fun i x H1 hi h => ?_) (fun H1 h => ?_)
    · obtain ⟨s1, h1⟩ := h
      rw [List.getElem?_map] at hi
      cases e : ns[i]? with
      | none => rw [e] at hi; cases hi
      | some z =>
        rw [e] at hi
        cases hi
        have hlt : i < ns.length := (List.getElem?_eq_some_iff.mp e).1
        wtm_at "jw"
        refine ⟨rfl, ?_⟩
        wtm_at "jw"
        refine ⟨_, h1, small1000 (by rw [List.length_map, List.length_take]; omega), ?_, ?_⟩
        · intro b o hb
          have hne : b ≠ D := ne_of_none hb hD
          rw [upd_ne hne]
          exact s1 _ _ hb
        · rw [upd_same, List.take_add_one, e, List.map_append]
          rfl
    · obtain ⟨s1, h1⟩ := h
      rw [List.length_map, List.take_length] at h1
      wtm_at "jw"
      intro p hp
      have hne : D ≠ p := ne_of_none h1 hp
      refine k p D _ (fun b o hb => ?_) (s1.free hp) hD ⟨ns, 0, 0, 11, upd_same, by rw [upd_ne hne]; exact h1, hne, by decide⟩
      rw [upd_ne (ne_of_none (s1 _ _ hb) hp)]
      exact s1 _ _ hb
def sp__law_draw (K : PySem.W.Frag) : Sp := fun vs H Q _ => ∃ (p a : Addr) (many : Int), vs = [.ref p, .int many] ∧ DrawAt H p a ∧ 0 < many ∧ many < 18446744073709551616 ∧
  ∀ (r : Int) (H' : Hp), 0 ≤ r → r < many → Drew p a H H' → Q (.int r) H'
theorem ok__law_draw {P : Program} {w : World} {K : PySem.W.Frag} {mg : Str → Option Value} {base : Heap} {f : Addr} {fd : FuncData} (F : Df K mg "_law_draw" s__law_draw f fd ["d", "many"]) (T : Txt mg) : FnOk P w K mg base CX0 1 f fd ["d", "many"] (sp__law_draw K) := by
  refine F.ok sc__law_draw (fun vs H Q E h => ?_) (fun cdv A outer s H vs Q E hr h => ?_)
  · obtain ⟨p, a, m, rfl, _⟩ := h
    rfl
  · obtain ⟨p, a, m, rfl, ⟨ns, pos, pend, seed, hp, ha, nap, h0⟩, hm0, hm1, k⟩ := h
    have fin : ∀ (z : Int) (pos' pend' seed' : Int) (H' : Hp), 0 ≤ pos' → H' p = some (.lst [.ref a, .int pos', .int pend', .int seed']) → Kp p H H' → Q (.int (z % m)) H' := fun z pos' pend' seed' H' hp' h1 h2 =>
      k _ _ (Int.emod_nonneg _ (by omega)) (Int.emod_lt_of_pos _ hm0) ⟨⟨ns, pos', pend', seed', h1, h2 _ _ ha nap, nap, hp'⟩, h2⟩
    refine ⟨_, (pss_cons (ps_if (pt_cmpR op_gt (pe_ix (r := rIxL K) ix_list (pv 0) pe_int (fun _ _ => rfl)) pe_int (nomark _)) (pss_cons (ps_set (i := 2) sc__law_draw.nd rfl (Or.inl rfl) (pe_ix (r := rIxL K) ix_list (pv 0) pe_int (fun _ _ => rfl)))
      (pss_cons (ps_asg (pe_op op_fdivW (pv 2) (pv 1)) (pg_sub (pv 0) pe_int set_list))
      (pss_one (ps_ret (pe_op op_mod (pe_callTy (T := "int") c_int (by rfl) T.b_int (by decide +kernel) (pa_cons (pv 2) pa_nil)) (pv 1)))))) pss_nil)
      (pss_cons (ps_set (i := 3) sc__law_draw.nd rfl (Or.inl rfl) pe_int)
      (pss_cons (ps_if (pt_cmpR op_lt (pe_ix (r := rIxL K) ix_list (pv 0) pe_int (fun _ _ => rfl)) (pe_callB (id := "len") (r := rLen K) c_len (by rfl) T.b_len (by decide +kernel) (pa_cons (pe_ix (r := rIxL K) ix_list (pv 0) pe_int (fun _ _ => rfl)) pa_nil)) (nomark _)) (pss_cons (ps_set (i := 4) sc__law_draw.nd rfl (Or.inl rfl) (pe_ix (r := rIx K) ix_seq (pe_ix (r := rIxL K) ix_list (pv 0) pe_int (fun _ _ => rfl)) (pe_ix (r := rIxL K) ix_list (pv 0) pe_int (fun _ _ => rfl)) (fun _ _ => rfl)))
      (pss_one (ps_set (i := 3) sc__law_draw.nd rfl (Or.inl rfl) (pe_op op_add (pe_op op_mul pe_int (pe_callB (id := "abs") c_abs (by rfl) T.b_abs (by decide +kernel) (pa_cons (pv 4) pa_nil))) (pe_callTy (T := "int") c_int (by rfl) T.b_int (by decide +kernel) (pa_cons (pe_cmpR op_lt (pv 4) pe_int (nomark _)) pa_nil)))))) pss_nil)
      (pss_cons (ps_augS (pv 0) pe_int get_list pe_int iop_add set_list)
      (pss_cons (ps_if (pt_cmpR op_ge (pv 3) (pe_op op_mul pe_int (pe_op op_pow pe_int pe_int)) (nomark _)) (pss_cons (ps_set (i := 2) sc__law_draw.nd rfl (Or.inl rfl) (pe_op op_mod (pe_callTy (T := "int") c_int (by rfl) T.b_int (by decide +kernel) (pa_cons (pe_op op_fdiv (pv 3) pe_int) pa_nil)) (pe_op op_shl pe_int pe_int)))
      (pss_cons (ps_asg (pe_op op_fdivW (pv 2) (pv 1)) (pg_sub (pv 0) pe_int set_list))
      (pss_one (ps_ret (pe_op op_mod (pe_callTy (T := "int") c_int (by rfl) T.b_int (by decide +kernel) (pa_cons (pv 2) pa_nil)) (pv 1)))))) pss_nil)
      (pss_cons (ps_asg (pe_op op_mod (pe_callTy (T := "int") c_int (by rfl) T.b_int (by decide +kernel) (pa_cons (pe_op op_add (pe_op op_add (pe_op op_add (pe_op op_mul (pe_ix (r := rIxL K) ix_list (pv 0) pe_int (fun _ _ => rfl)) pe_int) (pe_op op_mul (pe_op op_mod (pe_callTy (T := "int") c_int (by rfl) T.b_int (by decide +kernel) (pa_cons (pv 3) pa_nil)) pe_int) pe_int)) (pe_op op_mul (pe_ix (r := rIxL K) ix_list (pv 0) pe_int (fun _ _ => rfl)) pe_int)) pe_int) pa_nil)) pe_int) (pg_sub (pv 0) pe_int set_list))
      (pss_one (ps_ret (pe_op op_mod (pe_callTy (T := "int") c_int (by rfl) T.b_int (by decide +kernel) (pa_cons (pe_op op_fdiv (pe_ix (r := rIxL K) ix_list (pv 0) pe_int (fun _ _ => rfl)) pe_int) pa_nil)) (pv 1)))))))))), ?_⟩
    try dsimp only [cxOf, Cx.nox, Cx.wish]
    refine st_of (σ' := [some _, some _, none, none, none]) rfl ?_
    wtm_at "jw"
    refine c_dec (fun h => ?_) (fun h => ?_)
    · wtm_at "jw"
      exact fin _ _ _ _ _ h0 upd_same Kp.upd
    · wtm_at "jw"
      refine c_dec (fun h1 => ?_) (fun h1 => ?_)
      · obtain ⟨c, hc⟩ : ∃ c : Int, atI (ns.map V.int) pos = some (.int c) := by
          obtain ⟨v, e, hv, _⟩ := at_lt (xs := ns.map V.int) h0 h1
          obtain ⟨z, _, rfl⟩ := List.mem_map.mp hv
          exact ⟨z, e⟩
        wtm_at "jw"
        refine c_dec (fun h2 => ?_) (fun h2 => ?_)
        · wtm_at "jw"
          exact fin _ (pos + 1) _ _ _ (by omega) upd_same (Kp.upd.trans Kp.upd)
        · wtm_at "jw"
          exact fin _ (pos + 1) _ _ _ (by omega) upd_same (Kp.upd.trans Kp.upd)
      · wtm_at "jw"
        refine c_dec (fun h2 => ?_) (fun h2 => ?_)
        · wtm_at "jw"
          exact fin _ (pos + 1) _ _ _ (by omega) upd_same (Kp.upd.trans Kp.upd)
        · wtm_at "jw"
          exact fin _ (pos + 1) _ _ _ (by omega) upd_same (Kp.upd.trans Kp.upd)

def sp__law_pick (K : PySem.W.Frag) : Sp := fun vs H Q _ => ∃ (p a b : Addr) (xs : List V), vs = [.ref p, .ref b] ∧ DrawAt H p a ∧ ((b ≠ p ∧ SqL K H b xs) ∨ SqT K H b xs) ∧ 0 < xs.length ∧ xs.length < 1073741824 ∧
  ∀ (x : V) (H' : Hp), x ∈ xs → Drew p a H H' → Q x H'
theorem ok__law_pick {P : Program} {w : World} {K : PySem.W.Frag} {mg : Str → Option Value} {base : Heap} {f : Addr} {fd : FuncData} (F : Df K mg "_law_pick" s__law_pick f fd ["d", "row"]) (T : Txt mg)
    (c__law_draw : Cl P w K mg base 1 "_law_draw" (sp__law_draw K)) : FnOk P w K mg base CX0 2 f fd ["d", "row"] (sp__law_pick K) := by
  refine F.ok sc__law_pick (fun vs H Q E h => ?_) (fun cdv A outer s H vs Q E hr h => ?_)
  · obtain ⟨p, a, b, xs, rfl, _⟩ := h
    rfl
  · obtain ⟨p, a, b, xs, rfl, hd, hb, hl0, hl1, k⟩ := h
    refine ⟨_, (pss_one (ps_ret (pe_ix (r := rIx K) ix_seq (pv 1) (pe_cl c__law_draw hr (by decide) rfl (pa_cons (pv 0) (pa_cons (pe_callB (id := "len") (r := rLen K) c_len (by rfl) T.b_len (by decide +kernel) (pa_cons (pv 1) pa_nil)) pa_nil))) (fun _ _ => rfl)))), ?_⟩
    try dsimp only [cxOf, Cx.nox, Cx.wish]
    refine st_of (σ' := [some _, some _]) rfl ?_
    rcases hb with ⟨nb, hb⟩ | hb
    all_goals
      wtm_at "jw"
      refine ⟨p, a, _, rfl, hd, by omega, by omega, fun r H' hr0 hr1 w => ?_⟩
      obtain ⟨v, e, hv, _⟩ := at_lt hr0 hr1
    · have hb' := w.kp.seq hb nb
      wtm_at "jw"
      exact k _ _ hv w
    · have hb' := (w.tps hd).sq hb
      wtm_at "jw"
      exact k _ _ hv w

def sp__law_is_int (K : PySem.W.Frag) : Sp := fun vs H Q _ => ∃ (i : Int), vs = [.int i] ∧ Q (.bl true) H
theorem ok__law_is_int {P : Program} {w : World} {K : PySem.W.Frag} {mg : Str → Option Value} {base : Heap} {f : Addr} {fd : FuncData} (F : Df K mg "_law_is_int" s__law_is_int f fd ["thing"]) (T : Txt mg) : FnOk P w K mg base CX0 1 f fd ["thing"] (sp__law_is_int K) := by
  refine F.ok sc__law_is_int (fun vs H Q E h => ?_) (fun cdv A outer s H vs Q E hr h => ?_)
  · obtain ⟨i, rfl, _⟩ := h
    rfl
  · obtain ⟨i, rfl, k⟩ := h
    refine ⟨_, (pss_one (ps_ret (pe_and (pe_callB (id := "isinstance") (r := rIsi K) call_isi (by rfl) T.b_isinstance (by decide +kernel) (pa_cons (pv 0) (pa_cons (pe_bltn (v := .ty "int") (u := Value.type "int") (by rfl) T.b_int (by decide +kernel) rfl) pa_nil))) (pe_one (pe_not (pe_callB (id := "isinstance") (r := rIsi K) call_isi (by rfl) T.b_isinstance (by decide +kernel) (pa_cons (pv 0) (pa_cons (pe_bltn (v := .ty "bool") (u := Value.type "bool") (by rfl) T.b_bool (by decide +kernel) rfl) pa_nil)))))))), ?_⟩
    try dsimp only [cxOf, Cx.nox, Cx.wish]
    refine st_of (σ' := [some _]) rfl ?_
    wtm_at "jw"
    refine i_isi (.base (.int i)) rfl ?_
    wtm_at "jw"
    refine i_isi (.base (.int i)) rfl ?_
    wtm_at "jw"
    exact k

/-! ### pairs of ints, tuples of them -/
/-- the pairs of rows stand at rs -/
def Prw (H : Hp) (rs : List Addr) (rows : List (Int × Int)) : Prop := rs.length = rows.length ∧ ∀ (i : Nat) (r : Addr) (p : Int × Int), rs[i]? = some r → rows[i]? = some p → H r = some (.tup [.int p.1, .int p.2])
/-- a tuple of pairs -/
def Prs (H : Hp) (a : Addr) (rows : List (Int × Int)) : Prop := ∃ rs : List Addr, H a = some (.tup (rs.map V.ref)) ∧ Prw H rs rows
/-- a list of pairs -/
def LPr (H : Hp) (a : Addr) (rows : List (Int × Int)) : Prop := ∃ rs : List Addr, H a = some (.lst (rs.map V.ref)) ∧ Prw H rs rows
theorem Prw.nil {H : Hp} : Prw H [] [] := ⟨rfl, fun i r p h => by simp at h⟩
theorem Prw.tps {H H' : Hp} {rs : List Addr} {rows : List (Int × Int)} (w : Prw H rs rows) (t : Tps H H') : Prw H' rs rows := ⟨w.1, fun i r p h1 h2 => (t r).1 _ (w.2 i r p h1 h2)⟩
theorem Prw.same {H H' : Hp} {rs : List Addr} {rows : List (Int × Int)} (w : Prw H rs rows) (s : Same H H') : Prw H' rs rows := w.tps (Tps.of s)
theorem Prw.snoc {H : Hp} {rs : List Addr} {rows : List (Int × Int)} {q : Addr} {x y : Int} (w : Prw H rs rows) (h : H q = some (.tup [.int x, .int y])) : Prw H (rs ++ [q]) (rows ++ [(x, y)]) := by
  refine ⟨by simp [w.1], fun i r p h1 h2 => ?_⟩
  have hl := w.1
  by_cases hi : i < rs.length
  · rw [List.getElem?_append_left hi] at h1
    rw [List.getElem?_append_left (by omega)] at h2
    exact w.2 i r p h1 h2
  · rw [List.getElem?_append_right (by omega)] at h1
    rw [List.getElem?_append_right (by omega)] at h2
    rw [hl] at h1
    cases e : i - rows.length with
    | zero =>
      rw [e] at h1 h2
      cases h1
      cases h2
      exact h
    | succ n =>
      rw [e] at h1
      cases h1
theorem Prs.tps {H H' : Hp} {a : Addr} {rows : List (Int × Int)} (h : Prs H a rows) (t : Tps H H') : Prs H' a rows := by
  obtain ⟨rs, ha, w⟩ := h
  exact ⟨rs, (t a).1 _ ha, w.tps t⟩
theorem Prs.same {H H' : Hp} {a : Addr} {rows : List (Int × Int)} (h : Prs H a rows) (s : Same H H') : Prs H' a rows := h.tps (Tps.of s)
theorem LPr.same {H H' : Hp} {a : Addr} {rows : List (Int × Int)} (h : LPr H a rows) (s : Same H H') : LPr H' a rows := by
  obtain ⟨rs, ha, w⟩ := h
  exact ⟨rs, s _ _ ha, w.same s⟩
theorem LPr.kp {H H' : Hp} {p a : Addr} {xs : List V} {rows : List (Int × Int)} (h : LPr H a rows) (k : Kp p H H') (hp : H p = some (.lst xs)) (n : a ≠ p) : LPr H' a rows := by
  obtain ⟨rs, ha, w⟩ := h
  exact ⟨rs, k _ _ ha n, w.tps (k.tps hp)⟩
theorem Prw.put {H : Hp} {D : Addr} {rs : List Addr} {xs ys : List V} {rows : List (Int × Int)} (w : Prw H rs rows) (h : H D = some (.lst xs)) : Prw (upd H D (.lst ys)) rs rows := by
  refine ⟨w.1, fun i r p h1 h2 => ?_⟩
  have hr := w.2 i r p h1 h2
  rw [upd_ne (ne_of hr h (by intro z; cases z))]
  exact hr
/-- a new pair behind the others -/
theorem LPr.add {H : Hp} {D q : Addr} {rs : List Addr} {rows : List (Int × Int)} {x y : Int} (h : H D = some (.lst (rs.map V.ref))) (w : Prw H rs rows) (hq : H q = none) :
    LPr (upd (upd H q (.tup [.int x, .int y])) D (.lst (rs.map V.ref ++ [.ref q]))) D (rows ++ [(x, y)]) := by
  have hD : upd H q (.tup [.int x, .int y]) D = some (.lst (rs.map V.ref)) := by rw [upd_ne (ne_of_none h hq)]; exact h
  refine ⟨rs ++ [q], by rw [upd_same, List.map_append]; rfl, Prw.put (xs := rs.map V.ref) ((w.same (same_new hq)).snoc upd_same) hD⟩
/-- a pair that stands already -/
theorem LPr.add' {H : Hp} {D q : Addr} {rs : List Addr} {rows : List (Int × Int)} {x y : Int} (h : H D = some (.lst (rs.map V.ref))) (w : Prw H rs rows) (hq : H q = some (.tup [.int x, .int y])) :
    LPr (upd H D (.lst (rs.map V.ref ++ [.ref q]))) D (rows ++ [(x, y)]) :=
  ⟨rs ++ [q], by rw [upd_same, List.map_append]; rfl, (w.snoc hq).put h⟩
theorem Prw.at {H : Hp} {rs : List Addr} {rows : List (Int × Int)} {i : Nat} {v : V} (w : Prw H rs rows) (h : (rs.map V.ref)[i]? = some v) : ∃ r p, v = .ref r ∧ rs[i]? = some r ∧ rows[i]? = some p ∧ H r = some (.tup [.int p.1, .int p.2]) ∧ rows.take (i + 1) = rows.take i ++ [p] ∧ i < rows.length := by
  rw [List.getElem?_map] at h
  cases e : rs[i]? with
  | none => rw [e] at h; cases h
  | some r =>
    rw [e] at h
    have hi := (List.getElem?_eq_some_iff.mp e).1
    have hl := w.1
    have e2 : rows[i]? = some (rows[i]'(by omega)) := List.getElem?_eq_getElem (by omega)
    exact ⟨r, _, (Option.some.inj h).symm, rfl, e2, w.2 i r _ e e2, by rw [List.take_add_one, e2]; rfl, by omega⟩
def prD (p : Int × Int) : PyData := .tuple [.int p.1, .int p.2]
theorem dp_prs {K : PySem.W.Frag} {H : Hp} {a : Addr} {rows : List (Int × Int)} (h : Prs H a rows) : Dp K H (.ref a) (.tuple (rows.map prD)) := by
  obtain ⟨rs, ha, w⟩ := h
  refine .tup (SqT.of ha) (dpAll_of (by simp [w.1]) fun i x d h1 h2 => ?_)
  obtain ⟨r, p, rfl, e1, e2, hr, _⟩ := w.at h1
  rw [List.getElem?_map, e2] at h2
  cases h2
  exact dp_ints (ns := [p.1, p.2]) (SqT.of hr)
theorem shp_prs (rows : List (Int × Int)) : Shp 2 (.tuple (rows.map prD)) :=
  Shp.tup fun d hd => by
    obtain ⟨p, _, rfl⟩ := List.mem_map.mp hd
    exact Shp.tup fun e he => by
      rcases List.mem_cons.mp he with rfl | he
      · exact (Shp.int _)
      · rcases List.mem_cons.mp he with rfl | he
        · exact (Shp.int _)
        · cases he
theorem shp_ints (ns : List Int) : Shp 1 (.tuple (ns.map PyData.int)) :=
  Shp.tup fun d hd => by
    obtain ⟨p, _, rfl⟩ := List.mem_map.mp hd
    exact Shp.int _

/-! ### the numbers -/
abbrev M : Nat := 2305843009213693951
def secN (s i : Nat) : Nat := 1 + (s * 1000003 + (i + 1) * 1077912295755259) % 2305843009213693950
def pw (x : Nat) : Nat := ((((((((x ^ 128 % M) ^ 128 % M) ^ 128 % M) ^ 128 % M) ^ 128 % M) ^ 128 % M) ^ 128 % M) ^ 128 % M) ^ 32 % M
def good (x : Nat) : Bool := Nat.beq (pw x) (x * x % M) && Nat.beq (Nat.gcd x M) 1
def chk (g : Nat → Nat → Bool) : Nat → Bool
  | 0 => true
  | n + 1 => g n 0 && (g n 1 && (g n 2 && (g n 3 && chk g n)))
theorem chk_ok : chk (fun s i => good (secN s i)) 32749 = true := by decide +kernel
theorem cancel {x m : Nat} (hm : 3 ≤ m) (hx : 0 < x) (hg : Nat.gcd x m = 1) (h : x ^ (m + 1) % m = (x * x) % m) : x ^ (m - 2) * x % m = 1 := by
  obtain ⟨k, rfl⟩ : ∃ k, m = k + 3 := ⟨m - 3, by omega⟩
  have e1 : x ^ (k + 3 - 2) * x = x ^ (k + 2) := by
    rw [show k + 3 - 2 = k + 1 by omega, ← Nat.pow_succ]
  have e2 : x ^ (k + 3 + 1) = x * x * x ^ (k + 2) := by
    rw [show k + 3 + 1 = (k + 2) + 1 + 1 by omega, Nat.pow_succ, Nat.pow_succ]
    grind
  rw [e1]
  rw [e2] at h
  have hp : 0 < x ^ (k + 2) := Nat.pow_pos hx
  have hd : k + 3 ∣ x * x * x ^ (k + 2) - x * x := Nat.dvd_of_mod_eq_zero (Nat.sub_mod_eq_zero_of_mod_eq h)
  have e3 : x * x * x ^ (k + 2) - x * x = x * x * (x ^ (k + 2) - 1) := by rw [Nat.mul_sub, Nat.mul_one]
  rw [e3] at hd
  have hc : Nat.Coprime (k + 3) (x * x) := Nat.Coprime.mul_right (Nat.Coprime.symm hg) (Nat.Coprime.symm hg)
  obtain ⟨t, ht⟩ := hc.dvd_of_dvd_mul_left hd
  have e4 : x ^ (k + 2) = 1 + (k + 3) * t := by omega
  rw [e4, Nat.add_mul_mod_self_left, Nat.mod_eq_of_lt (by omega)]
theorem pw_eq (x : Nat) : pw x = x ^ 2305843009213693952 % M := by
  unfold pw
  rw [← Nat.pow_mod, ← Nat.pow_mul, ← Nat.pow_mod, ← Nat.pow_mul, ← Nat.pow_mod, ← Nat.pow_mul, ← Nat.pow_mod, ← Nat.pow_mul, ← Nat.pow_mod, ← Nat.pow_mul, ← Nat.pow_mod, ← Nat.pow_mul, ← Nat.pow_mod, ← Nat.pow_mul, ← Nat.pow_mod, ← Nat.pow_mul]
theorem good_inv {x : Nat} (hx : 0 < x) (h : good x = true) : x ^ 2305843009213693949 * x % M = 1 := by
  unfold good at h
  rw [Bool.and_eq_true] at h
  have h1 := Nat.eq_of_beq_eq_true h.1
  rw [pw_eq] at h1
  exact cancel (m := 2305843009213693951) (by decide) hx (Nat.eq_of_beq_eq_true h.2) h1
theorem chk_at {g : Nat → Nat → Bool} : ∀ {n : Nat}, chk g n = true → ∀ s, s < n → ∀ i, i < 4 → g s i = true
  | 0, _, s, hs, _, _ => absurd hs (Nat.not_lt_zero s)
  | n + 1, h, s, hs, i, hi => by
    unfold chk at h
    rw [Bool.and_eq_true, Bool.and_eq_true, Bool.and_eq_true, Bool.and_eq_true] at h
    obtain ⟨h0, h1, h2, h3, h4⟩ := h
    by_cases e : s = n
    · subst e
      match i, hi with
      | 0, _ => exact h0
      | 1, _ => exact h1
      | 2, _ => exact h2
      | 3, _ => exact h3
    · exact chk_at h4 s (by omega) i hi
theorem mulm (a b : Nat) : (a : Int) * (b : Int) % (2305843009213693951 : Int) = ((a * b % 2305843009213693951 : Nat) : Int) := by
  rw [Int.natCast_emod, Int.natCast_mul]
  rfl
theorem sq_pow (b r : Nat) : (b * b) ^ r = b ^ (2 * r) := by
  rw [Nat.pow_mul, Nat.pow_two]
theorem st_odd {L B R m t : Nat} (h : (L * B ^ R) % m = t) (hr : R % 2 = 1) : ((L * B % m) * (B * B) ^ (R / 2)) % m = t := by
  rw [← h, sq_pow, Nat.mod_mul_mod]
  have : R = 2 * (R / 2) + 1 := by omega
  rw [show L * B ^ R = L * B ^ (2 * (R / 2) + 1) by rw [← this], Nat.pow_succ]
  congr 1
  grind
theorem st_even {L B R m t : Nat} (h : (L * B ^ R) % m = t) (hr : ¬ R % 2 = 1) : (L * (B * B) ^ (R / 2)) % m = t := by
  rw [← h, sq_pow]
  have : 2 * (R / 2) = R := by omega
  rw [this]
theorem st_next {L B R m t : Nat} (h : (L * (B * B) ^ R) % m = t) : (L * (B * B % m) ^ R) % m = t := by
  rw [← h, Nat.mul_mod, ← Nat.pow_mod, ← Nat.mul_mod]
theorem st_end {L B x m t : Nat} (h : (L * B ^ 0) % m = t % m) (ht : t * x % m = 1) : L * x % m = 1 := by
  rw [Nat.pow_zero, Nat.mul_one] at h
  rw [Nat.mul_mod, h, ← Nat.mul_mod]
  exact ht
/-- a card: its lock, its secret -/
def Card (p : Int × Int) : Prop := 0 ≤ p.1 ∧ p.1 < (2305843009213693951 : Int) ∧ 0 ≤ p.2 ∧ p.2 < (2305843009213693951 : Int) ∧ p.2 * p.1 % (2305843009213693951 : Int) = 1
theorem e61 : (2 : Int) ^ Int.toNat 61 - 1 = 2305843009213693951 := by decide
theorem e40 : (1 : Int) * 2 ^ Int.toNat 40 = 1099511627776 := by decide
def sp__law_cards (K : PySem.W.Frag) : Sp := fun vs H Q _ => ∃ (seed : Int), vs = [.int seed, .int 4] ∧ 0 ≤ seed ∧ seed < 32749 ∧
  ∀ (r : Addr) (rows : List (Int × Int)) (H' : Hp), Same H H' → Prs H' r rows → rows.length = 4 → (∀ p ∈ rows, Card p) → Q (.ref r) H'
theorem ok__law_cards {P : Program} {w : World} {K : PySem.W.Frag} {mg : Str → Option Value} {base : Heap} {f : Addr} {fd : FuncData} (F : Df K mg "_law_cards" s__law_cards f fd ["seed", "seats"]) (T : Txt mg) : FnOk P w K mg base CX0 1 f fd ["seed", "seats"] (sp__law_cards K) := by
  refine F.ok sc__law_cards (fun vs H Q E h => ?_) (fun cdv A outer s H vs Q E hr h => ?_)
  · obtain ⟨seed, rfl, _⟩ := h
    rfl
  · obtain ⟨seed, rfl, s0, s1, q⟩ := h
    refine ⟨_, (pss_cons (ps_set (i := 2) sc__law_cards.nd rfl (Or.inl rfl) (pe_op op_sub (pe_op op_pow pe_int pe_int) pe_int))
      (pss_cons (ps_set (i := 3) sc__law_cards.nd rfl (Or.inl rfl) (pe_lst pa_nil))
      (pss_cons (ps_for PassesOwn.never rfl (pi_range1 rfl T.b_range (pa_cons (pv 1) pa_nil)) (pg_name (i := 4) sc__law_cards.nd rfl (Or.inl rfl)) (pss_cons (ps_set (i := 5) sc__law_cards.nd rfl (Or.inl rfl) (pe_op op_add pe_int (pe_op op_mod (pe_callTy (T := "int") c_int (by rfl) T.b_int (by decide +kernel) (pa_cons (pe_op op_add (pe_op op_mul (pv 0) pe_int) (pe_op op_mul (pe_op op_mul (pe_op op_mul (pe_op op_add (pv 4) pe_int) pe_int) pe_int) pe_int)) pa_nil)) (pe_op op_sub (pv 2) pe_int))))
      (pss_cons (ps_set (i := 6) sc__law_cards.nd rfl (Or.inl rfl) pe_int)
      (pss_cons (ps_set (i := 7) sc__law_cards.nd rfl (Or.inl rfl) (pv 5))
      (pss_cons (ps_set (i := 8) sc__law_cards.nd rfl (Or.inl rfl) (pe_op op_sub (pv 2) pe_int))
      (pss_cons (ps_while PassesOwn.never (pt_cmpR op_gt (pv 8) pe_int (nomark _)) (pss_cons (ps_if (pt_cmpR op_eq (pe_op o_odd (pv 8) pe_int) pe_int (nomark _)) (pss_one (ps_set (i := 6) sc__law_cards.nd rfl (Or.inl rfl) (pe_op op_mod (pe_callTy (T := "int") c_int (by rfl) T.b_int (by decide +kernel) (pa_cons (pe_op op_mul (pv 6) (pv 7)) pa_nil)) (pv 2)))) pss_nil)
      (pss_cons (ps_set (i := 7) sc__law_cards.nd rfl (Or.inl rfl) (pe_op op_mod (pe_callTy (T := "int") c_int (by rfl) T.b_int (by decide +kernel) (pa_cons (pe_op op_mul (pv 7) (pv 7)) pa_nil)) (pv 2)))
      (pss_one (ps_set (i := 8) sc__law_cards.nd rfl (Or.inl rfl) (pe_op op_shr (pv 8) pe_int))))))
      (pss_one (ps_expr (pe_bmK (K := K) rfl PySem.F.plainAttrs_list PySem.F.slot_list_append PySem.F.type_list_append mt_append (pv 3) (pa_cons (pe_tup (pa_cons (pv 6) (pa_cons (pv 5) pa_nil))) pa_nil))))))))))
      (pss_one (ps_ret (pe_callTy (T := "tuple") (r := rTupOf K) c_tup (by rfl) T.b_tuple (by decide +kernel) (pa_cons (pv 3) pa_nil))))))), ?_⟩
    try dsimp only [cxOf, Cx.nox, Cx.wish]
    refine st_of (σ' := [some _, some _, none, none, none, none, none, none, none]) rfl ?_
    wtm_at "jw"
    intro D hD
    wtm_at "jw"
    refine f_range (fun i σ H' => Same H H' ∧ ∃ v1 v2 v3 v4 v5 rows, σ = [some (.int seed), some (.int 4), some (.int 2305843009213693951), some (.ref D), v1, v2, v3, v4, v5] ∧ LPr H' D rows ∧ rows.length = i ∧ ∀ p ∈ rows, Card p)
      ⟨same_new hD, none, none, none, none, none, [], by rw [e61], ⟨[], upd_same, Prw.nil⟩, rfl, fun p hp => (nomatch hp)⟩ (fun i σ H' hi h => ?_) (fun σ H' h => ?_)
    · obtain ⟨s, v1, v2, v3, v4, v5, rows, rfl, lp, hlen, hc⟩ := h
      have hi4 : i < 4 := by omega
      have es : 1 + (seed * 1000003 + (0 + (i : Int) + 1) * 7919 * 104729 * 1299709) % (2305843009213693951 - 1) = ((secN seed.toNat i : Nat) : Int) := by
        unfold secN
        omega
      have hx0 : 0 < secN seed.toNat i := by unfold secN; omega
      have hx1 : secN seed.toNat i < 2305843009213693951 := by unfold secN; omega
      have hg := good_inv hx0 (chk_at chk_ok seed.toNat (by omega) i hi4)
      generalize hX : secN seed.toNat i = x at es hx0 hx1 hg
      wtm_at "jw"
      rw [es]
      refine i_while (fun m σ H2 => H2 = H' ∧ ∃ (L B R : Nat), σ = [some (.int seed), some (.int 4), some (.int 2305843009213693951), some (.ref D), some (.int (0 + (i : Int))), some (.int (x : Int)), some (.int (L : Int)), some (.int (B : Int)), some (.int (R : Int))] ∧ L < 2305843009213693951 ∧ B < 2305843009213693951 ∧ (L * B ^ R) % 2305843009213693951 = x ^ 2305843009213693949 % 2305843009213693951 ∧ m = R)
        ⟨2305843009213693949, rfl, 1, x, 2305843009213693949, by rfl, by decide, hx1, by rw [Nat.one_mul], rfl⟩ ?_
      rintro m σ H2 ⟨rfl, L, B, R, rfl, hL, hB, hI, rfl⟩
      wtm_at "jw"
      refine c_dec (fun hh => ?_) (fun hh => ?_)
      · refine ⟨fun σ' H3 => ∃ m', m' < m ∧ H3 = H2 ∧ ∃ (L B R : Nat), σ' = [some (.int seed), some (.int 4), some (.int 2305843009213693951), some (.ref D), some (.int (0 + (i : Int))), some (.int (x : Int)), some (.int (L : Int)), some (.int (B : Int)), some (.int (R : Int))] ∧ L < 2305843009213693951 ∧ B < 2305843009213693951 ∧ (L * B ^ R) % 2305843009213693951 = x ^ 2305843009213693949 % 2305843009213693951 ∧ m' = R, fun _ _ h => h, ?_⟩
        wtm_at "js"
        refine i_ifC (fun σ' H3 => H3 = H2 ∧ ∃ (L : Nat), σ' = [some (.int seed), some (.int 4), some (.int 2305843009213693951), some (.ref D), some (.int (0 + (i : Int))), some (.int (x : Int)), some (.int (L : Int)), some (.int (B : Int)), some (.int (m : Int))] ∧ L < 2305843009213693951 ∧ (L * (B * B) ^ (m / 2)) % 2305843009213693951 = x ^ 2305843009213693949 % 2305843009213693951) ?_ ?_
        · rintro σ' H3 ⟨rfl, L', rfl, hL', hI'⟩
          wtm_at "jw"
          rw [mulm]
          refine ⟨m / 2, by omega, rfl, L', B * B % 2305843009213693951, m / 2, ?_, hL', Nat.mod_lt _ (by decide), st_next hI', rfl⟩
          rw [show ((m / 2 : Nat) : Int) = (m : Int) / 2 ^ Int.toNat 1 by rw [show (2 : Int) ^ Int.toNat 1 = 2 by decide]; omega]
        · intro N hN
          wtm_at "jw"
          refine i_odd ?_
          wtm_at "jw"
          refine c_dec (fun ho => ?_) (fun ho => ?_)
          · wtm_at "jw"
            rw [mulm]
            exact hN _ _ ⟨rfl, _, rfl, Nat.mod_lt _ (by decide), st_odd hI (by omega)⟩
          · wtm_at "jw"
            exact hN _ _ ⟨rfl, L, rfl, hL, st_even hI (by omega)⟩
      · have hz : m = 0 := by omega
        subst hz
        have hfin := st_end hI hg
        obtain ⟨rs, hD', w⟩ := lp
        wtm_at "jw"
        intro t ht
        have hsm : (rs.map V.ref).length < sizeLine := small1000 (by have := w.1; rw [List.length_map]; omega)
        wtm_at "jw"
        refine ⟨fun b o hbo => ?_, _, _, _, _, _, rows ++ [((L : Int), (x : Int))], rfl, LPr.add hD' w ht, by simp [hlen], fun p hp => ?_⟩
        · rw [upd_ne (ne_of_none hbo hD)]
          exact same_new ht _ _ (s _ _ hbo)
        · rcases List.mem_append.mp hp with hp | hp
          · exact hc p hp
          · rcases List.mem_cons.mp hp with rfl | hp
            · refine ⟨by show (0 : Int) ≤ (L : Int); omega, by show (L : Int) < _; omega, by show (0 : Int) ≤ (x : Int); omega, by show (x : Int) < _; omega, ?_⟩
              show (x : Int) * (L : Int) % _ = 1
              rw [mulm, Nat.mul_comm, hfin]
              rfl
            · cases hp
    · obtain ⟨s, v1, v2, v3, v4, v5, rows, rfl, ⟨rs, hD', w⟩, hlen, hc⟩ := h
      wtm_at "jw"
      intro r hr'
      exact q r rows _ (s.trans (same_new hr')) ⟨rs, upd_same, w.same (same_new hr')⟩ (by omega) hc
def OddV (K : PySem.W.Frag) (H : Hp) (x : V) : Prop := ∃ t, TyX K H x t ∧ PySem.W.kitOne K t (.type "int") = some false
def sp_is_int (K : PySem.W.Frag) : Sp := fun vs H Q _ => ∃ x, vs = [x] ∧ ((∃ z : Int, x = .int z ∧ Q (.bl true) H) ∨ (OddV K H x ∧ Q (.bl false) H))
theorem ok_is_int {P : Program} {w : World} {K : PySem.W.Frag} {mg : Str → Option Value} {base : Heap} {f : Addr} {fd : FuncData} (F : Df K mg "is_int" s_is_int f fd ["thing"]) (T : Txt mg) : FnOk P w K mg base CX0 1 f fd ["thing"] (sp_is_int K) := by
  refine F.ok sc_is_int (fun vs H Q E h => ?_) (fun cdv A outer s H vs Q E hr h => ?_)
  · obtain ⟨x, rfl, _⟩ := h
    rfl
  · obtain ⟨x, rfl, h⟩ := h
    refine ⟨_, (pss_one (ps_ret (pe_and (pe_callB (id := "isinstance") (r := rIsi K) call_isi (by rfl) T.b_isinstance (by decide +kernel) (pa_cons (pv 0) (pa_cons (pe_bltn (v := .ty "int") (u := Value.type "int") (by rfl) T.b_int (by decide +kernel) rfl) pa_nil))) (pe_one (pe_not (pe_callB (id := "isinstance") (r := rIsi K) call_isi (by rfl) T.b_isinstance (by decide +kernel) (pa_cons (pv 0) (pa_cons (pe_bltn (v := .ty "bool") (u := Value.type "bool") (by rfl) T.b_bool (by decide +kernel) rfl) pa_nil)))))))), ?_⟩
    try dsimp only [cxOf, Cx.nox, Cx.wish]
    refine st_of (σ' := [some _]) rfl ?_
    wtm_at "jw"
    rcases h with ⟨z, rfl, q⟩ | ⟨⟨t, ty, ht⟩, q⟩
    · refine i_isi (.base (.int z)) rfl ?_
      wtm_at "jw"
      refine i_isi (.base (.int z)) rfl ?_
      wtm_at "jw"
      exact q
    · refine i_isi ty ht ?_
      wtm_at "jw"
      exact q
def sp_is_between (K : PySem.W.Frag) : Sp := fun vs H Q _ => ∃ (x : V) (lo hi : Int), vs = [x, .int lo, .int hi] ∧ ((∃ z : Int, x = .int z ∧ Q (.bl (decide (lo ≤ z ∧ z ≤ hi))) H) ∨ (OddV K H x ∧ Q (.bl false) H))
theorem ok_is_between {P : Program} {w : World} {K : PySem.W.Frag} {mg : Str → Option Value} {base : Heap} {f : Addr} {fd : FuncData} (F : Df K mg "is_between" s_is_between f fd ["thing", "low", "high"]) (T : Txt mg)
    (c_is_int : Cl P w K mg base 1 "is_int" (sp_is_int K)) : FnOk P w K mg base CX0 2 f fd ["thing", "low", "high"] (sp_is_between K) := by
  refine F.ok sc_is_between (fun vs H Q E h => ?_) (fun cdv A outer s H vs Q E hr h => ?_)
  · obtain ⟨x, lo, hi, rfl, _⟩ := h
    rfl
  · obtain ⟨x, lo, hi, rfl, h⟩ := h
    refine ⟨_, (pss_one (ps_ret (pe_and (pe_cl c_is_int hr (by decide) rfl (pa_cons (pv 0) pa_nil)) (pe_one (pe_chain op_le op_le (pv 1) (pv 0) (pv 2)))))), ?_⟩
    try dsimp only [cxOf, Cx.nox, Cx.wish]
    refine st_of (σ' := [some _, some _, some _]) rfl ?_
    wtm_at "jw"
    rcases h with ⟨z, rfl, q⟩ | ⟨od, q⟩
    · refine ⟨_, rfl, .inl ⟨z, rfl, ?_⟩⟩
      wtm_at "jw"
      refine c_dec (fun h1 => ?_) (fun h1 => ?_)
      · wtm_at "jw"
        rw [show decide (z ≤ hi) = decide (lo ≤ z ∧ z ≤ hi) by by_cases h2 : z ≤ hi <;> simp [h1, h2]]
        exact q
      · rw [show false = decide (lo ≤ z ∧ z ≤ hi) by simp [h1]]
        exact q
    · refine ⟨_, rfl, .inr ⟨od, ?_⟩⟩
      wtm_at "jw"
      exact q
def num (k s t v : Int) : Int := 1 + k + 3 * (s + 4 * (t + 64 * v))
def sp_number_of (K : PySem.W.Frag) : Sp := fun vs H Q _ => ∃ (k s t v : Int), vs = [.int k, .int s, .int t, .int v] ∧ Q (.int (num k s t v)) H
theorem ok_number_of {P : Program} {w : World} {K : PySem.W.Frag} {mg : Str → Option Value} {base : Heap} {f : Addr} {fd : FuncData} (F : Df K mg "number_of" s_number_of f fd ["kind", "seat", "tick", "value"]) (T : Txt mg) : FnOk P w K mg base CX0 1 f fd ["kind", "seat", "tick", "value"] (sp_number_of K) := by
  refine F.ok sc_number_of (fun vs H Q E h => ?_) (fun cdv A outer s H vs Q E hr h => ?_)
  · obtain ⟨k, s, t, v, rfl, _⟩ := h
    rfl
  · obtain ⟨k, s, t, v, rfl, q⟩ := h
    refine ⟨_, (pss_one (ps_ret (pe_op op_add (pe_op op_add pe_int (pv 0)) (pe_op op_mul pe_int (pe_op op_add (pv 1) (pe_op op_mul pe_int (pe_op op_add (pv 2) (pe_op op_mul pe_int (pv 3))))))))), ?_⟩
    try dsimp only [cxOf, Cx.nox, Cx.wish]
    refine st_of (σ' := [some _, some _, some _, some _]) rfl ?_
    wtm_at "jw"
    exact q
def hold (l k s t v e : Int) : Bool := decide (0 ≤ k ∧ k ≤ 2 ∧ 0 ≤ s ∧ s ≤ 3 ∧ 0 ≤ t ∧ t ≤ 63 ∧ 0 ≤ v ∧ v ≤ 1099511627775 ∧ 0 ≤ e ∧ e ≤ 2305843009213693950 ∧ e * l % (2305843009213693951 : Int) = num k s t v)
def Arg (K : PySem.W.Frag) (H : Hp) (x : V) : Prop := (∃ z : Int, x = .int z) ∨ OddV K H x
def Ints (xs : List V) : Prop := ∀ x ∈ xs, ∃ z : Int, x = V.int z
def sp_holds (K : PySem.W.Frag) : Sp := fun vs H Q _ => ∃ (l : Int) (k s t v e : V), vs = [.int l, k, s, t, v, e] ∧ -(2 ^ 64) < l ∧ l < 2 ^ 64 ∧ Arg K H k ∧ Arg K H s ∧ Arg K H t ∧ Arg K H v ∧ Arg K H e ∧
  (∀ k' s' t' v' e' : Int, k = .int k' → s = .int s' → t = .int t' → v = .int v' → e = .int e' → Q (.bl (hold l k' s' t' v' e')) H) ∧ (¬ Ints [k, s, t, v, e] → Q (.bl false) H)
theorem ok_holds {P : Program} {w : World} {K : PySem.W.Frag} {mg : Str → Option Value} {base : Heap} {f : Addr} {fd : FuncData} (F : Df K mg "holds" s_holds f fd ["lock", "kind", "seat", "tick", "value", "seal"]) (T : Txt mg)
    (c_is_between : Cl P w K mg base 2 "is_between" (sp_is_between K))
    (c_number_of : Cl P w K mg base 1 "number_of" (sp_number_of K)) : FnOk P w K mg base CX0 3 f fd ["lock", "kind", "seat", "tick", "value", "seal"] (sp_holds K) := by
  refine F.ok sc_holds (fun vs H Q E h => ?_) (fun cdv A outer s H vs Q E hr h => ?_)
  · obtain ⟨l, k, s, t, v, e, rfl, _⟩ := h
    rfl
  · obtain ⟨l, k, s, t, v, e, rfl, l0, l1, ak, as, at', av, ae, q, q0⟩ := h
    have odd : ∀ x ∈ [k, s, t, v, e], OddV K H x → ¬ Ints [k, s, t, v, e] := fun x hx ⟨ty, t1, t2⟩ hi => by
      obtain ⟨z, rfl⟩ := hi x hx
      have : ty = .type "int" := by
        cases t1 with
        | base b => cases b with | int i => rfl
      subst this
      cases t2
    have no : ∀ (b : Bool), (∀ k' s' t' v' e' : Int, k = .int k' → s = .int s' → t = .int t' → v = .int v' → e = .int e' → hold l k' s' t' v' e' = false) → Q (.bl false) H := fun _ hb => by
      by_cases hi : Ints [k, s, t, v, e]
      · obtain ⟨k', rfl⟩ := hi k (by simp)
        obtain ⟨s', rfl⟩ := hi s (by simp)
        obtain ⟨t', rfl⟩ := hi t (by simp)
        obtain ⟨v', rfl⟩ := hi v (by simp)
        obtain ⟨e', rfl⟩ := hi e (by simp)
        rw [← hb k' s' t' v' e' rfl rfl rfl rfl rfl]
        exact q _ _ _ _ _ rfl rfl rfl rfl rfl
      · exact q0 hi
    refine ⟨_, (pss_cons (ps_if (pt_not (PW.pt (pw_and (pt_val (pe_cl c_is_between hr (by decide) rfl (pa_cons (pv 1) (pa_cons (pe_cn rfl T.c_WORD) (pa_cons (pe_cn rfl T.c_PARCEL) pa_nil))))) (pw_and1 (pt_val (pe_cl c_is_between hr (by decide) rfl (pa_cons (pv 2) (pa_cons pe_int (pa_cons (pe_cn rfl T.c_MOST_SEAT) pa_nil))))))))) (pss_one (ps_ret pe_bl)) pss_nil)
      (pss_cons (ps_if (pt_not (PW.pt (pw_and (pt_val (pe_cl c_is_between hr (by decide) rfl (pa_cons (pv 3) (pa_cons pe_int (pa_cons (pe_cn rfl T.c_MOST_TICK) pa_nil))))) (pw_and1 (pt_val (pe_cl c_is_between hr (by decide) rfl (pa_cons (pv 4) (pa_cons pe_int (pa_cons (pe_cn rfl T.c_MOST_VALUE) pa_nil))))))))) (pss_one (ps_ret pe_bl)) pss_nil)
      (pss_cons (ps_if (pt_not (pt_val (pe_cl c_is_between hr (by decide) rfl (pa_cons (pv 5) (pa_cons pe_int (pa_cons (pe_op op_sub (pe_cn rfl T.c_MODULUS) pe_int) pa_nil)))))) (pss_one (ps_ret pe_bl)) pss_nil)
      (pss_one (ps_ret (pe_cmpR op_eq (pe_op op_mod (pe_callTy (T := "int") c_int (by rfl) T.b_int (by decide +kernel) (pa_cons (pe_op op_mul (pv 5) (pv 0)) pa_nil)) (pe_cn rfl T.c_MODULUS)) (pe_cl c_number_of hr (by decide) rfl (pa_cons (pv 1) (pa_cons (pv 2) (pa_cons (pv 3) (pa_cons (pv 4) pa_nil))))) (nomark _))))))), ?_⟩
    try dsimp only [cxOf, Cx.nox, Cx.wish]
    refine st_of (σ' := [some _, some _, some _, some _, some _, some _]) rfl ?_
    wtm_at "jw"
    rcases ak with ⟨k', rfl⟩ | ok
    · refine ⟨_, _, _, rfl, .inl ⟨k', rfl, ?_⟩⟩
      wtm_at "jw"
      refine c_dec (fun h1 => ?_) (fun h1 => ?_)
      · wtm_at "jw"
        rcases as with ⟨s', rfl⟩ | os
        · refine ⟨_, _, _, rfl, .inl ⟨s', rfl, ?_⟩⟩
          wtm_at "jw"
          refine c_decN (fun h2 => ?_) (fun h2 => ?_)
          · wtm_at "jw"
            refine no true fun k2 s2 t2 v2 e2 ek es et ev ee => ?_
            cases ek; cases es
            exact decide_eq_false (by omega)
          · wtm_at "jw"
            rcases at' with ⟨t', rfl⟩ | ot
            · refine ⟨_, _, _, rfl, .inl ⟨t', rfl, ?_⟩⟩
              wtm_at "jw"
              refine c_dec (fun h3 => ?_) (fun h3 => ?_)
              · wtm_at "jw"
                rcases av with ⟨v', rfl⟩ | ov
                · refine ⟨_, _, _, rfl, .inl ⟨v', rfl, ?_⟩⟩
                  wtm_at "jw"
                  refine c_decN (fun h4 => ?_) (fun h4 => ?_)
                  · wtm_at "jw"
                    refine no true fun k2 s2 t2 v2 e2 ek es et ev ee => ?_
                    cases ev
                    exact decide_eq_false (by omega)
                  · wtm_at "jw"
                    rcases ae with ⟨e', rfl⟩ | oe
                    · refine ⟨_, _, _, rfl, .inl ⟨e', rfl, ?_⟩⟩
                      wtm_at "jw"
                      refine c_decN (fun h5 => ?_) (fun h5 => ?_)
                      · wtm_at "jw"
                        refine no true fun k2 s2 t2 v2 e2 ek es et ev ee => ?_
                        cases ee
                        exact decide_eq_false (by omega)
                      · wtm_at "jw"
                        refine ⟨_, _, _, _, rfl, ?_⟩
                        wtm_at "jw"
                        have hq := q _ _ _ _ _ rfl rfl rfl rfl rfl
                        have eh : hold l k' s' t' v' e' = decide (e' * l % 2305843009213693951 = num k' s' t' v') := by
                          unfold hold
                          by_cases hz : e' * l % 2305843009213693951 = num k' s' t' v'
                          · rw [decide_eq_true hz]
                            exact decide_eq_true (by omega)
                          · rw [decide_eq_false hz]
                            exact decide_eq_false (by omega)
                        rw [eh] at hq
                        exact hq
                    · refine ⟨_, _, _, rfl, .inr ⟨oe, ?_⟩⟩
                      wtm_at "jw"
                      exact q0 (odd _ (by simp) oe)
                · refine ⟨_, _, _, rfl, .inr ⟨ov, ?_⟩⟩
                  wtm_at "jw"
                  exact q0 (odd _ (by simp) ov)
              · wtm_at "jw"
                refine no true fun k2 s2 t2 v2 e2 ek es et ev ee => ?_
                cases et
                exact decide_eq_false (by omega)
            · refine ⟨_, _, _, rfl, .inr ⟨ot, ?_⟩⟩
              wtm_at "jw"
              exact q0 (odd _ (by simp) ot)
        · refine ⟨_, _, _, rfl, .inr ⟨os, ?_⟩⟩
          wtm_at "jw"
          exact q0 (odd _ (by simp) os)
      · wtm_at "jw"
        refine no true fun k2 s2 t2 v2 e2 ek es et ev ee => ?_
        cases ek
        exact decide_eq_false (by omega)
    · refine ⟨_, _, _, rfl, .inr ⟨ok, ?_⟩⟩
      wtm_at "jw"
      exact q0 (odd _ (by simp) ok)
def sp_seal_of (K : PySem.W.Frag) : Sp := fun vs H Q _ => ∃ (x k s t v : Int), vs = [.int x, .int k, .int s, .int t, .int v] ∧ -(2 ^ 64) < x ∧ x < 2 ^ 64 ∧ Q (.int (num k s t v * x % (2305843009213693951 : Int))) H
theorem ok_seal_of {P : Program} {w : World} {K : PySem.W.Frag} {mg : Str → Option Value} {base : Heap} {f : Addr} {fd : FuncData} (F : Df K mg "seal_of" s_seal_of f fd ["secret", "kind", "seat", "tick", "value"]) (T : Txt mg)
    (c_number_of : Cl P w K mg base 1 "number_of" (sp_number_of K)) : FnOk P w K mg base CX0 2 f fd ["secret", "kind", "seat", "tick", "value"] (sp_seal_of K) := by
  refine F.ok sc_seal_of (fun vs H Q E h => ?_) (fun cdv A outer s H vs Q E hr h => ?_)
  · obtain ⟨x, k, s, t, v, rfl, _⟩ := h
    rfl
  · obtain ⟨x, k, s, t, v, rfl, x0, x1, q⟩ := h
    refine ⟨_, (pss_one (ps_ret (pe_op op_mod (pe_op op_mul (pe_cl c_number_of hr (by decide) rfl (pa_cons (pv 1) (pa_cons (pv 2) (pa_cons (pv 3) (pa_cons (pv 4) pa_nil))))) (pv 0)) (pe_cn rfl T.c_MODULUS)))), ?_⟩
    try dsimp only [cxOf, Cx.nox, Cx.wish]
    refine st_of (σ' := [some _, some _, some _, some _, some _]) rfl ?_
    wtm_at "jw"
    refine ⟨_, _, _, _, rfl, ?_⟩
    wtm_at "jw"
    exact q
def sp__law_seal (K : PySem.W.Frag) : Sp := sp_seal_of K
theorem ok__law_seal {P : Program} {w : World} {K : PySem.W.Frag} {mg : Str → Option Value} {base : Heap} {f : Addr} {fd : FuncData} (F : Df K mg "_law_seal" s__law_seal f fd ["secret", "kind", "seat", "tick", "value"]) (T : Txt mg) : FnOk P w K mg base CX0 1 f fd ["secret", "kind", "seat", "tick", "value"] (sp__law_seal K) := by
  refine F.ok sc__law_seal (fun vs H Q E h => ?_) (fun cdv A outer s H vs Q E hr h => ?_)
  · obtain ⟨x, k, s, t, v, rfl, _⟩ := h
    rfl
  · obtain ⟨x, k, s, t, v, rfl, x0, x1, q⟩ := h
    refine ⟨_, (pss_one (ps_ret (pe_op op_mod (pe_callTy (T := "int") c_int (by rfl) T.b_int (by decide +kernel) (pa_cons (pe_op op_mul (pe_op op_add (pe_op op_add pe_int (pv 1)) (pe_op op_mul pe_int (pe_op op_add (pv 2) (pe_op op_mul pe_int (pe_op op_add (pv 3) (pe_op op_mul pe_int (pv 4))))))) (pv 0)) pa_nil)) (pe_op op_sub (pe_op op_pow pe_int pe_int) pe_int)))), ?_⟩
    try dsimp only [cxOf, Cx.nox, Cx.wish]
    refine st_of (σ' := [some _, some _, some _, some _, some _]) rfl ?_
    wtm_at "jw"
    rw [e61]
    wtm_at "jw"
    exact q
/-- a tuple of four ints -/
def Q4 (H : Hp) (r : Addr) (k s t v : Int) : Prop := H r = some (.tup [.int k, .int s, .int t, .int v])
def sp__law_due_holds (K : PySem.W.Frag) : Sp := fun vs H Q _ => ∃ (l : Int) (r : Addr) (k s t v e : Int), vs = [.int l, .ref r, .int e] ∧ -(2 ^ 64) < l ∧ l < 2 ^ 64 ∧ Q4 H r k s t v ∧ Q (.bl (hold l k s t v e)) H
theorem ok__law_due_holds {P : Program} {w : World} {K : PySem.W.Frag} {mg : Str → Option Value} {base : Heap} {f : Addr} {fd : FuncData} (F : Df K mg "_law_due_holds" s__law_due_holds f fd ["lock", "row", "seal"]) (T : Txt mg) : FnOk P w K mg base CX0 1 f fd ["lock", "row", "seal"] (sp__law_due_holds K) := by
  refine F.ok sc__law_due_holds (fun vs H Q E h => ?_) (fun cdv A outer s H vs Q E hr h => ?_)
  · obtain ⟨l, r, k, s, t, v, e, rfl, _⟩ := h
    rfl
  · obtain ⟨l, r, k, s, t, v, e, rfl, l0, l1, hr4, q⟩ := h
    have hr5 : H r = some (.tup [.int k, .int s, .int t, .int v]) := hr4
    have no : hold l k s t v e = false → Q (.bl false) H := fun h => by rw [← h]; exact q
    refine ⟨_, (pss_cons (ps_asg (pv 1) (pg_tupK (K := K) rfl rfl (pgs_cons (pg_name (i := 3) sc__law_due_holds.nd rfl (Or.inl rfl)) (pgs_cons (pg_name (i := 4) sc__law_due_holds.nd rfl (Or.inl rfl)) (pgs_cons (pg_name (i := 5) sc__law_due_holds.nd rfl (Or.inl rfl)) (pgs_cons (pg_name (i := 6) sc__law_due_holds.nd rfl (Or.inl rfl)) pgs_nil))))))
      (pss_cons (ps_if (pt_not (PW.pt (pw_and (pt_chain op_le op_le pe_int (pv 3) pe_int) (pw_and (pt_chain op_le op_le pe_int (pv 4) pe_int) (pw_and (pt_chain op_le op_le pe_int (pv 5) pe_int) (pw_and1 (pt_chain op_le op_lt pe_int (pv 6) (pe_op op_shl pe_int pe_int)))))))) (pss_one (ps_ret pe_bl)) pss_nil)
      (pss_cons (ps_if (pt_not (pt_chain op_le op_lt pe_int (pv 2) (pe_op op_sub (pe_op op_pow pe_int pe_int) pe_int))) (pss_one (ps_ret pe_bl)) pss_nil)
      (pss_one (ps_ret (pe_cmpR op_eq (pe_op op_mod (pe_callTy (T := "int") c_int (by rfl) T.b_int (by decide +kernel) (pa_cons (pe_op op_mul (pv 2) (pv 0)) pa_nil)) (pe_op op_sub (pe_op op_pow pe_int pe_int) pe_int)) (pe_op op_add (pe_op op_add pe_int (pv 3)) (pe_op op_mul pe_int (pe_op op_add (pv 4) (pe_op op_mul pe_int (pe_op op_add (pv 5) (pe_op op_mul pe_int (pv 6))))))) (nomark _))))))), ?_⟩
    try dsimp only [cxOf, Cx.nox, Cx.wish]
    refine st_of (σ' := [some _, some _, some _, none, none, none, none]) rfl ?_
    wtm_at "jw"
    refine c_dec (fun h1 => ?_) (fun h1 => ?_)
    · wtm_at "jw"
      refine c_dec (fun h2 => ?_) (fun h2 => ?_)
      · wtm_at "jw"
        refine c_dec (fun h3 => ?_) (fun h3 => ?_)
        · wtm_at "jw"
          refine c_dec (fun h4 => ?_) (fun h4 => ?_)
          · wtm_at "jw"
            refine c_dec (fun h5 => ?_) (fun h5 => ?_)
            · wtm_at "jw"
              refine c_dec (fun h6 => ?_) (fun h6 => ?_)
              · wtm_at "jw"
                refine c_dec (fun h7 => ?_) (fun h7 => ?_)
                · wtm_at "jw"
                  rw [e40]
                  refine c_decN (fun h8 => ?_) (fun h8 => ?_)
                  · wtm_at "jw"
                    exact no (decide_eq_false (by omega))
                  · wtm_at "jw"
                    refine c_dec (fun h9 => ?_) (fun h9 => ?_)
                    · wtm_at "jw"
                      rw [e61]
                      refine c_decN (fun h10 => ?_) (fun h10 => ?_)
                      · wtm_at "jw"
                        exact no (decide_eq_false (by omega))
                      · wtm_at "jw"
                        have eh : hold l k s t v e = decide (e * l % 2305843009213693951 = num k s t v) := by
                          unfold hold
                          by_cases hz : e * l % 2305843009213693951 = num k s t v
                          · rw [decide_eq_true hz]
                            exact decide_eq_true (by omega)
                          · rw [decide_eq_false hz]
                            exact decide_eq_false (by omega)
                        rw [eh] at q
                        rw [e61]
                        wtm_at "jw"
                        exact q
                    · wtm_at "jw"
                      exact no (decide_eq_false (by omega))
                · wtm_at "jw"
                  exact no (decide_eq_false (by omega))
              · wtm_at "jw"
                exact no (decide_eq_false (by omega))
            · wtm_at "jw"
              exact no (decide_eq_false (by omega))
          · wtm_at "jw"
            exact no (decide_eq_false (by omega))
        · wtm_at "jw"
          exact no (decide_eq_false (by omega))
      · wtm_at "jw"
        exact no (decide_eq_false (by omega))
    · wtm_at "jw"
      exact no (decide_eq_false (by omega))
def sp__law_is_told (K : PySem.W.Frag) : Sp := fun vs H Q _ => ∃ (l : Int) (r : Addr) (k s t v e : Int), vs = [.int l, .ref r, .int e] ∧ -(2 ^ 64) < l ∧ l < 2 ^ 64 ∧ Q4 H r k s t v ∧ Q (.bl true) H
theorem ok__law_is_told {P : Program} {w : World} {K : PySem.W.Frag} {mg : Str → Option Value} {base : Heap} {f : Addr} {fd : FuncData} (F : Df K mg "_law_is_told" s__law_is_told f fd ["lock", "row", "seal"]) (T : Txt mg)
    (c_holds : Cl P w K mg base 3 "holds" (sp_holds K))
    (c__law_due_holds : Cl P w K mg base 1 "_law_due_holds" (sp__law_due_holds K)) : FnOk P w K mg base CX0 4 f fd ["lock", "row", "seal"] (sp__law_is_told K) := by
  refine F.ok sc__law_is_told (fun vs H Q E h => ?_) (fun cdv A outer s H vs Q E hr h => ?_)
  · obtain ⟨l, r, k, s, t, v, e, rfl, _⟩ := h
    rfl
  · obtain ⟨l, r, k, s, t, v, e, rfl, l0, l1, hr4, q⟩ := h
    have hr5 : H r = some (.tup [.int k, .int s, .int t, .int v]) := hr4
    refine ⟨_, (pss_cons (ps_set (i := 3) sc__law_is_told.nd rfl (Or.inl rfl) (pe_cl c_holds hr (by decide) rfl (pa_cons (pv 0) (pa_cons (pe_ix (r := rIxT K) ix_tup (pv 1) pe_int (fun _ _ => rfl)) (pa_cons (pe_ix (r := rIxT K) ix_tup (pv 1) pe_int (fun _ _ => rfl)) (pa_cons (pe_ix (r := rIxT K) ix_tup (pv 1) pe_int (fun _ _ => rfl)) (pa_cons (pe_ix (r := rIxT K) ix_tup (pv 1) pe_int (fun _ _ => rfl)) (pa_cons (pv 2) pa_nil))))))))
      (pss_one (ps_ret (pe_and (pe_callB (id := "isinstance") (r := rIsi K) call_isi (by rfl) T.b_isinstance (by decide +kernel) (pa_cons (pv 3) (pa_cons (pe_bltn (v := .ty "bool") (u := Value.type "bool") (by rfl) T.b_bool (by decide +kernel) rfl) pa_nil))) (pe_one (pe_cmpR op_eq (pv 3) (pe_cl c__law_due_holds hr (by decide) rfl (pa_cons (pv 0) (pa_cons (pv 1) (pa_cons (pv 2) pa_nil)))) (nomark _))))))), ?_⟩
    try dsimp only [cxOf, Cx.nox, Cx.wish]
    refine st_of (σ' := [some _, some _, some _, none]) rfl ?_
    wtm_at "jw"
    refine ⟨l, _, _, _, _, _, rfl, l0, l1, .inl ⟨_, rfl⟩, .inl ⟨_, rfl⟩, .inl ⟨_, rfl⟩, .inl ⟨_, rfl⟩, .inl ⟨_, rfl⟩, fun k' s' t' v' e' h1 h2 h3 h4 h5 => ?_, fun h => absurd ?_ h⟩
    · cases h1; cases h2; cases h3; cases h4; cases h5
      wtm_at "jw"
      refine i_isi (.base (.bl _)) rfl ?_
      wtm_at "jw"
      refine ⟨l, r, k, s, t, v, e, rfl, l0, l1, hr4, ?_⟩
      wtm_at "jw"
      rw [decide_eq_true rfl]
      exact q
    · intro x hx
      simp only [List.mem_cons, List.not_mem_nil, or_false] at hx
      rcases hx with h | h | h | h | h <;> exact ⟨_, h⟩
/-- rows of four ints -/
def R4 (H : Hp) (x : V) : Prop := ∃ (r : Addr) (k s t v : Int), x = .ref r ∧ Q4 H r k s t v
theorem R4.tps {H H' : Hp} {x : V} (h : R4 H x) (t : Tps H H') : R4 H' x := by
  obtain ⟨r, a, b, c, d, e, g⟩ := h
  exact ⟨r, a, b, c, d, e, (t r).1 _ g⟩
theorem tps_put {H : Hp} {D : Addr} {xs ys : List V} (h : H D = some (.lst xs)) : Tps H (upd H D (.lst ys)) := (Kp.upd (p := D)).tps h
/-- a list of such rows -/
def L4 (H : Hp) (D : Addr) (n : Nat) : Prop := ∃ xs, H D = some (.lst xs) ∧ (∀ x ∈ xs, R4 H x) ∧ xs.length ≤ n
theorem L4.add {H : Hp} {D q : Addr} {xs : List V} {k s t v : Int} {n : Nat} (h : H D = some (.lst xs)) (hx : ∀ x ∈ xs, R4 H x) (hl : xs.length ≤ n) (hq : H q = none) :
    L4 (upd (upd H q (.tup [.int k, .int s, .int t, .int v])) D (.lst (xs ++ [.ref q]))) D (n + 1) := by
  have hD : upd H q (.tup [.int k, .int s, .int t, .int v]) D = some (.lst xs) := same_new hq _ _ h
  refine ⟨_, upd_same, fun x m => ?_, by rw [List.length_append]; simp; omega⟩
  rcases List.mem_append.mp m with m | m
  · exact (((hx x m).tps (Tps.of (same_new hq)))).tps (tps_put hD)
  · rcases List.mem_cons.mp m with rfl | m
    · exact R4.tps (H := upd H q (.tup [.int k, .int s, .int t, .int v])) ⟨q, k, s, t, v, rfl, upd_same⟩ (tps_put hD)
    · cases m
theorem L4.same {H H' : Hp} {D : Addr} {n : Nat} (h : L4 H D n) (s : Same H H') : L4 H' D n := by
  obtain ⟨xs, a, b, c⟩ := h
  exact ⟨xs, s _ _ a, fun x m => (b x m).tps (Tps.of s), c⟩
theorem L4.mono {H : Hp} {D : Addr} {n m : Nat} (h : L4 H D n) (l : n ≤ m) : L4 H D m := by
  obtain ⟨xs, a, b, c⟩ := h
  exact ⟨xs, a, b, by omega⟩
theorem put_same {H H' : Hp} {D : Addr} {o : HO} (s : Same H H') (h : H D = none) : Same H (upd H' D o) := fun b u hb => by
  rw [upd_ne (ne_of_none hb h)]
  exact s _ _ hb
theorem three {x : V} {i : Nat} (h : [V.int 0, V.int 1, V.int (-1)][i]? = some x) : ∃ z : Int, x = .int z := by
  have := List.mem_of_getElem? h
  simp only [List.mem_cons, List.not_mem_nil, or_false] at this
  rcases this with h | h | h <;> exact ⟨_, h⟩
def sp__law_same_numbers (K : PySem.W.Frag) : Sp := fun vs H Q _ => ∃ (r : Addr) (k s t v : Int), vs = [.ref r] ∧ Q4 H r k s t v ∧ ∀ (D : Addr) (H' : Hp), Same H H' → L4 H' D 27 → H D = none → Q (.ref D) H'
theorem ok__law_same_numbers {P : Program} {w : World} {K : PySem.W.Frag} {mg : Str → Option Value} {base : Heap} {f : Addr} {fd : FuncData} (F : Df K mg "_law_same_numbers" s__law_same_numbers f fd ["row"]) (T : Txt mg) : FnOk P w K mg base CX0 1 f fd ["row"] (sp__law_same_numbers K) := by
  refine F.ok sc__law_same_numbers (fun vs H Q E h => ?_) (fun cdv A outer s H vs Q E hr h => ?_)
  · obtain ⟨r, k, s, t, v, rfl, _⟩ := h
    rfl
  · obtain ⟨r, k, s, t, v, rfl, hr4, q⟩ := h
    have hr5 : H r = some (.tup [.int k, .int s, .int t, .int v]) := hr4
    refine ⟨_, (pss_cons (ps_asg (pv 0) (pg_tupK (K := K) rfl rfl (pgs_cons (pg_name (i := 1) sc__law_same_numbers.nd rfl (Or.inl rfl)) (pgs_cons (pg_name (i := 2) sc__law_same_numbers.nd rfl (Or.inl rfl)) (pgs_cons (pg_name (i := 3) sc__law_same_numbers.nd rfl (Or.inl rfl)) (pgs_cons (pg_name (i := 4) sc__law_same_numbers.nd rfl (Or.inl rfl)) pgs_nil))))))
      (pss_cons (ps_set (i := 5) sc__law_same_numbers.nd rfl (Or.inl rfl) (pe_lst pa_nil))
      (pss_cons (ps_for PassesOwn.never rfl (pi_list (pe_lst (pa_cons pe_int (pa_cons pe_int (pa_cons (pe_un un_neg pe_int) pa_nil))))) (pg_name (i := 6) sc__law_same_numbers.nd rfl (Or.inl rfl)) (pss_one (ps_for PassesOwn.never rfl (pi_list (pe_lst (pa_cons pe_int (pa_cons pe_int (pa_cons (pe_un un_neg pe_int) pa_nil))))) (pg_name (i := 7) sc__law_same_numbers.nd rfl (Or.inl rfl)) (pss_one (ps_for PassesOwn.never rfl (pi_list (pe_lst (pa_cons pe_int (pa_cons pe_int (pa_cons (pe_un un_neg pe_int) pa_nil))))) (pg_name (i := 8) sc__law_same_numbers.nd rfl (Or.inl rfl)) (pss_one (ps_expr (pe_bmK (K := K) rfl PySem.F.plainAttrs_list PySem.F.slot_list_append PySem.F.type_list_append mt_append (pv 5) (pa_cons (pe_tup (pa_cons (pe_op op_add (pv 1) (pe_op op_mul pe_int (pv 6))) (pa_cons (pe_op op_add (pe_op op_sub (pv 2) (pv 6)) (pe_op op_mul pe_int (pv 7))) (pa_cons (pe_op op_add (pe_op op_sub (pv 3) (pv 7)) (pe_op op_mul pe_int (pv 8))) (pa_cons (pe_op op_sub (pv 4) (pv 8)) pa_nil))))) pa_nil)))))))))
      (pss_one (ps_ret (pv 5)))))), ?_⟩
    try dsimp only [cxOf, Cx.nox, Cx.wish]
    refine st_of (σ' := [some _, none, none, none, none, none, none, none, none]) rfl ?_
    wtm_at "jw"
    intro D hD
    wtm_at "jw"
    intro A1 hA1
    have nA : A1 ≠ D := (ne_of_none upd_same hA1).symm
    wtm_at "jw"
    refine f_list (xs := [V.int 0, V.int 1, V.int (-1)]) (fun i σ H' => Same H H' ∧ L4 H' D (9 * i) ∧ H' A1 = some (.lst [V.int 0, V.int 1, V.int (-1)]) ∧ ∃ v1 v2 v3, σ = [some (.ref r), some (.int k), some (.int s), some (.int t), some (.int v), some (.ref D), v1, v2, v3])
      ⟨(same_new hD).trans (same_new hA1), ⟨[], same_new hA1 _ _ upd_same, fun x hx => (nomatch hx), by simp⟩, upd_same, none, none, none, rfl⟩ (fun i σ H' _ h => SqL.of h.2.2.1) (fun i x σ H' hi h => ?_) (fun σ H' h => ?_)
    · obtain ⟨s1, l1, hA, v1, v2, v3, rfl⟩ := h
      obtain ⟨a, rfl⟩ := three hi
      wtm_at "jw"
      intro A2 hA2
      obtain ⟨xs1, hD1, _⟩ := id l1
      have nB : A2 ≠ D := (ne_of_none hD1 hA2).symm
      wtm_at "jw"
      refine f_list (xs := [V.int 0, V.int 1, V.int (-1)]) (fun j σ H' => Same H H' ∧ L4 H' D (9 * i + 3 * j) ∧ H' A1 = some (.lst [V.int 0, V.int 1, V.int (-1)]) ∧ H' A2 = some (.lst [V.int 0, V.int 1, V.int (-1)]) ∧ ∃ v2 v3, σ = [some (.ref r), some (.int k), some (.int s), some (.int t), some (.int v), some (.ref D), some (.int a), v2, v3])
        ⟨s1.trans (same_new hA2), l1.same (same_new hA2), same_new hA2 _ _ hA, upd_same, _, _, rfl⟩ (fun i σ H' _ h => SqL.of h.2.2.2.1) (fun j x σ H' hj h => ?_) (fun σ H' h => ?_)
      · obtain ⟨s2, l2, hA', hB, v2, v3, rfl⟩ := h
        obtain ⟨b, rfl⟩ := three hj
        wtm_at "jw"
        intro A3 hA3
        obtain ⟨xs2, hD2, _⟩ := id l2
        have nC : A3 ≠ D := (ne_of_none hD2 hA3).symm
        wtm_at "jw"
        refine f_list (xs := [V.int 0, V.int 1, V.int (-1)]) (fun m σ H' => Same H H' ∧ L4 H' D (9 * i + 3 * j + m) ∧ H' A1 = some (.lst [V.int 0, V.int 1, V.int (-1)]) ∧ H' A2 = some (.lst [V.int 0, V.int 1, V.int (-1)]) ∧ H' A3 = some (.lst [V.int 0, V.int 1, V.int (-1)]) ∧ ∃ v3, σ = [some (.ref r), some (.int k), some (.int s), some (.int t), some (.int v), some (.ref D), some (.int a), some (.int b), v3])
          ⟨s2.trans (same_new hA3), l2.same (same_new hA3), same_new hA3 _ _ hA', same_new hA3 _ _ hB, upd_same, _, rfl⟩ (fun i σ H' _ h => SqL.of h.2.2.2.2.1) (fun m x σ H' hm h => ?_) (fun σ H' h => ?_)
        · obtain ⟨s3, ⟨xs, hD3, hx, hl⟩, hA', hB, hC, v3, rfl⟩ := h
          obtain ⟨c, rfl⟩ := three hm
          have hi' := (List.getElem?_eq_some_iff.mp hi).1
          have hj' := (List.getElem?_eq_some_iff.mp hj).1
          have hm' := (List.getElem?_eq_some_iff.mp hm).1
          simp only [List.length_cons, List.length_nil] at hi' hj' hm'
          have hsm : xs.length < sizeLine := small1000 (by omega)
          wtm_at "jw"
          intro u hu
          wtm_at "jw"
          refine ⟨put_same (s3.trans (same_new hu)) hD, L4.add hD3 hx hl hu, ?_, ?_, ?_, _, rfl⟩
          · rw [upd_ne nA]; exact same_new hu _ _ hA'
          · rw [upd_ne nB]; exact same_new hu _ _ hB
          · rw [upd_ne nC]; exact same_new hu _ _ hC
        · obtain ⟨s3, l3, hA', hB, hC, v3, rfl⟩ := h
          exact ⟨s3, l3.mono (by simp only [List.length_cons, List.length_nil]; omega), hA', hB, _, _, rfl⟩
      · obtain ⟨s3, l3, hA', hB, v2, v3, rfl⟩ := h
        exact ⟨s3, l3.mono (by simp only [List.length_cons, List.length_nil]; omega), hA', _, _, _, rfl⟩
    · obtain ⟨s3, l3, hA', v1, v2, v3, rfl⟩ := h
      wtm_at "jw"
      exact q D _ s3 l3 hD
theorem R4.drew {p a : Addr} {H H' : Hp} {x : V} (h : R4 H x) (d : DrawAt H p a) (w : Drew p a H H') : R4 H' x := h.tps (w.tps d)
theorem L4.drew {p a D : Addr} {H H' : Hp} {n : Nat} (h : L4 H D n) (d : DrawAt H p a) (w : Drew p a H H') (nD : D ≠ p) : L4 H' D n := by
  obtain ⟨xs, h1, h2, h3⟩ := h
  exact ⟨xs, w.kp _ _ h1 nD, fun x m => (h2 x m).drew d w, h3⟩
def sp__law_near_rows (K : PySem.W.Frag) : Sp := fun vs H Q _ => ∃ (p a r : Addr) (k s t v : Int), vs = [.ref p, .ref r] ∧ DrawAt H p a ∧ Q4 H r k s t v ∧ ∀ (D : Addr) (H' : Hp), Drew p a H H' → L4 H' D 100 → H D = none → Q (.ref D) H'
theorem ok__law_near_rows {P : Program} {w : World} {K : PySem.W.Frag} {mg : Str → Option Value} {base : Heap} {f : Addr} {fd : FuncData} (F : Df K mg "_law_near_rows" s__law_near_rows f fd ["d", "row"]) (T : Txt mg)
    (c__law_draw : Cl P w K mg base 1 "_law_draw" (sp__law_draw K)) : FnOk P w K mg base CX0 2 f fd ["d", "row"] (sp__law_near_rows K) := by
  refine F.ok sc__law_near_rows (fun vs H Q E h => ?_) (fun cdv A outer s H vs Q E hr h => ?_)
  · obtain ⟨p, a, r, k, s, t, v, rfl, _⟩ := h
    rfl
  · obtain ⟨p, a, r, k, s, t, v, rfl, hd, hr4, q⟩ := h
    have hr5 : H r = some (.tup [.int k, .int s, .int t, .int v]) := hr4
    refine ⟨_, (pss_cons (ps_asg (pv 1) (pg_tupK (K := K) rfl rfl (pgs_cons (pg_name (i := 2) sc__law_near_rows.nd rfl (Or.inl rfl)) (pgs_cons (pg_name (i := 3) sc__law_near_rows.nd rfl (Or.inl rfl)) (pgs_cons (pg_name (i := 4) sc__law_near_rows.nd rfl (Or.inl rfl)) (pgs_cons (pg_name (i := 5) sc__law_near_rows.nd rfl (Or.inl rfl)) pgs_nil))))))
      (pss_cons (ps_set (i := 6) sc__law_near_rows.nd rfl (Or.inl rfl) (pe_lst (pa_cons (pe_tup (pa_cons (pe_op op_mod (pe_callTy (T := "int") c_int (by rfl) T.b_int (by decide +kernel) (pa_cons (pe_op op_add (pv 2) pe_int) pa_nil)) pe_int) (pa_cons (pv 3) (pa_cons (pv 4) (pa_cons (pv 5) pa_nil))))) (pa_cons (pe_tup (pa_cons (pe_op op_mod (pe_callTy (T := "int") c_int (by rfl) T.b_int (by decide +kernel) (pa_cons (pe_op op_add (pv 2) pe_int) pa_nil)) pe_int) (pa_cons (pv 3) (pa_cons (pv 4) (pa_cons (pv 5) pa_nil))))) pa_nil))))
      (pss_cons (ps_for PassesOwn.never rfl (pi_range2 rfl T.b_range (pa_cons pe_int (pa_cons pe_int pa_nil))) (pg_name (i := 7) sc__law_near_rows.nd rfl (Or.inl rfl)) (pss_one (ps_expr (pe_bmK (K := K) rfl PySem.F.plainAttrs_list PySem.F.slot_list_append PySem.F.type_list_append mt_append (pv 6) (pa_cons (pe_tup (pa_cons (pv 2) (pa_cons (pe_op op_mod (pe_callTy (T := "int") c_int (by rfl) T.b_int (by decide +kernel) (pa_cons (pe_op op_add (pv 3) (pv 7)) pa_nil)) pe_int) (pa_cons (pv 4) (pa_cons (pv 5) pa_nil))))) pa_nil)))))
      (pss_cons (ps_expr (pe_bmK (K := K) rfl PySem.F.plainAttrs_list PySem.F.slot_list_append PySem.F.type_list_append mt_append (pv 6) (pa_cons (pe_tup (pa_cons (pv 2) (pa_cons (pv 3) (pa_cons (pe_op op_mod (pe_callTy (T := "int") c_int (by rfl) T.b_int (by decide +kernel) (pa_cons (pe_op op_add (pe_op op_add (pv 4) pe_int) (pe_cl c__law_draw hr (by decide) rfl (pa_cons (pv 0) (pa_cons pe_int pa_nil)))) pa_nil)) pe_int) (pa_cons (pv 5) pa_nil))))) pa_nil)))
      (pss_cons (ps_expr (pe_bmK (K := K) rfl PySem.F.plainAttrs_list PySem.F.slot_list_append PySem.F.type_list_append mt_append (pv 6) (pa_cons (pe_tup (pa_cons (pv 2) (pa_cons (pv 3) (pa_cons (pv 4) (pa_cons (pe_op op_mod (pe_callTy (T := "int") c_int (by rfl) T.b_int (by decide +kernel) (pa_cons (pe_op op_add (pe_op op_add (pv 5) pe_int) (pe_cl c__law_draw hr (by decide) rfl (pa_cons (pv 0) (pa_cons (pe_op op_sub (pe_op op_shl pe_int pe_int) pe_int) pa_nil)))) pa_nil)) (pe_op op_shl pe_int pe_int)) pa_nil))))) pa_nil)))
      (pss_cons (ps_for PassesOwn.never rfl (pi_range1 rfl T.b_range (pa_cons pe_int pa_nil)) (pg_name (i := 7) sc__law_near_rows.nd rfl (Or.inl rfl)) (pss_one (ps_expr (pe_bmK (K := K) rfl PySem.F.plainAttrs_list PySem.F.slot_list_append PySem.F.type_list_append mt_append (pv 6) (pa_cons (pe_tup (pa_cons (pv 2) (pa_cons (pv 3) (pa_cons (pv 4) (pa_cons (pe_op op_xor (pv 5) (pe_op op_shl pe_int (pv 7))) pa_nil))))) pa_nil)))))
      (pss_one (ps_ret (pv 6))))))))), ?_⟩
    try dsimp only [cxOf, Cx.nox, Cx.wish]
    refine st_of (σ' := [some _, some _, none, none, none, none, none, none]) rfl ?_
    wtm_at "jw"
    intro u1 hu1
    wtm_at "jw"
    intro u2 hu2
    wtm_at "jw"
    intro D hD
    have hu1' := same_new (o := .tup [V.int ((k + 2) % 3), V.int s, V.int t, V.int v]) hu2 _ _ (upd_same (H := H) (a := u1) (o := .tup [V.int ((k + 1) % 3), V.int s, V.int t, V.int v]))
    have d0 := ((hd.drew.new (o := .tup [V.int ((k + 1) % 3), V.int s, V.int t, V.int v]) hu1).new (o := .tup [V.int ((k + 2) % 3), V.int s, V.int t, V.int v]) hu2).new (o := .lst [V.ref u1, V.ref u2]) hD
    have hD0 : H D = none := ((hd.drew.new (o := .tup [V.int ((k + 1) % 3), V.int s, V.int t, V.int v]) hu1).new (o := .tup [V.int ((k + 2) % 3), V.int s, V.int t, V.int v]) hu2).free hD
    have nD := hd.ne_none hD0
    wtm_at "jw"
    refine f_range (fun i σ H' => Drew p a H H' ∧ L4 H' D (2 + i) ∧ ∃ v1, σ = [some (.ref p), some (.ref r), some (.int k), some (.int s), some (.int t), some (.int v), some (.ref D), v1])
      ⟨d0, ⟨_, upd_same, fun x hx => ?_, by simp⟩, none, rfl⟩ (fun i σ H' hi h => ?_) (fun σ H' h => ?_)
    · simp only [List.mem_cons, List.not_mem_nil, or_false] at hx
      rcases hx with rfl | rfl
      · exact ⟨_, _, _, _, _, rfl, same_new hD _ _ hu1'⟩
      · exact ⟨_, _, _, _, _, rfl, same_new hD _ _ upd_same⟩
    · obtain ⟨d1, ⟨xs, h1, h2, h3⟩, v1, rfl⟩ := h
      have hsm : xs.length < sizeLine := small1000 (by omega)
      wtm_at "jw"
      intro u hu
      wtm_at "jw"
      exact ⟨(d1.new hu).put hd hD0, L4.add h1 h2 h3 hu, _, rfl⟩
    · obtain ⟨d1, ⟨xs, h1, h2, h3⟩, v1, rfl⟩ := h
      have hsm : xs.length < sizeLine := small1000 (by omega)
      wtm_at "jw"
      refine ⟨p, a, _, rfl, d1.at_, by decide, by decide, fun z1 H2 z0 z2 d2 => ?_⟩
      have h1' := d2.kp _ _ h1 nD
      wtm_at "jw"
      intro u hu
      wtm_at "jw"
      have d3 := ((d1.trans d2).new (o := .tup [V.int k, V.int s, V.int ((t + 1 + z1) % 64), V.int v]) hu).put (o := .lst (xs ++ [V.ref u])) hd hD0
      have l3 := L4.add (k := k) (s := s) (t := (t + 1 + z1) % 64) (v := v) h1' (fun x m => (h2 x m).drew d1.at_ d2) h3 hu
      obtain ⟨ys, y1, y2, y3⟩ := id l3
      have hsm2 : ys.length < sizeLine := small1000 (by omega)
      refine ⟨p, a, _, rfl, d3.at_, by rw [e40]; decide, by rw [e40]; decide, fun w1 H4 w0 w2 d4 => ?_⟩
      have y1' := d4.kp _ _ y1 nD
      wtm_at "jw"
      rw [e40]
      wtm_at "jw"
      intro u' hu'
      wtm_at "jw"
      refine f_range (fun i σ H' => Drew p a H H' ∧ L4 H' D (7 + i) ∧ ∃ v1, σ = [some (.ref p), some (.ref r), some (.int k), some (.int s), some (.int t), some (.int v), some (.ref D), v1])
        ⟨((d3.trans d4).new hu').put hd hD0, (L4.add y1' (fun x m => (y2 x m).drew d3.at_ d4) y3 hu').mono (by omega), _, rfl⟩ (fun i σ H' hi h => ?_) (fun σ H' h => ?_)
      · obtain ⟨d5, ⟨xs, h1, h2, h3⟩, v1, rfl⟩ := h
        have hsm : xs.length < sizeLine := small1000 (by omega)
        wtm_at "jw"
        intro u3 hu3
        wtm_at "jw"
        exact ⟨(d5.new hu3).put hd hD0, L4.add h1 h2 h3 hu3, _, rfl⟩
      · obtain ⟨d5, l5, v1, rfl⟩ := h
        wtm_at "jw"
        exact q D _ d5 (l5.mono (by omega)) hD0
def sp__law_statement_row (K : PySem.W.Frag) : Sp := fun vs H Q _ => ∃ (p a : Addr), vs = [.ref p] ∧ DrawAt H p a ∧ ∀ (r : Addr) (k s t v : Int) (H' : Hp), Drew p a H H' → Q4 H' r k s t v → 0 ≤ k → k < 3 → 0 ≤ s → s < 4 → 0 ≤ t → t < 64 → 0 ≤ v → v < 1099511627776 → Q (.ref r) H'
theorem ok__law_statement_row {P : Program} {w : World} {K : PySem.W.Frag} {mg : Str → Option Value} {base : Heap} {f : Addr} {fd : FuncData} (F : Df K mg "_law_statement_row" s__law_statement_row f fd ["d"]) (T : Txt mg)
    (c__law_pick : Cl P w K mg base 2 "_law_pick" (sp__law_pick K))
    (c__law_draw : Cl P w K mg base 1 "_law_draw" (sp__law_draw K)) : FnOk P w K mg base CX0 3 f fd ["d"] (sp__law_statement_row K) := by
  refine F.ok sc__law_statement_row (fun vs H Q E h => ?_) (fun cdv A outer s H vs Q E hr h => ?_)
  · obtain ⟨p, a, rfl, _⟩ := h
    rfl
  · obtain ⟨p, a, rfl, hd, q⟩ := h
    refine ⟨_, (pss_cons (ps_set (i := 1) sc__law_statement_row.nd rfl (Or.inl rfl) (pe_cl c__law_pick hr (by decide) rfl (pa_cons (pv 0) (pa_cons (pe_lst (pa_cons pe_int (pa_cons pe_int (pa_cons pe_int (pa_cons pe_int (pa_cons (pe_cl c__law_draw hr (by decide) rfl (pa_cons (pv 0) (pa_cons pe_int pa_nil))) (pa_cons (pe_cl c__law_draw hr (by decide) rfl (pa_cons (pv 0) (pa_cons pe_int pa_nil))) pa_nil))))))) pa_nil))))
      (pss_cons (ps_set (i := 2) sc__law_statement_row.nd rfl (Or.inl rfl) (pe_op op_sub (pe_op op_shl pe_int pe_int) pe_int))
      (pss_cons (ps_set (i := 3) sc__law_statement_row.nd rfl (Or.inl rfl) (pe_cl c__law_pick hr (by decide) rfl (pa_cons (pv 0) (pa_cons (pe_lst (pa_cons pe_int (pa_cons pe_int (pa_cons (pv 2) (pa_cons (pe_op op_sub (pv 2) pe_int) (pa_cons (pe_cl c__law_draw hr (by decide) rfl (pa_cons (pv 0) (pa_cons (pe_op op_add (pv 2) pe_int) pa_nil))) (pa_cons (pe_cl c__law_draw hr (by decide) rfl (pa_cons (pv 0) (pa_cons pe_int pa_nil))) (pa_cons (pe_cl c__law_draw hr (by decide) rfl (pa_cons (pv 0) (pa_cons pe_int pa_nil))) pa_nil)))))))) pa_nil))))
      (pss_one (ps_ret (pe_tup (pa_cons (pe_cl c__law_draw hr (by decide) rfl (pa_cons (pv 0) (pa_cons pe_int pa_nil))) (pa_cons (pe_cl c__law_draw hr (by decide) rfl (pa_cons (pv 0) (pa_cons pe_int pa_nil))) (pa_cons (pv 1) (pa_cons (pv 3) pa_nil)))))))))), ?_⟩
    try dsimp only [cxOf, Cx.nox, Cx.wish]
    refine st_of (σ' := [some _, none, none, none]) rfl ?_
    wtm_at "jw"
    refine ⟨p, a, _, rfl, hd, by decide, by decide, fun x1 H1 x10 x11 d1 => ?_⟩
    wtm_at "jw"
    refine ⟨p, a, _, rfl, d1.at_, by decide, by decide, fun x2 H2 x20 x21 d2 => ?_⟩
    have d12 := d1.trans d2
    wtm_at "jw"
    intro B hB
    have d3 := d12.new (o := .lst [V.int 0, V.int 1, V.int 62, V.int 63, V.int x1, V.int x2]) hB
    wtm_at "jw"
    refine ⟨p, a, B, _, rfl, d3.at_, .inl ⟨d12.at_.ne_none hB, SqL.of upd_same⟩, by simp, by simp, fun x H3 hx d4 => ?_⟩
    obtain ⟨t, rfl, t0, t1⟩ : ∃ z : Int, x = V.int z ∧ 0 ≤ z ∧ z < 64 := by
      simp only [List.mem_cons, List.not_mem_nil, or_false] at hx
      rcases hx with h | h | h | h | h | h <;> exact ⟨_, h, by omega, by omega⟩
    have d5 := d3.trans d4
    wtm_at "jw"
    rw [e40]
    refine ⟨p, a, _, rfl, d5.at_, by decide, by decide, fun y1 H4 y10 y11 d6 => ?_⟩
    have d7 := d5.trans d6
    wtm_at "jw"
    refine ⟨p, a, _, rfl, d7.at_, by decide, by decide, fun y2 H5 y20 y21 d8 => ?_⟩
    have d9 := d7.trans d8
    wtm_at "jw"
    refine ⟨p, a, _, rfl, d9.at_, by decide, by decide, fun y3 H6 y30 y31 d10 => ?_⟩
    have d11 := d9.trans d10
    wtm_at "jw"
    intro C hC
    have d13 := d11.new (o := .lst [V.int 0, V.int 1, V.int (1099511627776 - 1), V.int (1099511627776 - 1 - 1), V.int y1, V.int y2, V.int y3]) hC
    wtm_at "jw"
    refine ⟨p, a, C, _, rfl, d13.at_, .inl ⟨d11.at_.ne_none hC, SqL.of upd_same⟩, by simp, by simp, fun x H7 hx d14 => ?_⟩
    obtain ⟨v, rfl, v0, v1⟩ : ∃ z : Int, x = V.int z ∧ 0 ≤ z ∧ z < 1099511627776 := by
      simp only [List.mem_cons, List.not_mem_nil, or_false] at hx
      rcases hx with h | h | h | h | h | h | h <;> exact ⟨_, h, by omega, by omega⟩
    have d15 := d13.trans d14
    wtm_at "jw"
    refine ⟨p, a, _, rfl, d15.at_, by decide, by decide, fun k H8 k0 k1 d16 => ?_⟩
    have d17 := d15.trans d16
    wtm_at "jw"
    refine ⟨p, a, _, rfl, d17.at_, by decide, by decide, fun s H9 s0 s1 d18 => ?_⟩
    have d19 := d17.trans d18
    wtm_at "jw"
    intro r hr'
    exact q r k s t v _ (d19.new hr') upd_same k0 k1 s0 s1 t0 t1 v0 v1
theorem OddV.not_int {K : PySem.W.Frag} {H : Hp} {x : V} (h : OddV K H x) (z : Int) : x ≠ .int z := fun e => by
  subst e
  obtain ⟨ty, t1, t2⟩ := h
  have : ty = .type "int" := by
    cases t1 with
    | base b => cases b with | int i => rfl
  subst this
  cases t2
def sp__law_odd_things_hold (K : PySem.W.Frag) : Sp := fun vs H Q _ => ∃ (l : Int) (r : Addr) (k s t v e : Int), vs = [.int l, .ref r, .int e] ∧ -(2 ^ 64) < l ∧ l < 2 ^ 64 ∧ Q4 H r k s t v ∧ ∀ H', Same H H' → Q (.bl false) H'
theorem ok__law_odd_things_hold {P : Program} {w : World} {K : PySem.W.Frag} {mg : Str → Option Value} {base : Heap} {f : Addr} {fd : FuncData} (F : Df K mg "_law_odd_things_hold" s__law_odd_things_hold f fd ["lock", "row", "seal"]) (T : Txt mg)
    (c_holds : Cl P w K mg base 3 "holds" (sp_holds K)) : FnOk P w K mg base CX0 4 f fd ["lock", "row", "seal"] (sp__law_odd_things_hold K) := by
  refine F.ok sc__law_odd_things_hold (fun vs H Q E h => ?_) (fun cdv A outer s H vs Q E hr h => ?_)
  · obtain ⟨l, r, k, s, t, v, e, rfl, _⟩ := h
    rfl
  · obtain ⟨l, r, k, s, t, v, e, rfl, l0, l1, hr4, q⟩ := h
    have hr5 : H r = some (.tup [.int k, .int s, .int t, .int v]) := hr4
    refine ⟨_, (pss_cons (ps_for PassesOwn.never rfl (pi_list (pe_lst (pa_cons pe_non (pa_cons pe_str (pa_cons pe_str (pa_cons (pe_tup pa_nil) (pa_cons (pe_tup (pa_cons pe_int pa_nil)) pa_nil))))))) (pg_name (i := 3) sc__law_odd_things_hold.nd rfl (Or.inl rfl)) (pss_one (ps_for PassesOwn.never rfl (pi_range1 rfl T.b_range (pa_cons pe_int pa_nil)) (pg_name (i := 4) sc__law_odd_things_hold.nd rfl (Or.inl rfl)) (pss_cons (ps_set (i := 5) sc__law_odd_things_hold.nd rfl (Or.inl rfl) (pe_lst (pa_cons (pe_ix (r := rIxT K) ix_tup (pv 1) pe_int (fun _ _ => rfl)) (pa_cons (pe_ix (r := rIxT K) ix_tup (pv 1) pe_int (fun _ _ => rfl)) (pa_cons (pe_ix (r := rIxT K) ix_tup (pv 1) pe_int (fun _ _ => rfl)) (pa_cons (pe_ix (r := rIxT K) ix_tup (pv 1) pe_int (fun _ _ => rfl)) (pa_cons (pv 2) pa_nil)))))))
      (pss_cons (ps_asg (pv 3) (pg_sub (pv 5) (pv 4) set_list))
      (pss_one (ps_if (pt_val (pe_cl c_holds hr (by decide) rfl (pa_cons (pv 0) (pa_cons (pe_ix (r := rIxL K) ix_list (pv 5) pe_int (fun _ _ => rfl)) (pa_cons (pe_ix (r := rIxL K) ix_list (pv 5) pe_int (fun _ _ => rfl)) (pa_cons (pe_ix (r := rIxL K) ix_list (pv 5) pe_int (fun _ _ => rfl)) (pa_cons (pe_ix (r := rIxL K) ix_list (pv 5) pe_int (fun _ _ => rfl)) (pa_cons (pe_ix (r := rIxL K) ix_list (pv 5) pe_int (fun _ _ => rfl)) pa_nil)))))))) (pss_one (ps_ret pe_bl)) pss_nil)))))))
      (pss_one (ps_ret pe_bl))), ?_⟩
    try dsimp only [cxOf, Cx.nox, Cx.wish]
    refine st_of (σ' := [some _, some _, some _, none, none, none]) rfl ?_
    wtm_at "jw"
    intro e0 he0
    wtm_at "jw"
    intro e1 he1
    wtm_at "jw"
    intro B hB
    have s0 := ((same_new (o := .tup []) he0).trans (same_new (o := .tup [V.int 1]) he1)).trans (same_new (o := .lst [V.non, V.str "", V.str "1", V.ref e0, V.ref e1]) hB)
    have h0 : (upd (upd (upd H e0 (.tup [])) e1 (.tup [V.int 1])) B (.lst [V.non, V.str "", V.str "1", V.ref e0, V.ref e1])) e0 = some (.tup []) := same_new hB _ _ (same_new he1 _ _ upd_same)
    have h1 : (upd (upd (upd H e0 (.tup [])) e1 (.tup [V.int 1])) B (.lst [V.non, V.str "", V.str "1", V.ref e0, V.ref e1])) e1 = some (.tup [V.int 1]) := same_new hB _ _ upd_same
    have h2 : (upd (upd (upd H e0 (.tup [])) e1 (.tup [V.int 1])) B (.lst [V.non, V.str "", V.str "1", V.ref e0, V.ref e1])) B = some (.lst [V.non, V.str "", V.str "1", V.ref e0, V.ref e1]) := upd_same
    wtm_at "jw"
    generalize upd (upd (upd H e0 (.tup [])) e1 (.tup [V.int 1])) B (.lst [V.non, V.str "", V.str "1", V.ref e0, V.ref e1]) = H0 at s0 h0 h1 h2 ⊢
    refine f_list (xs := [V.non, V.str "", V.str "1", V.ref e0, V.ref e1]) (fun i σ H' => Same H0 H' ∧ ∃ v1 v2 v3, σ = [some (.int l), some (.ref r), some (.int e), v1, v2, v3]) ⟨Same.refl _, none, none, none, rfl⟩ (fun i σ H' _ h => SqL.of (h.1 _ _ h2)) (fun i x σ H' hi h => ?_) (fun σ H' h => ?_)
    · obtain ⟨s1, v1, v2, v3, rfl⟩ := h
      have ox : ∀ H2, Same H' H2 → OddV K H2 x := fun H2 s2 => by
        have := List.mem_of_getElem? hi
        simp only [List.mem_cons, List.not_mem_nil, or_false] at this
        rcases this with rfl | rfl | rfl | rfl | rfl
        · exact ⟨_, .base .non, rfl⟩
        · exact ⟨_, .base (.str _), rfl⟩
        · exact ⟨_, .base (.str _), rfl⟩
        · exact ⟨_, .base (.tup ((s1.trans s2) _ _ h0)), rfl⟩
        · exact ⟨_, .base (.tup ((s1.trans s2) _ _ h1)), rfl⟩
      have nint : ∀ z : Int, x ≠ .int z := (ox _ (Same.refl _)).not_int
      wtm_at "jw"
      refine f_range (fun j σ H2 => Same H' H2 ∧ ∃ v2 v3, σ = [some (.int l), some (.ref r), some (.int e), some x, v2, v3]) ⟨Same.refl _, _, _, rfl⟩ (fun j σ H2 hj h => ?_) (fun σ H2 h => ?_)
      · obtain ⟨s2, v2, v3, rfl⟩ := h
        have hr6 := s2 _ _ (s1 _ _ (s0 _ _ hr5))
        have hj5 : j = 0 ∨ j = 1 ∨ j = 2 ∨ j = 3 ∨ j = 4 := by omega
        wtm_at "jw"
        intro P hP
        have sP : ∀ o, Same H' (upd (upd H2 P (.lst [V.int k, V.int s, V.int t, V.int v, V.int e])) P o) := fun o b u hb => by
          have hb2 := s2 _ _ hb
          rw [upd_ne (ne_of_none hb2 hP), upd_ne (ne_of_none hb2 hP)]
          exact hb2
        rcases hj5 with rfl | rfl | rfl | rfl | rfl
        all_goals
          wtm_at "jw"
          refine ⟨l, _, _, _, _, _, rfl, l0, l1, ?_, ?_, ?_, ?_, ?_, fun k' s' t' v' e' h1 h2 h3 h4 h5 => ?_, fun _ => ?_⟩
          · first | exact .inl ⟨_, rfl⟩ | exact .inr (ox _ (sP _))
          · first | exact .inl ⟨_, rfl⟩ | exact .inr (ox _ (sP _))
          · first | exact .inl ⟨_, rfl⟩ | exact .inr (ox _ (sP _))
          · first | exact .inl ⟨_, rfl⟩ | exact .inr (ox _ (sP _))
          · first | exact .inl ⟨_, rfl⟩ | exact .inr (ox _ (sP _))
          · first | exact absurd h1 (nint _) | exact absurd h2 (nint _) | exact absurd h3 (nint _) | exact absurd h4 (nint _) | exact absurd h5 (nint _)
          · wtm_at "jw"
            exact ⟨sP _, _, _, rfl⟩
      · obtain ⟨s2, v2, v3, rfl⟩ := h
        exact ⟨s1.trans s2, _, _, _, rfl⟩
    · obtain ⟨s1, v1, v2, v3, rfl⟩ := h
      wtm_at "jw"
      exact q _ (s0.trans s1)
theorem hold_true {l k s t v x : Int} (hx : x * l % (2305843009213693951 : Int) = 1) (k0 : 0 ≤ k) (k1 : k < 3) (s0 : 0 ≤ s) (s1 : s < 4) (t0 : 0 ≤ t) (t1 : t < 64) (v0 : 0 ≤ v) (v1 : v < 1099511627776) :
    hold l k s t v (num k s t v * x % (2305843009213693951 : Int)) = true := by
  have e : num k s t v * x % (2305843009213693951 : Int) * l % (2305843009213693951 : Int) = num k s t v := by
    rw [Int.mul_emod, Int.emod_emod_of_dvd _ (Int.dvd_refl _), ← Int.mul_emod, Int.mul_assoc, Int.mul_emod, hx, Int.mul_one, Int.emod_emod_of_dvd _ (Int.dvd_refl _)]
    refine Int.emod_eq_of_lt ?_ ?_
    · unfold num; omega
    · unfold num; omega
  exact decide_eq_true (by omega)
def sp_law (K : PySem.W.Frag) : Sp := fun vs H Q _ => ∃ (a : Addr) (ns : List Int), vs = [.ref a] ∧ SqL K H a (ns.map V.int) ∧ ns.length ≤ 63 ∧ ∀ H', Q (.bl true) H'
theorem ok_law {P : Program} {w : World} {K : PySem.W.Frag} {mg : Str → Option Value} {base : Heap} {f : Addr} {fd : FuncData} (F : Df K mg "law" s_law f fd ["script"]) (T : Txt mg)
    (c__law_begin : Cl P w K mg base 1 "_law_begin" (sp__law_begin K))
    (c__law_cards : Cl P w K mg base 1 "_law_cards" (sp__law_cards K))
    (c__law_statement_row : Cl P w K mg base 3 "_law_statement_row" (sp__law_statement_row K))
    (c_seal_of : Cl P w K mg base 2 "seal_of" (sp_seal_of K))
    (c__law_odd_things_hold : Cl P w K mg base 4 "_law_odd_things_hold" (sp__law_odd_things_hold K))
    (c__law_draw : Cl P w K mg base 1 "_law_draw" (sp__law_draw K))
    (c_holds : Cl P w K mg base 3 "holds" (sp_holds K))
    (c__law_seal : Cl P w K mg base 1 "_law_seal" (sp__law_seal K))
    (c__law_is_told : Cl P w K mg base 4 "_law_is_told" (sp__law_is_told K))
    (c__law_is_int : Cl P w K mg base 1 "_law_is_int" (sp__law_is_int K))
    (c__law_same_numbers : Cl P w K mg base 1 "_law_same_numbers" (sp__law_same_numbers K))
    (c__law_near_rows : Cl P w K mg base 2 "_law_near_rows" (sp__law_near_rows K)) : FnOk P w K mg base CX0 5 f fd ["script"] (sp_law K) := by
  refine F.ok sc_law (fun vs H Q E h => ?_) (fun cdv A outer s H vs Q E hr h => ?_)
  · obtain ⟨a, ns, rfl, _⟩ := h
    rfl
  · obtain ⟨a, ns, rfl, hS, hl, k⟩ := h
    refine ⟨_, (pss_cons (ps_set (i := 1) sc_law.nd rfl (Or.inl rfl) (pe_cl c__law_begin hr (by decide) rfl (pa_cons (pv 0) pa_nil)))
      (pss_cons (ps_set (i := 2) sc_law.nd rfl (Or.inl rfl) (pe_op op_sub (pe_op op_pow pe_int pe_int) pe_int))
      (pss_cons (ps_set (i := 3) sc_law.nd rfl (Or.inl rfl) (pe_cl c__law_cards hr (by decide) rfl (pa_cons (pe_cl c__law_draw hr (by decide) rfl (pa_cons (pv 1) (pa_cons pe_int pa_nil))) (pa_cons pe_int pa_nil))))
      (pss_cons (ps_set (i := 4) sc_law.nd rfl (Or.inl rfl) (pe_cl c__law_cards hr (by decide) rfl (pa_cons (pe_cl c__law_draw hr (by decide) rfl (pa_cons (pv 1) (pa_cons pe_int pa_nil))) (pa_cons pe_int pa_nil))))
      (pss_cons (ps_set (i := 5) sc_law.nd rfl (Or.inl rfl) (pe_cl c__law_statement_row hr (by decide) rfl (pa_cons (pv 1) pa_nil)))
      (pss_cons (ps_set (i := 6) sc_law.nd rfl (Or.inl rfl) (pe_cl c__law_statement_row hr (by decide) rfl (pa_cons (pv 1) pa_nil)))
      (pss_cons (ps_asg (pe_ix (r := rIxT K) ix_tup (pv 3) (pe_ix (r := rIxT K) ix_tup (pv 5) pe_int (fun _ _ => rfl)) (fun _ _ => rfl)) (pg_tupK (K := K) rfl rfl (pgs_cons (pg_name (i := 7) sc_law.nd rfl (Or.inl rfl)) (pgs_cons (pg_name (i := 8) sc_law.nd rfl (Or.inl rfl)) pgs_nil))))
      (pss_cons (ps_set (i := 9) sc_law.nd rfl (Or.inl rfl) (pe_cl c_seal_of hr (by decide) rfl (pa_cons (pv 8) (pa_cons (pe_ix (r := rIxT K) ix_tup (pv 5) pe_int (fun _ _ => rfl)) (pa_cons (pe_ix (r := rIxT K) ix_tup (pv 5) pe_int (fun _ _ => rfl)) (pa_cons (pe_ix (r := rIxT K) ix_tup (pv 5) pe_int (fun _ _ => rfl)) (pa_cons (pe_ix (r := rIxT K) ix_tup (pv 5) pe_int (fun _ _ => rfl)) pa_nil)))))))
      (pss_cons (ps_if (PW.pt (pw_or (pt_not (pt_val (pe_cl c__law_is_int hr (by decide) rfl (pa_cons (pv 9) pa_nil)))) (pw_or1 (pt_cmpR op_ne (pv 9) (pe_cl c__law_seal hr (by decide) rfl (pa_cons (pv 8) (pa_cons (pe_ix (r := rIxT K) ix_tup (pv 5) pe_int (fun _ _ => rfl)) (pa_cons (pe_ix (r := rIxT K) ix_tup (pv 5) pe_int (fun _ _ => rfl)) (pa_cons (pe_ix (r := rIxT K) ix_tup (pv 5) pe_int (fun _ _ => rfl)) (pa_cons (pe_ix (r := rIxT K) ix_tup (pv 5) pe_int (fun _ _ => rfl)) pa_nil)))))) (nomark _))))) (pss_one (ps_ret pe_bl)) pss_nil)
      (pss_cons (ps_if (pt_cmpR op_notBl (pe_cl c_holds hr (by decide) rfl (pa_cons (pv 7) (pa_cons (pe_ix (r := rIxT K) ix_tup (pv 5) pe_int (fun _ _ => rfl)) (pa_cons (pe_ix (r := rIxT K) ix_tup (pv 5) pe_int (fun _ _ => rfl)) (pa_cons (pe_ix (r := rIxT K) ix_tup (pv 5) pe_int (fun _ _ => rfl)) (pa_cons (pe_ix (r := rIxT K) ix_tup (pv 5) pe_int (fun _ _ => rfl)) (pa_cons (pv 9) pa_nil))))))) pe_bl (nomark _)) (pss_one (ps_ret pe_bl)) pss_nil)
      (pss_cons (ps_set (i := 10) sc_law.nd rfl (Or.inl rfl) (pe_lst (pa_cons (pe_op op_add (pv 9) (pv 2)) (pa_cons (pe_op op_sub (pv 9) (pv 2)) (pa_cons (pe_op op_mod (pe_callTy (T := "int") c_int (by rfl) T.b_int (by decide +kernel) (pa_cons (pe_op op_add (pv 9) pe_int) pa_nil)) (pv 2)) (pa_cons (pe_op op_sub (pv 2) (pv 9)) (pa_cons (pe_op op_sub (pv 2) pe_int) (pa_cons (pv 2) (pa_cons pe_int (pa_cons (pe_un un_neg pe_int) (pa_cons pe_int pa_nil)))))))))))
      (pss_cons (ps_expr (pe_bmK (K := K) rfl PySem.F.plainAttrs_list PySem.F.slot_list_append PySem.F.type_list_append mt_append (pv 10) (pa_cons (pe_cl c__law_seal hr (by decide) rfl (pa_cons (pv 8) (pa_cons (pe_ix (r := rIxT K) ix_tup (pv 6) pe_int (fun _ _ => rfl)) (pa_cons (pe_ix (r := rIxT K) ix_tup (pv 6) pe_int (fun _ _ => rfl)) (pa_cons (pe_ix (r := rIxT K) ix_tup (pv 6) pe_int (fun _ _ => rfl)) (pa_cons (pe_ix (r := rIxT K) ix_tup (pv 6) pe_int (fun _ _ => rfl)) pa_nil)))))) pa_nil)))
      (pss_cons (ps_for PassesOwn.never rfl (pi_list (pv 10)) (pg_name (i := 11) sc_law.nd rfl (Or.inl rfl)) (pss_one (ps_if (pt_not (pt_val (pe_cl c__law_is_told hr (by decide) rfl (pa_cons (pv 7) (pa_cons (pv 5) (pa_cons (pv 11) pa_nil)))))) (pss_one (ps_ret pe_bl)) pss_nil)))
      (pss_cons (ps_for PassesOwn.never rfl (pi_list (pe_op op_cat (pe_op op_cat (pe_cl c__law_same_numbers hr (by decide) rfl (pa_cons (pv 5) pa_nil)) (pe_cl c__law_near_rows hr (by decide) rfl (pa_cons (pv 1) (pa_cons (pv 5) pa_nil)))) (pe_lst (pa_cons (pv 6) pa_nil)))) (pg_name (i := 12) sc_law.nd rfl (Or.inl rfl)) (pss_one (ps_if (pt_not (pt_val (pe_cl c__law_is_told hr (by decide) rfl (pa_cons (pv 7) (pa_cons (pv 12) (pa_cons (pv 9) pa_nil)))))) (pss_one (ps_ret pe_bl)) pss_nil)))
      (pss_cons (ps_set (i := 13) sc_law.nd rfl (Or.inl rfl) (pe_tup (pa_cons (pe_ix (r := rIxT K) ix_tup (pv 5) pe_int (fun _ _ => rfl)) (pa_cons (pe_ix (r := rIxT K) ix_tup (pv 5) pe_int (fun _ _ => rfl)) (pa_cons (pe_ix (r := rIxT K) ix_tup (pv 5) pe_int (fun _ _ => rfl)) (pa_cons (pe_op op_add (pe_op op_shl pe_int pe_int) (pe_cl c__law_draw hr (by decide) rfl (pa_cons (pv 1) (pa_cons pe_int pa_nil)))) pa_nil))))))
      (pss_cons (ps_if (pt_not (pt_val (pe_cl c__law_is_told hr (by decide) rfl (pa_cons (pv 7) (pa_cons (pv 13) (pa_cons (pe_cl c__law_seal hr (by decide) rfl (pa_cons (pv 8) (pa_cons (pe_ix (r := rIxT K) ix_tup (pv 13) pe_int (fun _ _ => rfl)) (pa_cons (pe_ix (r := rIxT K) ix_tup (pv 13) pe_int (fun _ _ => rfl)) (pa_cons (pe_ix (r := rIxT K) ix_tup (pv 13) pe_int (fun _ _ => rfl)) (pa_cons (pe_ix (r := rIxT K) ix_tup (pv 13) pe_int (fun _ _ => rfl)) pa_nil)))))) pa_nil)))))) (pss_one (ps_ret pe_bl)) pss_nil)
      (pss_cons (ps_if (pt_not (pt_val (pe_cl c__law_is_told hr (by decide) rfl (pa_cons (pv 7) (pa_cons (pe_tup (pa_cons pe_int (pa_cons pe_int (pa_cons pe_int (pa_cons (pe_un un_neg pe_int) pa_nil))))) (pa_cons pe_int pa_nil)))))) (pss_one (ps_ret pe_bl)) pss_nil)
      (pss_cons (ps_for PassesOwn.never rfl (pi_tup (pe_op (r := rCatA K) op_catA (pv 3) (pv 4))) (pg_name (i := 14) sc_law.nd rfl (Or.inl rfl)) (pss_one (ps_if (pt_not (pt_val (pe_cl c__law_is_told hr (by decide) rfl (pa_cons (pe_ix (r := rIxT K) ix_tup (pv 14) pe_int (fun _ _ => rfl)) (pa_cons (pv 5) (pa_cons (pv 9) pa_nil)))))) (pss_one (ps_ret pe_bl)) pss_nil)))
      (pss_cons (ps_if (pt_val (pe_cl c__law_odd_things_hold hr (by decide) rfl (pa_cons (pv 7) (pa_cons (pv 5) (pa_cons (pv 9) pa_nil))))) (pss_one (ps_ret pe_bl)) pss_nil)
      (pss_one (ps_ret (pe_and (pe_cl c__law_is_told hr (by decide) rfl (pa_cons (pv 7) (pa_cons (pv 5) (pa_cons (pv 9) pa_nil)))) (pe_one (pe_cmpR op_eq (pe_cl c_seal_of hr (by decide) rfl (pa_cons (pv 8) (pa_cons (pe_ix (r := rIxT K) ix_tup (pv 5) pe_int (fun _ _ => rfl)) (pa_cons (pe_ix (r := rIxT K) ix_tup (pv 5) pe_int (fun _ _ => rfl)) (pa_cons (pe_ix (r := rIxT K) ix_tup (pv 5) pe_int (fun _ _ => rfl)) (pa_cons (pe_ix (r := rIxT K) ix_tup (pv 5) pe_int (fun _ _ => rfl)) pa_nil)))))) (pv 9) (nomark _))))))))))))))))))))))))), ?_⟩
    try dsimp only [cxOf, Cx.nox, Cx.wish]
    refine st_of (σ' := [some _, none, none, none, none, none, none, none, none, none, none, none, none, none, none]) rfl ?_
    wtm_at "jw"
    refine ⟨a, ns, rfl, hS, hl, fun p c H0 s0 hp hc d0 => ?_⟩
    wtm_at "jw"
    refine ⟨p, c, _, rfl, d0, by decide, by decide, fun z1 H1 z10 z11 d1 => ?_⟩
    wtm_at "jw"
    refine ⟨z1, rfl, z10, z11, fun dk rows1 H2 s2 p2 len2 c2 => ?_⟩
    have D2 := d1.same s2
    wtm_at "jw"
    refine ⟨p, c, _, rfl, D2.at_, by decide, by decide, fun z2 H3 z20 z21 d3 => ?_⟩
    have p3 := p2.tps (d3.tps D2.at_)
    wtm_at "jw"
    refine ⟨z2, rfl, z20, z21, fun ot rows2 H4 s4 p4 len4 c4 => ?_⟩
    have p4' := p3.same s4
    have D4 := d3.same s4
    wtm_at "jw"
    refine ⟨p, c, rfl, D4.at_, fun r kk ss tt vv H5 d5 q5 k0 k1 s0' s1' t0 t1 v0 v1 => ?_⟩
    have p5 := p4'.tps (d5.tps D4.at_)
    have o5 := p4.tps (d5.tps D4.at_)
    wtm_at "jw"
    refine ⟨p, c, rfl, d5.at_, fun r2 k2 ss2 t2 v2 H6 d6 q6 _ _ _ _ _ _ _ _ => ?_⟩
    have p6 := p5.tps (d6.tps d5.at_)
    have o6 := o5.tps (d6.tps d5.at_)
    have D6 := d6.at_
    have hr6 : H6 r = some (.tup [.int kk, .int ss, .int tt, .int vv]) := ((d6.tps d5.at_) r).1 _ q5
    have hr26 : H6 r2 = some (.tup [.int k2, .int ss2, .int t2, .int v2]) := q6
    obtain ⟨rs1, hdk, w1⟩ := id p6
    obtain ⟨rs2, hot, w2⟩ := id o6
    obtain ⟨x, ex, hx, ex2⟩ := at_lt (xs := rs1.map V.ref) s0' (by rw [List.length_map, w1.1]; omega)
    obtain ⟨cr, pr, rfl, _, epr, hcr, _⟩ := w1.at ex2
    obtain ⟨l0, l1, c0, c1, hcard⟩ := c2 pr (List.mem_of_getElem? epr)
    obtain ⟨lk, sc⟩ := pr
    simp only at l0 l1 c0 c1 hcard hcr
    wtm_at "jw"
    refine ⟨sc, kk, ss, tt, vv, rfl, by omega, by omega, ?_⟩
    wtm_at "jw"
    refine ⟨_, rfl, ?_⟩
    wtm_at "jw"
    refine ⟨sc, kk, ss, tt, vv, rfl, by omega, by omega, ?_⟩
    wtm_at "jw"
    refine c_noN rfl ?_
    wtm_at "jw"
    refine ⟨lk, _, _, _, _, _, rfl, by omega, by omega, .inl ⟨_, rfl⟩, .inl ⟨_, rfl⟩, .inl ⟨_, rfl⟩, .inl ⟨_, rfl⟩, .inl ⟨_, rfl⟩, fun k' s' t' v' e' h1 h2 h3 h4 h5 => ?_, fun h => absurd ?_ h⟩
    rotate_left
    · intro x hx
      simp only [List.mem_cons, List.not_mem_nil, or_false] at hx
      rcases hx with h | h | h | h | h <;> exact ⟨_, h⟩
    cases h1; cases h2; cases h3; cases h4; cases h5
    rw [hold_true hcard k0 k1 s0' s1' t0 t1 v0 v1]
    wtm_at "jw"
    refine i_notB ?_
    wtm_at "jw"
    refine c_noN rfl ?_
    wtm_at "jw"
    intro sq hsq
    obtain ⟨zs, hzs⟩ : ∃ zs : List V, zs = [V.int (num kk ss tt vv * sc % 2305843009213693951 + (2 ^ Int.toNat 61 - 1)), V.int (num kk ss tt vv * sc % 2305843009213693951 - (2 ^ Int.toNat 61 - 1)), V.int ((num kk ss tt vv * sc % 2305843009213693951 + 1) % (2 ^ Int.toNat 61 - 1)), V.int (2 ^ Int.toNat 61 - 1 - num kk ss tt vv * sc % 2305843009213693951), V.int (2 ^ Int.toNat 61 - 1 - 1), V.int (2 ^ Int.toNat 61 - 1), V.int 0, V.int (-1), V.int 1] := ⟨_, rfl⟩
    rw [← hzs]
    have hzi : Ints zs := fun x hx => by
      subst hzs
      simp only [List.mem_cons, List.not_mem_nil, or_false] at hx
      rcases hx with h | h | h | h | h | h | h | h | h <;> exact ⟨_, h⟩
    have hzl : zs.length < sizeLine := small1000 (by rw [hzs]; simp)
    have s7 := same_new (o := .lst zs) hsq
    have hr27 := s7 _ _ hr26
    have hr7 := s7 _ _ hr6
    wtm_at "jw"
    refine ⟨sc, k2, ss2, t2, v2, rfl, by omega, by omega, ?_⟩
    wtm_at "jw"
    have s8 := put_same (o := .lst (zs ++ [V.int (num k2 ss2 t2 v2 * sc % 2305843009213693951)])) s7 hsq
    refine f_list (xs := zs ++ [V.int (num k2 ss2 t2 v2 * sc % 2305843009213693951)]) (fun i σ H' => Same H6 H' ∧ H' sq = some (.lst (zs ++ [V.int (num k2 ss2 t2 v2 * sc % 2305843009213693951)])) ∧ ∃ v1, σ = [some (.ref a), some (.ref p), some (.int (2 ^ Int.toNat 61 - 1)), some (.ref dk), some (.ref ot), some (.ref r), some (.ref r2), some (.int lk), some (.int sc), some (.int (num kk ss tt vv * sc % 2305843009213693951)), some (.ref sq), v1, none, none, none])
      ⟨s8, upd_same, none, rfl⟩ (fun i σ H' _ h => SqL.of h.2.1) (fun i x σ H' hi h => ?_) (fun σ H' h => ?_)
    · obtain ⟨s9, h9, v1, rfl⟩ := h
      obtain ⟨z, rfl⟩ : ∃ z : Int, x = .int z := by
        rcases List.mem_append.mp (List.mem_of_getElem? hi) with m | m
        · exact hzi x m
        · rcases List.mem_cons.mp m with rfl | m
          · exact ⟨_, rfl⟩
          · cases m
      wtm_at "jw"
      refine ⟨lk, r, kk, ss, tt, vv, z, rfl, by omega, by omega, s9 _ _ hr6, ?_⟩
      wtm_at "jw"
      exact ⟨s9, h9, _, rfl⟩
    · obtain ⟨s9, h9, v1, rfl⟩ := h
      have D9 := D6.same s9
      have hr9 := s9 _ _ hr6
      have hr29 := s9 _ _ hr26
      wtm_at "jw"
      refine ⟨r, kk, ss, tt, vv, rfl, hr9, fun E1 H10 s10 l10 n10 => ?_⟩
      have D10 := D9.same s10
      wtm_at "jw"
      refine ⟨p, c, r, kk, ss, tt, vv, rfl, D10, s10 _ _ hr9, fun E2 H11 d11 l11 n11 => ?_⟩
      have nE1 := D9.ne_none n10
      obtain ⟨xs1, x1, x2, x3⟩ := l10.drew D10 d11 nE1
      obtain ⟨ys1, y1, y2, y3⟩ := l11
      have hr11 := ((d11.tps D10) r).1 _ (s10 _ _ hr9)
      have hr211 := ((d11.tps D10) r2).1 _ (s10 _ _ hr29)
      have t69 := Tps.of (s9.trans s10)
      have t11 := t69.trans (d11.tps D10)
      refine i_cat x1 y1 (by rw [sizeLine_eq]; omega) fun E3 n3 => ?_
      have t12 := t11.trans (Tps.of (same_new (o := .lst (xs1 ++ ys1)) n3))
      wtm_at "jw"
      intro E4 n4
      have t13 := t12.trans (Tps.of (same_new (o := .lst [V.ref r2]) n4))
      have d13 := (d11.new (o := .lst (xs1 ++ ys1)) n3).new (o := .lst [V.ref r2]) n4
      refine i_cat (same_new n4 _ _ upd_same) upd_same (by rw [sizeLine_eq, List.length_append]; simp; omega) fun E5 n5 => ?_
      have t14 := t13.trans (Tps.of (same_new (o := .lst (xs1 ++ ys1 ++ [V.ref r2])) n5))
      have d14 := d13.new (o := .lst (xs1 ++ ys1 ++ [V.ref r2])) n5
      have hE5 : (upd (upd (upd H11 E3 (.lst (xs1 ++ ys1))) E4 (.lst [V.ref r2])) E5 (.lst (xs1 ++ ys1 ++ [V.ref r2]))) E5 = some (.lst (xs1 ++ ys1 ++ [V.ref r2])) := upd_same
      have tt4 : Tps H11 (upd (upd (upd H11 E3 (.lst (xs1 ++ ys1))) E4 (.lst [V.ref r2])) E5 (.lst (xs1 ++ ys1 ++ [V.ref r2]))) := ((Tps.of (same_new n3)).trans (Tps.of (same_new n4))).trans (Tps.of (same_new n5))
      have all4 : ∀ x ∈ xs1 ++ ys1 ++ [V.ref r2], R4 (upd (upd (upd H11 E3 (.lst (xs1 ++ ys1))) E4 (.lst [V.ref r2])) E5 (.lst (xs1 ++ ys1 ++ [V.ref r2]))) x := fun x hx => by
        rcases List.mem_append.mp hx with hx | hx
        · rcases List.mem_append.mp hx with hx | hx
          · exact (x2 x hx).tps tt4
          · exact (y2 x hx).tps tt4
        · rcases List.mem_cons.mp hx with rfl | hx
          · exact R4.tps (H := H11) ⟨r2, k2, ss2, t2, v2, rfl, hr211⟩ tt4
          · cases hx
      generalize (upd (upd (upd H11 E3 (.lst (xs1 ++ ys1))) E4 (.lst [V.ref r2])) E5 (.lst (xs1 ++ ys1 ++ [V.ref r2]))) = H15 at t14 d14 hE5 all4 ⊢
      wtm_at "jw"
      refine f_list (xs := xs1 ++ ys1 ++ [V.ref r2]) (fun i σ H' => H' = H15 ∧ ∃ v2 v3 : Option V, σ = [some (.ref a), some (.ref p), some (.int (2 ^ Int.toNat 61 - 1)), some (.ref dk), some (.ref ot), some (.ref r), some (.ref r2), some (.int lk), some (.int sc), some (.int (num kk ss tt vv * sc % 2305843009213693951)), some (.ref sq), v2, v3, none, none]) ⟨rfl, _, _, rfl⟩ (fun i σ H' _ h => SqL.of (by rw [h.1]; exact hE5)) (fun i x σ H' hi h => ?_) (fun σ H' h => ?_)
      · obtain ⟨rfl, v2, v3, rfl⟩ := h
        obtain ⟨u, k', s', t', v', rfl, q4⟩ := all4 x (List.mem_of_getElem? hi)
        wtm_at "jw"
        refine ⟨lk, u, k', s', t', v', _, rfl, by omega, by omega, q4, ?_⟩
        wtm_at "jw"
        exact ⟨rfl, _, _, rfl⟩
      · obtain ⟨rfl, v2, v3, rfl⟩ := h
        have hr15 := (t14 r).1 _ hr6
        wtm_at "jw"
        refine ⟨p, c, _, rfl, d14.at_, by decide, by decide, fun g H16 g0 g1 d16 => ?_⟩
        have t16 := t14.trans (d16.tps d14.at_)
        wtm_at "jw"
        intro u hu
        wtm_at "jw"
        refine ⟨sc, kk, ss, tt, _, rfl, by omega, by omega, ?_⟩
        wtm_at "jw"
        refine ⟨lk, u, kk, ss, tt, _, _, rfl, by omega, by omega, upd_same, ?_⟩
        wtm_at "jw"
        intro u2 hu2
        wtm_at "jw"
        refine ⟨lk, u2, 2, 3, 63, -1, 0, rfl, by omega, by omega, upd_same, ?_⟩
        have t17 := (t16.trans (Tps.of (same_new (o := .tup [V.int kk, V.int ss, V.int tt, V.int (1 * 2 ^ Int.toNat 40 + g)]) hu))).trans (Tps.of (same_new (o := .tup [V.int 2, V.int 3, V.int 63, V.int (-1)]) hu2))
        have hd17 := (t17 dk).1 _ hdk
        have ho17 := (t17 ot).1 _ hot
        wtm_at "jw"
        refine i_catA (SqT.of hd17) (SqT.of ho17) (by rw [sizeLine_eq, List.length_map, List.length_map, w1.1, w2.1]; omega) fun w H18 s18 q18 => ?_
        have t18 := t17.trans (Tps.of s18)
        have hr18 := (t18 r).1 _ hr6
        wtm_at "jw"
        refine f_tup (xs := rs1.map V.ref ++ rs2.map V.ref) (fun i σ H' => H' = H18 ∧ ∃ v2 v3 v4 v5 : Option V, σ = [some (.ref a), some (.ref p), some (.int (2 ^ Int.toNat 61 - 1)), some (.ref dk), some (.ref ot), some (.ref r), some (.ref r2), some (.int lk), some (.int sc), some (.int (num kk ss tt vv * sc % 2305843009213693951)), some (.ref sq), v2, v3, v4, v5]) ⟨rfl, _, _, _, _, rfl⟩ (fun i σ H' _ h => by rw [h.1]; exact q18) (fun i x σ H' hi h => ?_) (fun σ H' h => ?_)
        · obtain ⟨rfl, v2, v3, v4, v5, rfl⟩ := h
          obtain ⟨cr', pr', rfl, hcr', b0, b1⟩ : ∃ (cr' : Addr) (pr' : Int × Int), x = .ref cr' ∧ H' cr' = some (.tup [.int pr'.1, .int pr'.2]) ∧ 0 ≤ pr'.1 ∧ pr'.1 < 2305843009213693951 := by
            rcases List.mem_append.mp (List.mem_of_getElem? hi) with m | m
            · obtain ⟨j, hj⟩ := List.mem_iff_getElem?.mp m
              obtain ⟨cr', pr', rfl, _, epr', hcr', _⟩ := w1.at hj
              have hc := c2 pr' (List.mem_of_getElem? epr')
              exact ⟨cr', pr', rfl, (t18 cr').1 _ hcr', hc.1, hc.2.1⟩
            · obtain ⟨j, hj⟩ := List.mem_iff_getElem?.mp m
              obtain ⟨cr', pr', rfl, _, epr', hcr', _⟩ := w2.at hj
              have hc := c4 pr' (List.mem_of_getElem? epr')
              exact ⟨cr', pr', rfl, (t18 cr').1 _ hcr', hc.1, hc.2.1⟩
          wtm_at "jw"
          refine ⟨pr'.1, r, kk, ss, tt, vv, _, rfl, by omega, by omega, hr18, ?_⟩
          wtm_at "jw"
          exact ⟨rfl, _, _, _, _, rfl⟩
        · obtain ⟨rfl, v2, v3, v4, v5, rfl⟩ := h
          wtm_at "jw"
          refine ⟨lk, r, kk, ss, tt, vv, _, rfl, by omega, by omega, hr18, fun H19 s19 => ?_⟩
          have hr19 := s19 _ _ hr18
          wtm_at "jw"
          refine ⟨lk, r, kk, ss, tt, vv, _, rfl, by omega, by omega, hr19, ?_⟩
          wtm_at "jw"
          refine ⟨sc, kk, ss, tt, vv, rfl, by omega, by omega, ?_⟩
          wtm_at "jw"
          rw [decide_eq_true rfl]
          exact k _
theorem law_hands {K : PySem.W.Frag} {H : Hp} (a : Addr) (ns : List Int) (hl : ns.length ≤ 63) (hb : ∀ z ∈ ns, Builtin.Int.intBits z ≤ 1048576) (hS : SqL K H a (ns.map V.int)) :
    sp_law K [.ref a] H (fun v _ => v = .bl true) fun _ _ _ => False := ⟨a, ns, rfl, hS, hl, fun _ => rfl⟩
theorem all_mk {l : PySem.W.OpenLaw} {w : World} {K : PySem.W.Frag} {h : Heap} {mg : Str → Option Value} {fa : Addr} (X : K.In h) (G : h.Ns mainGlobals mg) (hfa : mg "law" = some (.ref fa))
    {f__law_begin : Addr} {od__law_begin an__law_begin : Option Addr} {sl__law_begin : Array (Option Value)} {oc__law_begin kV__law_begin dc__law_begin pm__law_begin cd__law_begin ct__law_begin : Value}
    {f__law_cards : Addr} {od__law_cards an__law_cards : Option Addr} {sl__law_cards : Array (Option Value)} {oc__law_cards kV__law_cards dc__law_cards pm__law_cards cd__law_cards ct__law_cards : Value}
    {f__law_draw : Addr} {od__law_draw an__law_draw : Option Addr} {sl__law_draw : Array (Option Value)} {oc__law_draw kV__law_draw dc__law_draw pm__law_draw cd__law_draw ct__law_draw : Value}
    {f__law_pick : Addr} {od__law_pick an__law_pick : Option Addr} {sl__law_pick : Array (Option Value)} {oc__law_pick kV__law_pick dc__law_pick pm__law_pick cd__law_pick ct__law_pick : Value}
    {f__law_statement_row : Addr} {od__law_statement_row an__law_statement_row : Option Addr} {sl__law_statement_row : Array (Option Value)} {oc__law_statement_row kV__law_statement_row dc__law_statement_row pm__law_statement_row cd__law_statement_row ct__law_statement_row : Value}
    {f_number_of : Addr} {od_number_of an_number_of : Option Addr} {sl_number_of : Array (Option Value)} {oc_number_of kV_number_of dc_number_of pm_number_of cd_number_of ct_number_of : Value}
    {f_seal_of : Addr} {od_seal_of an_seal_of : Option Addr} {sl_seal_of : Array (Option Value)} {oc_seal_of kV_seal_of dc_seal_of pm_seal_of cd_seal_of ct_seal_of : Value}
    {f_is_int : Addr} {od_is_int an_is_int : Option Addr} {sl_is_int : Array (Option Value)} {oc_is_int kV_is_int dc_is_int pm_is_int cd_is_int ct_is_int : Value}
    {f_is_between : Addr} {od_is_between an_is_between : Option Addr} {sl_is_between : Array (Option Value)} {oc_is_between kV_is_between dc_is_between pm_is_between cd_is_between ct_is_between : Value}
    {f_holds : Addr} {od_holds an_holds : Option Addr} {sl_holds : Array (Option Value)} {oc_holds kV_holds dc_holds pm_holds cd_holds ct_holds : Value}
    {f__law_odd_things_hold : Addr} {od__law_odd_things_hold an__law_odd_things_hold : Option Addr} {sl__law_odd_things_hold : Array (Option Value)} {oc__law_odd_things_hold kV__law_odd_things_hold dc__law_odd_things_hold pm__law_odd_things_hold cd__law_odd_things_hold ct__law_odd_things_hold : Value}
    {f__law_seal : Addr} {od__law_seal an__law_seal : Option Addr} {sl__law_seal : Array (Option Value)} {oc__law_seal kV__law_seal dc__law_seal pm__law_seal cd__law_seal ct__law_seal : Value}
    {f__law_due_holds : Addr} {od__law_due_holds an__law_due_holds : Option Addr} {sl__law_due_holds : Array (Option Value)} {oc__law_due_holds kV__law_due_holds dc__law_due_holds pm__law_due_holds cd__law_due_holds ct__law_due_holds : Value}
    {f__law_is_told : Addr} {od__law_is_told an__law_is_told : Option Addr} {sl__law_is_told : Array (Option Value)} {oc__law_is_told kV__law_is_told dc__law_is_told pm__law_is_told cd__law_is_told ct__law_is_told : Value}
    {f__law_is_int : Addr} {od__law_is_int an__law_is_int : Option Addr} {sl__law_is_int : Array (Option Value)} {oc__law_is_int kV__law_is_int dc__law_is_int pm__law_is_int cd__law_is_int ct__law_is_int : Value}
    {f__law_same_numbers : Addr} {od__law_same_numbers an__law_same_numbers : Option Addr} {sl__law_same_numbers : Array (Option Value)} {oc__law_same_numbers kV__law_same_numbers dc__law_same_numbers pm__law_same_numbers cd__law_same_numbers ct__law_same_numbers : Value}
    {f__law_near_rows : Addr} {od__law_near_rows an__law_near_rows : Option Addr} {sl__law_near_rows : Array (Option Value)} {oc__law_near_rows kV__law_near_rows dc__law_near_rows pm__law_near_rows cd__law_near_rows ct__law_near_rows : Value}
    {f_law : Addr} {od_law an_law : Option Addr} {sl_law : Array (Option Value)} {oc_law kV_law dc_law pm_law cd_law ct_law : Value}
    (a__law_begin : PySem.W.nsIn K mainGlobals "_law_begin" = some (some (.ref f__law_begin))) (l__law_begin : K.lookup f__law_begin = some ⟨oc__law_begin, od__law_begin, .func (PySem.W.fnOf "_law_begin" "_law_begin" (defArgs s__law_begin) (defBody s__law_begin) (defScope s__law_begin) .none kV__law_begin dc__law_begin pm__law_begin an__law_begin cd__law_begin ct__law_begin), sl__law_begin⟩) (c__law_begin : PySem.W.codeIn K cd__law_begin "_law_begin" = true) (k__law_begin : PySem.W.keepIn K (.ref f__law_begin) = true)
    (a__law_cards : PySem.W.nsIn K mainGlobals "_law_cards" = some (some (.ref f__law_cards))) (l__law_cards : K.lookup f__law_cards = some ⟨oc__law_cards, od__law_cards, .func (PySem.W.fnOf "_law_cards" "_law_cards" (defArgs s__law_cards) (defBody s__law_cards) (defScope s__law_cards) .none kV__law_cards dc__law_cards pm__law_cards an__law_cards cd__law_cards ct__law_cards), sl__law_cards⟩) (c__law_cards : PySem.W.codeIn K cd__law_cards "_law_cards" = true) (k__law_cards : PySem.W.keepIn K (.ref f__law_cards) = true)
    (a__law_draw : PySem.W.nsIn K mainGlobals "_law_draw" = some (some (.ref f__law_draw))) (l__law_draw : K.lookup f__law_draw = some ⟨oc__law_draw, od__law_draw, .func (PySem.W.fnOf "_law_draw" "_law_draw" (defArgs s__law_draw) (defBody s__law_draw) (defScope s__law_draw) .none kV__law_draw dc__law_draw pm__law_draw an__law_draw cd__law_draw ct__law_draw), sl__law_draw⟩) (c__law_draw : PySem.W.codeIn K cd__law_draw "_law_draw" = true) (k__law_draw : PySem.W.keepIn K (.ref f__law_draw) = true)
    (a__law_pick : PySem.W.nsIn K mainGlobals "_law_pick" = some (some (.ref f__law_pick))) (l__law_pick : K.lookup f__law_pick = some ⟨oc__law_pick, od__law_pick, .func (PySem.W.fnOf "_law_pick" "_law_pick" (defArgs s__law_pick) (defBody s__law_pick) (defScope s__law_pick) .none kV__law_pick dc__law_pick pm__law_pick an__law_pick cd__law_pick ct__law_pick), sl__law_pick⟩) (c__law_pick : PySem.W.codeIn K cd__law_pick "_law_pick" = true) (k__law_pick : PySem.W.keepIn K (.ref f__law_pick) = true)
    (a__law_statement_row : PySem.W.nsIn K mainGlobals "_law_statement_row" = some (some (.ref f__law_statement_row))) (l__law_statement_row : K.lookup f__law_statement_row = some ⟨oc__law_statement_row, od__law_statement_row, .func (PySem.W.fnOf "_law_statement_row" "_law_statement_row" (defArgs s__law_statement_row) (defBody s__law_statement_row) (defScope s__law_statement_row) .none kV__law_statement_row dc__law_statement_row pm__law_statement_row an__law_statement_row cd__law_statement_row ct__law_statement_row), sl__law_statement_row⟩) (c__law_statement_row : PySem.W.codeIn K cd__law_statement_row "_law_statement_row" = true) (k__law_statement_row : PySem.W.keepIn K (.ref f__law_statement_row) = true)
    (a_number_of : PySem.W.nsIn K mainGlobals "number_of" = some (some (.ref f_number_of))) (l_number_of : K.lookup f_number_of = some ⟨oc_number_of, od_number_of, .func (PySem.W.fnOf "number_of" "number_of" (defArgs s_number_of) (defBody s_number_of) (defScope s_number_of) .none kV_number_of dc_number_of pm_number_of an_number_of cd_number_of ct_number_of), sl_number_of⟩) (c_number_of : PySem.W.codeIn K cd_number_of "number_of" = true) (k_number_of : PySem.W.keepIn K (.ref f_number_of) = true)
    (a_seal_of : PySem.W.nsIn K mainGlobals "seal_of" = some (some (.ref f_seal_of))) (l_seal_of : K.lookup f_seal_of = some ⟨oc_seal_of, od_seal_of, .func (PySem.W.fnOf "seal_of" "seal_of" (defArgs s_seal_of) (defBody s_seal_of) (defScope s_seal_of) .none kV_seal_of dc_seal_of pm_seal_of an_seal_of cd_seal_of ct_seal_of), sl_seal_of⟩) (c_seal_of : PySem.W.codeIn K cd_seal_of "seal_of" = true) (k_seal_of : PySem.W.keepIn K (.ref f_seal_of) = true)
    (a_is_int : PySem.W.nsIn K mainGlobals "is_int" = some (some (.ref f_is_int))) (l_is_int : K.lookup f_is_int = some ⟨oc_is_int, od_is_int, .func (PySem.W.fnOf "is_int" "is_int" (defArgs s_is_int) (defBody s_is_int) (defScope s_is_int) .none kV_is_int dc_is_int pm_is_int an_is_int cd_is_int ct_is_int), sl_is_int⟩) (c_is_int : PySem.W.codeIn K cd_is_int "is_int" = true) (k_is_int : PySem.W.keepIn K (.ref f_is_int) = true)
    (a_is_between : PySem.W.nsIn K mainGlobals "is_between" = some (some (.ref f_is_between))) (l_is_between : K.lookup f_is_between = some ⟨oc_is_between, od_is_between, .func (PySem.W.fnOf "is_between" "is_between" (defArgs s_is_between) (defBody s_is_between) (defScope s_is_between) .none kV_is_between dc_is_between pm_is_between an_is_between cd_is_between ct_is_between), sl_is_between⟩) (c_is_between : PySem.W.codeIn K cd_is_between "is_between" = true) (k_is_between : PySem.W.keepIn K (.ref f_is_between) = true)
    (a_holds : PySem.W.nsIn K mainGlobals "holds" = some (some (.ref f_holds))) (l_holds : K.lookup f_holds = some ⟨oc_holds, od_holds, .func (PySem.W.fnOf "holds" "holds" (defArgs s_holds) (defBody s_holds) (defScope s_holds) .none kV_holds dc_holds pm_holds an_holds cd_holds ct_holds), sl_holds⟩) (c_holds : PySem.W.codeIn K cd_holds "holds" = true) (k_holds : PySem.W.keepIn K (.ref f_holds) = true)
    (a__law_odd_things_hold : PySem.W.nsIn K mainGlobals "_law_odd_things_hold" = some (some (.ref f__law_odd_things_hold))) (l__law_odd_things_hold : K.lookup f__law_odd_things_hold = some ⟨oc__law_odd_things_hold, od__law_odd_things_hold, .func (PySem.W.fnOf "_law_odd_things_hold" "_law_odd_things_hold" (defArgs s__law_odd_things_hold) (defBody s__law_odd_things_hold) (defScope s__law_odd_things_hold) .none kV__law_odd_things_hold dc__law_odd_things_hold pm__law_odd_things_hold an__law_odd_things_hold cd__law_odd_things_hold ct__law_odd_things_hold), sl__law_odd_things_hold⟩) (c__law_odd_things_hold : PySem.W.codeIn K cd__law_odd_things_hold "_law_odd_things_hold" = true) (k__law_odd_things_hold : PySem.W.keepIn K (.ref f__law_odd_things_hold) = true)
    (a__law_seal : PySem.W.nsIn K mainGlobals "_law_seal" = some (some (.ref f__law_seal))) (l__law_seal : K.lookup f__law_seal = some ⟨oc__law_seal, od__law_seal, .func (PySem.W.fnOf "_law_seal" "_law_seal" (defArgs s__law_seal) (defBody s__law_seal) (defScope s__law_seal) .none kV__law_seal dc__law_seal pm__law_seal an__law_seal cd__law_seal ct__law_seal), sl__law_seal⟩) (c__law_seal : PySem.W.codeIn K cd__law_seal "_law_seal" = true) (k__law_seal : PySem.W.keepIn K (.ref f__law_seal) = true)
    (a__law_due_holds : PySem.W.nsIn K mainGlobals "_law_due_holds" = some (some (.ref f__law_due_holds))) (l__law_due_holds : K.lookup f__law_due_holds = some ⟨oc__law_due_holds, od__law_due_holds, .func (PySem.W.fnOf "_law_due_holds" "_law_due_holds" (defArgs s__law_due_holds) (defBody s__law_due_holds) (defScope s__law_due_holds) .none kV__law_due_holds dc__law_due_holds pm__law_due_holds an__law_due_holds cd__law_due_holds ct__law_due_holds), sl__law_due_holds⟩) (c__law_due_holds : PySem.W.codeIn K cd__law_due_holds "_law_due_holds" = true) (k__law_due_holds : PySem.W.keepIn K (.ref f__law_due_holds) = true)
    (a__law_is_told : PySem.W.nsIn K mainGlobals "_law_is_told" = some (some (.ref f__law_is_told))) (l__law_is_told : K.lookup f__law_is_told = some ⟨oc__law_is_told, od__law_is_told, .func (PySem.W.fnOf "_law_is_told" "_law_is_told" (defArgs s__law_is_told) (defBody s__law_is_told) (defScope s__law_is_told) .none kV__law_is_told dc__law_is_told pm__law_is_told an__law_is_told cd__law_is_told ct__law_is_told), sl__law_is_told⟩) (c__law_is_told : PySem.W.codeIn K cd__law_is_told "_law_is_told" = true) (k__law_is_told : PySem.W.keepIn K (.ref f__law_is_told) = true)
    (a__law_is_int : PySem.W.nsIn K mainGlobals "_law_is_int" = some (some (.ref f__law_is_int))) (l__law_is_int : K.lookup f__law_is_int = some ⟨oc__law_is_int, od__law_is_int, .func (PySem.W.fnOf "_law_is_int" "_law_is_int" (defArgs s__law_is_int) (defBody s__law_is_int) (defScope s__law_is_int) .none kV__law_is_int dc__law_is_int pm__law_is_int an__law_is_int cd__law_is_int ct__law_is_int), sl__law_is_int⟩) (c__law_is_int : PySem.W.codeIn K cd__law_is_int "_law_is_int" = true) (k__law_is_int : PySem.W.keepIn K (.ref f__law_is_int) = true)
    (a__law_same_numbers : PySem.W.nsIn K mainGlobals "_law_same_numbers" = some (some (.ref f__law_same_numbers))) (l__law_same_numbers : K.lookup f__law_same_numbers = some ⟨oc__law_same_numbers, od__law_same_numbers, .func (PySem.W.fnOf "_law_same_numbers" "_law_same_numbers" (defArgs s__law_same_numbers) (defBody s__law_same_numbers) (defScope s__law_same_numbers) .none kV__law_same_numbers dc__law_same_numbers pm__law_same_numbers an__law_same_numbers cd__law_same_numbers ct__law_same_numbers), sl__law_same_numbers⟩) (c__law_same_numbers : PySem.W.codeIn K cd__law_same_numbers "_law_same_numbers" = true) (k__law_same_numbers : PySem.W.keepIn K (.ref f__law_same_numbers) = true)
    (a__law_near_rows : PySem.W.nsIn K mainGlobals "_law_near_rows" = some (some (.ref f__law_near_rows))) (l__law_near_rows : K.lookup f__law_near_rows = some ⟨oc__law_near_rows, od__law_near_rows, .func (PySem.W.fnOf "_law_near_rows" "_law_near_rows" (defArgs s__law_near_rows) (defBody s__law_near_rows) (defScope s__law_near_rows) .none kV__law_near_rows dc__law_near_rows pm__law_near_rows an__law_near_rows cd__law_near_rows ct__law_near_rows), sl__law_near_rows⟩) (c__law_near_rows : PySem.W.codeIn K cd__law_near_rows "_law_near_rows" = true) (k__law_near_rows : PySem.W.keepIn K (.ref f__law_near_rows) = true)
    (a_law : PySem.W.nsIn K mainGlobals "law" = some (some (.ref f_law))) (l_law : K.lookup f_law = some ⟨oc_law, od_law, .func (PySem.W.fnOf "law" "law" (defArgs s_law) (defBody s_law) (defScope s_law) .none kV_law dc_law pm_law an_law cd_law ct_law), sl_law⟩) (c_law : PySem.W.codeIn K cd_law "law" = true) (k_law : PySem.W.keepIn K (.ref f_law) = true)
    (z_int : PySem.W.nsIn K mainGlobals "int" = some none)
    (z_range : PySem.W.nsIn K mainGlobals "range" = some none)
    (z_tuple : PySem.W.nsIn K mainGlobals "tuple" = some none)
    (z_len : PySem.W.nsIn K mainGlobals "len" = some none)
    (z_abs : PySem.W.nsIn K mainGlobals "abs" = some none)
    (z_isinstance : PySem.W.nsIn K mainGlobals "isinstance" = some none)
    (z_bool : PySem.W.nsIn K mainGlobals "bool" = some none)
    {u_MODULUS : Value} (n_MODULUS : PySem.W.nsIn K mainGlobals "MODULUS" = some (some u_MODULUS)) (r_MODULUS : RelV (.int 2305843009213693951) u_MODULUS)
    {u_WORD : Value} (n_WORD : PySem.W.nsIn K mainGlobals "WORD" = some (some u_WORD)) (r_WORD : RelV (.int 0) u_WORD)
    {u_PARCEL : Value} (n_PARCEL : PySem.W.nsIn K mainGlobals "PARCEL" = some (some u_PARCEL)) (r_PARCEL : RelV (.int 2) u_PARCEL)
    {u_MOST_SEAT : Value} (n_MOST_SEAT : PySem.W.nsIn K mainGlobals "MOST_SEAT" = some (some u_MOST_SEAT)) (r_MOST_SEAT : RelV (.int 3) u_MOST_SEAT)
    {u_MOST_TICK : Value} (n_MOST_TICK : PySem.W.nsIn K mainGlobals "MOST_TICK" = some (some u_MOST_TICK)) (r_MOST_TICK : RelV (.int 63) u_MOST_TICK)
    {u_MOST_VALUE : Value} (n_MOST_VALUE : PySem.W.nsIn K mainGlobals "MOST_VALUE" = some (some u_MOST_VALUE)) (r_MOST_VALUE : RelV (.int 1099511627775) u_MOST_VALUE)
    : ∃ fd : FuncData, (∀ (s : Shared) (v : Value), BindsTo s fd ⟨[v], []⟩ [("script", v)]) ∧ ∀ base : Heap, K.In base → base.Ns mainGlobals mg → FnOk l.prog w K mg base CX0 5 fa fd ["script"] (sp_law K) := by
  have e := hfa.symm.trans (PySem.W.mg_of X G a_law)
  cases e
  have T : Txt mg := ⟨PySem.W.mg_none_of X G z_int, PySem.W.mg_none_of X G z_range, PySem.W.mg_none_of X G z_tuple, PySem.W.mg_none_of X G z_len, PySem.W.mg_none_of X G z_abs, PySem.W.mg_none_of X G z_isinstance, PySem.W.mg_none_of X G z_bool, ⟨_, PySem.W.mg_of X G n_MODULUS, r_MODULUS⟩, ⟨_, PySem.W.mg_of X G n_WORD, r_WORD⟩, ⟨_, PySem.W.mg_of X G n_PARCEL, r_PARCEL⟩, ⟨_, PySem.W.mg_of X G n_MOST_SEAT, r_MOST_SEAT⟩, ⟨_, PySem.W.mg_of X G n_MOST_TICK, r_MOST_TICK⟩, ⟨_, PySem.W.mg_of X G n_MOST_VALUE, r_MOST_VALUE⟩⟩
  have F__law_begin := fun_mk (st := s__law_begin) l__law_begin c__law_begin k__law_begin
  have D__law_begin : Df K mg "_law_begin" s__law_begin f__law_begin _ ["script"] := ⟨F__law_begin, PySem.W.mg_of X G a__law_begin, F__law_begin.binds (ps := ["script"]) fun _ _ _ _ _ _ us hl => match us, hl with | [_], _ => rfl⟩
  have F__law_cards := fun_mk (st := s__law_cards) l__law_cards c__law_cards k__law_cards
  have D__law_cards : Df K mg "_law_cards" s__law_cards f__law_cards _ ["seed", "seats"] := ⟨F__law_cards, PySem.W.mg_of X G a__law_cards, F__law_cards.binds (ps := ["seed", "seats"]) fun _ _ _ _ _ _ us hl => match us, hl with | [_, _], _ => rfl⟩
  have F__law_draw := fun_mk (st := s__law_draw) l__law_draw c__law_draw k__law_draw
  have D__law_draw : Df K mg "_law_draw" s__law_draw f__law_draw _ ["d", "many"] := ⟨F__law_draw, PySem.W.mg_of X G a__law_draw, F__law_draw.binds (ps := ["d", "many"]) fun _ _ _ _ _ _ us hl => match us, hl with | [_, _], _ => rfl⟩
  have F__law_pick := fun_mk (st := s__law_pick) l__law_pick c__law_pick k__law_pick
  have D__law_pick : Df K mg "_law_pick" s__law_pick f__law_pick _ ["d", "row"] := ⟨F__law_pick, PySem.W.mg_of X G a__law_pick, F__law_pick.binds (ps := ["d", "row"]) fun _ _ _ _ _ _ us hl => match us, hl with | [_, _], _ => rfl⟩
  have F__law_statement_row := fun_mk (st := s__law_statement_row) l__law_statement_row c__law_statement_row k__law_statement_row
  have D__law_statement_row : Df K mg "_law_statement_row" s__law_statement_row f__law_statement_row _ ["d"] := ⟨F__law_statement_row, PySem.W.mg_of X G a__law_statement_row, F__law_statement_row.binds (ps := ["d"]) fun _ _ _ _ _ _ us hl => match us, hl with | [_], _ => rfl⟩
  have F_number_of := fun_mk (st := s_number_of) l_number_of c_number_of k_number_of
  have D_number_of : Df K mg "number_of" s_number_of f_number_of _ ["kind", "seat", "tick", "value"] := ⟨F_number_of, PySem.W.mg_of X G a_number_of, F_number_of.binds (ps := ["kind", "seat", "tick", "value"]) fun _ _ _ _ _ _ us hl => match us, hl with | [_, _, _, _], _ => rfl⟩
  have F_seal_of := fun_mk (st := s_seal_of) l_seal_of c_seal_of k_seal_of
  have D_seal_of : Df K mg "seal_of" s_seal_of f_seal_of _ ["secret", "kind", "seat", "tick", "value"] := ⟨F_seal_of, PySem.W.mg_of X G a_seal_of, F_seal_of.binds (ps := ["secret", "kind", "seat", "tick", "value"]) fun _ _ _ _ _ _ us hl => match us, hl with | [_, _, _, _, _], _ => rfl⟩
  have F_is_int := fun_mk (st := s_is_int) l_is_int c_is_int k_is_int
  have D_is_int : Df K mg "is_int" s_is_int f_is_int _ ["thing"] := ⟨F_is_int, PySem.W.mg_of X G a_is_int, F_is_int.binds (ps := ["thing"]) fun _ _ _ _ _ _ us hl => match us, hl with | [_], _ => rfl⟩
  have F_is_between := fun_mk (st := s_is_between) l_is_between c_is_between k_is_between
  have D_is_between : Df K mg "is_between" s_is_between f_is_between _ ["thing", "low", "high"] := ⟨F_is_between, PySem.W.mg_of X G a_is_between, F_is_between.binds (ps := ["thing", "low", "high"]) fun _ _ _ _ _ _ us hl => match us, hl with | [_, _, _], _ => rfl⟩
  have F_holds := fun_mk (st := s_holds) l_holds c_holds k_holds
  have D_holds : Df K mg "holds" s_holds f_holds _ ["lock", "kind", "seat", "tick", "value", "seal"] := ⟨F_holds, PySem.W.mg_of X G a_holds, F_holds.binds (ps := ["lock", "kind", "seat", "tick", "value", "seal"]) fun _ _ _ _ _ _ us hl => match us, hl with | [_, _, _, _, _, _], _ => rfl⟩
  have F__law_odd_things_hold := fun_mk (st := s__law_odd_things_hold) l__law_odd_things_hold c__law_odd_things_hold k__law_odd_things_hold
  have D__law_odd_things_hold : Df K mg "_law_odd_things_hold" s__law_odd_things_hold f__law_odd_things_hold _ ["lock", "row", "seal"] := ⟨F__law_odd_things_hold, PySem.W.mg_of X G a__law_odd_things_hold, F__law_odd_things_hold.binds (ps := ["lock", "row", "seal"]) fun _ _ _ _ _ _ us hl => match us, hl with | [_, _, _], _ => rfl⟩
  have F__law_seal := fun_mk (st := s__law_seal) l__law_seal c__law_seal k__law_seal
  have D__law_seal : Df K mg "_law_seal" s__law_seal f__law_seal _ ["secret", "kind", "seat", "tick", "value"] := ⟨F__law_seal, PySem.W.mg_of X G a__law_seal, F__law_seal.binds (ps := ["secret", "kind", "seat", "tick", "value"]) fun _ _ _ _ _ _ us hl => match us, hl with | [_, _, _, _, _], _ => rfl⟩
  have F__law_due_holds := fun_mk (st := s__law_due_holds) l__law_due_holds c__law_due_holds k__law_due_holds
  have D__law_due_holds : Df K mg "_law_due_holds" s__law_due_holds f__law_due_holds _ ["lock", "row", "seal"] := ⟨F__law_due_holds, PySem.W.mg_of X G a__law_due_holds, F__law_due_holds.binds (ps := ["lock", "row", "seal"]) fun _ _ _ _ _ _ us hl => match us, hl with | [_, _, _], _ => rfl⟩
  have F__law_is_told := fun_mk (st := s__law_is_told) l__law_is_told c__law_is_told k__law_is_told
  have D__law_is_told : Df K mg "_law_is_told" s__law_is_told f__law_is_told _ ["lock", "row", "seal"] := ⟨F__law_is_told, PySem.W.mg_of X G a__law_is_told, F__law_is_told.binds (ps := ["lock", "row", "seal"]) fun _ _ _ _ _ _ us hl => match us, hl with | [_, _, _], _ => rfl⟩
  have F__law_is_int := fun_mk (st := s__law_is_int) l__law_is_int c__law_is_int k__law_is_int
  have D__law_is_int : Df K mg "_law_is_int" s__law_is_int f__law_is_int _ ["thing"] := ⟨F__law_is_int, PySem.W.mg_of X G a__law_is_int, F__law_is_int.binds (ps := ["thing"]) fun _ _ _ _ _ _ us hl => match us, hl with | [_], _ => rfl⟩
  have F__law_same_numbers := fun_mk (st := s__law_same_numbers) l__law_same_numbers c__law_same_numbers k__law_same_numbers
  have D__law_same_numbers : Df K mg "_law_same_numbers" s__law_same_numbers f__law_same_numbers _ ["row"] := ⟨F__law_same_numbers, PySem.W.mg_of X G a__law_same_numbers, F__law_same_numbers.binds (ps := ["row"]) fun _ _ _ _ _ _ us hl => match us, hl with | [_], _ => rfl⟩
  have F__law_near_rows := fun_mk (st := s__law_near_rows) l__law_near_rows c__law_near_rows k__law_near_rows
  have D__law_near_rows : Df K mg "_law_near_rows" s__law_near_rows f__law_near_rows _ ["d", "row"] := ⟨F__law_near_rows, PySem.W.mg_of X G a__law_near_rows, F__law_near_rows.binds (ps := ["d", "row"]) fun _ _ _ _ _ _ us hl => match us, hl with | [_, _], _ => rfl⟩
  have F_law := fun_mk (st := s_law) l_law c_law k_law
  have D_law : Df K mg "law" s_law _ _ ["script"] := ⟨F_law, PySem.W.mg_of X G a_law, F_law.binds (ps := ["script"]) fun _ _ _ _ _ _ us hl => match us, hl with | [_], _ => rfl⟩
  refine ⟨PySem.W.fnOf "law" "law" (defArgs s_law) (defBody s_law) (defScope s_law) .none kV_law dc_law pm_law an_law cd_law ct_law, fun s v => .of_eq rfl, fun base _ _ => ?_⟩
  have C__law_begin : Cl l.prog w K mg base 1 "_law_begin" (sp__law_begin K) := D__law_begin.cl (ok__law_begin D__law_begin T )
  have C__law_cards : Cl l.prog w K mg base 1 "_law_cards" (sp__law_cards K) := D__law_cards.cl (ok__law_cards D__law_cards T )
  have C__law_draw : Cl l.prog w K mg base 1 "_law_draw" (sp__law_draw K) := D__law_draw.cl (ok__law_draw D__law_draw T )
  have C__law_pick : Cl l.prog w K mg base 2 "_law_pick" (sp__law_pick K) := D__law_pick.cl (ok__law_pick D__law_pick T C__law_draw)
  have C__law_statement_row : Cl l.prog w K mg base 3 "_law_statement_row" (sp__law_statement_row K) := D__law_statement_row.cl (ok__law_statement_row D__law_statement_row T C__law_pick C__law_draw)
  have C_number_of : Cl l.prog w K mg base 1 "number_of" (sp_number_of K) := D_number_of.cl (ok_number_of D_number_of T )
  have C_seal_of : Cl l.prog w K mg base 2 "seal_of" (sp_seal_of K) := D_seal_of.cl (ok_seal_of D_seal_of T C_number_of)
  have C_is_int : Cl l.prog w K mg base 1 "is_int" (sp_is_int K) := D_is_int.cl (ok_is_int D_is_int T )
  have C_is_between : Cl l.prog w K mg base 2 "is_between" (sp_is_between K) := D_is_between.cl (ok_is_between D_is_between T C_is_int)
  have C_holds : Cl l.prog w K mg base 3 "holds" (sp_holds K) := D_holds.cl (ok_holds D_holds T C_is_between C_number_of)
  have C__law_odd_things_hold : Cl l.prog w K mg base 4 "_law_odd_things_hold" (sp__law_odd_things_hold K) := D__law_odd_things_hold.cl (ok__law_odd_things_hold D__law_odd_things_hold T C_holds)
  have C__law_seal : Cl l.prog w K mg base 1 "_law_seal" (sp__law_seal K) := D__law_seal.cl (ok__law_seal D__law_seal T )
  have C__law_due_holds : Cl l.prog w K mg base 1 "_law_due_holds" (sp__law_due_holds K) := D__law_due_holds.cl (ok__law_due_holds D__law_due_holds T )
  have C__law_is_told : Cl l.prog w K mg base 4 "_law_is_told" (sp__law_is_told K) := D__law_is_told.cl (ok__law_is_told D__law_is_told T C_holds C__law_due_holds)
  have C__law_is_int : Cl l.prog w K mg base 1 "_law_is_int" (sp__law_is_int K) := D__law_is_int.cl (ok__law_is_int D__law_is_int T )
  have C__law_same_numbers : Cl l.prog w K mg base 1 "_law_same_numbers" (sp__law_same_numbers K) := D__law_same_numbers.cl (ok__law_same_numbers D__law_same_numbers T )
  have C__law_near_rows : Cl l.prog w K mg base 2 "_law_near_rows" (sp__law_near_rows K) := D__law_near_rows.cl (ok__law_near_rows D__law_near_rows T C__law_draw)
  exact ok_law D_law T C__law_begin C__law_cards C__law_statement_row C_seal_of C__law_odd_things_hold C__law_draw C_holds C__law_seal C__law_is_told C__law_is_int C__law_same_numbers C__law_near_rows
theorem walk {l : PySem.W.OpenLaw} {q : Program} {loose : List Str} {XP : (Str → Option Value) → Heap → Prop} {YP : World → Heap → Prop} {d : DefRec} {K : Params → PySem.W.Frag} (hn : l.most = some 63) (hdf : d.params.defaults = [])
    (hY : ∀ (w : World) (h : Heap), YP w h → (K w.params).In h)
    (F : ∀ (w : World) (mg : Str → Option Value) (fa : Addr) (h : Heap), (K w.params).In h → h.Ns mainGlobals mg → mg d.name = some (.ref fa) →
      ∃ fd : FuncData, (∀ (s : Shared) (u : Value), BindsTo s fd ⟨[u], []⟩ [("script", u)]) ∧ ∀ base : Heap, (K w.params).In base → base.Ns mainGlobals mg → FnOk l.prog w (K w.params) mg base CX0 5 fa fd ["script"] (sp_law (K w.params))) :
    PySem.W.WalkO q loose XP YP l.row.toRowW d [] (fun f vs => PySem.call f vs) :=
  L2.walk_ofB (n := 63) (k := 5) (x := "script") (CX := fun _ => CX0) (sp := fun w => sp_law (K w.params)) hn (by decide) hdf ⟨rfl, by decide, by decide⟩ hY F (fun _ _ a ns hl hb _ hS => law_hands a ns hl hb hS) fun _ _ _ _ _ z => z
end Law
open PySem PySem.W PyProof.Rows in
set_option maxRecDepth 100000 in
set_option maxHeartbeats 0 in
theorem PySem.Challenge.cw_judgedplay_k45_seals_hold_holds : PySem.Challenge.rw_judgedplay_k45_seals_hold.Holds := by
  w_on; o_law; k_head; (case hw => w_witness2)
  k_fill
  refine Law.walk (l := PySem.Challenge.rw_judgedplay_k45_seals_hold) rfl rfl (fun w h Y => PySem.W.kIn_of Y) ?F
  case F =>
    intro w mg fa h KX G hmg
    refine' Law.all_mk KX G hmg ?a__law_begin ?l__law_begin ?c__law_begin ?k__law_begin ?a__law_cards ?l__law_cards ?c__law_cards ?k__law_cards ?a__law_draw ?l__law_draw ?c__law_draw ?k__law_draw ?a__law_pick ?l__law_pick ?c__law_pick ?k__law_pick ?a__law_statement_row ?l__law_statement_row ?c__law_statement_row ?k__law_statement_row ?a_number_of ?l_number_of ?c_number_of ?k_number_of ?a_seal_of ?l_seal_of ?c_seal_of ?k_seal_of ?a_is_int ?l_is_int ?c_is_int ?k_is_int ?a_is_between ?l_is_between ?c_is_between ?k_is_between ?a_holds ?l_holds ?c_holds ?k_holds ?a__law_odd_things_hold ?l__law_odd_things_hold ?c__law_odd_things_hold ?k__law_odd_things_hold ?a__law_seal ?l__law_seal ?c__law_seal ?k__law_seal ?a__law_due_holds ?l__law_due_holds ?c__law_due_holds ?k__law_due_holds ?a__law_is_told ?l__law_is_told ?c__law_is_told ?k__law_is_told ?a__law_is_int ?l__law_is_int ?c__law_is_int ?k__law_is_int ?a__law_same_numbers ?l__law_same_numbers ?c__law_same_numbers ?k__law_same_numbers ?a__law_near_rows ?l__law_near_rows ?c__law_near_rows ?k__law_near_rows ?a_law ?l_law ?c_law ?k_law ?z_int ?z_range ?z_tuple ?z_len ?z_abs ?z_isinstance ?z_bool ?n_MODULUS ?r_MODULUS ?n_WORD ?r_WORD ?n_PARCEL ?r_PARCEL ?n_MOST_SEAT ?r_MOST_SEAT ?n_MOST_TICK ?r_MOST_TICK ?n_MOST_VALUE ?r_MOST_VALUE
    (case a__law_begin => k_is)
    (case l__law_begin => k_is)
    (case c__law_begin => k_is)
    (case k__law_begin => k_is)
    (case a__law_cards => k_is)
    (case l__law_cards => k_is)
    (case c__law_cards => k_is)
    (case k__law_cards => k_is)
    (case a__law_draw => k_is)
    (case l__law_draw => k_is)
    (case c__law_draw => k_is)
    (case k__law_draw => k_is)
    (case a__law_pick => k_is)
    (case l__law_pick => k_is)
    (case c__law_pick => k_is)
    (case k__law_pick => k_is)
    (case a__law_statement_row => k_is)
    (case l__law_statement_row => k_is)
    (case c__law_statement_row => k_is)
    (case k__law_statement_row => k_is)
    (case a_number_of => k_is)
    (case l_number_of => k_is)
    (case c_number_of => k_is)
    (case k_number_of => k_is)
    (case a_seal_of => k_is)
    (case l_seal_of => k_is)
    (case c_seal_of => k_is)
    (case k_seal_of => k_is)
    (case a_is_int => k_is)
    (case l_is_int => k_is)
    (case c_is_int => k_is)
    (case k_is_int => k_is)
    (case a_is_between => k_is)
    (case l_is_between => k_is)
    (case c_is_between => k_is)
    (case k_is_between => k_is)
    (case a_holds => k_is)
    (case l_holds => k_is)
    (case c_holds => k_is)
    (case k_holds => k_is)
    (case a__law_odd_things_hold => k_is)
    (case l__law_odd_things_hold => k_is)
    (case c__law_odd_things_hold => k_is)
    (case k__law_odd_things_hold => k_is)
    (case a__law_seal => k_is)
    (case l__law_seal => k_is)
    (case c__law_seal => k_is)
    (case k__law_seal => k_is)
    (case a__law_due_holds => k_is)
    (case l__law_due_holds => k_is)
    (case c__law_due_holds => k_is)
    (case k__law_due_holds => k_is)
    (case a__law_is_told => k_is)
    (case l__law_is_told => k_is)
    (case c__law_is_told => k_is)
    (case k__law_is_told => k_is)
    (case a__law_is_int => k_is)
    (case l__law_is_int => k_is)
    (case c__law_is_int => k_is)
    (case k__law_is_int => k_is)
    (case a__law_same_numbers => k_is)
    (case l__law_same_numbers => k_is)
    (case c__law_same_numbers => k_is)
    (case k__law_same_numbers => k_is)
    (case a__law_near_rows => k_is)
    (case l__law_near_rows => k_is)
    (case c__law_near_rows => k_is)
    (case k__law_near_rows => k_is)
    (case a_law => k_is)
    (case l_law => k_is)
    (case c_law => k_is)
    (case k_law => k_is)
    (case z_int => k_is)
    (case z_range => k_is)
    (case z_tuple => k_is)
    (case z_len => k_is)
    (case z_abs => k_is)
    (case z_isinstance => k_is)
    (case z_bool => k_is)
    (case n_MODULUS => k_is)
    (case r_MODULUS => first | exact ⟨_, rfl⟩ | rfl)
    (case n_WORD => k_is)
    (case r_WORD => first | exact ⟨_, rfl⟩ | rfl)
    (case n_PARCEL => k_is)
    (case r_PARCEL => first | exact ⟨_, rfl⟩ | rfl)
    (case n_MOST_SEAT => k_is)
    (case r_MOST_SEAT => first | exact ⟨_, rfl⟩ | rfl)
    (case n_MOST_TICK => k_is)
    (case r_MOST_TICK => first | exact ⟨_, rfl⟩ | rfl)
    (case n_MOST_VALUE => k_is)
    (case r_MOST_VALUE => first | exact ⟨_, rfl⟩ | rfl)
#print axioms PySem.Challenge.cw_judgedplay_k45_seals_hold_holds
