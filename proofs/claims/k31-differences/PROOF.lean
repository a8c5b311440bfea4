import PyProof.Rows.All
import Wide.All
import OpenK.AllK
import Wide.FinOn
import HandS.ForMost
import HandS.Wide
import HandS.WideBits
import HandS.IsInst
import HandS.TupAny
import HandS.Deep
import HandS.EndBits
import PySem.Challenge.RW_judgedplay_k31_differences
set_option Elab.async false
set_option linter.all false
set_option maxRecDepth 100000
set_option maxHeartbeats 4000000
/-! ### my own layer: introduction forms for the readings -/
namespace Jp
open PySem PySem.Spec PyProof.Rows L2
/-! rules by names -/
section
variable {X : Cx}
def rInt1 : List V → Hp → VK → Prop := fun xs H Q => (∃ i, xs = [.int i] ∧ Q (.int i) H) ∨ ∃ k, xs = [.bl k] ∧ Q (.int (if k then 1 else 0)) H
theorem c_int : CallR X (.type "int") rInt1 := call_int1
def rAbs : List V → Hp → VK → Prop := fun xs H Q => ∃ i, xs = [.int i] ∧ Q (.int (if i < 0 then -i else i)) H
theorem c_abs : CallR X (.builtin "abs") rAbs := call_abs
def rMax2 : List V → Hp → VK → Prop := fun xs H Q => ∃ i j, xs = [.int i, .int j] ∧ Q (.int (if j > i then j else i)) H
theorem c_max2 (hc : X.calm = true) : CallR X (.builtin "max") rMax2 := call_max2 hc
def rMin2 : List V → Hp → VK → Prop := fun xs H Q => ∃ i j, xs = [.int i, .int j] ∧ Q (.int (if j < i then j else i)) H
theorem c_min2 (hc : X.calm = true) : CallR X (.builtin "min") rMin2 := call_min2 hc
def rLen (K : PySem.W.Frag) : List V → Hp → VK → Prop := fun xs H Q => ∃ x n, xs = [x] ∧ LenV K x H n ∧ Q (.int (n : Nat)) H
theorem c_len : CallR X (.builtin "len") (rLen X.K) := call_len
def rLenD : List V → Hp → VK → Prop := fun xs H Q => ∃ a kvs, xs = [V.ref a] ∧ H a = some (.dK kvs) ∧ Q (.int kvs.length) H
theorem c_lenD : CallR X (.builtin "len") rLenD := call_lenD
def rTupOf (K : PySem.W.Frag) : List V → Hp → VK → Prop := fun xs H Q => ∃ p ys, xs = [.ref p] ∧ ((SqL K H p ys ∧ ∀ l, H l = none → Q (.ref l) (upd H l (.tup ys))) ∨ (SqT K H p ys ∧ Q (.ref p) H))
theorem c_tup : CallR X (.type "tuple") (rTupOf X.K) := call_tuple_of
def rLstOf (K : PySem.W.Frag) : List V → Hp → VK → Prop := fun xs H Q => ∃ p ys, xs = [.ref p] ∧ (SqL K H p ys ∨ SqT K H p ys) ∧ ∀ l, H l = none → Q (.ref l) (upd H l (.lst ys))
theorem c_lst : CallR X (.type "list") (rLstOf X.K) := call_list_of
def rBool1 : List V → Hp → VK → Prop := fun xs H Q => (∃ i, xs = [.int i] ∧ Q (.bl (i != 0)) H) ∨ ∃ k, xs = [.bl k] ∧ Q (.bl k) H
theorem c_bool1 : CallR X (.type "bool") rBool1 := call_bool1
def rIsNon : R2 := fun x y H Q => y = .non ∧ Q (.bl (decide (x = .non))) H
theorem o_isN : OpR X (compareOp .Is) rIsNon := op_isN
def rNotNon : R2 := fun x y H Q => y = .non ∧ Q (.bl (!decide (x = .non))) H
theorem o_notN : OpR X (compareOp .IsNot) rNotNon := op_notN
def rAddStr : R2 := fun x y H Q => ∃ i j, x = .str i ∧ y = .str j ∧ i.length + j.length ≤ sizeLine ∧ Q (.str (i ++ j)) H
theorem o_addS : OpR X (binaryOp .Add) rAddStr := op_add_str
theorem o_iaddS : OpR X (inplaceOp .Add) rAddStr := iop_add_str
end
section
variable {K : PySem.W.Frag} {σ : L2.St} {H : Hp} {Q : VK}
theorem i_isN {x : V} (q : Q (.bl (decide (x = .non))) H) : rIsNon x .non H Q := ⟨rfl, q⟩
theorem i_notN {x : V} (q : Q (.bl (!decide (x = .non))) H) : rNotNon x .non H Q := ⟨rfl, q⟩
theorem i_int {i : Int} (q : Q (.int i) H) : rInt1 [.int i] H Q := .inl ⟨i, rfl, q⟩
theorem i_intB {k : Bool} (q : Q (.int (if k then 1 else 0)) H) : rInt1 [.bl k] H Q := .inr ⟨k, rfl, q⟩
theorem i_abs {i : Int} (q : Q (.int (if i < 0 then -i else i)) H) : rAbs [.int i] H Q := ⟨i, rfl, q⟩
theorem i_max2 {i j : Int} (q : Q (.int (if j > i then j else i)) H) : rMax2 [.int i, .int j] H Q := ⟨i, j, rfl, q⟩
theorem i_min2 {i j : Int} (q : Q (.int (if j < i then j else i)) H) : rMin2 [.int i, .int j] H Q := ⟨i, j, rfl, q⟩
theorem i_lenL {p : Addr} {xs : List V} (h : SqL K H p xs) (q : Q (.int xs.length) H) : rLen K [.ref p] H Q := ⟨.ref p, xs.length, rfl, .inl ⟨xs, h, rfl⟩, q⟩
theorem i_lenT {p : Addr} {xs : List V} (h : SqT K H p xs) (q : Q (.int xs.length) H) : rLen K [.ref p] H Q := ⟨.ref p, xs.length, rfl, .inr ⟨xs, h, rfl⟩, q⟩
theorem i_lenS {x : Str} (h : x.length ≤ sizeLine) (q : Q (.int x.length) H) : rLen K [.str x] H Q := ⟨.str x, x.length, rfl, ⟨h, rfl⟩, q⟩
theorem i_lenD {p : Addr} {kvs : List (L2.Key × V)} (h : H p = some (.dK kvs)) (q : Q (.int kvs.length) H) : rLenD [.ref p] H Q := ⟨p, kvs, rfl, h, q⟩
theorem i_tupL {p : Addr} {ys : List V} (h : SqL K H p ys) (q : ∀ l, H l = none → Q (.ref l) (upd H l (.tup ys))) : rTupOf K [.ref p] H Q := ⟨p, ys, rfl, .inl ⟨h, q⟩⟩
theorem i_tupT {p : Addr} {ys : List V} (h : SqT K H p ys) (q : Q (.ref p) H) : rTupOf K [.ref p] H Q := ⟨p, ys, rfl, .inr ⟨h, q⟩⟩
theorem i_lstL {p : Addr} {ys : List V} (h : SqL K H p ys) (q : ∀ l, H l = none → Q (.ref l) (upd H l (.lst ys))) : rLstOf K [.ref p] H Q := ⟨p, ys, rfl, .inl h, q⟩
theorem i_lstT {p : Addr} {ys : List V} (h : SqT K H p ys) (q : ∀ l, H l = none → Q (.ref l) (upd H l (.lst ys))) : rLstOf K [.ref p] H Q := ⟨p, ys, rfl, .inr h, q⟩
theorem i_catA {p b : Addr} {xs ys : List V} (h1 : SqT K H p xs) (h2 : SqT K H b ys) (hl : xs.length + ys.length ≤ sizeLine) (q : ∀ (r : Addr) (H' : Hp), (∀ b o, H b = some o → H' b = some o) → SqT K H' r (xs ++ ys) → Q (.ref r) H') : rCatA K (.ref p) (.ref b) H Q := by
  refine ⟨p, b, xs, ys, rfl, rfl, h1, h2, hl, fun e => ?_, fun _ e => ?_, fun _ _ r hr => ?_⟩
  · subst e; exact q b H (fun _ _ h => h) h2
  · subst e; exact q p H (fun _ _ h => h) (by rw [List.append_nil]; exact h1)
  · exact q r _ (fun b o e => by rw [upd_ne (ne_of_none e hr)]; exact e) (.inl (.inl upd_same))
theorem i_catI {p b : Addr} {ns ms : List Int} (h1 : SqT K H p (ns.map V.int)) (h2 : SqT K H b (ms.map V.int)) (hl : ns.length + ms.length ≤ 10000) (q : ∀ (r : Addr) (H' : Hp), (∀ b o, H b = some o → H' b = some o) → SqT K H' r ((ns ++ ms).map V.int) → Q (.ref r) H') : rCatA K (.ref p) (.ref b) H Q :=
  i_catA h1 h2 (by rw [List.length_map, List.length_map]; exact Nat.le_trans hl (by decide)) fun r H' s t => q r H' s (by rw [List.map_append]; exact t)
/-- ns[lo:hi] -/
def cutI (ns : List Int) (lo hi : Option Int) : List Int := (ns.drop (HT.sIx ns.length 0 lo)).take (HT.sIx ns.length ns.length hi - HT.sIx ns.length 0 lo)
theorem cutI_len (ns : List Int) (lo hi : Option Int) : (cutI ns lo hi).length ≤ ns.length := by
  unfold cutI
  rw [List.length_take, List.length_drop]
  omega
theorem i_slI {p : Addr} {ns : List Int} {lo hi : Option Int} (h : SqT K H p (ns.map V.int)) (hw : ¬ (HT.sIx ns.length 0 lo = 0 ∧ HT.sIx ns.length ns.length hi = ns.length))
    (q : ∀ (r : Addr) (H' : Hp), (∀ b o, H b = some o → H' b = some o) → SqT K H' r ((cutI ns lo hi).map V.int) → Q (.ref r) H') : rSlT K (.ref p) lo hi H Q := by
  refine ⟨p, _, rfl, h, by rw [List.length_map]; exact hw, fun r hr => q r _ (fun b o e => by rw [upd_ne (ne_of_none e hr)]; exact e) (.inl (.inl ?_))⟩
  rw [upd_same]
  unfold cutV cutI
  rw [List.length_map, List.map_take, List.map_drop]
theorem i_sl {r : V → Option Int → Option Int → Hp → VK → Prop} {te : TE} {tl th : TO} (h : te σ H fun x H1 => tl σ H1 fun l H2 => th σ H2 fun u H3 => r x l u H3 Q) : tSl r te tl th σ H Q := h
theorem i_noPart {Q : Option Int → Hp → Prop} (q : Q none H) : tNoPart σ H Q := q
theorem i_part {t : TE} {Q : Option Int → Hp → Prop} (h : t σ H fun x H1 => ∃ i, x = .int i ∧ Q (some i) H1) : tPart t σ H Q := h
theorem i_cat {p b : Addr} {xs zs : List V} (h1 : H p = some (.lst xs)) (h2 : H b = some (.lst zs)) (hl : xs.length + zs.length ≤ sizeLine) (q : ∀ r, H r = none → Q (.ref r) (upd H r (.lst (xs ++ zs)))) : rCat (.ref p) (.ref b) H Q := ⟨p, b, xs, zs, rfl, rfl, h1, h2, hl, q⟩
theorem i_chain {r r' : R2} {ta tb tc : TE} (h : ta σ H fun x H1 => tb σ H1 fun y H2 => r x y H2 fun z H3 => ∃ k, z = .bl k ∧ (if k = true then tc σ H3 fun w' H4 => r' y w' H4 Q else Q (.bl false) H3)) : tChain r r' ta tb tc σ H Q := h
theorem i_popAt {p : Addr} {xs : List V} {i : Int} {y : V} (h : H p = some (.lst xs)) (h0 : 0 ≤ i) (h1 : i < xs.length) (h2 : xs.length ≤ 1000000) (e : xs[i.toNat]? = some y) (q : Q y (upd H p (.lst (xs.eraseIdx i.toNat)))) : rPopAt (.ref p) [.int i] H Q :=
  ⟨p, xs, i, i.toNat, y, rfl, rfl, h, by omega, by omega, seqIndex_of h0 h1, e, q⟩
theorem i_isI {i : Int} {Q : Int → Prop} (q : Q i) : ∃ i', V.int i = .int i' ∧ Q i' := ⟨i, rfl, q⟩
theorem i_bm {T : String} {r : V → List V → Hp → VK → Prop} {to : TE} {t : TA} (h : to σ H fun x H1 => tyV K T x H1 ∧ t σ H1 fun xs H2 => r x xs H2 Q) : tBM K T r to t σ H Q := h
theorem i_bm0 {T : String} {r : V → List V → Hp → VK → Prop} {to : TE} (h : to σ H fun x H1 => tyV K T x H1 ∧ r x [] H1 Q) : tBM0 K T r to σ H Q := h
theorem i_tyL {p : Addr} {xs : List V} {R : Prop} (s : SqL K H p xs) (q : R) : tyV K "list" (.ref p) H ∧ R := ⟨.inl ⟨rfl, xs, s⟩, q⟩
theorem i_app {p : Addr} {xs : List V} {y : V} (h : H p = some (.lst xs)) (hl : xs.length < sizeLine) (q : Q .non (upd H p (.lst (xs ++ [y])))) : rAppend (.ref p) [y] H Q := ⟨p, xs, y, rfl, rfl, h, hl, q⟩
theorem i_addS {x y : Str} (h : x.length + y.length ≤ sizeLine) (q : Q (.str (x ++ y)) H) : rAddStr (.str x) (.str y) H Q := ⟨x, y, rfl, rfl, h, q⟩
theorem i_isi {x : V} {n : String} {t : Value} {b : Bool} (ty : TyX K H x t) (e : PySem.W.kitOne K t (.type n) = some b) (q : Q (.bl b) H) : rIsi K [x, .ty n] H Q := ⟨x, .ty n, t, .type n, b, rfl, .ty n, ty, e, q⟩
theorem i_var {i : Nat} {v : V} (h : σ[i]? = some (some v)) (q : Q v H) : tVar i σ H Q := ⟨v, h, q⟩
theorem i_c {v : V} (q : Q v H) : tC v σ H Q := q
theorem i_op {r : R2} {ta tb : TE} (h : ta σ H fun x H1 => tb σ H1 fun y H2 => r x y H2 Q) : tOp r ta tb σ H Q := h
theorem i_un {r : V → Hp → VK → Prop} {ta : TE} (h : ta σ H fun x H1 => r x H1 Q) : tUn r ta σ H Q := h
theorem i_rI0 {g : Int → Int → V} {i j : Int} (q : Q (g i j) H) : rI0 g (.int i) (.int j) H Q := ⟨i, j, rfl, rfl, q⟩
theorem i_rI {C : Int → Int → Prop} {g : Int → Int → V} {i j : Int} (c : C i j) (q : Q (g i j) H) : rI C g (.int i) (.int j) H Q := ⟨i, j, rfl, rfl, c, q⟩
theorem i_rU {g : Int → V} {i : Int} (q : Q (g i) H) : rU g (.int i) H Q := ⟨i, rfl, q⟩
theorem i_eqI {i j : Int} (q : Q (.bl (decide (i = j))) H) : rEq (.int i) (.int j) H Q := ⟨rfl, by
  have e : decide (V.int i = V.int j) = decide (i = j) := by simp
  rw [e]; exact q⟩
theorem i_neI {i j : Int} (q : Q (.bl (!decide (i = j))) H) : rNe (.int i) (.int j) H Q := ⟨rfl, by
  have e : decide (V.int i = V.int j) = decide (i = j) := by simp
  rw [e]; exact q⟩
theorem i_eqB {i j : Bool} (q : Q (.bl (decide (i = j))) H) : rEq (.bl i) (.bl j) H Q := ⟨rfl, by
  have e : decide (V.bl i = V.bl j) = decide (i = j) := by simp
  rw [e]; exact q⟩
theorem i_neB {i j : Bool} (q : Q (.bl (!decide (i = j))) H) : rNe (.bl i) (.bl j) H Q := ⟨rfl, by
  have e : decide (V.bl i = V.bl j) = decide (i = j) := by simp
  rw [e]; exact q⟩
theorem i_eqS {i j : Str} (q : Q (.bl (decide (i = j))) H) : rEq (.str i) (.str j) H Q := ⟨rfl, by
  have e : decide (V.str i = V.str j) = decide (i = j) := by simp
  rw [e]; exact q⟩
theorem i_neS {i j : Str} (q : Q (.bl (!decide (i = j))) H) : rNe (.str i) (.str j) H Q := ⟨rfl, by
  have e : decide (V.str i = V.str j) = decide (i = j) := by simp
  rw [e]; exact q⟩
/-! index -/
theorem i_ixL {p : Addr} {xs : List V} {i : Int} {v : V} (h : SqL K H p xs) (e : atI xs i = some v) (q : Q v H) : rIxL K (.ref p) (.int i) H Q := ⟨p, xs, i, v, rfl, rfl, h, e, q⟩
theorem i_ixT {p : Addr} {xs : List V} {i : Int} {v : V} (h : SqT K H p xs) (e : atI xs i = some v) (q : Q v H) : rIxT K (.ref p) (.int i) H Q := ⟨p, xs, i, v, rfl, rfl, h, e, q⟩
theorem i_ix1 {x y : V} (h : rIxL K x y H Q) : rIx K x y H Q := .inl h
theorem i_ix2 {x y : V} (h : rIxT K x y H Q) : rIx K x y H Q := .inr (.inl h)
/-! arguments, calls, displays -/
theorem i_nil {Q : List V → Hp → Prop} (q : Q [] H) : tNil σ H Q := q
theorem i_cons {ta : TE} {tr : TA} {Q : List V → Hp → Prop} (h : ta σ H fun x H1 => tr σ H1 fun xs H2 => Q (x :: xs) H2) : tCons ta tr σ H Q := h
theorem i_call {sp : Sp} {E : XK} {t : TA} (h : t σ H fun vs H1 => sp (vs ++ []) H1 Q E) : tCall sp [] E t σ H Q := h
theorem i_cb {r : List V → Hp → VK → Prop} {t : TA} (h : t σ H fun vs H1 => r vs H1 Q) : tCB r t σ H Q := h
theorem i_tup {t : TA} (h : t σ H fun xs H1 => xs.length ≤ sizeLine ∧ ∀ p, H1 p = none → Q (.ref p) (upd H1 p (.tup xs))) : tTup t σ H Q := h
theorem i_lst {t : TA} (h : t σ H fun xs H1 => xs.length ≤ sizeLine ∧ ∀ p, H1 p = none → Q (.ref p) (upd H1 p (.lst xs))) : tLst t σ H Q := h
theorem i_new {n : Nat} {R : Addr → Prop} (h : n ≤ sizeLine) (q : ∀ p, H p = none → R p) : n ≤ sizeLine ∧ ∀ p, H p = none → R p := ⟨h, q⟩
theorem i_if {c : TT} {ta tb : TE} (h : c σ H fun b H1 => if b = true then ta σ H1 Q else tb σ H1 Q) : tIf c ta tb σ H Q := h
theorem i_andV {ta tb : TE} (h : ta σ H fun x H1 => ∃ c, x = .bl c ∧ if c = true then tb σ H1 Q else Q (.bl false) H1) : tAndV ta tb σ H Q := h
theorem i_orV {ta tb : TE} (h : ta σ H fun x H1 => ∃ c, x = .bl c ∧ if c = true then Q (.bl true) H1 else tb σ H1 Q) : tOrV ta tb σ H Q := h
theorem i_notV {ta : TE} (h : ta σ H fun x H1 => ∃ c, x = .bl c ∧ Q (.bl (!c)) H1) : tNotV ta σ H Q := h
/-! tests -/
theorem i_test {t : TE} {Q : Bool → Hp → Prop} (h : t σ H fun x H1 => ∃ k, x = .bl k ∧ Q k H1) : tTest t σ H Q := h
theorem i_B {t : TE} {Q : Bool → Hp → Prop} (h : t σ H fun x H1 => ∃ k, x = .bl k ∧ Q k H1) : tB t σ H Q := h
theorem i_isb {k : Bool} {Q : Bool → Prop} (q : Q k) : ∃ k', V.bl k = .bl k' ∧ Q k' := ⟨k, rfl, q⟩
theorem i_and {t u : TT} {Q : Bool → Hp → Prop} (h : t σ H fun c H1 => if c = true then u σ H1 Q else Q false H1) : tAnd t u σ H Q := h
theorem i_or {t u : TT} {Q : Bool → Hp → Prop} (h : t σ H fun c H1 => if c = true then Q true H1 else u σ H1 Q) : tOr t u σ H Q := h
theorem i_not {t : TT} {Q : Bool → Hp → Prop} (h : t σ H fun c H1 => Q (!c) H1) : tNot t σ H Q := h
/-! statements -/
section
variable {nx : L2.St → Hp → Prop} {rt : VK} {bk ct : L2.St → Hp → Prop}
theorem i_seq {t u : TS} (h : t ⟨u ⟨nx, rt, bk, ct⟩, rt, bk, ct⟩ σ H) : tSeq t u ⟨nx, rt, bk, ct⟩ σ H := h
theorem i_next (h : nx σ H) : tNext ⟨nx, rt, bk, ct⟩ σ H := h
theorem i_asg {te : TE} {g : TG} (h : te σ H fun x H1 => g x σ H1 nx) : tAsg te g ⟨nx, rt, bk, ct⟩ σ H := h
theorem i_drop {te : TE} (h : te σ H fun _ H1 => nx σ H1) : tDrop te ⟨nx, rt, bk, ct⟩ σ H := h
theorem i_ret {te : TE} (h : te σ H rt) : tRet te ⟨nx, rt, bk, ct⟩ σ H := h
theorem i_retN (h : rt .non H) : tRetN ⟨nx, rt, bk, ct⟩ σ H := h
theorem i_ifS {c : TT} {t u : TS} (h : c σ H fun b H1 => if b = true then t ⟨nx, rt, bk, ct⟩ σ H1 else u ⟨nx, rt, bk, ct⟩ σ H1) : tIfS c t u ⟨nx, rt, bk, ct⟩ σ H := h
theorem i_ifC {c : TT} {t u : TS} (J : L2.St → Hp → Prop) (h1 : ∀ σ' H', J σ' H' → nx σ' H') (h2 : ∀ N : L2.St → Hp → Prop, (∀ σ' H', J σ' H' → N σ' H') → tIfS c t u ⟨N, rt, bk, ct⟩ σ H) : tIfS c t u ⟨nx, rt, bk, ct⟩ σ H := h2 _ h1
theorem i_break (h : bk σ H) : tBreak ⟨nx, rt, bk, ct⟩ σ H := h
theorem i_cont (h : ct σ H) : tCont ⟨nx, rt, bk, ct⟩ σ H := h
theorem i_augE {i : Nat} {te : TE} {ti : TIp} {x : V} (e : σ[i]? = some (some x)) (h : te σ H fun y H1 => ti x y H1 fun z H2 => gName i z σ H2 nx) : tAug i te ti ⟨nx, rt, bk, ct⟩ σ H := ⟨x, e, h⟩
theorem i_augS {to ti te : TE} {tget : V → V → Hp → VK → Prop} {tip : TIp} {tset : TSet} (h : to σ H fun o H1 => ti σ H1 fun i H2 => tget o i H2 fun x H3 => te σ H3 fun y H4 => tip x y H4 fun z H5 => tset o i z H5 fun H6 => nx σ H6) : tAugS to ti te tget tip tset ⟨nx, rt, bk, ct⟩ σ H := h
theorem i_ipI {f : Int → Int → Int} {i j : Int} (q : Q (.int (f i j)) H) : ipI f (.int i) (.int j) H Q := ⟨i, j, rfl, rfl, q⟩
theorem i_for {wi : TI} {g : TG} {tb : TS} (h : wi σ H fun J H1 => ∃ W : Nat → Nat → L2.St → Hp → Prop, (∃ m, W 0 m σ H1) ∧ ∀ i m σ H, W i m σ H →
  (J.stop i H ∧ nx σ H) ∨ (J.go i H ∧ ∃ N : L2.St → Hp → Prop, (∀ σ' H', N σ' H' → ∃ m', m' < m ∧ W (i + 1) m' σ' H') ∧ ∀ x H', J.yld i H x H' → g x σ H' fun σ2 H2 => tb ⟨N, rt, nx, N⟩ σ2 H2)) : tFor wi g tb ⟨nx, rt, bk, ct⟩ σ H := h
theorem i_iList {tl : TE} {R : It → Hp → Prop} (h : tl σ H fun x H1 => ∃ a, x = .ref a ∧ (∃ xs, SqL K H1 a xs) ∧ R (Itl K a) H1) : iList K tl σ H R := h
theorem i_iTup {tl : TE} {R : It → Hp → Prop} (h : tl σ H fun x H1 => ∃ a, x = .ref a ∧ (∃ xs, SqT K H1 a xs) ∧ R (Itt K a) H1) : iTup K tl σ H R := h
theorem i_isL {a : Addr} {xs : List V} {R : Addr → Prop} (s : SqL K H a xs) (h : R a) : ∃ a', V.ref a = .ref a' ∧ (∃ xs, SqL K H a' xs) ∧ R a' := ⟨a, rfl, ⟨xs, s⟩, h⟩
theorem i_isT {a : Addr} {xs : List V} {R : Addr → Prop} (s : SqT K H a xs) (h : R a) : ∃ a', V.ref a = .ref a' ∧ (∃ xs, SqT K H a' xs) ∧ R a' := ⟨a, rfl, ⟨xs, s⟩, h⟩
theorem i_rng1 {ta : TA} {R : It → Hp → Prop} (h : ta σ H fun vs H1 => ∃ j : Int, vs = [.int j] ∧ -(2 ^ 62) ≤ j ∧ j < 2 ^ 62 ∧ R (Itr 0 j.toNat) H1) : iRng1 ta σ H R := h
theorem i_rng2 {ta : TA} {R : It → Hp → Prop} (h : ta σ H fun vs H1 => ∃ i j : Int, vs = [.int i, .int j] ∧ (-(2 ^ 62) ≤ i ∧ i < 2 ^ 62 ∧ -(2 ^ 62) ≤ j ∧ j < 2 ^ 62) ∧ R (Itr i (j - i).toNat) H1) : iRng2 ta σ H R := h
theorem i_isR1 {j : Int} {R : Int → Prop} (h1 : -(2 ^ 62) ≤ j) (h2 : j < 2 ^ 62) (h : R j) : ∃ j' : Int, [V.int j] = [.int j'] ∧ -(2 ^ 62) ≤ j' ∧ j' < 2 ^ 62 ∧ R j' := ⟨j, rfl, h1, h2, h⟩
theorem i_isR2 {i j : Int} {R : Int → Int → Prop} (h1 : -(2 ^ 62) ≤ i) (h2 : i < 2 ^ 62) (h3 : -(2 ^ 62) ≤ j) (h4 : j < 2 ^ 62) (h : R i j) : ∃ i' j' : Int, [V.int i, V.int j] = [.int i', .int j'] ∧ (-(2 ^ 62) ≤ i' ∧ i' < 2 ^ 62 ∧ -(2 ^ 62) ≤ j' ∧ j' < 2 ^ 62) ∧ R i' j' := ⟨i, j, rfl, ⟨h1, h2, h3, h4⟩, h⟩
end
/-! comprehensions -/
theorem i_lc {wi : TI} {g : TG} {tt : TT} {te : TE} {ws : List Nat} {σ' : L2.St} (e : wipe σ ws = σ') (h : wi σ H fun J H1 => ∀ D, H1 D = none → ∃ W : Nat → Nat → Hp → Prop, (∃ m, W 0 m (upd H1 D (.lst []))) ∧ ∀ i m H, W i m H →
  (J.stop i H ∧ Q (.ref D) H) ∨ (J.go i H ∧ ∃ Nx : Hp → Prop, (∀ H', Nx H' → ∃ m', m' < m ∧ W (i + 1) m' H') ∧ ∀ x H', J.yld i H x H' → g x σ' H' fun σ2 H2 => wipe σ2 ws = σ' ∧ tt σ2 H2 fun b H3 =>
    if b = true then te σ2 H3 fun y H4 => ∃ acc, H4 D = some (.lst acc) ∧ acc.length < sizeLine ∧ Nx (upd H4 D (.lst (acc ++ [y]))) else Nx H3)) : tLc wi g tt te ws σ H Q := by subst e; exact h
/-! targets -/
theorem i_gNameE {i : Nat} {v : V} {σ' : L2.St} {Q : L2.St → Hp → Prop} (e : σ.set i (some v) = σ') (q : Q σ' H) : gName i v σ H Q := by subst e; exact q
theorem st_of {t : TS} {D : Ends} {σ σ' : L2.St} {H : Hp} (e : σ = σ') (h : t D σ' H) : t D σ H := by subst e; exact h
theorem i_gName {i : Nat} {v : V} {Q : L2.St → Hp → Prop} (q : Q (σ.set i (some v)) H) : gName i v σ H Q := q
theorem i_gSub {to ti : TE} {t : TSet} {v : V} {Q : L2.St → Hp → Prop} (h : to σ H fun o H1 => ti σ H1 fun i H2 => t o i v H2 fun H3 => Q σ H3) : gSub to ti t v σ H Q := h
theorem i_setL {p : Addr} {xs : List V} {k : Int} {j : Nat} {v : V} {Q : Hp → Prop} (h : H p = some (.lst xs)) (e : ixN xs.length k = some j) (q : Q (upd H p (.lst (xs.set j v)))) : rSetL (.ref p) (.int k) v H Q := ⟨p, xs, k, j, rfl, rfl, h, e, q⟩
theorem i_gTup {n : Nat} {t : TGs} {a : Addr} {xs : List V} {Q : L2.St → Hp → Prop} (h : SqT K H a xs) (e : xs.length = n) (q : t xs σ H Q) : gTup K n t (.ref a) σ H Q := ⟨a, xs, rfl, h, e, q⟩
theorem i_gNil {Q : L2.St → Hp → Prop} (q : Q σ H) : gNil [] σ H Q := ⟨rfl, q⟩
theorem i_gCons {t : TG} {u : TGs} {v : V} {r : List V} {Q : L2.St → Hp → Prop} (q : t v σ H fun σ' H' => u r σ' H' Q) : gCons t u (v :: r) σ H Q := ⟨v, r, rfl, q⟩
/-! builtins' calls -/
end
/-! ### heaps -/
/-- all but p is as it was -/
def Kp (p : Addr) (H H' : Hp) : Prop := ∀ b o, H b = some o → b ≠ p → H' b = some o
theorem Kp.refl {p : Addr} {H : Hp} : Kp p H H := fun _ _ e _ => e
theorem Kp.of {p : Addr} {H H' : Hp} (s : Same H H') : Kp p H H' := fun b o e _ => s b o e
theorem Kp.trans {p : Addr} {H H1 H2 : Hp} (a : Kp p H H1) (b : Kp p H1 H2) : Kp p H H2 := fun c o e n => b c o (a c o e n) n
theorem Kp.upd {p : Addr} {H : Hp} {o : HO} : Kp p H (upd H p o) := fun b u e n => by rw [upd_ne n]; exact e
theorem same_new {H : Hp} {p : Addr} {o : HO} (h : H p = none) : Same H (upd H p o) := fun b x e => by
  rw [upd_ne (ne_of_none e h)]
  exact e
theorem Same.tup {K : PySem.W.Frag} {H H' : Hp} {a : Addr} {xs : List V} (e : Same H H') (h : SqT K H a xs) : SqT K H' a xs := by
  rcases h with (h | ⟨o, h⟩) | h
  · exact .inl (.inl (e _ _ h))
  · exact .inl (.inr ⟨o, e _ _ h⟩)
  · exact .inr h
/-- all tuples are as they were -/
def Tps (H H' : Hp) : Prop := ∀ a, (∀ xs, H a = some (.tup xs) → H' a = some (.tup xs)) ∧ ∀ o xs, H a = some (.frz o (.tup xs)) → H' a = some (.frz o (.tup xs))
theorem Tps.sq {K : PySem.W.Frag} {H H' : Hp} {a : Addr} {xs : List V} (e : Tps H H') (h : SqT K H a xs) : SqT K H' a xs := by
  rcases h with (h | ⟨o, h⟩) | h
  · exact .inl (.inl ((e a).1 _ h))
  · exact .inl (.inr ⟨o, (e a).2 _ _ h⟩)
  · exact .inr h
theorem Tps.refl {H : Hp} : Tps H H := fun _ => ⟨fun _ h => h, fun _ _ h => h⟩
theorem Tps.trans {H H1 H2 : Hp} (a : Tps H H1) (b : Tps H1 H2) : Tps H H2 := fun c => ⟨fun xs h => (b c).1 xs ((a c).1 xs h), fun o xs h => (b c).2 o xs ((a c).2 o xs h)⟩
theorem Tps.of {H H' : Hp} (s : Same H H') : Tps H H' := fun a => ⟨fun xs h => s _ _ h, fun o xs h => s _ _ h⟩
theorem Kp.tps {p : Addr} {H H' : Hp} (k : Kp p H H') {xs : List V} (h : H p = some (.lst xs)) : Tps H H' := fun a => ⟨fun ys e => k _ _ e (ne_of e h (by intro z; cases z)), fun o ys e => k _ _ e (ne_of e h (by intro z; cases z))⟩
theorem Kp.seq {K : PySem.W.Frag} {p b : Addr} {H H' : Hp} {xs : List V} (k : Kp p H H') (h : SqL K H b xs) (n : b ≠ p) : SqL K H' b xs := by
  rcases h with (h | ⟨o, h⟩) | h
  · exact .inl (.inl (k _ _ h n))
  · exact .inl (.inr ⟨o, k _ _ h n⟩)
  · exact .inr h
/-! ### data -/
def Shp (n : Nat) (d : PyData) : Prop := d.canLay0 = true ∧ d.depth ≤ n
theorem Shp.shaped {n : Nat} {d : PyData} (h : Shp n d) (hn : n ≤ 64) : SeqAt.shaped d = true := by
  unfold SeqAt.shaped
  rw [h.1, decide_eq_true (Nat.le_trans h.2 hn)]
  rfl
theorem Shp.eqv {n : Nat} {d : PyData} (h : Shp n d) : PyData.eqv d d = true := SeqAt.eqv_refl d h.1
theorem Shp.int (i : Int) : Shp 0 (.int i) := ⟨by simp [PyData.canLay0], by simp [PyData.depth]⟩
theorem Shp.non : Shp 0 .none := ⟨by simp [PyData.canLay0], by simp [PyData.depth]⟩
theorem Shp.bool (b : Bool) : Shp 0 (.bool b) := ⟨by simp [PyData.canLay0], by simp [PyData.depth]⟩
theorem Shp.mono {n m : Nat} {d : PyData} (h : Shp n d) (hm : n ≤ m) : Shp m d := ⟨h.1, Nat.le_trans h.2 hm⟩
theorem shpAll {n : Nat} : ∀ {ds : List PyData}, (∀ d ∈ ds, Shp n d) → PyData.canLayAll0 ds = true ∧ PyData.depthAll ds ≤ n
  | [], _ => ⟨by simp [PyData.canLayAll0], by simp [PyData.depthAll]⟩
  | d :: ds, h => by
    have h1 := h d List.mem_cons_self
    have h2 := shpAll (ds := ds) fun x hx => h x (List.mem_cons_of_mem _ hx)
    refine ⟨by rw [PyData.canLayAll0, h1.1, h2.1]; rfl, ?_⟩
    rw [PyData.depthAll]
    exact Nat.max_le.mpr ⟨h1.2, h2.2⟩
theorem Shp.tup {n : Nat} {ds : List PyData} (h : ∀ d ∈ ds, Shp n d) : Shp (n + 1) (.tuple ds) := by
  have := shpAll h
  exact ⟨by rw [PyData.canLay0]; exact this.1, by rw [PyData.depth]; omega⟩
theorem Shp.lst {n : Nat} {ds : List PyData} (h : ∀ d ∈ ds, Shp n d) : Shp (n + 1) (.list ds) := by
  have := shpAll h
  exact ⟨by rw [PyData.canLay0]; exact this.1, by rw [PyData.depth]; omega⟩
theorem dpAll_of {K : PySem.W.Frag} {H : Hp} : ∀ {xs : List V} {ds : List PyData}, xs.length = ds.length → (∀ (i : Nat) x d, xs[i]? = some x → ds[i]? = some d → Dp K H x d) → DpAll K H xs ds
  | [], [], _, _ => .nil
  | x :: xs, d :: ds, hl, h => .cons (h 0 x d rfl rfl) (dpAll_of (by simpa using hl) fun i y e h1 h2 => h (i + 1) y e (by simpa using h1) (by simpa using h2))
theorem dp_ints {K : PySem.W.Frag} {H : Hp} {a : Addr} {ns : List Int} (h : SqT K H a (ns.map V.int)) : Dp K H (.ref a) (.tuple (ns.map PyData.int)) := by
  refine .tup h (dpAll_of (by simp) fun i x d h1 h2 => ?_)
  rw [List.getElem?_map] at h1 h2
  cases e : ns[i]? with
  | none => rw [e] at h1; cases h1
  | some z =>
    rw [e] at h1 h2
    cases h1
    cases h2
    exact .int z
/-! ### slices of tuples -/
section
variable {prog : Program} {w : World} {A : Around} {E : Value → Shared → Prop} {s : Shared}
theorem tup_whole {t sl : Addr} {items : Array Value} {vl vu : Value} {lo hi : Option Int} {Q : Value → Shared → Prop} (ht : IsTup s.heap t items) (hs : s.heap.IsSliceOf sl vl vu .none) (pl : IsPart vl lo) (pu : IsPart vu hi)
    (h0 : HT.sIx items.size 0 lo = 0) (h1 : HT.sIx items.size items.size hi = items.size) (h : Q (.ref t) s) : wpAny (model prog w) A (getItem (.ref t) (.ref sl)) Q E s := by
  have hTs : s.TypeIs (.ref sl) "slice" := by
    obtain ⟨os, hos, hcs, _⟩ := id hs
    exact ⟨os, hos, hcs⟩
  unfold getItem
  try with_reducible refine wpAny_holding ?_
  first | refine wpAny_bind (wpAny_pure ?_) | skip
  refine wpAny_bind (wpAny_sequenceKey ht.typeIs (by decide) (wpAny_bind (wpAny_callSpecial?_slot (name := Str.ofString "__getitem__") ht.typeIs PyProof.Rows.slot_tuple_getitem (wpAny_call_entry PyProof.Rows.slot_tuple_getitem ht.typeIs entry_tuple_getitem ?_ (args_tuple_getitem _ _)))))
  show wpAny _ _ (Builtin.Tuple.tupleItemsOf (.ref t) >>= _) _ _ s
  refine wpAny_bind (tupleItemsOf_ ht (wpAny_bind (wpAny_typeOf hTs ?_)))
  rw [if_pos (by decide)]
  refine wpAny_bind (HT.sliceApplied_gen hs pl pu ?_)
  show wpAny _ _ (if (((HT.sIx items.size 0 lo : Nat) : Int) == 0 && (1 : Int) == 1 && (HT.sIx items.size items.size hi - HT.sIx items.size 0 lo) == items.size) = true then _ else _) _ _ s
  rw [h0, h1, if_pos (by simp)]
  unfold Builtin.Tuple.tupleIsExact
  refine wpAny_bind (wpAny_bind (wpAny_typeOf ht.typeIs (wpAny_pure ?_)))
  rw [if_pos (by decide)]
  first
    | exact wpAny_bind (wpAny_rule (wpAny_pure ⟨_, rfl, wpAny_pure h⟩))
    | exact wpAny_bind (wpAny_rule (wpAny_bind (wpAny_pure (wpAny_pure ⟨_, rfl, wpAny_pure h⟩))))
end
section
variable {X : Cx}
/-- t[lo:hi], the whole of it too (that is t itself) -/
def rSlQ (K : PySem.W.Frag) : V → Option Int → Option Int → Hp → VK → Prop := fun x lo hi H Q => ∃ a xs, x = .ref a ∧ SqT K H a xs ∧
  (cutV xs lo hi = xs → Q (.ref a) H) ∧ ∀ p, H p = none → Q (.ref p) (upd H p (.tup (cutV xs lo hi)))
theorem sl_tupQ : SlR X (rSlQ X.K) := by
  intro pins s σ H x v vl vu lo hi sl Q I rx hs pl pu h
  obtain ⟨a, xs, e, hx, q0, q1⟩ := h
  by_cases hw : HT.sIx xs.length 0 lo = 0 ∧ HT.sIx xs.length xs.length hi = xs.length
  · subst e
    cases rx
    obtain ⟨its, r, ht, hz⟩ := I.tuple hx
    have hlen : its.toArray.size = xs.length := by rw [List.size_toArray]; exact r.length.symm
    refine ⟨"tuple", _, PyProof.Rows.slot_tuple_getitem.lookup, ht.typeIs, ?_⟩
    refine tup_whole ht hs pl pu (by rw [hlen]; exact hw.1) (by rw [hlen]; exact hw.2) ⟨.ref a, H, I, rfl, q0 ?_⟩
    unfold cutV
    rw [hw.1, hw.2]
    simp
  · exact sl_tup pins s σ H x v vl vu lo hi sl Q I rx hs pl pu ⟨a, xs, e, hx, hw, q1⟩
end
/-! ### loops -/
section
variable {K : PySem.W.Frag} {a : Addr} {xs : List V} {g : TG} {tb : TS} {σ : L2.St} {H : Hp} {nx : L2.St → Hp → Prop} {rt : VK}
theorem f_list (Pv : Nat → L2.St → Hp → Prop) (h0 : Pv 0 σ H) (hl : ∀ i σ H, i ≤ xs.length → Pv i σ H → SqL K H a xs)
    (hs : ∀ i x σ H, xs[i]? = some x → Pv i σ H → g x σ H fun σ2 H2 => tb ⟨Pv (i + 1), rt, nx, Pv (i + 1)⟩ σ2 H2) (hd : ∀ σ H, Pv xs.length σ H → nx σ H) :
    ∃ W : Nat → Nat → L2.St → Hp → Prop, (∃ m, W 0 m σ H) ∧ ∀ i m σ H, W i m σ H →
      ((Itl K a).stop i H ∧ nx σ H) ∨ ((Itl K a).go i H ∧ ∃ N : L2.St → Hp → Prop, (∀ σ' H', N σ' H' → ∃ m', m' < m ∧ W (i + 1) m' σ' H') ∧ ∀ x H', (Itl K a).yld i H x H' → g x σ H' fun σ2 H2 => tb ⟨N, rt, nx, N⟩ σ2 H2) :=
  for_list (D := ⟨nx, rt, fun _ _ => False, fun _ _ => False⟩) Pv h0 hl hs hd
theorem f_tup (Pv : Nat → L2.St → Hp → Prop) (h0 : Pv 0 σ H) (hl : ∀ i σ H, i ≤ xs.length → Pv i σ H → SqT K H a xs)
    (hs : ∀ i x σ H, xs[i]? = some x → Pv i σ H → g x σ H fun σ2 H2 => tb ⟨Pv (i + 1), rt, nx, Pv (i + 1)⟩ σ2 H2) (hd : ∀ σ H, Pv xs.length σ H → nx σ H) :
    ∃ W : Nat → Nat → L2.St → Hp → Prop, (∃ m, W 0 m σ H) ∧ ∀ i m σ H, W i m σ H →
      ((Itt K a).stop i H ∧ nx σ H) ∨ ((Itt K a).go i H ∧ ∃ N : L2.St → Hp → Prop, (∀ σ' H', N σ' H' → ∃ m', m' < m ∧ W (i + 1) m' σ' H') ∧ ∀ x H', (Itt K a).yld i H x H' → g x σ H' fun σ2 H2 => tb ⟨N, rt, nx, N⟩ σ2 H2) :=
  for_tup (D := ⟨nx, rt, fun _ _ => False, fun _ _ => False⟩) Pv h0 hl hs hd
theorem f_range {lo : Int} {n : Nat} (Pv : Nat → L2.St → Hp → Prop) (h0 : Pv 0 σ H)
    (hs : ∀ i σ H, i < n → Pv i σ H → g (.int (lo + i)) σ H fun σ2 H2 => tb ⟨Pv (i + 1), rt, nx, Pv (i + 1)⟩ σ2 H2) (hd : ∀ σ H, Pv n σ H → nx σ H) :
    ∃ W : Nat → Nat → L2.St → Hp → Prop, (∃ m, W 0 m σ H) ∧ ∀ i m σ H, W i m σ H →
      ((Itr lo n).stop i H ∧ nx σ H) ∨ ((Itr lo n).go i H ∧ ∃ N : L2.St → Hp → Prop, (∀ σ' H', N σ' H' → ∃ m', m' < m ∧ W (i + 1) m' σ' H') ∧ ∀ x H', (Itr lo n).yld i H x H' → g x σ H' fun σ2 H2 => tb ⟨N, rt, nx, N⟩ σ2 H2) :=
  for_range (D := ⟨nx, rt, fun _ _ => False, fun _ _ => False⟩) Pv h0 hs hd
variable {tt : TT} {te : TE} {ws : List Nat} {D : Addr} {Qd : Hp → Prop} {σ' : L2.St}
theorem l_list (Pv : Nat → Hp → Prop) (h0 : Pv 0 (upd H D (.lst []))) (hl : ∀ i H, i ≤ xs.length → Pv i H → SqL K H a xs)
    (hs : ∀ i x H, xs[i]? = some x → Pv i H → g x σ' H fun σ2 H2 => wipe σ2 ws = σ' ∧ tt σ2 H2 fun b H3 =>
      if b = true then te σ2 H3 fun y H4 => ∃ acc, H4 D = some (.lst acc) ∧ acc.length < sizeLine ∧ Pv (i + 1) (upd H4 D (.lst (acc ++ [y]))) else Pv (i + 1) H3) (hd : ∀ H, Pv xs.length H → Qd H) (e : wipe σ' ws = σ' := by rfl) :
    ∃ W : Nat → Nat → Hp → Prop, (∃ m, W 0 m (upd H D (.lst []))) ∧ ∀ i m H, W i m H →
      ((Itl K a).stop i H ∧ Qd H) ∨ ((Itl K a).go i H ∧ ∃ Nx : Hp → Prop, (∀ H', Nx H' → ∃ m', m' < m ∧ W (i + 1) m' H') ∧ ∀ x H', (Itl K a).yld i H x H' → g x σ' H' fun σ2 H2 => wipe σ2 ws = σ' ∧ tt σ2 H2 fun b H3 =>
        if b = true then te σ2 H3 fun y H4 => ∃ acc, H4 D = some (.lst acc) ∧ acc.length < sizeLine ∧ Nx (upd H4 D (.lst (acc ++ [y]))) else Nx H3) := by
  have h := lc_list (K := K) (a := a) (xs := xs) (g := g) (tt := tt) (te := te) (vs := ws) (σ := σ') (H1 := H) (D := D) (Qd := Qd) Pv h0 hl (by rw [e]; exact hs) hd
  rw [e] at h
  exact h
theorem l_tup (Pv : Nat → Hp → Prop) (h0 : Pv 0 (upd H D (.lst []))) (hl : ∀ i H, i ≤ xs.length → Pv i H → SqT K H a xs)
    (hs : ∀ i x H, xs[i]? = some x → Pv i H → g x σ' H fun σ2 H2 => wipe σ2 ws = σ' ∧ tt σ2 H2 fun b H3 =>
      if b = true then te σ2 H3 fun y H4 => ∃ acc, H4 D = some (.lst acc) ∧ acc.length < sizeLine ∧ Pv (i + 1) (upd H4 D (.lst (acc ++ [y]))) else Pv (i + 1) H3) (hd : ∀ H, Pv xs.length H → Qd H) (e : wipe σ' ws = σ' := by rfl) :
    ∃ W : Nat → Nat → Hp → Prop, (∃ m, W 0 m (upd H D (.lst []))) ∧ ∀ i m H, W i m H →
      ((Itt K a).stop i H ∧ Qd H) ∨ ((Itt K a).go i H ∧ ∃ Nx : Hp → Prop, (∀ H', Nx H' → ∃ m', m' < m ∧ W (i + 1) m' H') ∧ ∀ x H', (Itt K a).yld i H x H' → g x σ' H' fun σ2 H2 => wipe σ2 ws = σ' ∧ tt σ2 H2 fun b H3 =>
        if b = true then te σ2 H3 fun y H4 => ∃ acc, H4 D = some (.lst acc) ∧ acc.length < sizeLine ∧ Nx (upd H4 D (.lst (acc ++ [y]))) else Nx H3) := by
  have h := lc_tup (K := K) (a := a) (xs := xs) (g := g) (tt := tt) (te := te) (vs := ws) (σ := σ') (H1 := H) (D := D) (Qd := Qd) Pv h0 hl (by rw [e]; exact hs) hd
  rw [e] at h
  exact h
theorem l_range {lo : Int} {n : Nat} (Pv : Nat → Hp → Prop) (h0 : Pv 0 (upd H D (.lst [])))
    (hs : ∀ i H, i < n → Pv i H → g (.int (lo + i)) σ' H fun σ2 H2 => wipe σ2 ws = σ' ∧ tt σ2 H2 fun b H3 =>
      if b = true then te σ2 H3 fun y H4 => ∃ acc, H4 D = some (.lst acc) ∧ acc.length < sizeLine ∧ Pv (i + 1) (upd H4 D (.lst (acc ++ [y]))) else Pv (i + 1) H3) (hd : ∀ H, Pv n H → Qd H) (e : wipe σ' ws = σ' := by rfl) :
    ∃ W : Nat → Nat → Hp → Prop, (∃ m, W 0 m (upd H D (.lst []))) ∧ ∀ i m H, W i m H →
      ((Itr lo n).stop i H ∧ Qd H) ∨ ((Itr lo n).go i H ∧ ∃ Nx : Hp → Prop, (∀ H', Nx H' → ∃ m', m' < m ∧ W (i + 1) m' H') ∧ ∀ x H', (Itr lo n).yld i H x H' → g x σ' H' fun σ2 H2 => wipe σ2 ws = σ' ∧ tt σ2 H2 fun b H3 =>
        if b = true then te σ2 H3 fun y H4 => ∃ acc, H4 D = some (.lst acc) ∧ acc.length < sizeLine ∧ Nx (upd H4 D (.lst (acc ++ [y]))) else Nx H3) := by
  have h := lc_range (lo := lo) (n := n) (g := g) (tt := tt) (te := te) (vs := ws) (σ := σ') (H1 := H) (D := D) (Qd := Qd) Pv h0 (by rw [e]; exact hs) hd
  rw [e] at h
  exact h
/-! a comprehension whose elements lay nothing -/
theorem l_rangeP {lo : Int} {n : Nat} (f : Nat → V) (hD : H D = none) (hn : n ≤ 1000000)
    (hs : ∀ i H' (R : VK), i < n → Same H H' → R (f i) H' → g (.int (lo + i)) σ' H' fun σ2 H2 => wipe σ2 ws = σ' ∧ tt σ2 H2 fun b H3 => if b = true then te σ2 H3 R else False)
    (hd : ∀ H', Same H H' → H' D = some (.lst ((List.range n).map f)) → Qd H') (e : wipe σ' ws = σ' := by rfl)
    (htt : ∀ (σ2 : L2.St) (H2 : Hp) (A : Hp → Prop) (B : Hp → Prop), (tt σ2 H2 fun b H3 => if b = true then A H3 else False) → tt σ2 H2 fun b H3 => if b = true then A H3 else B H3 := by intro _ _ _ _ h; exact h) (hg : ∀ x (σ2 : L2.St) (H2 : Hp) (A B : L2.St → Hp → Prop), (∀ s h, A s h → B s h) → g x σ2 H2 A → g x σ2 H2 B := by intro _ _ _ _ _ h q; exact h _ _ q) :
    ∃ W : Nat → Nat → Hp → Prop, (∃ m, W 0 m (upd H D (.lst []))) ∧ ∀ i m H, W i m H →
      ((Itr lo n).stop i H ∧ Qd H) ∨ ((Itr lo n).go i H ∧ ∃ Nx : Hp → Prop, (∀ H', Nx H' → ∃ m', m' < m ∧ W (i + 1) m' H') ∧ ∀ x H', (Itr lo n).yld i H x H' → g x σ' H' fun σ2 H2 => wipe σ2 ws = σ' ∧ tt σ2 H2 fun b H3 =>
        if b = true then te σ2 H3 fun y H4 => ∃ acc, H4 D = some (.lst acc) ∧ acc.length < sizeLine ∧ Nx (upd H4 D (.lst (acc ++ [y]))) else Nx H3) := by
  refine l_range (fun i H' => Same H H' ∧ H' D = some (.lst ((List.range i).map f))) ⟨same_new hD, upd_same⟩ (fun i H' hi h => ?_) (fun H' h => hd H' h.1 h.2) e
  obtain ⟨s, hD'⟩ := h
  refine hg _ _ _ _ _ (fun σ2 H2 q => ⟨q.1, htt _ _ _ _ q.2⟩) (hs i H' _ hi s ⟨_, hD', ?_, fun b o hb => ?_, ?_⟩)
  · rw [List.length_map, List.length_range, sizeLine_eq]; omega
  · rw [upd_ne (ne_of_none hb hD)]; exact s _ _ hb
  · rw [upd_same, List.range_succ, List.map_append] <;> rfl
theorem l_listP (f : Nat → V) (hD : H D = none) (hn : xs.length ≤ 1000000) (hx : SqL K H a xs)
    (hs : ∀ i x H' (R : VK), xs[i]? = some x → Same H H' → R (f i) H' → g x σ' H' fun σ2 H2 => wipe σ2 ws = σ' ∧ tt σ2 H2 fun b H3 => if b = true then te σ2 H3 R else False)
    (hd : ∀ H', Same H H' → H' D = some (.lst ((List.range xs.length).map f)) → Qd H') (e : wipe σ' ws = σ' := by rfl)
    (htt : ∀ (σ2 : L2.St) (H2 : Hp) (A : Hp → Prop) (B : Hp → Prop), (tt σ2 H2 fun b H3 => if b = true then A H3 else False) → tt σ2 H2 fun b H3 => if b = true then A H3 else B H3 := by intro _ _ _ _ h; exact h) (hg : ∀ x (σ2 : L2.St) (H2 : Hp) (A B : L2.St → Hp → Prop), (∀ s h, A s h → B s h) → g x σ2 H2 A → g x σ2 H2 B := by intro _ _ _ _ _ h q; exact h _ _ q) :
    ∃ W : Nat → Nat → Hp → Prop, (∃ m, W 0 m (upd H D (.lst []))) ∧ ∀ i m H, W i m H →
      ((Itl K a).stop i H ∧ Qd H) ∨ ((Itl K a).go i H ∧ ∃ Nx : Hp → Prop, (∀ H', Nx H' → ∃ m', m' < m ∧ W (i + 1) m' H') ∧ ∀ x H', (Itl K a).yld i H x H' → g x σ' H' fun σ2 H2 => wipe σ2 ws = σ' ∧ tt σ2 H2 fun b H3 =>
        if b = true then te σ2 H3 fun y H4 => ∃ acc, H4 D = some (.lst acc) ∧ acc.length < sizeLine ∧ Nx (upd H4 D (.lst (acc ++ [y]))) else Nx H3) := by
  refine l_list (xs := xs) (fun i H' => Same H H' ∧ H' D = some (.lst ((List.range i).map f))) ⟨same_new hD, upd_same⟩ (fun i H' _ h => Same.seq h.1 hx) (fun i x H' hi h => ?_) (fun H' h => hd H' h.1 h.2) e
  obtain ⟨s, hD'⟩ := h
  have hlt := (List.getElem?_eq_some_iff.mp hi).1
  refine hg _ _ _ _ _ (fun σ2 H2 q => ⟨q.1, htt _ _ _ _ q.2⟩) (hs i x H' _ hi s ⟨_, hD', ?_, fun b o hb => ?_, ?_⟩)
  · rw [List.length_map, List.length_range, sizeLine_eq]; omega
  · rw [upd_ne (ne_of_none hb hD)]; exact s _ _ hb
  · rw [upd_same, List.range_succ, List.map_append] <;> rfl
theorem l_tupP (f : Nat → V) (hD : H D = none) (hn : xs.length ≤ 1000000) (hx : SqT K H a xs)
    (hs : ∀ i x H' (R : VK), xs[i]? = some x → Same H H' → R (f i) H' → g x σ' H' fun σ2 H2 => wipe σ2 ws = σ' ∧ tt σ2 H2 fun b H3 => if b = true then te σ2 H3 R else False)
    (hd : ∀ H', Same H H' → H' D = some (.lst ((List.range xs.length).map f)) → Qd H') (e : wipe σ' ws = σ' := by rfl)
    (htt : ∀ (σ2 : L2.St) (H2 : Hp) (A : Hp → Prop) (B : Hp → Prop), (tt σ2 H2 fun b H3 => if b = true then A H3 else False) → tt σ2 H2 fun b H3 => if b = true then A H3 else B H3 := by intro _ _ _ _ h; exact h) (hg : ∀ x (σ2 : L2.St) (H2 : Hp) (A B : L2.St → Hp → Prop), (∀ s h, A s h → B s h) → g x σ2 H2 A → g x σ2 H2 B := by intro _ _ _ _ _ h q; exact h _ _ q) :
    ∃ W : Nat → Nat → Hp → Prop, (∃ m, W 0 m (upd H D (.lst []))) ∧ ∀ i m H, W i m H →
      ((Itt K a).stop i H ∧ Qd H) ∨ ((Itt K a).go i H ∧ ∃ Nx : Hp → Prop, (∀ H', Nx H' → ∃ m', m' < m ∧ W (i + 1) m' H') ∧ ∀ x H', (Itt K a).yld i H x H' → g x σ' H' fun σ2 H2 => wipe σ2 ws = σ' ∧ tt σ2 H2 fun b H3 =>
        if b = true then te σ2 H3 fun y H4 => ∃ acc, H4 D = some (.lst acc) ∧ acc.length < sizeLine ∧ Nx (upd H4 D (.lst (acc ++ [y]))) else Nx H3) := by
  refine l_tup (xs := xs) (fun i H' => Same H H' ∧ H' D = some (.lst ((List.range i).map f))) ⟨same_new hD, upd_same⟩ (fun i H' _ h => Same.tup h.1 hx) (fun i x H' hi h => ?_) (fun H' h => hd H' h.1 h.2) e
  obtain ⟨s, hD'⟩ := h
  have hlt := (List.getElem?_eq_some_iff.mp hi).1
  refine hg _ _ _ _ _ (fun σ2 H2 q => ⟨q.1, htt _ _ _ _ q.2⟩) (hs i x H' _ hi s ⟨_, hD', ?_, fun b o hb => ?_, ?_⟩)
  · rw [List.length_map, List.length_range, sizeLine_eq]; omega
  · rw [upd_ne (ne_of_none hb hD)]; exact s _ _ hb
  · rw [upd_same, List.range_succ, List.map_append] <;> rfl
end
theorem i_yes {σ : L2.St} {H : Hp} {Q : Bool → Hp → Prop} (q : Q true H) : tYes σ H Q := q
/-! ### ifs -/
theorem c_dec {P A B : Prop} [Decidable P] (h1 : P → A) (h2 : ¬ P → B) : if decide P = true then A else B := by
  by_cases h : P
  · rw [if_pos (decide_eq_true h)]; exact h1 h
  · rw [if_neg (by rw [decide_eq_false h]; exact Bool.false_ne_true)]; exact h2 h
theorem c_decN {P A B : Prop} [Decidable P] (h1 : ¬ P → A) (h2 : P → B) : if (!decide P) = true then A else B := by
  by_cases h : P
  · rw [if_neg (by rw [decide_eq_true h]; exact Bool.false_ne_true)]; exact h2 h
  · rw [if_pos (by rw [decide_eq_false h]; rfl)]; exact h1 h
theorem c_nt {A B : Prop} (h : B) : if (!true) = true then A else B := iteF h
theorem c_nf {A B : Prop} (h : A) : if (!false) = true then A else B := iteT h
theorem c_bool {b : Bool} {A B : Prop} (h1 : b = true → A) (h2 : b = false → B) : if b = true then A else B := by
  cases b
  · exact iteF (h2 rfl)
  · exact iteT (h1 rfl)
theorem c_yes {P A B : Prop} [Decidable P] (h : P) (h1 : A) : if decide P = true then A else B := by rw [if_pos (decide_eq_true h)]; exact h1
theorem c_no {P A B : Prop} [Decidable P] (h : ¬ P) (h1 : B) : if decide P = true then A else B := by rw [if_neg (by rw [decide_eq_false h]; exact Bool.false_ne_true)]; exact h1
theorem c_yesN {P A B : Prop} [Decidable P] (h : ¬ P) (h1 : A) : if (!decide P) = true then A else B := by rw [if_pos (by rw [decide_eq_false h]; rfl)]; exact h1
theorem c_noN {P A B : Prop} [Decidable P] (h : P) (h1 : B) : if (!decide P) = true then A else B := by rw [if_neg (by rw [decide_eq_true h]; exact Bool.false_ne_true)]; exact h1
section
variable {K : PySem.W.Frag} {σ : L2.St} {H : Hp} {Q : VK}
theorem i_slA {p : Addr} {xs : List V} {lo hi : Option Int} (h : SqT K H p xs) (q : ∀ (r : Addr) (H' : Hp), Same H H' → SqT K H' r (cutV xs lo hi) → Q (.ref r) H') : rSlQ K (.ref p) lo hi H Q :=
  ⟨p, xs, rfl, h, fun e => q p H (Same.refl H) (by rw [e]; exact h), fun r hr => q r _ (same_new hr) (SqT.of upd_same)⟩
theorem i_eqD {x y : V} {d e : PyData} {n m : Nat} (h1 : Dp K H x d) (h2 : Dp K H y e) (s1 : Shp n d) (s2 : Shp m e) (hn : n ≤ 64) (hm : m ≤ 64) (q : Q (.bl (PyData.eqv d e)) H) : rEqD K x y H Q := ⟨d, e, h1, h2, s1.shaped hn, s2.shaped hm, q⟩
theorem i_neD {x y : V} {d e : PyData} {n m : Nat} (h1 : Dp K H x d) (h2 : Dp K H y e) (s1 : Shp n d) (s2 : Shp m e) (hn : n ≤ 64) (hm : m ≤ 64) (q : Q (.bl (!PyData.eqv d e)) H) : rNeD K x y H Q := ⟨d, e, h1, h2, s1.shaped hn, s2.shaped hm, q⟩
/-- == and != of the same data -/
theorem i_eqS' {x y : V} {d : PyData} {n : Nat} (h1 : Dp K H x d) (h2 : Dp K H y d) (s1 : Shp n d) (hn : n ≤ 64) (q : Q (.bl true) H) : rEqD K x y H Q := i_eqD h1 h2 s1 s1 hn hn (by rw [s1.eqv]; exact q)
theorem i_neS' {x y : V} {d : PyData} {n : Nat} (h1 : Dp K H x d) (h2 : Dp K H y d) (s1 : Shp n d) (hn : n ≤ 64) (q : Q (.bl false) H) : rNeD K x y H Q := i_neD h1 h2 s1 s1 hn hn (by rw [s1.eqv]; exact q)
theorem i_while {c : TT} {tb : TS} {nx : L2.St → Hp → Prop} {rt : VK} {bk ct : L2.St → Hp → Prop} (W : Nat → L2.St → Hp → Prop) (h0 : ∃ m, W m σ H) (h : ∀ m σ H, W m σ H →
  c σ H fun b H1 => if b = true then ∃ N : L2.St → Hp → Prop, (∀ σ' H', N σ' H' → ∃ m', m' < m ∧ W m' σ' H') ∧ tb ⟨N, rt, nx, N⟩ σ H1 else nx σ H1) : tWhile c tb ⟨nx, rt, bk, ct⟩ σ H := ⟨W, h0, h⟩
theorem i_par {i j : Nat} {ta : TA} {nx : L2.St → Hp → Prop} {rt : VK} {bk ct : L2.St → Hp → Prop} (h : ta σ H fun vs H1 => ∃ v w, vs = [v, w] ∧ nx ((σ.set i (some v)).set j (some w)) H1) : tPar i j ta ⟨nx, rt, bk, ct⟩ σ H := h
theorem i_two {x y : V} {R : V → V → Prop} (q : R x y) : ∃ v w, [x, y] = [v, w] ∧ R v w := ⟨x, y, rfl, q⟩
theorem Dp.same {K : PySem.W.Frag} {H H' : Hp} (s : Same H H') : ∀ (d : PyData) (v : V), Dp K H v d → Dp K H' v d := by
  intro d v h
  exact Dp.rec (motive_1 := fun v d _ => Dp K H' v d) (motive_2 := fun vs ds _ => DpAll K H' vs ds) .non (fun b => .bl b) (fun i => .int i) (fun x => .str x) (fun h _ q => .lst (s.seq h) q) (fun h _ q => .tup (Same.tup s h) q) .nil (fun _ _ h1 h2 => .cons h1 h2) h
end
/-! ### a def that can be called -/
structure Df (K : PySem.W.Frag) (mg : Str → Option Value) (x : Str) (st : Stmt) (f : Addr) (fd : FuncData) (ps : List Str) : Prop where
  fn : Fun K x x st f fd
  mgf : mg x = some (.ref f)
  bi : Binds K fd ps []
/-- a def of the text by its promise: it lets no exception out -/
structure Cl (P : Program) (w : World) (K : PySem.W.Frag) (mg : Str → Option Value) (base : Heap) (k : Nat) (x : Str) (sp : Sp) : Prop where
  ex : ∃ (f : Addr) (fd : FuncData) (ps : List Str), FnOk P w K mg base CX0 k f fd ps sp ∧ mg x = some (.ref f) ∧ PySem.W.keepIn K (.ref f) = true ∧ Binds K fd ps []
section
variable {P : Program} {w : World} {K : PySem.W.Frag} {mg : Str → Option Value} {base : Heap}
theorem Df.ok {x : Str} {st : Stmt} {f : Addr} {fd : FuncData} {ps N : List Str} {k : Nat} {sp : Sp} (F : Df K mg x st f fd ps) (S : FnScope N ps (defScope st)) (len : ∀ vs H Q E, sp vs H Q E → vs.length = ps.length)
    (hbody : ∀ (cdv : Value) (A : Around) (outer : List Env) (s : Shared) (H : Hp) (vs : List V) (Q : VK) (E : XK), Room k (A.deeper (envOfC x (defScope st) s.heap.objs.size f cdv)) → sp vs H Q E →
      ∃ t, PSs (cxOf CX0 P w K mg base N x (defScope st) f cdv A outer s H E).nox (defBody st) t ∧ t { nx := fun _ H' => Q .non H', rt := Q } (start N vs) H) : FnOk P w K mg base CX0 (k + 1) f fd ps sp :=
  F.fn.ok S len hbody
theorem Df.cl {x : Str} {st : Stmt} {f : Addr} {fd : FuncData} {ps : List Str} {k : Nat} {sp : Sp} (F : Df K mg x st f fd ps) (o : FnOk P w K mg base CX0 k f fd ps sp) : Cl P w K mg base k x sp :=
  ⟨f, fd, ps, o, F.mgf, F.fn.kp, F.bi⟩
variable {X : Cx}
theorem pe_cl {x : Str} {sp : Sp} {j k : Nat} {e : Expr} {es : List Expr} {t : TA} {p pos : Pos} (c : Cl X.prog X.w X.K X.mg X.base k x sp) (hr : Room j X.A) (hk : k ≤ j) (hg : Gl X x) (ha : PA X (e :: es) t)
    (hdb : (x == ("__debug__" : Str)) = false := by decide) (he : starEach (e :: es) X.env = (false, eval e X.env) :: starEach es X.env := by rfl) (hpl : (backTo pos (starEach es X.env)).any (·.1) = false := by rfl) :
    PE X (.Call (.Name x p) (e :: es) [] pos) (tCall sp [] E0 t) := by
  obtain ⟨f, fd, ps, F, hm, kp, b⟩ := c.ex
  exact pe_call F (hr.mono hk) hg hm kp b .nil pass0 ha hdb he hpl
theorem pe_cl0 {x : Str} {sp : Sp} {j k : Nat} {p pos : Pos} (c : Cl X.prog X.w X.K X.mg X.base k x sp) (hr : Room j X.A) (hk : k ≤ j) (hg : Gl X x) (hdb : (x == ("__debug__" : Str)) = false := by decide) :
    PE X (.Call (.Name x p) [] [] pos) (tCall sp [] E0 tNil) := by
  obtain ⟨f, fd, ps, F, hm, kp, b⟩ := c.ex
  exact pe_call0 F (hr.mono hk) hg hm kp b .nil pass0 hdb
/-- a constant of the module's top -/
def Cn (mg : Str → Option Value) (x : Str) (v : V) : Prop := ∃ u, mg x = some u ∧ RelV v u
theorem pe_cn {x : Str} {v : V} {pos : Pos} (hg : Gl X x) (h : Cn X.mg x v) (hd : (x == ("__debug__" : Str)) = false := by decide) : PE X (.Name x pos) (tC v) := by
  obtain ⟨u, hm, r⟩ := h
  exact pe_glob hg hm r hd
section
variable {K : PySem.W.Frag} {T : String} {name : Str} {id : String} {r : V → List V → Hp → VK → Prop} {o e : Expr} {es : List Expr} {apos cpos pos : Pos} {to ta : TE} {t : TA}
theorem pe_bm0K (hK : X.K = K) (pa : PlainAttrs T) (slot : Slot T name id) (hty : typeOf (.builtin id) = pure (.type "method_descriptor")) (hm : MtR X id r) (ho : PE X o to)
    (hbase : attributeBase o name X.env (eval o X.env) = eval o X.env := by rfl) (hline : (apos.endLine == cpos.line) = true := by rfl) : PE X (.Call (.Attribute o name apos) [] [] cpos) (tBM0 K T r to) := by
  subst hK; exact pe_bm0 pa slot hty hm ho hbase hline
theorem pe_bmK (hK : X.K = K) (pa : PlainAttrs T) (slot : Slot T name id) (hty : typeOf (.builtin id) = pure (.type "method_descriptor")) (hm : MtR X id r) (ho : PE X o to) (ha : PA X (e :: es) t)
    (hbase : attributeBase o name X.env (eval o X.env) = eval o X.env := by rfl)
    (hfew : ((backTo cpos (starEach (e :: es) X.env)).all (fun x => !x.1) && (backToKw cpos (keywordEach [] X.env)).all (fun x => x.1.isSome)
      && decide ((e :: es).length + ([] : List Keyword).length + (if ([] : List Keyword).isEmpty then 0 else 1) < 30)) = true := by rfl)
    (hline : (apos.endLine == cpos.line) = true := by rfl) (hs : starEach (e :: es) X.env = (false, eval e X.env) :: starEach es X.env := by rfl) (hplain : (backTo cpos (starEach es X.env)).any (·.1) = false := by rfl) :
    PE X (.Call (.Attribute o name apos) (e :: es) [] cpos) (tBM K T r to t) := by
  subst hK; exact pe_bm pa slot hty hm ho ha hbase hfew hline hs hplain
theorem pe_fldK (hK : X.K = K) {f : Str} (he : PE X e ta) (hb : attributeBase e f X.env (eval e X.env) = eval e X.env) : PE X (.Attribute e f pos) (tFld K ta f) := by
  subst hK; exact pe_fld he hb
theorem pg_tupK (hK : X.K = K) {es : List Expr} {k : Nat} {t : TGs} {n : Nat} (hc : X.calm = true) (h : PGs X es t)
    (hn : (assignEach es X.env).length = n := by rfl) (hst : (assignEach es X.env).findIdx? (·.1) = none := by rfl) : PG X (.Tuple es k pos) (gTup K n t) := by
  subst hK; exact pg_tup hc h hn hst
end
theorem get_list : L2.PGet X (rIxL X.K) := by
  intro pins s σ H x y v u Q I rx ry h
  obtain ⟨p, xs, i, z, rfl, rfl, hq, he, q⟩ := h
  cases rx
  obtain ⟨t, rfl⟩ := ry
  obtain ⟨its, r, pl, hz⟩ := I.list hq
  obtain ⟨j, h1, h2, h3, h4, h5⟩ := atI_get he
  obtain ⟨w, ew, rw'⟩ := r.get h2
  have hl := r.length
  have hn := line63
  have fin : EP X pins σ Q w s := ⟨z, H, I, rw', q⟩
  by_cases h0 : 0 ≤ i
  · have hj : i.toNat = j := by
      rw [seqIndex_of h0 h5] at h1
      exact Option.some.inj h1
    exact wpAny_getItem_list pl.isList h0 (by omega) (by rw [hj]; simpa using ew) fin
  · have hj : (i + (its.toArray.size : Int)).toNat = j := by
      rw [seqIndex_neg (by omega) h4] at h1
      rw [List.size_toArray, ← hl]
      exact Option.some.inj h1
    exact wpAny_getItem_list_neg pl.isList (by omega) (by rw [List.size_toArray] <;> omega) (by omega) (by rw [hj]; simpa using ew) fin
end
theorem perm_erase {α : Type} : ∀ (l : List α) (i : Nat) (h : i < l.length), (l[i] :: l.eraseIdx i).Perm l
  | x :: r, 0, _ => List.Perm.refl _
  | x :: r, i + 1, h => (List.Perm.swap x (r[i]'(Nat.lt_of_succ_lt_succ h)) (r.eraseIdx i)).trans ((perm_erase r i (Nat.lt_of_succ_lt_succ h)).cons x)
theorem ints_at {ns : List Int} {i : Nat} {x : V} (h : (ns.map V.int)[i]? = some x) : ∃ z, x = .int z ∧ ns[i]? = some z ∧ ns.take (i + 1) = ns.take i ++ [z] ∧ i < ns.length := by
  rw [List.getElem?_map] at h
  cases e : ns[i]? with
  | none => rw [e] at h; cases h
  | some z =>
    rw [e] at h
    exact ⟨z, (Option.some.inj h).symm, rfl, by rw [List.take_add_one, e]; rfl, (List.getElem?_eq_some_iff.mp e).1⟩
theorem at_lt {α : Type} {xs : List α} {i : Int} (h0 : 0 ≤ i) (h : i < xs.length) : ∃ v, atI xs i = some v ∧ v ∈ xs ∧ xs[i.toNat]? = some v := by
  have hl : i.toNat < xs.length := by omega
  refine ⟨xs[i.toNat], ?_, List.getElem_mem hl, List.getElem?_eq_getElem hl⟩
  have := atI_nat (xs := xs) (j := i.toNat) (v := xs[i.toNat]) (List.getElem?_eq_getElem hl)
  rw [Int.toNat_of_nonneg h0] at this
  exact this
theorem ixN_of {n : Nat} {i : Int} (h0 : 0 ≤ i) (h : i < n) : ixN n i = some i.toNat := by
  unfold ixN
  rw [if_pos h0, if_pos h]
end Jp

namespace Law
open PySem PySem.Spec PyProof.Rows L2 Jp
/-! ### the walk's small steps -/
local macro_rules | `(tactic| wtm_at "jset") => `(tactic| (first | (simp only [wipe, List.map_cons, List.map_nil, List.set_cons_zero, List.set_cons_succ]; done) | (simp only [wipe, List.map_cons, List.map_nil, List.set_cons_zero, List.set_cons_succ]; exact rfl) | exact rfl))
local macro_rules | `(tactic| wtm_at "jw1") => `(tactic| first
  | ((with_reducible refine' i_var ?h ?_); (case h => exact rfl))
  | with_reducible refine' i_c ?_ | with_reducible refine' i_op ?_ | with_reducible refine' i_seq ?_ | with_reducible refine' i_asg ?_
  | ((with_reducible refine' i_gNameE ?e ?_); (case e => wtm_at "jset"))
  | with_reducible refine' i_ret ?_ | with_reducible refine' i_test ?_ | with_reducible refine' i_isb ?_
  | with_reducible refine' i_cons ?_ | with_reducible refine' i_nil ?_ | with_reducible refine' i_call ?_ | with_reducible refine' i_cb ?_
  | with_reducible refine' i_rI0 ?_ | ((with_reducible refine' i_rI ?c ?_); (case c => wtm_at "jside")) | with_reducible refine' i_rU ?_
  | with_reducible refine' i_eqI ?_ | with_reducible refine' i_neI ?_ | with_reducible refine' i_eqB ?_ | with_reducible refine' i_neB ?_ | with_reducible refine' i_eqS ?_ | with_reducible refine' i_neS ?_
  | with_reducible refine' i_isN ?_ | with_reducible refine' i_notN ?_
  | with_reducible refine' i_un ?_ | with_reducible refine' i_drop ?_ | with_reducible refine' i_retN ?_ | with_reducible refine' i_next ?_
  | ((with_reducible refine' i_ixL ?h ?e ?_); (case h => wtm_at "jsq"); (case e => wtm_at "jat"))
  | ((with_reducible refine' i_ixT ?h ?e ?_); (case h => wtm_at "jsq"); (case e => wtm_at "jat"))
  | ((with_reducible refine' i_ix1 (i_ixL ?h ?e ?_)); (case h => wtm_at "jsq"); (case e => wtm_at "jat"))
  | ((with_reducible refine' i_ix2 (i_ixT ?h ?e ?_)); (case h => wtm_at "jsq"); (case e => wtm_at "jat"))
  | with_reducible refine' i_gSub ?_
  | ((with_reducible refine' i_setL ?h ?e ?_); (case h => wtm_at "jhp"); (case e => wtm_at "jixn"))
  | ((with_reducible refine' i_gTup ?h ?e ?_); (case h => wtm_at "jsq"); (case e => rfl)) | with_reducible refine' i_gCons ?_ | with_reducible refine' i_gNil ?_
  | with_reducible refine' i_int ?_ | with_reducible refine' i_intB ?_ | with_reducible refine' i_abs ?_ | with_reducible refine' i_max2 ?_ | with_reducible refine' i_min2 ?_
  | ((with_reducible refine' i_lenL ?h ?_); (case h => wtm_at "jsq")) | ((with_reducible refine' i_lenT ?h ?_); (case h => wtm_at "jsq"))
  | ((with_reducible refine' i_tupL ?h ?_); (case h => wtm_at "jsq")) | ((with_reducible refine' i_lstL ?h ?_); (case h => wtm_at "jsq")) | ((with_reducible refine' i_lstT ?h ?_); (case h => wtm_at "jsq")) | ((with_reducible refine' i_tupT ?h ?_); (case h => wtm_at "jsq"))
  | ((with_reducible refine' i_new ?h ?_); (case h => wtm_at "jlen"))
  | with_reducible refine' i_tup ?_ | with_reducible refine' i_lst ?_ | with_reducible refine' i_if ?_ | with_reducible refine' i_andV ?_ | with_reducible refine' i_orV ?_ | with_reducible refine' i_notV ?_ | with_reducible refine' i_B ?_
  | with_reducible refine' i_and ?_ | with_reducible refine' i_or ?_ | with_reducible refine' i_not ?_ | with_reducible refine' i_break ?_ | with_reducible refine' i_cont ?_
  | ((with_reducible refine' i_augE ?h ?_); (case h => exact rfl)) | with_reducible refine' i_augS ?_ | with_reducible refine' i_ipI ?_
  | with_reducible refine' i_for ?_ | with_reducible refine' i_iList ?_ | with_reducible refine' i_iTup ?_ | ((with_reducible refine' i_isL ?h ?_); (case h => wtm_at "jsq")) | ((with_reducible refine' i_isT ?h ?_); (case h => wtm_at "jsq"))
  | with_reducible refine' i_rng1 ?_ | with_reducible refine' i_rng2 ?_
  | ((with_reducible refine' i_isR1 ?h1 ?h2 ?_); (case h1 => wtm_at "jside"); (case h2 => wtm_at "jside"))
  | ((with_reducible refine' i_isR2 ?h1 ?h2 ?h3 ?h4 ?_); (case h1 => wtm_at "jside"); (case h2 => wtm_at "jside"); (case h3 => wtm_at "jside"); (case h4 => wtm_at "jside"))
  | ((with_reducible refine' i_lc ?e ?_); (case e => wtm_at "jset"))
  | with_reducible refine' i_yes ?_ | with_reducible refine' i_sl ?_ | with_reducible refine' i_par ?_ | with_reducible refine' i_two ?_ | with_reducible refine' i_noPart ?_ | with_reducible refine' i_part ?_ | with_reducible refine' i_isI ?_
  | with_reducible refine' i_bm ?_ | with_reducible refine' i_bm0 ?_ | ((with_reducible refine' i_tyL ?h ?_); (case h => wtm_at "jsq"))
  | ((with_reducible refine' i_app ?h ?e ?_); (case h => wtm_at "jhp"); (case e => wtm_at "jsmall"))
  | with_reducible refine' i_chain ?_ | ((with_reducible refine' i_cat ?h1 ?h2 ?e ?_); (case h1 => wtm_at "jhp"); (case h2 => wtm_at "jhp"); (case e => wtm_at "jlen"))
  | with_reducible refine iteT ?_ | with_reducible refine iteF ?_ | with_reducible refine' c_nt ?_ | with_reducible refine' c_nf ?_)
local macro_rules | `(tactic| wtm_at "js") => `(tactic| repeat (wtm_at "jw1"))
local macro_rules | `(tactic| wtm_at "jw") => `(tactic| repeat (first | wtm_at "jw1" | with_reducible refine' i_ifS ?_))
local macro_rules | `(tactic| wtm_at "jlen") => `(tactic| first | decide | (simp [sizeLine]; done) | omega)
/- a condition of an operation -/
local macro_rules | `(tactic| wtm_at "jside") => `(tactic| first | with_reducible assumption | omega | decide | (simp only [List.length_map]; omega) | (refine Or.inl ?_; decide) | (refine Or.inr ?_; decide) | (refine ⟨?_, ?_⟩ <;> omega) | (refine Or.inl ?_; constructor <;> omega) | (refine Or.inr ?_; constructor <;> omega) | (refine ⟨by decide, by decide, by decide⟩))
/- H p = some o -/
local macro_rules | `(tactic| wtm_at "jhp") => `(tactic| first | assumption | with_reducible exact upd_same | ((with_reducible refine' Eq.trans (upd_ne ?hne) ?hgo); (case hne => wtm_at "jne"); (case hgo => wtm_at "jhp")))
local macro_rules | `(tactic| wtm_at "jne") => `(tactic| first | assumption | (refine Ne.symm ?_; assumption) | (refine ne_of_none (by assumption) (by assumption)) | (refine (ne_of_none (by assumption) (by assumption)).symm))
local macro_rules | `(tactic| wtm_at "jsq") => `(tactic| first | assumption | ((with_reducible refine' SqL.of ?hh); (case hh => wtm_at "jhp")) | ((with_reducible refine' SqT.of ?hh); (case hh => wtm_at "jhp")) | ((with_reducible refine' Same.seq (same_new ?hn) ?hh); (case hn => assumption); (case hh => wtm_at "jsq")) | ((with_reducible refine' Same.tup (same_new ?hn) ?hh); (case hn => assumption); (case hh => wtm_at "jsq")))
/- the item at a place -/
local macro_rules | `(tactic| wtm_at "jat") => `(tactic| first | exact rfl | assumption)
local macro_rules | `(tactic| wtm_at "jixn") => `(tactic| first | exact rfl | assumption)
local macro_rules | `(tactic| wtm_at "jsmall") => `(tactic| first | assumption | exact small1000 (by first | assumption | omega | (simp; done) | (simp; omega)))

def top (i : Nat) : Stmt := PySem.Challenge.pw_judgedplay_k31_differences.main.body.getD i (.Pass ⟨0, 0, 0, 0⟩)
abbrev s__law_begin : Stmt := top 5
abbrev N__law_begin : List Str := ["script", "cell"]
theorem sc__law_begin : FnScope N__law_begin ["script"] (defScope s__law_begin) := ⟨rfl, rfl, rfl, by decide +kernel, rfl, by decide +kernel, by decide +kernel⟩
abbrev s__law_draw : Stmt := top 6
abbrev N__law_draw : List Str := ["d", "many", "found", "size", "cell"]
theorem sc__law_draw : FnScope N__law_draw ["d", "many"] (defScope s__law_draw) := ⟨rfl, rfl, rfl, by decide +kernel, rfl, by decide +kernel, by decide +kernel⟩
abbrev s__law_pick : Stmt := top 7
abbrev N__law_pick : List Str := ["d", "row"]
theorem sc__law_pick : FnScope N__law_pick ["d", "row"] (defScope s__law_pick) := ⟨rfl, rfl, rfl, by decide +kernel, rfl, by decide +kernel, by decide +kernel⟩
abbrev s__law_layout : Stmt := top 10
abbrev N__law_layout : List Str := ["d", "kinds", "k"]
theorem sc__law_layout : FnScope N__law_layout ["d"] (defScope s__law_layout) := ⟨rfl, rfl, rfl, by decide +kernel, rfl, by decide +kernel, by decide +kernel⟩
abbrev s__law_entry : Stmt := top 11
abbrev N__law_entry : List Str := ["d", "kind"]
theorem sc__law_entry : FnScope N__law_entry ["d", "kind"] (defScope s__law_entry) := ⟨rfl, rfl, rfl, by decide +kernel, rfl, by decide +kernel, by decide +kernel⟩
abbrev s__law_any : Stmt := top 12
abbrev N__law_any : List Str := ["d", "kinds", "kind"]
theorem sc__law_any : FnScope N__law_any ["d", "kinds"] (defScope s__law_any) := ⟨rfl, rfl, rfl, by decide +kernel, rfl, by decide +kernel, by decide +kernel⟩
abbrev s__law_other : Stmt := top 13
abbrev N__law_other : List Str := ["d", "kinds", "old", "found", "k", "place"]
theorem sc__law_other : FnScope N__law_other ["d", "kinds", "old"] (defScope s__law_other) := ⟨rfl, rfl, rfl, by decide +kernel, rfl, by decide +kernel, by decide +kernel⟩
abbrev s__law_differing : Stmt := top 15
abbrev N__law_differing : List Str := ["old", "new", "found", "place"]
theorem sc__law_differing : FnScope N__law_differing ["old", "new"] (defScope s__law_differing) := ⟨rfl, rfl, rfl, by decide +kernel, rfl, by decide +kernel, by decide +kernel⟩
abbrev s__law_applied : Stmt := top 16
abbrev N__law_applied : List Str := ["old", "rows", "found", "place", "value"]
theorem sc__law_applied : FnScope N__law_applied ["old", "rows"] (defScope s__law_applied) := ⟨rfl, rfl, rfl, by decide +kernel, rfl, by decide +kernel, by decide +kernel⟩
abbrev s_changed : Stmt := top 2
abbrev N_changed : List Str := ["old", "rows", "values", "place", "value"]
theorem sc_changed : FnScope N_changed ["old", "rows"] (defScope s_changed) := ⟨rfl, rfl, rfl, by decide +kernel, rfl, by decide +kernel, by decide +kernel⟩
abbrev s__law_is_int : Stmt := top 8
abbrev N__law_is_int : List Str := ["thing"]
theorem sc__law_is_int : FnScope N__law_is_int ["thing"] (defScope s__law_is_int) := ⟨rfl, rfl, rfl, by decide +kernel, rfl, by decide +kernel, by decide +kernel⟩
abbrev s__law_is_ints : Stmt := top 9
abbrev N__law_is_ints : List Str := ["row", "part"]
theorem sc__law_is_ints : FnScope N__law_is_ints ["row"] (defScope s__law_is_ints) := ⟨rfl, rfl, rfl, by decide +kernel, rfl, by decide +kernel, by decide +kernel⟩
abbrev s__law_is_changed : Stmt := top 19
abbrev N__law_is_changed : List Str := ["old", "rows", "due", "told"]
theorem sc__law_is_changed : FnScope N__law_is_changed ["old", "rows", "due"] (defScope s__law_is_changed) := ⟨rfl, rfl, rfl, by decide +kernel, rfl, by decide +kernel, by decide +kernel⟩
abbrev s_thinned : Stmt := top 3
abbrev N_thinned : List Str := ["old", "rows", "row"]
theorem sc_thinned : FnScope N_thinned ["old", "rows"] (defScope s_thinned) := ⟨rfl, rfl, rfl, by decide +kernel, rfl, by decide +kernel, by decide +kernel⟩
abbrev s__law_is_entries : Stmt := top 17
abbrev N__law_is_entries : List Str := ["rows", "row"]
theorem sc__law_is_entries : FnScope N__law_is_entries ["rows"] (defScope s__law_is_entries) := ⟨rfl, rfl, rfl, by decide +kernel, rfl, by decide +kernel, by decide +kernel⟩
abbrev s__law_is_thinned : Stmt := top 20
abbrev N__law_is_thinned : List Str := ["old", "rows", "due", "told"]
theorem sc__law_is_thinned : FnScope N__law_is_thinned ["old", "rows", "due"] (defScope s__law_is_thinned) := ⟨rfl, rfl, rfl, by decide +kernel, rfl, by decide +kernel, by decide +kernel⟩
abbrev s_difference : Stmt := top 1
abbrev N_difference : List Str := ["old", "new", "k"]
theorem sc_difference : FnScope N_difference ["old", "new"] (defScope s_difference) := ⟨rfl, rfl, rfl, by decide +kernel, rfl, by decide +kernel, by decide +kernel⟩
abbrev s__law_is_difference : Stmt := top 18
abbrev N__law_is_difference : List Str := ["old", "new", "told"]
theorem sc__law_is_difference : FnScope N__law_is_difference ["old", "new"] (defScope s__law_is_difference) := ⟨rfl, rfl, rfl, by decide +kernel, rfl, by decide +kernel, by decide +kernel⟩
abbrev s__law_are_right : Stmt := top 21
abbrev N__law_are_right : List Str := ["old", "new", "rows", "there", "back", "every", "place", "after", "thin"]
theorem sc__law_are_right : FnScope N__law_are_right ["old", "new", "rows"] (defScope s__law_are_right) := ⟨rfl, rfl, rfl, by decide +kernel, rfl, by decide +kernel, by decide +kernel⟩
abbrev s__law_entries : Stmt := top 14
abbrev N__law_entries : List Str := ["d", "kinds", "old", "share", "rows", "place", "value"]
theorem sc__law_entries : FnScope N__law_entries ["d", "kinds", "old"] (defScope s__law_entries) := ⟨rfl, rfl, rfl, by decide +kernel, rfl, by decide +kernel, by decide +kernel⟩
abbrev s_law : Stmt := top 22
abbrev N_law : List Str := ["script", "d", "kinds", "first", "second", "others", "old", "new"]
theorem sc_law : FnScope N_law ["script"] (defScope s_law) := ⟨rfl, rfl, rfl, by decide +kernel, rfl, by decide +kernel, by decide +kernel⟩
/-- what the text's top has: built-ins that are still so, constants -/
structure Txt (mg : Str → Option Value) : Prop where
  b_int : mg "int" = none
  b_len : mg "len" = none
  b_abs : mg "abs" = none
  b_range : mg "range" = none
  b_tuple : mg "tuple" = none
  b_list : mg "list" = none
  b_isinstance : mg "isinstance" = none
  b_bool : mg "bool" = none
  b_all : mg "all" = none
/-! ### the draws -/
/-- a row of draws stands at p, its cells at a -/
def DrawAt (H : Hp) (p a : Addr) : Prop := ∃ (ns : List Int) (pos pend seed : Int), H p = some (.lst [.ref a, .int pos, .int pend, .int seed]) ∧ H a = some (.lst (ns.map V.int)) ∧ a ≠ p ∧ 0 ≤ pos
theorem DrawAt.same {H H' : Hp} {p a : Addr} (d : DrawAt H p a) (s : Same H H') : DrawAt H' p a := by
  obtain ⟨ns, pos, pend, seed, h1, h2, h3, h4⟩ := d
  exact ⟨ns, pos, pend, seed, s _ _ h1, s _ _ h2, h3, h4⟩
/-- behind draws: the row stands, all else is as it was -/
structure Drew (p a : Addr) (H H' : Hp) : Prop where
  at_ : DrawAt H' p a
  kp : Kp p H H'
theorem Drew.trans {p a : Addr} {H H1 H2 : Hp} (x : Drew p a H H1) (y : Drew p a H1 H2) : Drew p a H H2 := ⟨y.at_, x.kp.trans y.kp⟩
theorem Drew.new {p a q : Addr} {H H1 : Hp} {o : HO} (x : Drew p a H H1) (h : H1 q = none) : Drew p a H (upd H1 q o) := ⟨x.at_.same (same_new h), x.kp.trans (.of (same_new h))⟩
theorem Drew.same {p a : Addr} {H H1 H2 : Hp} (x : Drew p a H H1) (s : Same H1 H2) : Drew p a H H2 := ⟨x.at_.same s, x.kp.trans (.of s)⟩
theorem DrawAt.drew {p a : Addr} {H : Hp} (d : DrawAt H p a) : Drew p a H H := ⟨d, Kp.refl⟩
theorem DrawAt.some {H : Hp} {p a : Addr} (d : DrawAt H p a) : ∃ xs, H p = some (.lst xs) := by
  obtain ⟨ns, pos, pend, seed, h1, _⟩ := d
  exact ⟨_, h1⟩
theorem DrawAt.ne_none {H : Hp} {p a q : Addr} (d : DrawAt H p a) (h : H q = none) : q ≠ p := by
  obtain ⟨xs, e⟩ := d.some
  exact (ne_of_none e h).symm
theorem DrawAt.ne_noneA {H : Hp} {p a q : Addr} (d : DrawAt H p a) (h : H q = none) : q ≠ a := by
  obtain ⟨ns, pos, pend, seed, _, h1, _⟩ := d
  exact (ne_of_none h1 h).symm
theorem Drew.free {p a q : Addr} {H H' : Hp} (w : Drew p a H H') (h : H' q = none) : H q = none := by
  cases e : H q with
  | none => rfl
  | some o =>
    by_cases hq : q = p
    · obtain ⟨xs, e'⟩ := w.at_.some
      rw [hq, e'] at h; cases h
    · rw [w.kp _ _ e hq] at h; cases h
/-- a thing of our own, made behind H, is written -/
theorem Drew.put {p a q : Addr} {H H1 : Hp} {o : HO} (x : Drew p a H H1) (d : DrawAt H p a) (h : H q = none) : Drew p a H (upd H1 q o) := by
  have n1 := d.ne_none h
  have n2 := d.ne_noneA h
  obtain ⟨ns, pos, pend, seed, h1, h2, h3, h4⟩ := x.at_
  refine ⟨⟨ns, pos, pend, seed, by rw [upd_ne n1.symm]; exact h1, by rw [upd_ne n2.symm]; exact h2, h3, h4⟩, fun b u hb hne => ?_⟩
  rw [upd_ne (ne_of_none hb h)]
  exact x.kp _ _ hb hne
theorem Drew.tps {p a : Addr} {H H' : Hp} (w : Drew p a H H') (d : DrawAt H p a) : Tps H H' := by
  obtain ⟨xs, e⟩ := d.some
  exact w.kp.tps e
def sp__law_begin (K : PySem.W.Frag) : Sp := fun vs H Q _ => ∃ (a : Addr) (ns : List Int), vs = [.ref a] ∧ SqL K H a (ns.map V.int) ∧ ns.length ≤ 63 ∧
  ∀ (p c : Addr) (H' : Hp), Same H H' → H p = none → H c = none → DrawAt H' p c → Q (.ref p) H'
theorem ok__law_begin {P : Program} {w : World} {K : PySem.W.Frag} {mg : Str → Option Value} {base : Heap} {f : Addr} {fd : FuncData} (F : Df K mg "_law_begin" s__law_begin f fd ["script"]) (T : Txt mg) : FnOk P w K mg base CX0 1 f fd ["script"] (sp__law_begin K) := by
  refine F.ok sc__law_begin (fun vs H Q E h => ?_) (fun cdv A outer s H vs Q E hr h => ?_)
  · obtain ⟨a, ns, rfl, _⟩ := h
    rfl
  · obtain ⟨a, ns, rfl, hS, hl, k⟩ := h
    refine ⟨_, (pss_one (ps_ret (pe_lst (pa_cons (pe_lc (own := [("cell", 1)]) (g := gName 1) (tt := tYes) rfl sc__law_begin.nd (pi_list (pv 0)) (blkOk_by (own := [("cell", 1)]) (N := N__law_begin) (sc := defScope s__law_begin) (by decide +kernel)) (fun _ _ _ _ _ => (pg_name (i := 1) sc__law_begin.nd rfl (Or.inl rfl))) (fun _ _ _ _ _ => pts_nil) (fun _ _ _ _ _ => (pe_callTy (T := "int") c_int (by rfl) T.b_int (by decide +kernel) (pa_cons (pv 1) pa_nil)))) (pa_cons pe_int (pa_cons pe_int (pa_cons pe_int pa_nil))))))), ?_⟩
    try dsimp only [cxOf, Cx.nox, Cx.wish]
    refine st_of (σ' := [some _, none]) rfl ?_
    wtm_at "jw"
    intro D hD
    refine l_list (xs := ns.map V.int) (fun i H1 => Same H H1 ∧ H1 D = some (.lst ((ns.take i).map V.int))) ⟨same_new hD, upd_same⟩ (fun i H1 _ h => h.1.seq hS) (fun i x H1 hi h => ?_) (fun H1 h => ?_)
    · obtain ⟨s1, h1⟩ := h
      rw [List.getElem?_map] at hi
      cases e : ns[i]? with
      | none => rw [e] at hi; cases hi
      | some z =>
        rw [e] at hi
        cases hi
        have hlt : i < ns.length := (List.getElem?_eq_some_iff.mp e).1
        wtm_at "jw"
        refine ⟨rfl, ?_⟩
        wtm_at "jw"
        refine ⟨_, h1, small1000 (by rw [List.length_map, List.length_take]; omega), ?_, ?_⟩
        · intro b o hb
          have hne : b ≠ D := ne_of_none hb hD
          rw [upd_ne hne]
          exact s1 _ _ hb
        · rw [upd_same, List.take_add_one, e, List.map_append]
          rfl
    · obtain ⟨s1, h1⟩ := h
      rw [List.length_map, List.take_length] at h1
      wtm_at "jw"
      intro p hp
      have hne : D ≠ p := ne_of_none h1 hp
      refine k p D _ (fun b o hb => ?_) (s1.free hp) hD ⟨ns, 0, 0, 11, upd_same, by rw [upd_ne hne]; exact h1, hne, by decide⟩
      rw [upd_ne (ne_of_none (s1 _ _ hb) hp)]
      exact s1 _ _ hb
def sp__law_draw (K : PySem.W.Frag) : Sp := fun vs H Q _ => ∃ (p a : Addr) (many : Int), vs = [.ref p, .int many] ∧ DrawAt H p a ∧ 0 < many ∧ many < 1073741824 ∧
  ∀ (r : Int) (H' : Hp), 0 ≤ r → r < many → Drew p a H H' → Q (.int r) H'
theorem ok__law_draw {P : Program} {w : World} {K : PySem.W.Frag} {mg : Str → Option Value} {base : Heap} {f : Addr} {fd : FuncData} (F : Df K mg "_law_draw" s__law_draw f fd ["d", "many"]) (T : Txt mg) : FnOk P w K mg base CX0 1 f fd ["d", "many"] (sp__law_draw K) := by
  refine F.ok sc__law_draw (fun vs H Q E h => ?_) (fun cdv A outer s H vs Q E hr h => ?_)
  · obtain ⟨p, a, m, rfl, _⟩ := h
    rfl
  · obtain ⟨p, a, m, rfl, ⟨ns, pos, pend, seed, hp, ha, nap, h0⟩, hm0, hm1, k⟩ := h
    have fin : ∀ (z : Int) (pos' pend' seed' : Int) (H' : Hp), 0 ≤ pos' → H' p = some (.lst [.ref a, .int pos', .int pend', .int seed']) → Kp p H H' → Q (.int (z % m)) H' := fun z pos' pend' seed' H' hp' h1 h2 =>
      k _ _ (Int.emod_nonneg _ (by omega)) (Int.emod_lt_of_pos _ hm0) ⟨⟨ns, pos', pend', seed', h1, h2 _ _ ha nap, nap, hp'⟩, h2⟩
    refine ⟨_, (pss_cons (ps_if (pt_cmpR op_gt (pe_ix (r := rIxL K) ix_list (pv 0) pe_int (fun _ _ => rfl)) pe_int (nomark _)) (pss_cons (ps_set (i := 2) sc__law_draw.nd rfl (Or.inl rfl) (pe_ix (r := rIxL K) ix_list (pv 0) pe_int (fun _ _ => rfl)))
      (pss_cons (ps_asg (pe_op op_fdiv (pv 2) (pv 1)) (pg_sub (pv 0) pe_int set_list))
      (pss_one (ps_ret (pe_op op_mod (pe_callTy (T := "int") c_int (by rfl) T.b_int (by decide +kernel) (pa_cons (pv 2) pa_nil)) (pv 1)))))) pss_nil)
      (pss_cons (ps_set (i := 3) sc__law_draw.nd rfl (Or.inl rfl) pe_int)
      (pss_cons (ps_if (pt_cmpR op_lt (pe_ix (r := rIxL K) ix_list (pv 0) pe_int (fun _ _ => rfl)) (pe_callB (id := "len") (r := rLen K) c_len (by rfl) T.b_len (by decide +kernel) (pa_cons (pe_ix (r := rIxL K) ix_list (pv 0) pe_int (fun _ _ => rfl)) pa_nil)) (nomark _)) (pss_cons (ps_set (i := 4) sc__law_draw.nd rfl (Or.inl rfl) (pe_ix (r := rIx K) ix_seq (pe_ix (r := rIxL K) ix_list (pv 0) pe_int (fun _ _ => rfl)) (pe_ix (r := rIxL K) ix_list (pv 0) pe_int (fun _ _ => rfl)) (fun _ _ => rfl)))
      (pss_one (ps_set (i := 3) sc__law_draw.nd rfl (Or.inl rfl) (pe_op op_add (pe_op op_mul pe_int (pe_callB (id := "abs") c_abs (by rfl) T.b_abs (by decide +kernel) (pa_cons (pv 4) pa_nil))) (pe_callTy (T := "int") c_int (by rfl) T.b_int (by decide +kernel) (pa_cons (pe_cmpR op_lt (pv 4) pe_int (nomark _)) pa_nil)))))) pss_nil)
      (pss_cons (ps_augS (pv 0) pe_int get_list pe_int iop_add set_list)
      (pss_cons (ps_if (pt_cmpR op_ge (pv 3) (pe_op op_mul pe_int (pe_op op_pow pe_int pe_int)) (nomark _)) (pss_cons (ps_set (i := 2) sc__law_draw.nd rfl (Or.inl rfl) (pe_op op_mod (pe_callTy (T := "int") c_int (by rfl) T.b_int (by decide +kernel) (pa_cons (pe_op op_fdiv (pv 3) pe_int) pa_nil)) (pe_op op_shl pe_int pe_int)))
      (pss_cons (ps_asg (pe_op op_fdiv (pv 2) (pv 1)) (pg_sub (pv 0) pe_int set_list))
      (pss_one (ps_ret (pe_op op_mod (pe_callTy (T := "int") c_int (by rfl) T.b_int (by decide +kernel) (pa_cons (pv 2) pa_nil)) (pv 1)))))) pss_nil)
      (pss_cons (ps_asg (pe_op op_mod (pe_callTy (T := "int") c_int (by rfl) T.b_int (by decide +kernel) (pa_cons (pe_op op_add (pe_op op_add (pe_op op_add (pe_op op_mul (pe_ix (r := rIxL K) ix_list (pv 0) pe_int (fun _ _ => rfl)) pe_int) (pe_op op_mul (pe_op op_mod (pe_callTy (T := "int") c_int (by rfl) T.b_int (by decide +kernel) (pa_cons (pv 3) pa_nil)) pe_int) pe_int)) (pe_op op_mul (pe_ix (r := rIxL K) ix_list (pv 0) pe_int (fun _ _ => rfl)) pe_int)) pe_int) pa_nil)) pe_int) (pg_sub (pv 0) pe_int set_list))
      (pss_one (ps_ret (pe_op op_mod (pe_callTy (T := "int") c_int (by rfl) T.b_int (by decide +kernel) (pa_cons (pe_op op_fdiv (pe_ix (r := rIxL K) ix_list (pv 0) pe_int (fun _ _ => rfl)) pe_int) pa_nil)) (pv 1)))))))))), ?_⟩
    try dsimp only [cxOf, Cx.nox, Cx.wish]
    refine st_of (σ' := [some _, some _, none, none, none]) rfl ?_
    wtm_at "jw"
    refine c_dec (fun h => ?_) (fun h => ?_)
    · wtm_at "jw"
      exact fin _ _ _ _ _ h0 upd_same Kp.upd
    · wtm_at "jw"
      refine c_dec (fun h1 => ?_) (fun h1 => ?_)
      · obtain ⟨c, hc⟩ : ∃ c : Int, atI (ns.map V.int) pos = some (.int c) := by
          obtain ⟨v, e, hv, _⟩ := at_lt (xs := ns.map V.int) h0 h1
          obtain ⟨z, _, rfl⟩ := List.mem_map.mp hv
          exact ⟨z, e⟩
        wtm_at "jw"
        refine c_dec (fun h2 => ?_) (fun h2 => ?_)
        · wtm_at "jw"
          exact fin _ (pos + 1) _ _ _ (by omega) upd_same (Kp.upd.trans Kp.upd)
        · wtm_at "jw"
          exact fin _ (pos + 1) _ _ _ (by omega) upd_same (Kp.upd.trans Kp.upd)
      · wtm_at "jw"
        refine c_dec (fun h2 => ?_) (fun h2 => ?_)
        · wtm_at "jw"
          exact fin _ (pos + 1) _ _ _ (by omega) upd_same (Kp.upd.trans Kp.upd)
        · wtm_at "jw"
          exact fin _ (pos + 1) _ _ _ (by omega) upd_same (Kp.upd.trans Kp.upd)

def sp__law_pick (K : PySem.W.Frag) : Sp := fun vs H Q _ => ∃ (p a b : Addr) (xs : List V), vs = [.ref p, .ref b] ∧ DrawAt H p a ∧ ((b ≠ p ∧ SqL K H b xs) ∨ SqT K H b xs) ∧ 0 < xs.length ∧ xs.length < 1073741824 ∧
  ∀ (x : V) (H' : Hp), x ∈ xs → Drew p a H H' → Q x H'
theorem ok__law_pick {P : Program} {w : World} {K : PySem.W.Frag} {mg : Str → Option Value} {base : Heap} {f : Addr} {fd : FuncData} (F : Df K mg "_law_pick" s__law_pick f fd ["d", "row"]) (T : Txt mg)
    (c__law_draw : Cl P w K mg base 1 "_law_draw" (sp__law_draw K)) : FnOk P w K mg base CX0 2 f fd ["d", "row"] (sp__law_pick K) := by
  refine F.ok sc__law_pick (fun vs H Q E h => ?_) (fun cdv A outer s H vs Q E hr h => ?_)
  · obtain ⟨p, a, b, xs, rfl, _⟩ := h
    rfl
  · obtain ⟨p, a, b, xs, rfl, hd, hb, hl0, hl1, k⟩ := h
    refine ⟨_, (pss_one (ps_ret (pe_ix (r := rIx K) ix_seq (pv 1) (pe_cl c__law_draw hr (by decide) rfl (pa_cons (pv 0) (pa_cons (pe_callB (id := "len") (r := rLen K) c_len (by rfl) T.b_len (by decide +kernel) (pa_cons (pv 1) pa_nil)) pa_nil))) (fun _ _ => rfl)))), ?_⟩
    try dsimp only [cxOf, Cx.nox, Cx.wish]
    refine st_of (σ' := [some _, some _]) rfl ?_
    rcases hb with ⟨nb, hb⟩ | hb
    all_goals
      wtm_at "jw"
      refine ⟨p, a, _, rfl, hd, by omega, by omega, fun r H' hr0 hr1 w => ?_⟩
      obtain ⟨v, e, hv, _⟩ := at_lt hr0 hr1
    · have hb' := w.kp.seq hb nb
      wtm_at "jw"
      exact k _ _ hv w
    · have hb' := (w.tps hd).sq hb
      wtm_at "jw"
      exact k _ _ hv w

def sp__law_is_int (K : PySem.W.Frag) : Sp := fun vs H Q _ => ∃ (i : Int), vs = [.int i] ∧ Q (.bl true) H
theorem ok__law_is_int {P : Program} {w : World} {K : PySem.W.Frag} {mg : Str → Option Value} {base : Heap} {f : Addr} {fd : FuncData} (F : Df K mg "_law_is_int" s__law_is_int f fd ["thing"]) (T : Txt mg) : FnOk P w K mg base CX0 1 f fd ["thing"] (sp__law_is_int K) := by
  refine F.ok sc__law_is_int (fun vs H Q E h => ?_) (fun cdv A outer s H vs Q E hr h => ?_)
  · obtain ⟨i, rfl, _⟩ := h
    rfl
  · obtain ⟨i, rfl, k⟩ := h
    refine ⟨_, (pss_one (ps_ret (pe_and (pe_callB (id := "isinstance") (r := rIsi K) call_isi (by rfl) T.b_isinstance (by decide +kernel) (pa_cons (pv 0) (pa_cons (pe_bltn (v := .ty "int") (u := Value.type "int") (by rfl) T.b_int (by decide +kernel) rfl) pa_nil))) (pe_one (pe_not (pe_callB (id := "isinstance") (r := rIsi K) call_isi (by rfl) T.b_isinstance (by decide +kernel) (pa_cons (pv 0) (pa_cons (pe_bltn (v := .ty "bool") (u := Value.type "bool") (by rfl) T.b_bool (by decide +kernel) rfl) pa_nil)))))))), ?_⟩
    try dsimp only [cxOf, Cx.nox, Cx.wish]
    refine st_of (σ' := [some _]) rfl ?_
    wtm_at "jw"
    refine i_isi (.base (.int i)) rfl ?_
    wtm_at "jw"
    refine i_isi (.base (.int i)) rfl ?_
    wtm_at "jw"
    exact k

theorem all_id_true (n : Nat) : (List.replicate n true).all id = true := by
  rw [List.all_replicate]; simp
def sp__law_is_ints (K : PySem.W.Frag) : Sp := fun vs H Q _ => ∃ (a : Addr) (ns : List Int), vs = [.ref a] ∧ H a = some (.tup (ns.map V.int)) ∧ ns.length ≤ 1000000 ∧ ∀ H', Same H H' → Q (.bl true) H'
theorem ok__law_is_ints {P : Program} {w : World} {K : PySem.W.Frag} {mg : Str → Option Value} {base : Heap} {f : Addr} {fd : FuncData} (F : Df K mg "_law_is_ints" s__law_is_ints f fd ["row"]) (T : Txt mg)
    (c__law_is_int : Cl P w K mg base 1 "_law_is_int" (sp__law_is_int K)) : FnOk P w K mg base CX0 2 f fd ["row"] (sp__law_is_ints K) := by
  refine F.ok sc__law_is_ints (fun vs H Q E h => ?_) (fun cdv A outer s H vs Q E hr h => ?_)
  · obtain ⟨a, ns, rfl, _⟩ := h
    rfl
  · obtain ⟨a, ns, rfl, ha, hl, k⟩ := h
    refine ⟨_, (pss_one (ps_ret (pe_and (pe_callB (id := "isinstance") (r := rIsi K) call_isi (by rfl) T.b_isinstance (by decide +kernel) (pa_cons (pv 0) (pa_cons (pe_bltn (v := .ty "tuple") (u := Value.type "tuple") (by rfl) T.b_tuple (by decide +kernel) rfl) pa_nil))) (pe_one (pe_callB (id := "all") (r := rAll K) (cr_all rfl) (by rfl) T.b_all (by decide +kernel) (pa_cons (pe_lc (own := [("part", 1)]) (g := gName 1) (tt := tYes) rfl sc__law_is_ints.nd (pi_tup (pv 0)) (blkOk_by (own := [("part", 1)]) (N := N__law_is_ints) (sc := defScope s__law_is_ints) (by decide +kernel)) (fun _ _ _ _ _ => (pg_name (i := 1) sc__law_is_ints.nd rfl (Or.inl rfl))) (fun _ _ _ _ _ => pts_nil) (fun _ _ _ _ _ => (pe_cl c__law_is_int hr (by decide) rfl (pa_cons (pv 1) pa_nil)))) pa_nil)))))), ?_⟩
    try dsimp only [cxOf, Cx.nox, Cx.wish]
    refine st_of (σ' := [some _, none]) rfl ?_
    wtm_at "jw"
    refine i_isi (.base (.tup ha)) rfl ?_
    wtm_at "jw"
    intro D hD
    refine l_tupP (xs := ns.map V.int) (fun _ => V.bl true) hD (by rw [List.length_map]; exact hl) (SqT.of ha) (fun i x H' R hi s hR => ?_) (fun H' s hD' => ?_)
    · obtain ⟨z, rfl, _⟩ := ints_at hi
      wtm_at "jw"
      refine ⟨rfl, ?_⟩
      wtm_at "jw"
      refine ⟨z, rfl, ?_⟩
      exact hR
    · wtm_at "jw"
      refine ⟨D, List.replicate (ns.map V.int).length true, rfl, SqL.of ?_, ?_⟩
      · rw [hD', List.map_replicate, List.map_const', List.length_range]
      · rw [all_id_true]
        exact k _ s

/-! ### pairs of ints, tuples of them -/
/-- the pairs of rows stand at rs -/
def Prw (H : Hp) (rs : List Addr) (rows : List (Int × Int)) : Prop := rs.length = rows.length ∧ ∀ (i : Nat) (r : Addr) (p : Int × Int), rs[i]? = some r → rows[i]? = some p → H r = some (.tup [.int p.1, .int p.2])
/-- a tuple of pairs -/
def Prs (H : Hp) (a : Addr) (rows : List (Int × Int)) : Prop := ∃ rs : List Addr, H a = some (.tup (rs.map V.ref)) ∧ Prw H rs rows
/-- a list of pairs -/
def LPr (H : Hp) (a : Addr) (rows : List (Int × Int)) : Prop := ∃ rs : List Addr, H a = some (.lst (rs.map V.ref)) ∧ Prw H rs rows
theorem Prw.nil {H : Hp} : Prw H [] [] := ⟨rfl, fun i r p h => by simp at h⟩
theorem Prw.tps {H H' : Hp} {rs : List Addr} {rows : List (Int × Int)} (w : Prw H rs rows) (t : Tps H H') : Prw H' rs rows := ⟨w.1, fun i r p h1 h2 => (t r).1 _ (w.2 i r p h1 h2)⟩
theorem Prw.same {H H' : Hp} {rs : List Addr} {rows : List (Int × Int)} (w : Prw H rs rows) (s : Same H H') : Prw H' rs rows := w.tps (Tps.of s)
theorem Prw.snoc {H : Hp} {rs : List Addr} {rows : List (Int × Int)} {q : Addr} {x y : Int} (w : Prw H rs rows) (h : H q = some (.tup [.int x, .int y])) : Prw H (rs ++ [q]) (rows ++ [(x, y)]) := by
  refine ⟨by simp [w.1], fun i r p h1 h2 => ?_⟩
  have hl := w.1
  by_cases hi : i < rs.length
  · rw [List.getElem?_append_left hi] at h1
    rw [List.getElem?_append_left (by omega)] at h2
    exact w.2 i r p h1 h2
  · rw [List.getElem?_append_right (by omega)] at h1
    rw [List.getElem?_append_right (by omega)] at h2
    rw [hl] at h1
    cases e : i - rows.length with
    | zero =>
      rw [e] at h1 h2
      cases h1
      cases h2
      exact h
    | succ n =>
      rw [e] at h1
      cases h1
theorem Prs.tps {H H' : Hp} {a : Addr} {rows : List (Int × Int)} (h : Prs H a rows) (t : Tps H H') : Prs H' a rows := by
  obtain ⟨rs, ha, w⟩ := h
  exact ⟨rs, (t a).1 _ ha, w.tps t⟩
theorem Prs.same {H H' : Hp} {a : Addr} {rows : List (Int × Int)} (h : Prs H a rows) (s : Same H H') : Prs H' a rows := h.tps (Tps.of s)
theorem LPr.same {H H' : Hp} {a : Addr} {rows : List (Int × Int)} (h : LPr H a rows) (s : Same H H') : LPr H' a rows := by
  obtain ⟨rs, ha, w⟩ := h
  exact ⟨rs, s _ _ ha, w.same s⟩
theorem LPr.kp {H H' : Hp} {p a : Addr} {xs : List V} {rows : List (Int × Int)} (h : LPr H a rows) (k : Kp p H H') (hp : H p = some (.lst xs)) (n : a ≠ p) : LPr H' a rows := by
  obtain ⟨rs, ha, w⟩ := h
  exact ⟨rs, k _ _ ha n, w.tps (k.tps hp)⟩
theorem Prw.put {H : Hp} {D : Addr} {rs : List Addr} {xs ys : List V} {rows : List (Int × Int)} (w : Prw H rs rows) (h : H D = some (.lst xs)) : Prw (upd H D (.lst ys)) rs rows := by
  refine ⟨w.1, fun i r p h1 h2 => ?_⟩
  have hr := w.2 i r p h1 h2
  rw [upd_ne (ne_of hr h (by intro z; cases z))]
  exact hr
/-- a new pair behind the others -/
theorem LPr.add {H : Hp} {D q : Addr} {rs : List Addr} {rows : List (Int × Int)} {x y : Int} (h : H D = some (.lst (rs.map V.ref))) (w : Prw H rs rows) (hq : H q = none) :
    LPr (upd (upd H q (.tup [.int x, .int y])) D (.lst (rs.map V.ref ++ [.ref q]))) D (rows ++ [(x, y)]) := by
  have hD : upd H q (.tup [.int x, .int y]) D = some (.lst (rs.map V.ref)) := by rw [upd_ne (ne_of_none h hq)]; exact h
  refine ⟨rs ++ [q], by rw [upd_same, List.map_append]; rfl, Prw.put (xs := rs.map V.ref) ((w.same (same_new hq)).snoc upd_same) hD⟩
/-- a pair that stands already -/
theorem LPr.add' {H : Hp} {D q : Addr} {rs : List Addr} {rows : List (Int × Int)} {x y : Int} (h : H D = some (.lst (rs.map V.ref))) (w : Prw H rs rows) (hq : H q = some (.tup [.int x, .int y])) :
    LPr (upd H D (.lst (rs.map V.ref ++ [.ref q]))) D (rows ++ [(x, y)]) :=
  ⟨rs ++ [q], by rw [upd_same, List.map_append]; rfl, (w.snoc hq).put h⟩
theorem Prw.at {H : Hp} {rs : List Addr} {rows : List (Int × Int)} {i : Nat} {v : V} (w : Prw H rs rows) (h : (rs.map V.ref)[i]? = some v) : ∃ r p, v = .ref r ∧ rs[i]? = some r ∧ rows[i]? = some p ∧ H r = some (.tup [.int p.1, .int p.2]) ∧ rows.take (i + 1) = rows.take i ++ [p] ∧ i < rows.length := by
  rw [List.getElem?_map] at h
  cases e : rs[i]? with
  | none => rw [e] at h; cases h
  | some r =>
    rw [e] at h
    have hi := (List.getElem?_eq_some_iff.mp e).1
    have hl := w.1
    have e2 : rows[i]? = some (rows[i]'(by omega)) := List.getElem?_eq_getElem (by omega)
    exact ⟨r, _, (Option.some.inj h).symm, rfl, e2, w.2 i r _ e e2, by rw [List.take_add_one, e2]; rfl, by omega⟩
def prD (p : Int × Int) : PyData := .tuple [.int p.1, .int p.2]
theorem dp_prs {K : PySem.W.Frag} {H : Hp} {a : Addr} {rows : List (Int × Int)} (h : Prs H a rows) : Dp K H (.ref a) (.tuple (rows.map prD)) := by
  obtain ⟨rs, ha, w⟩ := h
  refine .tup (SqT.of ha) (dpAll_of (by simp [w.1]) fun i x d h1 h2 => ?_)
  obtain ⟨r, p, rfl, e1, e2, hr, _⟩ := w.at h1
  rw [List.getElem?_map, e2] at h2
  cases h2
  exact dp_ints (ns := [p.1, p.2]) (SqT.of hr)
theorem shp_prs (rows : List (Int × Int)) : Shp 2 (.tuple (rows.map prD)) :=
  Shp.tup fun d hd => by
    obtain ⟨p, _, rfl⟩ := List.mem_map.mp hd
    exact Shp.tup fun e he => by
      rcases List.mem_cons.mp he with rfl | he
      · exact (Shp.int _)
      · rcases List.mem_cons.mp he with rfl | he
        · exact (Shp.int _)
        · cases he
theorem shp_ints (ns : List Int) : Shp 1 (.tuple (ns.map PyData.int)) :=
  Shp.tup fun d hd => by
    obtain ⟨p, _, rfl⟩ := List.mem_map.mp hd
    exact Shp.int _

/-! ### the rows, plainly -/
def rowsN (c : Nat → Option Int) : Nat → List (Int × Int)
  | 0 => []
  | k + 1 => rowsN c k ++ (match c k with | some v => [((k : Int), v)] | none => [])
def dfc (os ns : List Int) (k : Nat) : Option Int := if os[k]? = ns[k]? then none else ns[k]?
def df (os ns : List Int) : List (Int × Int) := rowsN (dfc os ns) ns.length
def ap (os : List Int) (rows : List (Int × Int)) : List Int := rows.foldl (fun l p => l.set p.1.toNat p.2) os
def thB (os : List Int) (p : Int × Int) : Bool := !decide (os[p.1.toNat]? = some p.2)
def th (os : List Int) (rows : List (Int × Int)) : List (Int × Int) := rows.filter (thB os)
theorem rowsN_congr {c c' : Nat → Option Int} : ∀ {n : Nat}, (∀ k, k < n → c k = c' k) → rowsN c n = rowsN c' n
  | 0, _ => rfl
  | n + 1, h => by
    rw [rowsN, rowsN, rowsN_congr (n := n) fun k hk => h k (by omega), h n (by omega)]
theorem rowsN_none : ∀ n : Nat, rowsN (fun _ => none) n = []
  | 0 => rfl
  | n + 1 => by rw [rowsN, rowsN_none n]; rfl
theorem rowsN_len (c : Nat → Option Int) : ∀ n : Nat, (rowsN c n).length ≤ n
  | 0 => Nat.le_refl _
  | n + 1 => by
    have := rowsN_len c n
    rw [rowsN, List.length_append]
    cases c n <;> simp <;> omega
theorem rowsN_in {c : Nat → Option Int} {p : Int × Int} : ∀ {n : Nat}, p ∈ rowsN c n → 0 ≤ p.1 ∧ p.1 < n
  | 0, h => by cases h
  | n + 1, h => by
    rw [rowsN, List.mem_append] at h
    rcases h with h | h
    · have := rowsN_in h
      omega
    · cases e : c n with
      | none => rw [e] at h; cases h
      | some v =>
        rw [e] at h
        rcases List.mem_cons.mp h with rfl | h
        · show (0 : Int) ≤ (n : Int) ∧ (n : Int) < ((n + 1 : Nat) : Int)
          omega
        · cases h
theorem ap_len (rows : List (Int × Int)) : ∀ os : List Int, (ap os rows).length = os.length := by
  unfold ap
  induction rows with
  | nil => intro os; rfl
  | cons p r ih => intro os; rw [List.foldl_cons, ih, List.length_set]
theorem ap_snoc (os : List Int) (rows : List (Int × Int)) (p : Int × Int) : ap os (rows ++ [p]) = (ap os rows).set p.1.toNat p.2 := by
  unfold ap
  rw [List.foldl_append]
  rfl
theorem ap_at (os : List Int) (c : Nat → Option Int) : ∀ (n j : Nat), n ≤ os.length → (ap os (rowsN c n))[j]? = if j < n then some ((c j).getD (os[j]?.getD 0)) else os[j]?
  | 0, j, _ => by rw [if_neg (Nat.not_lt_zero j)]; rfl
  | n + 1, j, h => by
    have ih := ap_at os c n j (by omega)
    rw [rowsN]
    cases e : c n with
    | none =>
      rw [List.append_nil, ih]
      by_cases h1 : j < n
      · rw [if_pos h1, if_pos (by omega)]
      · rw [if_neg h1]
        by_cases h2 : j = n
        · subst h2
          rw [if_pos (by omega), e, List.getElem?_eq_getElem (by omega)]
          rfl
        · rw [if_neg (by omega)]
    | some v =>
      rw [ap_snoc]
      show ((ap os (rowsN c n)).set n v)[j]? = _
      by_cases h2 : n = j
      · subst h2
        rw [List.getElem?_set_self (by rw [ap_len]; omega), if_pos (by omega), e]
        rfl
      · rw [List.getElem?_set_ne h2, ih]
        by_cases h1 : j < n
        · rw [if_pos h1, if_pos (by omega)]
        · rw [if_neg h1, if_neg (by omega)]
theorem th_rows (os : List Int) (c : Nat → Option Int) : ∀ n : Nat, th os (rowsN c n) = rowsN (fun j => if os[j]? = c j then none else c j) n
  | 0 => rfl
  | n + 1 => by
    have ih := th_rows os c n
    unfold th at ih ⊢
    rw [rowsN, rowsN, List.filter_append, ih]
    congr 1
    cases e : c n with
    | none => by_cases h : os[n]? = none <;> simp [h]
    | some v => by_cases h : os[n]? = some v <;> simp [h, thB]
theorem ap_df {os ns : List Int} (h : os.length = ns.length) : ap os (df os ns) = ns := by
  apply List.ext_getElem?
  intro j
  unfold df
  rw [ap_at _ _ _ _ (by omega)]
  by_cases hj : j < ns.length
  · rw [if_pos hj]
    have e1 : ns[j]? = some ns[j] := List.getElem?_eq_getElem hj
    have e2 : os[j]? = some (os[j]'(by omega)) := List.getElem?_eq_getElem (by omega)
    unfold dfc
    by_cases e : os[j]? = ns[j]?
    · rw [if_pos e, e, e1]; rfl
    · rw [if_neg e, e1]; rfl
  · rw [if_neg hj, List.getElem?_eq_none (by omega), List.getElem?_eq_none (by omega)]
theorem th_df (os ns : List Int) : th os (df os ns) = df os ns := by
  unfold df
  rw [th_rows]
  refine rowsN_congr fun j hj => ?_
  unfold dfc
  by_cases e : os[j]? = ns[j]?
  · rw [if_pos e]; simp
  · rw [if_neg e, if_neg e]
theorem th_df0 (os ns : List Int) : th ns (df os ns) = [] := by
  unfold df
  rw [th_rows]
  rw [← rowsN_none ns.length]
  refine rowsN_congr fun j hj => ?_
  unfold dfc
  by_cases e : os[j]? = ns[j]?
  · rw [if_pos e]; simp
  · rw [if_neg e]; simp
def evr (ns : List Int) : List (Int × Int) := rowsN (fun k => ns[k]?) ns.length
theorem ap_evr {os ns : List Int} (h : os.length = ns.length) : ap os (evr ns) = ns := by
  apply List.ext_getElem?
  intro j
  unfold evr
  rw [ap_at _ _ _ _ (by omega)]
  by_cases hj : j < ns.length
  · rw [if_pos hj, List.getElem?_eq_getElem hj]; rfl
  · rw [if_neg hj, List.getElem?_eq_none (by omega), List.getElem?_eq_none (by omega)]
theorem th_evr (os ns : List Int) : th os (evr ns) = df os ns := by
  unfold evr df
  rw [th_rows]
  rfl
theorem th_ap (os : List Int) (c : Nat → Option Int) : th os (rowsN c os.length) = df os (ap os (rowsN c os.length)) := by
  unfold df
  rw [th_rows, ap_len]
  refine rowsN_congr fun j hj => ?_
  unfold dfc
  rw [ap_at _ _ _ _ (Nat.le_refl _), if_pos hj]
  have e2 : os[j]? = some (os[j]'(by omega)) := List.getElem?_eq_getElem (by omega)
  rw [e2]
  cases e : c j with
  | none => simp
  | some v => simp
theorem rowsN_dfn {os ns : List Int} {i : Nat} (h : os[i]? = ns[i]?) : rowsN (dfc os ns) (i + 1) = rowsN (dfc os ns) i := by
  rw [rowsN]
  unfold dfc
  rw [if_pos h, List.append_nil]
theorem rowsN_dfs {os ns : List Int} {i : Nat} {v : Int} (h : ¬ os[i]? = ns[i]?) (hv : ns[i]? = some v) : rowsN (dfc os ns) (i + 1) = rowsN (dfc os ns) i ++ [((i : Int), v)] := by
  rw [rowsN]
  have e : dfc os ns i = some v := by
    unfold dfc
    rw [if_neg h, hv]
  rw [e]
/-- the int at a place of a row of ints -/
theorem int_at {ns : List Int} {i : Nat} (h : i < ns.length) : ∃ z : Int, ns[i]? = some z ∧ atI (ns.map V.int) ((0 : Int) + (i : Int)) = some (.int z) := by
  obtain ⟨v, e, hv, e2⟩ := at_lt (xs := ns.map V.int) (i := (0 : Int) + (i : Int)) (by omega) (by rw [List.length_map]; omega)
  have hi : ((0 : Int) + (i : Int)).toNat = i := by omega
  rw [hi] at e2
  obtain ⟨z, rfl, hz, _⟩ := ints_at e2
  exact ⟨z, hz, e⟩
/-! ### the walk -/
def sp_difference (K : PySem.W.Frag) : Sp := fun vs H Q _ => ∃ (a b : Addr) (os ns : List Int), vs = [.ref a, .ref b] ∧ SqT K H a (os.map V.int) ∧ SqT K H b (ns.map V.int) ∧ os.length = ns.length ∧ ns.length ≤ 1000 ∧
  ∀ (r : Addr) (H' : Hp), Same H H' → Prs H' r (df os ns) → Q (.ref r) H'
theorem ok_difference {P : Program} {w : World} {K : PySem.W.Frag} {mg : Str → Option Value} {base : Heap} {f : Addr} {fd : FuncData} (F : Df K mg "difference" s_difference f fd ["old", "new"]) (T : Txt mg) : FnOk P w K mg base CX0 1 f fd ["old", "new"] (sp_difference K) := by
  refine F.ok sc_difference (fun vs H Q E h => ?_) (fun cdv A outer s H vs Q E hr h => ?_)
  · obtain ⟨a, b, os, ns, rfl, _⟩ := h
    rfl
  · obtain ⟨a, b, os, ns, rfl, ha, hb, hl, h1, q⟩ := h
    refine ⟨_, (pss_one (ps_ret (pe_callTy (T := "tuple") (r := rTupOf K) c_tup (by rfl) T.b_tuple (by decide +kernel) (pa_cons (pe_lc (own := [("k", 2)]) (g := gName 2) rfl sc_difference.nd (pi_range1 rfl T.b_range (pa_cons (pe_callB (id := "len") (r := rLen K) c_len (by rfl) T.b_len (by decide +kernel) (pa_cons (pv 1) pa_nil)) pa_nil)) (blkOk_by (own := [("k", 2)]) (N := N_difference) (sc := defScope s_difference) (by decide +kernel)) (fun _ _ _ _ _ => (pg_name (i := 2) sc_difference.nd rfl (Or.inl rfl))) (fun _ _ _ _ _ => pts_one (pt_cmpR op_ne (pe_ix (r := rIxT K) ix_tup (pv 0) (pv 2) (fun _ _ => rfl)) (pe_ix (r := rIxT K) ix_tup (pv 1) (pv 2) (fun _ _ => rfl)) (nomark _))) (fun _ _ _ _ _ => (pe_tup (pa_cons (pv 2) (pa_cons (pe_ix (r := rIxT K) ix_tup (pv 1) (pv 2) (fun _ _ => rfl)) pa_nil))))) pa_nil)))), ?_⟩
    try dsimp only [cxOf, Cx.nox, Cx.wish]
    refine st_of (σ' := [some _, some _, none]) rfl ?_
    wtm_at "jw"
    intro D hD
    refine l_range (fun i H' => Same H H' ∧ LPr H' D (rowsN (dfc os ns) i)) ⟨same_new hD, [], upd_same, Prw.nil⟩ (fun i H' hi h => ?_) (fun H' h => ?_)
    · obtain ⟨s, rs, hD', w⟩ := h
      rw [List.length_map] at hi
      have hi' : i < ns.length := by omega
      have ha' := Same.tup s ha
      have hb' := Same.tup s hb
      obtain ⟨x, ex, ex2⟩ := int_at (ns := os) (i := i) (by omega)
      obtain ⟨y, ey, ey2⟩ := int_at (ns := ns) (i := i) (by omega)
      have hrl : rs.length ≤ i := by rw [w.1]; exact rowsN_len _ _
      wtm_at "jw"
      refine ⟨rfl, ?_⟩
      wtm_at "jw"
      refine c_decN (fun hne => ?_) (fun he => ?_)
      · wtm_at "jw"
        intro q hq
        have hb2 := Same.tup (same_new (o := .tup [V.int (0 + (i : Int)), V.int y]) hq) hb'
        wtm_at "jw"
        have hD2 : upd H' q (.tup [V.int (0 + (i : Int)), V.int y]) D = some (.lst (rs.map V.ref)) := same_new hq _ _ hD'
        refine ⟨_, hD2, small1000 (by rw [List.length_map]; omega), fun b o hbo => ?_, ?_⟩
        · rw [upd_ne (ne_of_none hbo hD)]
          exact same_new hq _ _ (s _ _ hbo)
        · rw [rowsN_dfs (by rw [ex, ey]; intro h; exact hne (Option.some.inj h)) ey]
          have e0 := LPr.add (x := 0 + (i : Int)) (y := y) hD' w hq
          rw [Int.zero_add] at e0 ⊢
          exact e0
      · refine ⟨s, rs, hD', ?_⟩
        rw [rowsN_dfn (by rw [ex, ey, he])]
        exact w
    · obtain ⟨s, rs, hD', w⟩ := h
      wtm_at "jw"
      intro q1 hq
      refine q q1 _ (s.trans (same_new hq)) ⟨rs, upd_same, ?_⟩
      rw [List.length_map] at w
      exact w.same (same_new hq)
def sp_changed (K : PySem.W.Frag) : Sp := fun vs H Q _ => ∃ (a b : Addr) (os : List Int) (rows : List (Int × Int)), vs = [.ref a, .ref b] ∧ SqT K H a (os.map V.int) ∧ Prs H b rows ∧ os.length ≤ 1000 ∧ (∀ p ∈ rows, 0 ≤ p.1 ∧ p.1 < os.length) ∧
  ∀ (r : Addr) (H' : Hp), Same H H' → H' r = some (.tup ((ap os rows).map V.int)) → Q (.ref r) H'
theorem ok_changed {P : Program} {w : World} {K : PySem.W.Frag} {mg : Str → Option Value} {base : Heap} {f : Addr} {fd : FuncData} (F : Df K mg "changed" s_changed f fd ["old", "rows"]) (T : Txt mg) : FnOk P w K mg base CX0 1 f fd ["old", "rows"] (sp_changed K) := by
  refine F.ok sc_changed (fun vs H Q E h => ?_) (fun cdv A outer s H vs Q E hr h => ?_)
  · obtain ⟨a, b, os, rows, rfl, _⟩ := h
    rfl
  · obtain ⟨a, b, os, rows, rfl, ha, ⟨rs, hb, w⟩, hl, hin, q⟩ := h
    refine ⟨_, (pss_cons (ps_set (i := 2) sc_changed.nd rfl (Or.inl rfl) (pe_callTy (T := "list") (r := rLstOf K) c_lst (by rfl) T.b_list (by decide +kernel) (pa_cons (pv 0) pa_nil)))
      (pss_cons (ps_for PassesOwn.never rfl (pi_tup (pv 1)) (pg_tupK (K := K) rfl rfl (pgs_cons (pg_name (i := 3) sc_changed.nd rfl (Or.inl rfl)) (pgs_cons (pg_name (i := 4) sc_changed.nd rfl (Or.inl rfl)) pgs_nil))) (pss_one (ps_asg (pv 4) (pg_sub (pv 2) (pv 3) set_list))))
      (pss_one (ps_ret (pe_callTy (T := "tuple") (r := rTupOf K) c_tup (by rfl) T.b_tuple (by decide +kernel) (pa_cons (pv 2) pa_nil)))))), ?_⟩
    try dsimp only [cxOf, Cx.nox, Cx.wish]
    refine st_of (σ' := [some _, some _, none, none, none]) rfl ?_
    wtm_at "jw"
    intro L hL
    have hbL : upd H L (.lst (os.map V.int)) b = some (.tup (rs.map V.ref)) := same_new hL _ _ hb
    wtm_at "jw"
    refine f_tup (xs := rs.map V.ref) (fun i σ H' => Same H H' ∧ H' L = some (.lst ((ap os (rows.take i)).map V.int)) ∧ ∃ v1 v2, σ = [some (.ref a), some (.ref b), some (.ref L), v1, v2]) ⟨same_new hL, upd_same, none, none, rfl⟩ (fun i σ H' _ h => SqT.of (h.1 _ _ hb)) (fun i x σ H' hi h => ?_) (fun σ H' h => ?_)
    · obtain ⟨s, hL', v1, v2, rfl⟩ := h
      obtain ⟨r, p, rfl, e1, e2, hr', e3, hlt⟩ := (w.same s).at hi
      obtain ⟨p0, p1⟩ := hin p (List.mem_of_getElem? e2)
      have ej := ixN_of (n := ((ap os (rows.take i)).map V.int).length) p0 (by rw [List.length_map, ap_len]; exact p1)
      wtm_at "jw"
      refine ⟨fun b o hbo => ?_, ?_, _, _, rfl⟩
      · rw [upd_ne (ne_of_none hbo hL)]
        exact s _ _ hbo
      · rw [upd_same, e3, ap_snoc, List.map_set]
    · obtain ⟨s, hL', v1, v2, rfl⟩ := h
      rw [List.length_map, w.1, List.take_length] at hL'
      wtm_at "jw"
      intro q1 hq
      exact q q1 _ (s.trans (same_new hq)) upd_same
theorem th_yes {os : List Int} {l r : List (Int × Int)} {p : Int × Int} (e : r = l ++ [p]) (h : ¬ os[p.1.toNat]? = some p.2) : th os r = th os l ++ [p] := by
  subst e
  unfold th
  rw [List.filter_append]
  simp [thB, h]
theorem th_no {os : List Int} {l r : List (Int × Int)} {p : Int × Int} (e : r = l ++ [p]) (h : os[p.1.toNat]? = some p.2) : th os r = th os l := by
  subst e
  unfold th
  rw [List.filter_append]
  simp [thB, h]
theorem th_len (os : List Int) (l : List (Int × Int)) : (th os l).length ≤ l.length := List.length_filter_le _ _
def sp_thinned (K : PySem.W.Frag) : Sp := fun vs H Q _ => ∃ (a b : Addr) (os : List Int) (rows : List (Int × Int)), vs = [.ref a, .ref b] ∧ SqT K H a (os.map V.int) ∧ Prs H b rows ∧ os.length ≤ 1000 ∧ rows.length ≤ 1000 ∧ (∀ p ∈ rows, 0 ≤ p.1 ∧ p.1 < os.length) ∧
  ∀ (r : Addr) (H' : Hp), Same H H' → Prs H' r (th os rows) → Q (.ref r) H'
theorem ok_thinned {P : Program} {w : World} {K : PySem.W.Frag} {mg : Str → Option Value} {base : Heap} {f : Addr} {fd : FuncData} (F : Df K mg "thinned" s_thinned f fd ["old", "rows"]) (T : Txt mg) : FnOk P w K mg base CX0 1 f fd ["old", "rows"] (sp_thinned K) := by
  refine F.ok sc_thinned (fun vs H Q E h => ?_) (fun cdv A outer s H vs Q E hr h => ?_)
  · obtain ⟨a, b, os, rows, rfl, _⟩ := h
    rfl
  · obtain ⟨a, b, os, rows, rfl, ha, ⟨rs, hb, w⟩, hl, hl2, hin, q⟩ := h
    refine ⟨_, (pss_one (ps_ret (pe_callTy (T := "tuple") (r := rTupOf K) c_tup (by rfl) T.b_tuple (by decide +kernel) (pa_cons (pe_lc (own := [("row", 2)]) (g := gName 2) rfl sc_thinned.nd (pi_tup (pv 1)) (blkOk_by (own := [("row", 2)]) (N := N_thinned) (sc := defScope s_thinned) (by decide +kernel)) (fun _ _ _ _ _ => (pg_name (i := 2) sc_thinned.nd rfl (Or.inl rfl))) (fun _ _ _ _ _ => pts_one (pt_cmpR op_ne (pe_ix (r := rIxT K) ix_tup (pv 0) (pe_ix (r := rIxT K) ix_tup (pv 2) pe_int (fun _ _ => rfl)) (fun _ _ => rfl)) (pe_ix (r := rIxT K) ix_tup (pv 2) pe_int (fun _ _ => rfl)) (nomark _))) (fun _ _ _ _ _ => (pv 2))) pa_nil)))), ?_⟩
    try dsimp only [cxOf, Cx.nox, Cx.wish]
    refine st_of (σ' := [some _, some _, none]) rfl ?_
    wtm_at "jw"
    intro D hD
    refine l_tup (xs := rs.map V.ref) (fun i H' => Same H H' ∧ LPr H' D (th os (rows.take i))) ⟨same_new hD, [], upd_same, Prw.nil⟩ (fun i H' _ h => SqT.of (h.1 _ _ hb)) (fun i x H' hi h => ?_) (fun H' h => ?_)
    · obtain ⟨s, ts, hD', w'⟩ := h
      have ha' := Same.tup s ha
      obtain ⟨r, p, rfl, e1, e2, hr', e3, hlt⟩ := (w.same s).at hi
      obtain ⟨p0, p1⟩ := hin p (List.mem_of_getElem? e2)
      have hrl : ts.length ≤ 1000 := by
        have h1 := th_len os (rows.take i)
        have h2 := List.length_take_le i rows
        have h3 := w'.1
        rw [List.length_take] at h1
        omega
      obtain ⟨v, ev, hv, ev2⟩ := at_lt (xs := os.map V.int) p0 (by rw [List.length_map]; exact p1)
      obtain ⟨x, rfl, ex, _⟩ := ints_at ev2
      wtm_at "jw"
      refine ⟨rfl, ?_⟩
      wtm_at "jw"
      refine c_decN (fun hne => ?_) (fun he => ?_)
      · wtm_at "jw"
        refine ⟨_, hD', small1000 (by rw [List.length_map]; omega), fun b o hbo => ?_, ?_⟩
        · rw [upd_ne (ne_of_none hbo hD)]
          exact s _ _ hbo
        · rw [th_yes e3 (by rw [ex]; intro h; exact hne (Option.some.inj h))]
          exact LPr.add' hD' w' hr'
      · refine ⟨s, ts, hD', ?_⟩
        rw [th_no e3 (by rw [ex, he])]
        exact w'
    · obtain ⟨s, ts, hD', w'⟩ := h
      wtm_at "jw"
      intro q1 hq
      refine q q1 _ (s.trans (same_new hq)) ⟨ts, upd_same, ?_⟩
      rw [List.length_map, w.1, List.take_length] at w'
      exact w'.same (same_new hq)
def Strs (ks : List V) : Prop := ∀ x ∈ ks, ∃ s : Str, x = V.str s
def sp__law_layout (K : PySem.W.Frag) : Sp := fun vs H Q _ => ∃ (p a : Addr), vs = [.ref p] ∧ DrawAt H p a ∧
  ∀ (q : Addr) (ks : List V) (H' : Hp), Drew p a H H' → H q = none → H' q = some (.lst ks) → Strs ks → 0 < ks.length → ks.length ≤ 1000 → Q (.ref q) H'
theorem ok__law_layout {P : Program} {w : World} {K : PySem.W.Frag} {mg : Str → Option Value} {base : Heap} {f : Addr} {fd : FuncData} (F : Df K mg "_law_layout" s__law_layout f fd ["d"]) (T : Txt mg)
    (c__law_pick : Cl P w K mg base 2 "_law_pick" (sp__law_pick K)) : FnOk P w K mg base CX0 3 f fd ["d"] (sp__law_layout K) := by
  refine F.ok sc__law_layout (fun vs H Q E h => ?_) (fun cdv A outer s H vs Q E hr h => ?_)
  · obtain ⟨p, a, rfl, _⟩ := h
    rfl
  · obtain ⟨p, a, rfl, hd, q⟩ := h
    refine ⟨_, (pss_cons (ps_set (i := 1) sc__law_layout.nd rfl (Or.inl rfl) (pe_lst (pa_cons pe_str (pa_cons pe_str pa_nil))))
      (pss_cons (ps_for PassesOwn.never rfl (pi_range1 rfl T.b_range (pa_cons (pe_cl c__law_pick hr (by decide) rfl (pa_cons (pv 0) (pa_cons (pe_lst (pa_cons pe_int (pa_cons pe_int (pa_cons pe_int (pa_cons pe_int (pa_cons pe_int (pa_cons pe_int pa_nil))))))) pa_nil))) pa_nil)) (pg_name (i := 2) sc__law_layout.nd rfl (Or.inl rfl)) (pss_one (ps_expr (pe_bmK (K := K) rfl PySem.F.plainAttrs_list PySem.F.slot_list_append PySem.F.type_list_append mt_append (pv 1) (pa_cons (pe_cl c__law_pick hr (by decide) rfl (pa_cons (pv 0) (pa_cons (pe_lst (pa_cons pe_str (pa_cons pe_str (pa_cons pe_str pa_nil)))) pa_nil))) pa_nil)))))
      (pss_cons (ps_for PassesOwn.never rfl (pi_range1 rfl T.b_range (pa_cons (pe_cl c__law_pick hr (by decide) rfl (pa_cons (pv 0) (pa_cons (pe_lst (pa_cons pe_int (pa_cons pe_int (pa_cons pe_int (pa_cons pe_int (pa_cons pe_int (pa_cons pe_int pa_nil))))))) pa_nil))) pa_nil)) (pg_name (i := 2) sc__law_layout.nd rfl (Or.inl rfl)) (pss_one (ps_set (i := 1) sc__law_layout.nd rfl (Or.inl rfl) (pe_op op_cat (pv 1) (pe_lst (pa_cons pe_str (pa_cons pe_str (pa_cons pe_str (pa_cons pe_str (pa_cons pe_str pa_nil))))))))))
      (pss_one (ps_ret (pv 1)))))), ?_⟩
    try dsimp only [cxOf, Cx.nox, Cx.wish]
    refine st_of (σ' := [some _, none, none]) rfl ?_
    wtm_at "jw"
    intro L hL
    have d0 := hd.drew.new (o := .lst [V.str "draw", V.str "end"]) hL
    wtm_at "jw"
    intro B hB
    have d1 := d0.new (o := .lst [V.int 1, V.int 2, V.int 3, V.int 0, V.int 5, V.int 12]) hB
    have hL1 := (same_new (o := .lst [V.int 1, V.int 2, V.int 3, V.int 0, V.int 5, V.int 12]) hB) _ _ (upd_same (H := H) (a := L) (o := .lst [V.str "draw", V.str "end"]))
    have nL := hd.ne_none hL
    wtm_at "jw"
    refine ⟨p, a, B, _, rfl, d1.at_, .inl ⟨d0.at_.ne_none hB, SqL.of upd_same⟩, by simp, by simp, fun x H2 hx d2 => ?_⟩
    obtain ⟨z, rfl, z0, z1⟩ : ∃ z : Int, x = V.int z ∧ 0 ≤ z ∧ z ≤ 12 := by
      simp only [List.mem_cons, List.not_mem_nil, or_false] at hx
      rcases hx with h | h | h | h | h | h <;> exact ⟨_, h, by omega, by omega⟩
    have hL2 := d2.kp _ _ hL1 nL
    wtm_at "jw"
    refine f_range (fun i σ H' => Drew p a H H' ∧ ∃ v ks, σ = [some (.ref p), some (.ref L), v] ∧ H' L = some (.lst ks) ∧ Strs ks ∧ ks.length = 2 + i) ⟨d1.trans d2, none, _, rfl, hL2, by intro x hx; simp only [List.mem_cons, List.not_mem_nil, or_false] at hx; rcases hx with h | h <;> exact ⟨_, h⟩, rfl⟩ (fun i σ H' hi h => ?_) (fun σ H' h => ?_)
    · obtain ⟨d3, v, ks, rfl, hL3, hk, hlen⟩ := h
      wtm_at "jw"
      intro B2 hB2
      have d4 := d3.new (o := .lst [V.str "count", V.str "fixed", V.str "flag"]) hB2
      have hL4 := (same_new (o := .lst [V.str "count", V.str "fixed", V.str "flag"]) hB2) _ _ hL3
      wtm_at "jw"
      refine ⟨p, a, B2, _, rfl, d4.at_, .inl ⟨d3.at_.ne_none hB2, SqL.of upd_same⟩, by simp, by simp, fun x H3 hx d5 => ?_⟩
      have hL5 := d5.kp _ _ hL4 nL
      have hsm : ks.length < sizeLine := small1000 (by omega)
      wtm_at "jw"
      refine ⟨(d4.trans d5).put hd hL, _, _, rfl, upd_same, ?_, by simp [hlen]; omega⟩
      intro y hy
      rcases List.mem_append.mp hy with hy | hy
      · exact hk y hy
      · simp only [List.mem_cons, List.not_mem_nil, or_false] at hx hy
        subst hy
        rcases hx with h | h | h <;> exact ⟨_, h⟩
    · obtain ⟨d3, v, ks, rfl, hL3, hk, hlen⟩ := h
      wtm_at "jw"
      intro B2 hB2
      have d4 := d3.new (o := .lst [V.int 0, V.int 1, V.int 0, V.int 2, V.int 0, V.int 6]) hB2
      have hL4 := (same_new (o := .lst [V.int 0, V.int 1, V.int 0, V.int 2, V.int 0, V.int 6]) hB2) _ _ hL3
      wtm_at "jw"
      refine ⟨p, a, B2, _, rfl, d4.at_, .inl ⟨d3.at_.ne_none hB2, SqL.of upd_same⟩, by simp, by simp, fun x H3 hx d5 => ?_⟩
      obtain ⟨y, rfl, y0, y1⟩ : ∃ z : Int, x = V.int z ∧ 0 ≤ z ∧ z ≤ 12 := by
        simp only [List.mem_cons, List.not_mem_nil, or_false] at hx
        rcases hx with h | h | h | h | h | h <;> exact ⟨_, h, by omega, by omega⟩
      have hL5 := d5.kp _ _ hL4 nL
      wtm_at "jw"
      refine f_range (fun i σ H' => Drew p a H H' ∧ ∃ v M ks, σ = [some (.ref p), some (.ref M), v] ∧ H M = none ∧ H' M = some (.lst ks) ∧ Strs ks ∧ 0 < ks.length ∧ ks.length ≤ 20 + 5 * i) ⟨d4.trans d5, _, L, ks, rfl, hL, hL5, hk, by omega, by omega⟩ (fun i σ H' hi h => ?_) (fun σ H' h => ?_)
      · obtain ⟨d6, v, M, js, rfl, hM, hM6, hj, j0, j1⟩ := h
        wtm_at "jw"
        intro C hC
        have hM7 := (same_new (o := .lst [V.str "fixed", V.str "fixed", V.str "fixed", V.str "fixed", V.str "flag"]) hC) _ _ hM6
        have hsz : js.length + [V.str "fixed", V.str "fixed", V.str "fixed", V.str "fixed", V.str "flag"].length ≤ sizeLine := by
          rw [sizeLine_eq]
          simp
          omega
        have d7 := d6.new (o := .lst [V.str "fixed", V.str "fixed", V.str "fixed", V.str "fixed", V.str "flag"]) hC
        wtm_at "jw"
        intro R hR
        wtm_at "jw"
        refine ⟨d7.new hR, _, R, _, rfl, d7.free hR, upd_same, ?_, by simp, by simp; omega⟩
        intro y hy
        rcases List.mem_append.mp hy with hy | hy
        · exact hj y hy
        · simp only [List.mem_cons, List.not_mem_nil, or_false] at hy
          rcases hy with h | h | h | h | h <;> exact ⟨_, h⟩
      · obtain ⟨d6, v, M, js, rfl, hM, hM6, hj, j0, j1⟩ := h
        wtm_at "jw"
        exact q M js _ d6 hM hM6 hj j0 (by omega)
def sp__law_entry (K : PySem.W.Frag) : Sp := fun vs H Q _ => ∃ (p a : Addr) (s : Str), vs = [.ref p, .str s] ∧ DrawAt H p a ∧ ∀ (z : Int) (H' : Hp), Drew p a H H' → Q (.int z) H'
theorem ok__law_entry {P : Program} {w : World} {K : PySem.W.Frag} {mg : Str → Option Value} {base : Heap} {f : Addr} {fd : FuncData} (F : Df K mg "_law_entry" s__law_entry f fd ["d", "kind"]) (T : Txt mg)
    (c__law_pick : Cl P w K mg base 2 "_law_pick" (sp__law_pick K))
    (c__law_draw : Cl P w K mg base 1 "_law_draw" (sp__law_draw K)) : FnOk P w K mg base CX0 3 f fd ["d", "kind"] (sp__law_entry K) := by
  refine F.ok sc__law_entry (fun vs H Q E h => ?_) (fun cdv A outer s H vs Q E hr h => ?_)
  · obtain ⟨p, a, s, rfl, _⟩ := h
    rfl
  · obtain ⟨p, a, s, rfl, hd, k⟩ := h
    have fin : ∀ (n : Nat) (xs : List V) (x : V) (H1 H2 : Hp), (∀ y ∈ xs, ∃ z : Int, y = V.int z) → x ∈ xs → Drew p a H H1 → Drew p a H1 H2 → Q x H2 := fun n xs x H1 H2 hi hx d1 d2 => by
      obtain ⟨z, rfl⟩ := hi x hx
      exact k z _ (d1.trans d2)
    refine ⟨_, (pss_cons (ps_if (pt_cmpR op_eq (pv 1) pe_str (nomark _)) (pss_one (ps_ret (pe_cl c__law_pick hr (by decide) rfl (pa_cons (pv 0) (pa_cons (pe_lst (pa_cons pe_int (pa_cons pe_int (pa_cons (pe_cl c__law_draw hr (by decide) rfl (pa_cons (pv 0) (pa_cons pe_int pa_nil))) pa_nil)))) pa_nil))))) pss_nil)
      (pss_cons (ps_if (pt_cmpR op_eq (pv 1) pe_str (nomark _)) (pss_one (ps_ret (pe_cl c__law_draw hr (by decide) rfl (pa_cons (pv 0) (pa_cons pe_int pa_nil))))) pss_nil)
      (pss_cons (ps_if (pt_cmpR op_eq (pv 1) pe_str (nomark _)) (pss_one (ps_ret (pe_cl c__law_draw hr (by decide) rfl (pa_cons (pv 0) (pa_cons pe_int pa_nil))))) pss_nil)
      (pss_cons (ps_if (pt_cmpR op_eq (pv 1) pe_str (nomark _)) (pss_one (ps_ret (pe_cl c__law_pick hr (by decide) rfl (pa_cons (pv 0) (pa_cons (pe_lst (pa_cons pe_int (pa_cons pe_int (pa_cons pe_int (pa_cons (pe_cl c__law_draw hr (by decide) rfl (pa_cons (pv 0) (pa_cons pe_int pa_nil))) pa_nil))))) pa_nil))))) pss_nil)
      (pss_one (ps_ret (pe_cl c__law_pick hr (by decide) rfl (pa_cons (pv 0) (pa_cons (pe_lst (pa_cons pe_int (pa_cons pe_int (pa_cons (pe_un un_neg pe_int) (pa_cons pe_int (pa_cons (pe_op op_sub (pe_cl c__law_draw hr (by decide) rfl (pa_cons (pv 0) (pa_cons pe_int pa_nil))) pe_int) pa_nil)))))) pa_nil))))))))), ?_⟩
    try dsimp only [cxOf, Cx.nox, Cx.wish]
    refine st_of (σ' := [some _, some _]) rfl ?_
    wtm_at "jw"
    refine c_dec (fun h => ?_) (fun h => ?_)
    · wtm_at "jw"
      refine ⟨p, a, _, rfl, hd, by decide, by decide, fun z H1 z0 z1 d1 => ?_⟩
      wtm_at "jw"
      intro B hB
      have d2 := d1.new (o := .lst [V.int 0, V.int 32748, V.int z]) hB
      wtm_at "jw"
      refine ⟨p, a, B, _, rfl, d2.at_, .inl ⟨d1.at_.ne_none hB, SqL.of upd_same⟩, by simp, by simp, fun x H3 hx d3 => ?_⟩
      refine fin 0 _ x _ _ (fun y hy => ?_) hx d2 d3
      simp only [List.mem_cons, List.not_mem_nil, or_false] at hy
      rcases hy with h | h | h <;> exact ⟨_, h⟩
    · wtm_at "jw"
      refine c_dec (fun h => ?_) (fun h => ?_)
      · wtm_at "jw"
        refine ⟨p, a, _, rfl, hd, by decide, by decide, fun z H1 z0 z1 d1 => ?_⟩
        exact k z _ d1
      · wtm_at "jw"
        refine c_dec (fun h => ?_) (fun h => ?_)
        · wtm_at "jw"
          refine ⟨p, a, _, rfl, hd, by decide, by decide, fun z H1 z0 z1 d1 => ?_⟩
          exact k z _ d1
        · wtm_at "jw"
          refine c_dec (fun h => ?_) (fun h => ?_)
          · wtm_at "jw"
            refine ⟨p, a, _, rfl, hd, by decide, by decide, fun z H1 z0 z1 d1 => ?_⟩
            wtm_at "jw"
            intro B hB
            have d2 := d1.new (o := .lst [V.int 0, V.int 255, V.int 1, V.int z]) hB
            wtm_at "jw"
            refine ⟨p, a, B, _, rfl, d2.at_, .inl ⟨d1.at_.ne_none hB, SqL.of upd_same⟩, by simp, by simp, fun x H3 hx d3 => ?_⟩
            refine fin 0 _ x _ _ (fun y hy => ?_) hx d2 d3
            simp only [List.mem_cons, List.not_mem_nil, or_false] at hy
            rcases hy with h | h | h | h <;> exact ⟨_, h⟩
          · wtm_at "jw"
            refine ⟨p, a, _, rfl, hd, by decide, by decide, fun z H1 z0 z1 d1 => ?_⟩
            wtm_at "jw"
            intro B hB
            have d2 := d1.new (o := .lst [V.int 0, V.int 32767, V.int (-32768), V.int 16, V.int (z - 32768)]) hB
            wtm_at "jw"
            refine ⟨p, a, B, _, rfl, d2.at_, .inl ⟨d1.at_.ne_none hB, SqL.of upd_same⟩, by simp, by simp, fun x H3 hx d3 => ?_⟩
            refine fin 0 _ x _ _ (fun y hy => ?_) hx d2 d3
            simp only [List.mem_cons, List.not_mem_nil, or_false] at hy
            rcases hy with h | h | h | h | h <;> exact ⟨_, h⟩
def sp__law_any (K : PySem.W.Frag) : Sp := fun vs H Q _ => ∃ (p a k : Addr) (ks : List V), vs = [.ref p, .ref k] ∧ DrawAt H p a ∧ H k = some (.lst ks) ∧ k ≠ p ∧ Strs ks ∧ ks.length ≤ 1000 ∧
  ∀ (r : Addr) (ns : List Int) (H' : Hp), Drew p a H H' → H' r = some (.tup (ns.map V.int)) → ns.length = ks.length → Q (.ref r) H'
theorem ok__law_any {P : Program} {w : World} {K : PySem.W.Frag} {mg : Str → Option Value} {base : Heap} {f : Addr} {fd : FuncData} (F : Df K mg "_law_any" s__law_any f fd ["d", "kinds"]) (T : Txt mg)
    (c__law_entry : Cl P w K mg base 3 "_law_entry" (sp__law_entry K)) : FnOk P w K mg base CX0 4 f fd ["d", "kinds"] (sp__law_any K) := by
  refine F.ok sc__law_any (fun vs H Q E h => ?_) (fun cdv A outer s H vs Q E hr h => ?_)
  · obtain ⟨p, a, k, ks, rfl, _⟩ := h
    rfl
  · obtain ⟨p, a, k, ks, rfl, hd, hk, nk, hs, hl, q⟩ := h
    refine ⟨_, (pss_one (ps_ret (pe_callTy (T := "tuple") (r := rTupOf K) c_tup (by rfl) T.b_tuple (by decide +kernel) (pa_cons (pe_lc (own := [("kind", 2)]) (g := gName 2) (tt := tYes) rfl sc__law_any.nd (pi_list (pv 1)) (blkOk_by (own := [("kind", 2)]) (N := N__law_any) (sc := defScope s__law_any) (by decide +kernel)) (fun _ _ _ _ _ => (pg_name (i := 2) sc__law_any.nd rfl (Or.inl rfl))) (fun _ _ _ _ _ => pts_nil) (fun _ _ _ _ _ => (pe_cl c__law_entry hr (by decide) rfl (pa_cons (pv 0) (pa_cons (pv 2) pa_nil))))) pa_nil)))), ?_⟩
    try dsimp only [cxOf, Cx.nox, Cx.wish]
    refine st_of (σ' := [some _, some _, none]) rfl ?_
    wtm_at "jw"
    intro D hD
    have nD := hd.ne_none hD
    refine l_list (xs := ks) (fun i H' => Drew p a H H' ∧ ∃ ns : List Int, H' D = some (.lst (ns.map V.int)) ∧ ns.length = i) ⟨hd.drew.new hD, [], upd_same, rfl⟩ (fun i H' _ h => SqL.of (h.1.kp _ _ hk nk)) (fun i x H' hi h => ?_) (fun H' h => ?_)
    · obtain ⟨d1, ns, h1, hn⟩ := h
      obtain ⟨s, rfl⟩ := hs x (List.mem_of_getElem? hi)
      have hlt := (List.getElem?_eq_some_iff.mp hi).1
      wtm_at "jw"
      refine ⟨rfl, ?_⟩
      wtm_at "jw"
      refine ⟨p, a, s, rfl, d1.at_, fun z H2 d2 => ?_⟩
      refine ⟨_, d2.kp _ _ h1 nD, small1000 (by rw [List.length_map]; omega), (d1.trans d2).put hd hD, ns ++ [z], by rw [upd_same, List.map_append]; rfl, by simp [hn]⟩
    · obtain ⟨d1, ns, h1, hn⟩ := h
      wtm_at "jw"
      intro r hr'
      exact q r ns _ (d1.new hr') upd_same hn
def sp__law_other (K : PySem.W.Frag) : Sp := fun vs H Q _ => ∃ (p a k o : Addr) (ks : List V) (os : List Int), vs = [.ref p, .ref k, .ref o] ∧ DrawAt H p a ∧ H k = some (.lst ks) ∧ k ≠ p ∧ Strs ks ∧ 0 < ks.length ∧ ks.length ≤ 1000 ∧ SqT K H o (os.map V.int) ∧ os.length = ks.length ∧
  ∀ (r : Addr) (ns : List Int) (H' : Hp), Drew p a H H' → H' r = some (.tup (ns.map V.int)) → ns.length = ks.length → Q (.ref r) H'
theorem ok__law_other {P : Program} {w : World} {K : PySem.W.Frag} {mg : Str → Option Value} {base : Heap} {f : Addr} {fd : FuncData} (F : Df K mg "_law_other" s__law_other f fd ["d", "kinds", "old"]) (T : Txt mg)
    (c__law_draw : Cl P w K mg base 1 "_law_draw" (sp__law_draw K))
    (c__law_any : Cl P w K mg base 4 "_law_any" (sp__law_any K))
    (c__law_pick : Cl P w K mg base 2 "_law_pick" (sp__law_pick K))
    (c__law_entry : Cl P w K mg base 3 "_law_entry" (sp__law_entry K)) : FnOk P w K mg base CX0 5 f fd ["d", "kinds", "old"] (sp__law_other K) := by
  refine F.ok sc__law_other (fun vs H Q E h => ?_) (fun cdv A outer s H vs Q E hr h => ?_)
  · obtain ⟨p, a, k, o, ks, os, rfl, _⟩ := h
    rfl
  · obtain ⟨p, a, k, o, ks, os, rfl, hd, hk, nk, hs, hl0, hl, ho, hol, q⟩ := h
    refine ⟨_, (pss_cons (ps_if (pt_cmpR op_eq (pe_cl c__law_draw hr (by decide) rfl (pa_cons (pv 0) (pa_cons pe_int pa_nil))) pe_int (nomark _)) (pss_one (ps_ret (pe_cl c__law_any hr (by decide) rfl (pa_cons (pv 0) (pa_cons (pv 1) pa_nil))))) pss_nil)
      (pss_cons (ps_set (i := 3) sc__law_other.nd rfl (Or.inl rfl) (pe_callTy (T := "list") (r := rLstOf K) c_lst (by rfl) T.b_list (by decide +kernel) (pa_cons (pv 2) pa_nil)))
      (pss_cons (ps_for PassesOwn.never rfl (pi_range1 rfl T.b_range (pa_cons (pe_cl c__law_pick hr (by decide) rfl (pa_cons (pv 0) (pa_cons (pe_lst (pa_cons pe_int (pa_cons pe_int (pa_cons pe_int (pa_cons pe_int (pa_cons pe_int pa_nil)))))) pa_nil))) pa_nil)) (pg_name (i := 4) sc__law_other.nd rfl (Or.inl rfl)) (pss_cons (ps_set (i := 5) sc__law_other.nd rfl (Or.inl rfl) (pe_cl c__law_draw hr (by decide) rfl (pa_cons (pv 0) (pa_cons (pe_callB (id := "len") (r := rLen K) c_len (by rfl) T.b_len (by decide +kernel) (pa_cons (pv 1) pa_nil)) pa_nil))))
      (pss_one (ps_asg (pe_cl c__law_entry hr (by decide) rfl (pa_cons (pv 0) (pa_cons (pe_ix (r := rIxL K) ix_list (pv 1) (pv 5) (fun _ _ => rfl)) pa_nil))) (pg_sub (pv 3) (pv 5) set_list)))))
      (pss_one (ps_ret (pe_callTy (T := "tuple") (r := rTupOf K) c_tup (by rfl) T.b_tuple (by decide +kernel) (pa_cons (pv 3) pa_nil))))))), ?_⟩
    try dsimp only [cxOf, Cx.nox, Cx.wish]
    refine st_of (σ' := [some _, some _, some _, none, none, none]) rfl ?_
    wtm_at "jw"
    refine ⟨p, a, _, rfl, hd, by decide, by decide, fun z H1 z0 z1 d1 => ?_⟩
    have hk1 := d1.kp _ _ hk nk
    wtm_at "jw"
    refine c_dec (fun h => ?_) (fun h => ?_)
    · wtm_at "jw"
      exact ⟨p, a, k, ks, rfl, d1.at_, hk1, nk, hs, hl, fun r ns H2 d2 h1 h2 => q r ns H2 (d1.trans d2) h1 h2⟩
    · have ho1 := (d1.tps hd).sq ho
      wtm_at "jw"
      intro L hL
      have d2 := d1.new (o := .lst (os.map V.int)) hL
      have hL0 := d1.free hL
      have nL := hd.ne_none hL0
      wtm_at "jw"
      intro B hB
      have d3 := d2.new (o := .lst [V.int 1, V.int 3, V.int 0, V.int 1, V.int 7]) hB
      have hL3 := (same_new (o := .lst [V.int 1, V.int 3, V.int 0, V.int 1, V.int 7]) hB) _ _ (upd_same (H := H1) (a := L) (o := .lst (os.map V.int)))
      wtm_at "jw"
      refine ⟨p, a, B, _, rfl, d3.at_, .inl ⟨d2.at_.ne_none hB, SqL.of upd_same⟩, by simp, by simp, fun x H2 hx d4 => ?_⟩
      obtain ⟨z, rfl, z0, z1⟩ : ∃ z : Int, x = V.int z ∧ 0 ≤ z ∧ z ≤ 12 := by
        simp only [List.mem_cons, List.not_mem_nil, or_false] at hx
        rcases hx with h | h | h | h | h <;> exact ⟨_, h, by omega, by omega⟩
      have hL4 := d4.kp _ _ hL3 nL
      wtm_at "jw"
      refine f_range (fun i σ H' => Drew p a H H' ∧ ∃ v1 v2 ns, σ = [some (.ref p), some (.ref k), some (.ref o), some (.ref L), v1, v2] ∧ H' L = some (.lst (ns.map V.int)) ∧ ns.length = ks.length) ⟨d3.trans d4, none, none, os, rfl, hL4, hol⟩ (fun i σ H' hi h => ?_) (fun σ H' h => ?_)
      · obtain ⟨d5, v1, v2, ns, rfl, hL5, hn⟩ := h
        have hk5 := d5.kp _ _ hk nk
        wtm_at "jw"
        refine ⟨p, a, _, rfl, d5.at_, by omega, by omega, fun y H3 y0 y1 d6 => ?_⟩
        have hk6 := d6.kp _ _ hk5 nk
        obtain ⟨v, ev, hv, _⟩ := at_lt (xs := ks) y0 (by omega)
        obtain ⟨s, rfl⟩ := hs v hv
        have hL6 := d6.kp _ _ hL5 nL
        wtm_at "jw"
        refine ⟨p, a, s, rfl, d6.at_, fun z H4 d7 => ?_⟩
        have hL7 := d7.kp _ _ hL6 nL
        have ej := ixN_of (n := (ns.map V.int).length) y0 (by rw [List.length_map]; omega)
        wtm_at "jw"
        exact ⟨((d5.trans d6).trans d7).put hd hL0, _, _, ns.set y.toNat z, rfl, by rw [upd_same, List.map_set], by rw [List.length_set, hn]⟩
      · obtain ⟨d5, v1, v2, ns, rfl, hL5, hn⟩ := h
        wtm_at "jw"
        intro r hr'
        exact q r ns _ (d5.new hr') upd_same hn
theorem rowsN_add {c : Nat → Option Int} {i : Nat} {v : Int} : rowsN (fun j => if j = i then some v else c j) (i + 1) = rowsN c i ++ [((i : Int), v)] := by
  rw [rowsN, rowsN_congr (c' := c) fun k hk => if_neg (by omega)]
  simp
theorem rowsN_skip {c : Nat → Option Int} {i : Nat} : rowsN (fun j => if j = i then none else c j) (i + 1) = rowsN c i := by
  rw [rowsN, rowsN_congr (c' := c) fun k hk => if_neg (by omega)]
  simp
def sp__law_entries (K : PySem.W.Frag) : Sp := fun vs H Q _ => ∃ (p a k o : Addr) (ks : List V) (os : List Int), vs = [.ref p, .ref k, .ref o] ∧ DrawAt H p a ∧ H k = some (.lst ks) ∧ k ≠ p ∧ Strs ks ∧ ks.length ≤ 1000 ∧ SqT K H o (os.map V.int) ∧ os.length = ks.length ∧
  ∀ (r : Addr) (c : Nat → Option Int) (H' : Hp), Drew p a H H' → Prs H' r (rowsN c ks.length) → Q (.ref r) H'
theorem ok__law_entries {P : Program} {w : World} {K : PySem.W.Frag} {mg : Str → Option Value} {base : Heap} {f : Addr} {fd : FuncData} (F : Df K mg "_law_entries" s__law_entries f fd ["d", "kinds", "old"]) (T : Txt mg)
    (c__law_draw : Cl P w K mg base 1 "_law_draw" (sp__law_draw K))
    (c__law_entry : Cl P w K mg base 3 "_law_entry" (sp__law_entry K)) : FnOk P w K mg base CX0 4 f fd ["d", "kinds", "old"] (sp__law_entries K) := by
  refine F.ok sc__law_entries (fun vs H Q E h => ?_) (fun cdv A outer s H vs Q E hr h => ?_)
  · obtain ⟨p, a, k, o, ks, os, rfl, _⟩ := h
    rfl
  · obtain ⟨p, a, k, o, ks, os, rfl, hd, hk, nk, hs, hl, ho, hol, q⟩ := h
    refine ⟨_, (pss_cons (ps_set (i := 3) sc__law_entries.nd rfl (Or.inl rfl) (pe_op op_add pe_int (pe_cl c__law_draw hr (by decide) rfl (pa_cons (pv 0) (pa_cons pe_int pa_nil)))))
      (pss_cons (ps_set (i := 4) sc__law_entries.nd rfl (Or.inl rfl) (pe_lst pa_nil))
      (pss_cons (ps_for PassesOwn.never rfl (pi_range1 rfl T.b_range (pa_cons (pe_callB (id := "len") (r := rLen K) c_len (by rfl) T.b_len (by decide +kernel) (pa_cons (pv 1) pa_nil)) pa_nil)) (pg_name (i := 5) sc__law_entries.nd rfl (Or.inl rfl)) (pss_one (ps_if (pt_cmpR op_eq (pe_cl c__law_draw hr (by decide) rfl (pa_cons (pv 0) (pa_cons (pv 3) pa_nil))) pe_int (nomark _)) (pss_cons (ps_set (i := 6) sc__law_entries.nd rfl (Or.inl rfl) (pe_cl c__law_entry hr (by decide) rfl (pa_cons (pv 0) (pa_cons (pe_ix (r := rIxL K) ix_list (pv 1) (pv 5) (fun _ _ => rfl)) pa_nil))))
      (pss_cons (ps_if (pt_cmpR op_eq (pe_cl c__law_draw hr (by decide) rfl (pa_cons (pv 0) (pa_cons pe_int pa_nil))) pe_int (nomark _)) (pss_one (ps_set (i := 6) sc__law_entries.nd rfl (Or.inl rfl) (pe_ix (r := rIxT K) ix_tup (pv 2) (pv 5) (fun _ _ => rfl)))) pss_nil)
      (pss_one (ps_expr (pe_bmK (K := K) rfl PySem.F.plainAttrs_list PySem.F.slot_list_append PySem.F.type_list_append mt_append (pv 4) (pa_cons (pe_tup (pa_cons (pv 5) (pa_cons (pv 6) pa_nil))) pa_nil)))))) pss_nil)))
      (pss_one (ps_ret (pe_callTy (T := "tuple") (r := rTupOf K) c_tup (by rfl) T.b_tuple (by decide +kernel) (pa_cons (pv 4) pa_nil))))))), ?_⟩
    try dsimp only [cxOf, Cx.nox, Cx.wish]
    refine st_of (σ' := [some _, some _, some _, none, none, none, none]) rfl ?_
    wtm_at "jw"
    refine ⟨p, a, _, rfl, hd, by decide, by decide, fun sh H1 z0 z1 d1 => ?_⟩
    have hk1 := d1.kp _ _ hk nk
    wtm_at "jw"
    intro R hR
    have hR0 := d1.free hR
    have nR := hd.ne_none hR0
    have hk2 := same_new (o := .lst []) hR _ _ hk1
    wtm_at "jw"
    refine f_range (fun i σ H' => Drew p a H H' ∧ ∃ v1 v2 c, σ = [some (.ref p), some (.ref k), some (.ref o), some (.int (1 + sh)), some (.ref R), v1, v2] ∧ LPr H' R (rowsN c i)) ⟨d1.new hR, none, none, fun _ => none, rfl, [], upd_same, Prw.nil⟩ (fun i σ H' hi h => ?_) (fun σ H' h => ?_)
    · obtain ⟨d5, v1, v2, c, rfl, lp⟩ := h
      have hk5 := d5.kp _ _ hk nk
      wtm_at "jw"
      refine ⟨p, a, _, rfl, d5.at_, by omega, by omega, fun y H3 y0 y1 d6 => ?_⟩
      have hk6 := d6.kp _ _ hk5 nk
      obtain ⟨xs, hxs⟩ := d5.at_.some
      have lp6 := lp.kp d6.kp hxs nR
      wtm_at "jw"
      refine c_dec (fun h => ?_) (fun h => ?_)
      · obtain ⟨v, ev, hv, _⟩ := at_lt (xs := ks) (i := 0 + (i : Int)) (by omega) (by omega)
        obtain ⟨s, rfl⟩ := hs v hv
        wtm_at "jw"
        refine ⟨p, a, s, rfl, d6.at_, fun z H4 d7 => ?_⟩
        obtain ⟨ys, hys⟩ := d6.at_.some
        have lp7 := lp6.kp d7.kp hys nR
        wtm_at "js"
        refine i_ifC (fun σ' H5 => Drew p a H H5 ∧ ∃ z : Int, σ' = [some (.ref p), some (.ref k), some (.ref o), some (.int (1 + sh)), some (.ref R), some (.int (0 + (i : Int))), some (.int z)] ∧ LPr H5 R (rowsN c i)) ?_ ?_
        · rintro σ' H5 ⟨d8, z, rfl, rs, hR8, w8⟩
          wtm_at "jw"
          intro q2 hq2
          have hsm : (rs.map V.ref).length < sizeLine := small1000 (by have := w8.1; have := rowsN_len c i; rw [List.length_map]; omega)
          wtm_at "jw"
          refine ⟨(d8.new hq2).put hd hR0, _, _, fun j => if j = i then some z else c j, rfl, ?_⟩
          rw [rowsN_add]
          have e0 := LPr.add (x := 0 + (i : Int)) (y := z) hR8 w8 hq2
          rw [Int.zero_add] at e0 ⊢
          exact e0
        · intro N hN
          wtm_at "jw"
          refine ⟨p, a, _, rfl, d7.at_, by decide, by decide, fun y H5 y0 y1 d8 => ?_⟩
          obtain ⟨zs, hzs⟩ := d7.at_.some
          have lp8 := lp7.kp d8.kp hzs nR
          have d9 := ((d5.trans d6).trans d7).trans d8
          have ho9 := (d9.tps hd).sq ho
          wtm_at "jw"
          refine c_dec (fun ho' => ?_) (fun ho' => ?_)
          · obtain ⟨u, _, eu⟩ := int_at (ns := os) (i := i) (by omega)
            wtm_at "jw"
            exact hN _ _ ⟨d9, u, rfl, lp8⟩
          · wtm_at "jw"
            exact hN _ _ ⟨d9, z, rfl, lp8⟩
      · wtm_at "jw"
        refine ⟨d5.trans d6, _, v2, fun j => if j = i then none else c j, rfl, ?_⟩
        rw [rowsN_skip]
        exact lp6
    · obtain ⟨d5, v1, v2, c, rfl, rs, hR5, w5⟩ := h
      wtm_at "jw"
      intro r hr'
      exact q r c _ (d5.new hr') ⟨rs, upd_same, w5.same (same_new hr')⟩
def sp__law_differing (K : PySem.W.Frag) : Sp := sp_difference K
theorem ok__law_differing {P : Program} {w : World} {K : PySem.W.Frag} {mg : Str → Option Value} {base : Heap} {f : Addr} {fd : FuncData} (F : Df K mg "_law_differing" s__law_differing f fd ["old", "new"]) (T : Txt mg) : FnOk P w K mg base CX0 1 f fd ["old", "new"] (sp__law_differing K) := by
  refine F.ok sc__law_differing (fun vs H Q E h => ?_) (fun cdv A outer s H vs Q E hr h => ?_)
  · obtain ⟨a, b, os, ns, rfl, _⟩ := h
    rfl
  · obtain ⟨a, b, os, ns, rfl, ha, hb, hl, h1, q⟩ := h
    refine ⟨_, (pss_cons (ps_set (i := 2) sc__law_differing.nd rfl (Or.inl rfl) (pe_lst pa_nil))
      (pss_cons (ps_for PassesOwn.never rfl (pi_range1 rfl T.b_range (pa_cons (pe_callB (id := "len") (r := rLen K) c_len (by rfl) T.b_len (by decide +kernel) (pa_cons (pv 0) pa_nil)) pa_nil)) (pg_name (i := 3) sc__law_differing.nd rfl (Or.inl rfl)) (pss_one (ps_if (pt_not (pt_cmpR op_eq (pe_ix (r := rIxT K) ix_tup (pv 0) (pv 3) (fun _ _ => rfl)) (pe_ix (r := rIxT K) ix_tup (pv 1) (pv 3) (fun _ _ => rfl)) (nomark _))) (pss_one (ps_expr (pe_bmK (K := K) rfl PySem.F.plainAttrs_list PySem.F.slot_list_append PySem.F.type_list_append mt_append (pv 2) (pa_cons (pe_tup (pa_cons (pv 3) (pa_cons (pe_ix (r := rIxT K) ix_tup (pv 1) (pv 3) (fun _ _ => rfl)) pa_nil))) pa_nil)))) pss_nil)))
      (pss_one (ps_ret (pe_callTy (T := "tuple") (r := rTupOf K) c_tup (by rfl) T.b_tuple (by decide +kernel) (pa_cons (pv 2) pa_nil)))))), ?_⟩
    try dsimp only [cxOf, Cx.nox, Cx.wish]
    refine st_of (σ' := [some _, some _, none, none]) rfl ?_
    wtm_at "jw"
    intro D hD
    have ha1 := Same.tup (same_new (o := .lst []) hD) ha
    wtm_at "jw"
    refine f_range (fun i σ H' => Same H H' ∧ LPr H' D (rowsN (dfc os ns) i) ∧ ∃ v1, σ = [some (.ref a), some (.ref b), some (.ref D), v1]) ⟨same_new hD, ⟨[], upd_same, Prw.nil⟩, none, rfl⟩ (fun i σ H' hi h => ?_) (fun σ H' h => ?_)
    · obtain ⟨s, ⟨rs, hD', w⟩, v1, rfl⟩ := h
      rw [List.length_map] at hi
      have hi' : i < ns.length := by omega
      have ha' := Same.tup s ha
      have hb' := Same.tup s hb
      obtain ⟨x, ex, ex2⟩ := int_at (ns := os) (i := i) (by omega)
      obtain ⟨y, ey, ey2⟩ := int_at (ns := ns) (i := i) (by omega)
      have hrl : rs.length ≤ i := by rw [w.1]; exact rowsN_len _ _
      wtm_at "jw"
      refine c_decN (fun hne => ?_) (fun he => ?_)
      · wtm_at "jw"
        intro q hq
        have hsm : (rs.map V.ref).length < sizeLine := small1000 (by rw [List.length_map]; omega)
        wtm_at "jw"
        refine ⟨fun b o hbo => ?_, ?_, _, rfl⟩
        · rw [upd_ne (ne_of_none hbo hD)]
          exact same_new hq _ _ (s _ _ hbo)
        · rw [rowsN_dfs (by rw [ex, ey]; intro h; exact hne (Option.some.inj h)) ey]
          have e0 := LPr.add (x := 0 + (i : Int)) (y := y) hD' w hq
          rw [Int.zero_add] at e0 ⊢
          exact e0
      · refine ⟨s, ⟨rs, hD', ?_⟩, _, rfl⟩
        rw [rowsN_dfn (by rw [ex, ey, he])]
        exact w
    · obtain ⟨s, ⟨rs, hD', w⟩, v1, rfl⟩ := h
      wtm_at "jw"
      intro q1 hq
      refine q q1 _ (s.trans (same_new hq)) ⟨rs, upd_same, ?_⟩
      rw [List.length_map, hl] at w
      exact w.same (same_new hq)
def sp__law_applied (K : PySem.W.Frag) : Sp := sp_changed K
theorem ok__law_applied {P : Program} {w : World} {K : PySem.W.Frag} {mg : Str → Option Value} {base : Heap} {f : Addr} {fd : FuncData} (F : Df K mg "_law_applied" s__law_applied f fd ["old", "rows"]) (T : Txt mg) : FnOk P w K mg base CX0 1 f fd ["old", "rows"] (sp__law_applied K) := by
  refine F.ok sc__law_applied (fun vs H Q E h => ?_) (fun cdv A outer s H vs Q E hr h => ?_)
  · obtain ⟨a, b, os, rows, rfl, _⟩ := h
    rfl
  · obtain ⟨a, b, os, rows, rfl, ha, ⟨rs, hb, w⟩, hl, hin, q⟩ := h
    refine ⟨_, (pss_cons (ps_set (i := 2) sc__law_applied.nd rfl (Or.inl rfl) (pe_callTy (T := "list") (r := rLstOf K) c_lst (by rfl) T.b_list (by decide +kernel) (pa_cons (pv 0) pa_nil)))
      (pss_cons (ps_for PassesOwn.never rfl (pi_tup (pv 1)) (pg_tupK (K := K) rfl rfl (pgs_cons (pg_name (i := 3) sc__law_applied.nd rfl (Or.inl rfl)) (pgs_cons (pg_name (i := 4) sc__law_applied.nd rfl (Or.inl rfl)) pgs_nil))) (pss_one (ps_asg (pv 4) (pg_sub (pv 2) (pv 3) set_list))))
      (pss_one (ps_ret (pe_callTy (T := "tuple") (r := rTupOf K) c_tup (by rfl) T.b_tuple (by decide +kernel) (pa_cons (pv 2) pa_nil)))))), ?_⟩
    try dsimp only [cxOf, Cx.nox, Cx.wish]
    refine st_of (σ' := [some _, some _, none, none, none]) rfl ?_
    wtm_at "jw"
    intro L hL
    have hbL : upd H L (.lst (os.map V.int)) b = some (.tup (rs.map V.ref)) := same_new hL _ _ hb
    wtm_at "jw"
    refine f_tup (xs := rs.map V.ref) (fun i σ H' => Same H H' ∧ H' L = some (.lst ((ap os (rows.take i)).map V.int)) ∧ ∃ v1 v2, σ = [some (.ref a), some (.ref b), some (.ref L), v1, v2]) ⟨same_new hL, upd_same, none, none, rfl⟩ (fun i σ H' _ h => SqT.of (h.1 _ _ hb)) (fun i x σ H' hi h => ?_) (fun σ H' h => ?_)
    · obtain ⟨s, hL', v1, v2, rfl⟩ := h
      obtain ⟨r, p, rfl, e1, e2, hr', e3, hlt⟩ := (w.same s).at hi
      obtain ⟨p0, p1⟩ := hin p (List.mem_of_getElem? e2)
      have ej := ixN_of (n := ((ap os (rows.take i)).map V.int).length) p0 (by rw [List.length_map, ap_len]; exact p1)
      wtm_at "jw"
      refine ⟨fun b o hbo => ?_, ?_, _, _, rfl⟩
      · rw [upd_ne (ne_of_none hbo hL)]
        exact s _ _ hbo
      · rw [upd_same, e3, ap_snoc, List.map_set]
    · obtain ⟨s, hL', v1, v2, rfl⟩ := h
      rw [List.length_map, w.1, List.take_length] at hL'
      wtm_at "jw"
      intro q1 hq
      exact q q1 _ (s.trans (same_new hq)) upd_same
def sp__law_is_entries (K : PySem.W.Frag) : Sp := fun vs H Q _ => ∃ (a : Addr) (rows : List (Int × Int)), vs = [.ref a] ∧ Prs H a rows ∧ ∀ H', Same H H' → Q (.bl true) H'
theorem ok__law_is_entries {P : Program} {w : World} {K : PySem.W.Frag} {mg : Str → Option Value} {base : Heap} {f : Addr} {fd : FuncData} (F : Df K mg "_law_is_entries" s__law_is_entries f fd ["rows"]) (T : Txt mg)
    (c__law_is_ints : Cl P w K mg base 2 "_law_is_ints" (sp__law_is_ints K)) : FnOk P w K mg base CX0 3 f fd ["rows"] (sp__law_is_entries K) := by
  refine F.ok sc__law_is_entries (fun vs H Q E h => ?_) (fun cdv A outer s H vs Q E hr h => ?_)
  · obtain ⟨a, rows, rfl, _⟩ := h
    rfl
  · obtain ⟨a, rows, rfl, ⟨rs, ha, w⟩, q⟩ := h
    refine ⟨_, (pss_cons (ps_if (pt_not (pt_val (pe_callB (id := "isinstance") (r := rIsi K) call_isi (by rfl) T.b_isinstance (by decide +kernel) (pa_cons (pv 0) (pa_cons (pe_bltn (v := .ty "tuple") (u := Value.type "tuple") (by rfl) T.b_tuple (by decide +kernel) rfl) pa_nil))))) (pss_one (ps_ret pe_bl)) pss_nil)
      (pss_cons (ps_for PassesOwn.never rfl (pi_tup (pv 0)) (pg_name (i := 1) sc__law_is_entries.nd rfl (Or.inl rfl)) (pss_one (ps_if (PW.pt (pw_or (pt_not (pt_val (pe_cl c__law_is_ints hr (by decide) rfl (pa_cons (pv 1) pa_nil)))) (pw_or1 (pt_cmpR op_ne (pe_callB (id := "len") (r := rLen K) c_len (by rfl) T.b_len (by decide +kernel) (pa_cons (pv 1) pa_nil)) pe_int (nomark _))))) (pss_one (ps_ret pe_bl)) pss_nil)))
      (pss_one (ps_ret pe_bl)))), ?_⟩
    try dsimp only [cxOf, Cx.nox, Cx.wish]
    refine st_of (σ' := [some _, none]) rfl ?_
    wtm_at "jw"
    refine i_isi (.base (.tup ha)) rfl ?_
    wtm_at "jw"
    refine f_tup (xs := rs.map V.ref) (fun i σ H' => Same H H' ∧ ∃ v1, σ = [some (.ref a), v1]) ⟨Same.refl _, none, rfl⟩ (fun i σ H' _ h => SqT.of (h.1 _ _ ha)) (fun i x σ H' hi h => ?_) (fun σ H' h => ?_)
    · obtain ⟨s, v1, rfl⟩ := h
      obtain ⟨r, p, rfl, e1, e2, hr', e3, hlt⟩ := (w.same s).at hi
      wtm_at "jw"
      refine ⟨r, [p.1, p.2], rfl, hr', by simp, fun H2 s2 => ?_⟩
      have hr2 := s2 _ _ hr'
      wtm_at "jw"
      refine c_noN rfl ?_
      wtm_at "jw"
      exact ⟨s.trans s2, _, rfl⟩
    · obtain ⟨s, v1, rfl⟩ := h
      wtm_at "jw"
      exact q _ s
def sp__law_is_difference (K : PySem.W.Frag) : Sp := fun vs H Q _ => ∃ (a b : Addr) (os ns : List Int), vs = [.ref a, .ref b] ∧ SqT K H a (os.map V.int) ∧ SqT K H b (ns.map V.int) ∧ os.length = ns.length ∧ ns.length ≤ 1000 ∧ ∀ H', Same H H' → Q (.bl true) H'
theorem ok__law_is_difference {P : Program} {w : World} {K : PySem.W.Frag} {mg : Str → Option Value} {base : Heap} {f : Addr} {fd : FuncData} (F : Df K mg "_law_is_difference" s__law_is_difference f fd ["old", "new"]) (T : Txt mg)
    (c_difference : Cl P w K mg base 1 "difference" (sp_difference K))
    (c__law_is_entries : Cl P w K mg base 3 "_law_is_entries" (sp__law_is_entries K))
    (c__law_differing : Cl P w K mg base 1 "_law_differing" (sp__law_differing K)) : FnOk P w K mg base CX0 4 f fd ["old", "new"] (sp__law_is_difference K) := by
  refine F.ok sc__law_is_difference (fun vs H Q E h => ?_) (fun cdv A outer s H vs Q E hr h => ?_)
  · obtain ⟨a, b, os, ns, rfl, _⟩ := h
    rfl
  · obtain ⟨a, b, os, ns, rfl, ha, hb, hl, h1, q⟩ := h
    refine ⟨_, (pss_cons (ps_set (i := 2) sc__law_is_difference.nd rfl (Or.inl rfl) (pe_cl c_difference hr (by decide) rfl (pa_cons (pv 0) (pa_cons (pv 1) pa_nil))))
      (pss_one (ps_ret (pe_and (pe_cl c__law_is_entries hr (by decide) rfl (pa_cons (pv 2) pa_nil)) (pe_one (pe_cmpR (r := rEqD K) (op_eqD hr.units) (pv 2) (pe_cl c__law_differing hr (by decide) rfl (pa_cons (pv 0) (pa_cons (pv 1) pa_nil))) (nomark _))))))), ?_⟩
    try dsimp only [cxOf, Cx.nox, Cx.wish]
    refine st_of (σ' := [some _, some _, none]) rfl ?_
    wtm_at "jw"
    refine ⟨a, b, os, ns, rfl, ha, hb, hl, h1, fun r H1 s1 p1 => ?_⟩
    wtm_at "jw"
    refine ⟨r, _, rfl, p1, fun H2 s2 => ?_⟩
    wtm_at "jw"
    have s12 := s1.trans s2
    refine ⟨a, b, os, ns, rfl, Same.tup s12 ha, Same.tup s12 hb, hl, h1, fun r2 H3 s3 p3 => ?_⟩
    refine i_eqS' (dp_prs ((p1.same s2).same s3)) (dp_prs p3) (shp_prs _) (by decide) ?_
    exact q _ (s12.trans s3)
def sp__law_is_changed (K : PySem.W.Frag) : Sp := fun vs H Q _ => ∃ (a b e : Addr) (os es : List Int) (rows : List (Int × Int)), vs = [.ref a, .ref b, .ref e] ∧ SqT K H a (os.map V.int) ∧ Prs H b rows ∧ os.length ≤ 1000 ∧ (∀ p ∈ rows, 0 ≤ p.1 ∧ p.1 < os.length) ∧ SqT K H e (es.map V.int) ∧ ap os rows = es ∧ ∀ H', Same H H' → Q (.bl true) H'
theorem ok__law_is_changed {P : Program} {w : World} {K : PySem.W.Frag} {mg : Str → Option Value} {base : Heap} {f : Addr} {fd : FuncData} (F : Df K mg "_law_is_changed" s__law_is_changed f fd ["old", "rows", "due"]) (T : Txt mg)
    (c_changed : Cl P w K mg base 1 "changed" (sp_changed K))
    (c__law_is_ints : Cl P w K mg base 2 "_law_is_ints" (sp__law_is_ints K)) : FnOk P w K mg base CX0 3 f fd ["old", "rows", "due"] (sp__law_is_changed K) := by
  refine F.ok sc__law_is_changed (fun vs H Q E h => ?_) (fun cdv A outer s H vs Q E hr h => ?_)
  · obtain ⟨a, b, e, os, es, rows, rfl, _⟩ := h
    rfl
  · obtain ⟨a, b, e, os, es, rows, rfl, ha, hb, hl, hin, he, rfl, q⟩ := h
    refine ⟨_, (pss_cons (ps_set (i := 3) sc__law_is_changed.nd rfl (Or.inl rfl) (pe_cl c_changed hr (by decide) rfl (pa_cons (pv 0) (pa_cons (pv 1) pa_nil))))
      (pss_one (ps_ret (pe_and (pe_cl c__law_is_ints hr (by decide) rfl (pa_cons (pv 3) pa_nil)) (pe_one (pe_cmpR (r := rEqD K) (op_eqD hr.units) (pv 3) (pv 2) (nomark _))))))), ?_⟩
    try dsimp only [cxOf, Cx.nox, Cx.wish]
    refine st_of (σ' := [some _, some _, some _, none]) rfl ?_
    wtm_at "jw"
    refine ⟨a, b, os, rows, rfl, ha, hb, hl, hin, fun r H1 s1 h1 => ?_⟩
    wtm_at "jw"
    refine ⟨r, _, rfl, h1, by rw [ap_len]; omega, fun H2 s2 => ?_⟩
    wtm_at "jw"
    refine i_eqS' (dp_ints (SqT.of (s2 _ _ h1))) (dp_ints (Same.tup (s1.trans s2) he)) (shp_ints _) (by decide) ?_
    exact q _ (s1.trans s2)
def sp__law_is_thinned (K : PySem.W.Frag) : Sp := fun vs H Q _ => ∃ (a b e : Addr) (os : List Int) (rows es : List (Int × Int)), vs = [.ref a, .ref b, .ref e] ∧ SqT K H a (os.map V.int) ∧ Prs H b rows ∧ os.length ≤ 1000 ∧ rows.length ≤ 1000 ∧ (∀ p ∈ rows, 0 ≤ p.1 ∧ p.1 < os.length) ∧ Prs H e es ∧ th os rows = es ∧ ∀ H', Same H H' → Q (.bl true) H'
theorem ok__law_is_thinned {P : Program} {w : World} {K : PySem.W.Frag} {mg : Str → Option Value} {base : Heap} {f : Addr} {fd : FuncData} (F : Df K mg "_law_is_thinned" s__law_is_thinned f fd ["old", "rows", "due"]) (T : Txt mg)
    (c_thinned : Cl P w K mg base 1 "thinned" (sp_thinned K))
    (c__law_is_entries : Cl P w K mg base 3 "_law_is_entries" (sp__law_is_entries K)) : FnOk P w K mg base CX0 4 f fd ["old", "rows", "due"] (sp__law_is_thinned K) := by
  refine F.ok sc__law_is_thinned (fun vs H Q E h => ?_) (fun cdv A outer s H vs Q E hr h => ?_)
  · obtain ⟨a, b, e, os, rows, es, rfl, _⟩ := h
    rfl
  · obtain ⟨a, b, e, os, rows, es, rfl, ha, hb, hl, hl2, hin, he, rfl, q⟩ := h
    refine ⟨_, (pss_cons (ps_set (i := 3) sc__law_is_thinned.nd rfl (Or.inl rfl) (pe_cl c_thinned hr (by decide) rfl (pa_cons (pv 0) (pa_cons (pv 1) pa_nil))))
      (pss_one (ps_ret (pe_and (pe_cl c__law_is_entries hr (by decide) rfl (pa_cons (pv 3) pa_nil)) (pe_one (pe_cmpR (r := rEqD K) (op_eqD hr.units) (pv 3) (pv 2) (nomark _))))))), ?_⟩
    try dsimp only [cxOf, Cx.nox, Cx.wish]
    refine st_of (σ' := [some _, some _, some _, none]) rfl ?_
    wtm_at "jw"
    refine ⟨a, b, os, rows, rfl, ha, hb, hl, hl2, hin, fun r H1 s1 h1 => ?_⟩
    wtm_at "jw"
    refine ⟨r, _, rfl, h1, fun H2 s2 => ?_⟩
    wtm_at "jw"
    refine i_eqS' (dp_prs (h1.same s2)) (dp_prs (he.same (s1.trans s2))) (shp_prs _) (by decide) ?_
    exact q _ (s1.trans s2)
theorem df_in {os ns : List Int} (h : os.length = ns.length) : ∀ p ∈ df os ns, 0 ≤ p.1 ∧ p.1 < os.length := fun p hp => by
  have := rowsN_in hp
  omega
theorem df_len (os ns : List Int) : (df os ns).length ≤ ns.length := rowsN_len _ _
def sp__law_are_right (K : PySem.W.Frag) : Sp := fun vs H Q _ => ∃ (a b e : Addr) (os ns : List Int) (c : Nat → Option Int), vs = [.ref a, .ref b, .ref e] ∧ SqT K H a (os.map V.int) ∧ SqT K H b (ns.map V.int) ∧ os.length = ns.length ∧ ns.length ≤ 1000 ∧ Prs H e (rowsN c os.length) ∧ ∀ H', Same H H' → Q (.bl true) H'
theorem ok__law_are_right {P : Program} {w : World} {K : PySem.W.Frag} {mg : Str → Option Value} {base : Heap} {f : Addr} {fd : FuncData} (F : Df K mg "_law_are_right" s__law_are_right f fd ["old", "new", "rows"]) (T : Txt mg)
    (c__law_differing : Cl P w K mg base 1 "_law_differing" (sp__law_differing K))
    (c__law_applied : Cl P w K mg base 1 "_law_applied" (sp__law_applied K))
    (c__law_is_changed : Cl P w K mg base 3 "_law_is_changed" (sp__law_is_changed K))
    (c__law_is_thinned : Cl P w K mg base 4 "_law_is_thinned" (sp__law_is_thinned K))
    (c__law_is_difference : Cl P w K mg base 4 "_law_is_difference" (sp__law_is_difference K)) : FnOk P w K mg base CX0 5 f fd ["old", "new", "rows"] (sp__law_are_right K) := by
  refine F.ok sc__law_are_right (fun vs H Q E h => ?_) (fun cdv A outer s H vs Q E hr h => ?_)
  · obtain ⟨a, b, e, os, ns, c, rfl, _⟩ := h
    rfl
  · obtain ⟨a, b, e, os, ns, c, rfl, ha, hb, hl, h1, he, q⟩ := h
    have h1' : os.length ≤ 1000 := by omega
    have dfl := df_len os ns
    have dfl' := df_len ns os
    refine ⟨_, (pss_cons (ps_set (i := 3) sc__law_are_right.nd rfl (Or.inl rfl) (pe_cl c__law_differing hr (by decide) rfl (pa_cons (pv 0) (pa_cons (pv 1) pa_nil))))
      (pss_cons (ps_set (i := 4) sc__law_are_right.nd rfl (Or.inl rfl) (pe_cl c__law_differing hr (by decide) rfl (pa_cons (pv 1) (pa_cons (pv 0) pa_nil))))
      (pss_cons (ps_if (PW.pt (pw_or (pt_not (pt_val (pe_cl c__law_is_difference hr (by decide) rfl (pa_cons (pv 0) (pa_cons (pv 1) pa_nil))))) (pw_or (pt_not (pt_val (pe_cl c__law_is_difference hr (by decide) rfl (pa_cons (pv 1) (pa_cons (pv 0) pa_nil))))) (pw_or1 (pt_not (pt_val (pe_cl c__law_is_difference hr (by decide) rfl (pa_cons (pv 0) (pa_cons (pv 0) pa_nil))))))))) (pss_one (ps_ret pe_bl)) pss_nil)
      (pss_cons (ps_if (PW.pt (pw_or (pt_not (pt_val (pe_cl c__law_is_changed hr (by decide) rfl (pa_cons (pv 0) (pa_cons (pv 3) (pa_cons (pv 1) pa_nil)))))) (pw_or1 (pt_not (pt_val (pe_cl c__law_is_changed hr (by decide) rfl (pa_cons (pv 1) (pa_cons (pv 4) (pa_cons (pv 0) pa_nil))))))))) (pss_one (ps_ret pe_bl)) pss_nil)
      (pss_cons (ps_if (PW.pt (pw_or (pt_not (pt_val (pe_cl c__law_is_thinned hr (by decide) rfl (pa_cons (pv 0) (pa_cons (pv 3) (pa_cons (pv 3) pa_nil)))))) (pw_or1 (pt_not (pt_val (pe_cl c__law_is_thinned hr (by decide) rfl (pa_cons (pv 1) (pa_cons (pv 3) (pa_cons (pe_tup pa_nil) pa_nil))))))))) (pss_one (ps_ret pe_bl)) pss_nil)
      (pss_cons (ps_set (i := 5) sc__law_are_right.nd rfl (Or.inl rfl) (pe_callTy (T := "tuple") (r := rTupOf K) c_tup (by rfl) T.b_tuple (by decide +kernel) (pa_cons (pe_lc (own := [("place", 6)]) (g := gName 6) (tt := tYes) rfl sc__law_are_right.nd (pi_range1 rfl T.b_range (pa_cons (pe_callB (id := "len") (r := rLen K) c_len (by rfl) T.b_len (by decide +kernel) (pa_cons (pv 1) pa_nil)) pa_nil)) (blkOk_by (own := [("place", 6)]) (N := N__law_are_right) (sc := defScope s__law_are_right) (by decide +kernel)) (fun _ _ _ _ _ => (pg_name (i := 6) sc__law_are_right.nd rfl (Or.inl rfl))) (fun _ _ _ _ _ => pts_nil) (fun _ _ _ _ _ => (pe_tup (pa_cons (pv 6) (pa_cons (pe_ix (r := rIxT K) ix_tup (pv 1) (pv 6) (fun _ _ => rfl)) pa_nil))))) pa_nil)))
      (pss_cons (ps_if (PW.pt (pw_or (pt_not (pt_val (pe_cl c__law_is_changed hr (by decide) rfl (pa_cons (pv 0) (pa_cons (pv 5) (pa_cons (pv 1) pa_nil)))))) (pw_or1 (pt_not (pt_val (pe_cl c__law_is_thinned hr (by decide) rfl (pa_cons (pv 0) (pa_cons (pv 5) (pa_cons (pv 3) pa_nil))))))))) (pss_one (ps_ret pe_bl)) pss_nil)
      (pss_cons (ps_set (i := 7) sc__law_are_right.nd rfl (Or.inl rfl) (pe_cl c__law_applied hr (by decide) rfl (pa_cons (pv 0) (pa_cons (pv 2) pa_nil))))
      (pss_cons (ps_set (i := 8) sc__law_are_right.nd rfl (Or.inl rfl) (pe_cl c__law_differing hr (by decide) rfl (pa_cons (pv 0) (pa_cons (pv 7) pa_nil))))
      (pss_cons (ps_if (PW.pt (pw_or (pt_not (pt_val (pe_cl c__law_is_changed hr (by decide) rfl (pa_cons (pv 0) (pa_cons (pv 2) (pa_cons (pv 7) pa_nil)))))) (pw_or1 (pt_not (pt_val (pe_cl c__law_is_thinned hr (by decide) rfl (pa_cons (pv 0) (pa_cons (pv 2) (pa_cons (pv 8) pa_nil))))))))) (pss_one (ps_ret pe_bl)) pss_nil)
      (pss_cons (ps_if (PW.pt (pw_or (pt_not (pt_val (pe_cl c__law_is_changed hr (by decide) rfl (pa_cons (pv 0) (pa_cons (pv 8) (pa_cons (pv 7) pa_nil)))))) (pw_or1 (pt_not (pt_val (pe_cl c__law_is_difference hr (by decide) rfl (pa_cons (pv 0) (pa_cons (pv 7) pa_nil)))))))) (pss_one (ps_ret pe_bl)) pss_nil)
      (pss_one (ps_ret (pe_and (pe_cl c__law_is_changed hr (by decide) rfl (pa_cons (pv 0) (pa_cons (pe_tup pa_nil) (pa_cons (pv 0) pa_nil)))) (pe_one (pe_cl c__law_is_thinned hr (by decide) rfl (pa_cons (pv 0) (pa_cons (pe_tup pa_nil) (pa_cons (pe_tup pa_nil) pa_nil))))))))))))))))))), ?_⟩
    try dsimp only [cxOf, Cx.nox, Cx.wish]
    refine st_of (σ' := [some _, some _, some _, none, none, none, none, none, none]) rfl ?_
    wtm_at "jw"
    refine ⟨a, b, os, ns, rfl, ha, hb, hl, h1, fun t H1 s1 p1 => ?_⟩
    wtm_at "jw"
    refine ⟨b, a, ns, os, rfl, Same.tup s1 hb, Same.tup s1 ha, hl.symm, h1', fun k H2 s2 p2 => ?_⟩
    have S2 := s1.trans s2
    have t2 := p1.same s2
    wtm_at "jw"
    refine ⟨a, b, os, ns, rfl, Same.tup S2 ha, Same.tup S2 hb, hl, h1, fun H3 s3 => ?_⟩
    have S3 := S2.trans s3
    wtm_at "jw"
    refine ⟨b, a, ns, os, rfl, Same.tup S3 hb, Same.tup S3 ha, hl.symm, h1', fun H4 s4 => ?_⟩
    have S4 := S3.trans s4
    wtm_at "jw"
    refine ⟨a, a, os, os, rfl, Same.tup S4 ha, Same.tup S4 ha, rfl, h1', fun H5 s5 => ?_⟩
    have S5 := S4.trans s5
    have t5 := ((t2.same s3).same s4).same s5
    have k5 := ((p2.same s3).same s4).same s5
    wtm_at "jw"
    refine ⟨a, t, b, os, ns, _, rfl, Same.tup S5 ha, t5, h1', df_in hl, Same.tup S5 hb, ap_df hl, fun H6 s6 => ?_⟩
    have S6 := S5.trans s6
    wtm_at "jw"
    refine ⟨b, k, a, ns, os, _, rfl, Same.tup S6 hb, k5.same s6, h1, df_in hl.symm, Same.tup S6 ha, ap_df hl.symm, fun H7 s7 => ?_⟩
    have S7 := S6.trans s7
    have t7 := (t5.same s6).same s7
    wtm_at "jw"
    refine ⟨a, t, t, os, _, _, rfl, Same.tup S7 ha, t7, h1', by omega, df_in hl, t7, th_df os ns, fun H8 s8 => ?_⟩
    have S8 := S7.trans s8
    have t8 := t7.same s8
    wtm_at "jw"
    intro n1 hn1
    have s9 := same_new (o := .tup []) hn1
    have S9 := S8.trans s9
    refine ⟨b, t, n1, ns, _, [], rfl, Same.tup S9 hb, t8.same s9, h1, by omega, fun p hp => by rw [← hl]; exact df_in hl p hp, ⟨[], upd_same, Prw.nil⟩, th_df0 os ns, fun H10 s10 => ?_⟩
    have S10 := S9.trans s10
    have t10 := (t8.same s9).same s10
    have hb10 := Same.tup S10 hb
    wtm_at "jw"
    intro D hD
    refine l_range (fun i H' => Same H10 H' ∧ LPr H' D (rowsN (fun k => ns[k]?) i)) ⟨same_new hD, [], upd_same, Prw.nil⟩ (fun i H' hi h => ?_) (fun H' h => ?_)
    · obtain ⟨s, rs, hD', w⟩ := h
      rw [List.length_map] at hi
      have hi' : i < ns.length := by omega
      have hb' := Same.tup s hb10
      obtain ⟨y, ey, ey2⟩ := int_at (ns := ns) (i := i) (by omega)
      have hrl : rs.length ≤ i := by rw [w.1]; exact rowsN_len _ _
      wtm_at "jw"
      refine ⟨rfl, ?_⟩
      wtm_at "jw"
      intro q hq
      have hD2 : upd H' q (.tup [V.int (0 + (i : Int)), V.int y]) D = some (.lst (rs.map V.ref)) := same_new hq _ _ hD'
      refine ⟨_, hD2, small1000 (by rw [List.length_map]; omega), fun b o hbo => ?_, ?_⟩
      · rw [upd_ne (ne_of_none hbo hD)]
        exact same_new hq _ _ (s _ _ hbo)
      · rw [rowsN, ey]
        have e0 := LPr.add (x := 0 + (i : Int)) (y := y) hD' w hq
        rw [Int.zero_add] at e0 ⊢
        exact e0
    · obtain ⟨s, rs, hD', w⟩ := h
      wtm_at "jw"
      intro v hv
      have s11 := s.trans (same_new (o := .tup (rs.map V.ref)) hv)
      have S11 := S10.trans s11
      have v11 : Prs (upd H' v (.tup (rs.map V.ref))) v (evr ns) := ⟨rs, upd_same, by rw [List.length_map] at w; exact w.same (same_new hv)⟩
      have t11 := t10.same s11
      have evl : (evr ns).length ≤ ns.length := rowsN_len _ _
      have evi : ∀ p ∈ evr ns, 0 ≤ p.1 ∧ p.1 < os.length := fun p hp => by
        have := rowsN_in hp
        omega
      have e11 := he.same S11
      have ci : ∀ p ∈ rowsN c os.length, 0 ≤ p.1 ∧ p.1 < os.length := fun p hp => by
        have := rowsN_in hp
        omega
      have cl := rowsN_len c os.length
      wtm_at "jw"
      refine ⟨a, v, b, os, ns, _, rfl, Same.tup S11 ha, v11, h1', evi, Same.tup S11 hb, ap_evr hl, fun H12 s12 => ?_⟩
      have S12 := S11.trans s12
      wtm_at "jw"
      refine ⟨a, v, t, os, _, _, rfl, Same.tup S12 ha, v11.same s12, h1', by omega, evi, t11.same s12, th_evr os ns, fun H13 s13 => ?_⟩
      have S13 := S12.trans s13
      have e13 := (e11.same s12).same s13
      wtm_at "jw"
      refine ⟨a, e, os, _, rfl, Same.tup S13 ha, e13, h1', ci, fun f H14 s14 f14 => ?_⟩
      have S14 := S13.trans s14
      have fl : (ap os (rowsN c os.length)).length = os.length := ap_len _ _
      wtm_at "jw"
      refine ⟨a, f, os, _, rfl, Same.tup S14 ha, SqT.of f14, fl.symm, by omega, fun g H15 s15 g15 => ?_⟩
      have S15 := S14.trans s15
      have e15 := (e13.same s14).same s15
      have f15 := s15 _ _ f14
      wtm_at "jw"
      refine ⟨a, e, f, os, _, _, rfl, Same.tup S15 ha, e15, h1', ci, SqT.of f15, rfl, fun H16 s16 => ?_⟩
      have S16 := S15.trans s16
      have e16 := e15.same s16
      have g16 := g15.same s16
      have f16 := s16 _ _ f15
      wtm_at "jw"
      refine ⟨a, e, g, os, _, _, rfl, Same.tup S16 ha, e16, h1', by omega, ci, g16, th_ap os c, fun H17 s17 => ?_⟩
      have S17 := S16.trans s17
      have g17 := g16.same s17
      have f17 := s17 _ _ f16
      have dfl2 := df_len os (ap os (rowsN c os.length))
      wtm_at "jw"
      refine ⟨a, g, f, os, _, _, rfl, Same.tup S17 ha, g17, h1', df_in fl.symm, SqT.of f17, ap_df fl.symm, fun H18 s18 => ?_⟩
      have S18 := S17.trans s18
      have f18 := s18 _ _ f17
      wtm_at "jw"
      refine ⟨a, f, os, _, rfl, Same.tup S18 ha, SqT.of f18, fl.symm, by omega, fun H19 s19 => ?_⟩
      have S19 := S18.trans s19
      wtm_at "jw"
      intro n2 hn2
      have s20 := same_new (o := .tup []) hn2
      have S20 := S19.trans s20
      wtm_at "jw"
      refine ⟨a, n2, a, os, os, [], rfl, Same.tup S20 ha, ⟨[], upd_same, Prw.nil⟩, h1', fun p hp => (nomatch hp), Same.tup S20 ha, rfl, fun H21 s21 => ?_⟩
      have S21 := S20.trans s21
      wtm_at "jw"
      intro n3 hn3
      have s22 := same_new (o := .tup []) hn3
      wtm_at "jw"
      intro n4 hn4
      have s23 := same_new (o := .tup []) hn4
      have S23 := (S21.trans s22).trans s23
      exact ⟨a, n3, n4, os, [], [], rfl, Same.tup S23 ha, ⟨[], s23 _ _ upd_same, Prw.nil⟩, h1', by simp, fun p hp => (nomatch hp), ⟨[], upd_same, Prw.nil⟩, rfl, fun H24 s24 => q _ (S23.trans s24)⟩
def sp_law (K : PySem.W.Frag) : Sp := fun vs H Q _ => ∃ (a : Addr) (ns : List Int), vs = [.ref a] ∧ SqL K H a (ns.map V.int) ∧ ns.length ≤ 63 ∧ ∀ H', Q (.bl true) H'
theorem ok_law {P : Program} {w : World} {K : PySem.W.Frag} {mg : Str → Option Value} {base : Heap} {f : Addr} {fd : FuncData} (F : Df K mg "law" s_law f fd ["script"]) (T : Txt mg)
    (c__law_begin : Cl P w K mg base 1 "_law_begin" (sp__law_begin K))
    (c__law_layout : Cl P w K mg base 3 "_law_layout" (sp__law_layout K))
    (c__law_any : Cl P w K mg base 4 "_law_any" (sp__law_any K))
    (c__law_other : Cl P w K mg base 5 "_law_other" (sp__law_other K))
    (c__law_are_right : Cl P w K mg base 5 "_law_are_right" (sp__law_are_right K))
    (c__law_is_difference : Cl P w K mg base 4 "_law_is_difference" (sp__law_is_difference K))
    (c__law_is_changed : Cl P w K mg base 3 "_law_is_changed" (sp__law_is_changed K))
    (c__law_entries : Cl P w K mg base 4 "_law_entries" (sp__law_entries K))
    (c__law_differing : Cl P w K mg base 1 "_law_differing" (sp__law_differing K)) : FnOk P w K mg base CX0 6 f fd ["script"] (sp_law K) := by
  refine F.ok sc_law (fun vs H Q E h => ?_) (fun cdv A outer s H vs Q E hr h => ?_)
  · obtain ⟨a, ns, rfl, _⟩ := h
    rfl
  · obtain ⟨a, ns, rfl, hS, hl, k⟩ := h
    refine ⟨_, (pss_cons (ps_set (i := 1) sc_law.nd rfl (Or.inl rfl) (pe_cl c__law_begin hr (by decide) rfl (pa_cons (pv 0) pa_nil)))
      (pss_cons (ps_set (i := 2) sc_law.nd rfl (Or.inl rfl) (pe_cl c__law_layout hr (by decide) rfl (pa_cons (pv 1) pa_nil)))
      (pss_cons (ps_set (i := 3) sc_law.nd rfl (Or.inl rfl) (pe_cl c__law_any hr (by decide) rfl (pa_cons (pv 1) (pa_cons (pv 2) pa_nil))))
      (pss_cons (ps_set (i := 4) sc_law.nd rfl (Or.inl rfl) (pe_cl c__law_other hr (by decide) rfl (pa_cons (pv 1) (pa_cons (pv 2) (pa_cons (pv 3) pa_nil)))))
      (pss_cons (ps_if (pt_not (pt_val (pe_cl c__law_are_right hr (by decide) rfl (pa_cons (pv 3) (pa_cons (pv 4) (pa_cons (pe_cl c__law_entries hr (by decide) rfl (pa_cons (pv 1) (pa_cons (pv 2) (pa_cons (pv 3) pa_nil)))) pa_nil)))))) (pss_one (ps_ret pe_bl)) pss_nil)
      (pss_cons (ps_set (i := 5) sc_law.nd rfl (Or.inl rfl) (pe_cl c__law_layout hr (by decide) rfl (pa_cons (pv 1) pa_nil)))
      (pss_cons (ps_set (i := 6) sc_law.nd rfl (Or.inl rfl) (pe_cl c__law_any hr (by decide) rfl (pa_cons (pv 1) (pa_cons (pv 5) pa_nil))))
      (pss_cons (ps_set (i := 7) sc_law.nd rfl (Or.inl rfl) (pe_cl c__law_other hr (by decide) rfl (pa_cons (pv 1) (pa_cons (pv 5) (pa_cons (pv 6) pa_nil)))))
      (pss_cons (ps_if (pt_not (pt_val (pe_cl c__law_are_right hr (by decide) rfl (pa_cons (pv 6) (pa_cons (pv 7) (pa_cons (pe_cl c__law_entries hr (by decide) rfl (pa_cons (pv 1) (pa_cons (pv 5) (pa_cons (pv 6) pa_nil)))) pa_nil)))))) (pss_one (ps_ret pe_bl)) pss_nil)
      (pss_one (ps_ret (pe_and (pe_cl c__law_is_difference hr (by decide) rfl (pa_cons (pv 3) (pa_cons (pv 4) pa_nil))) (pe_one (pe_cl c__law_is_changed hr (by decide) rfl (pa_cons (pv 3) (pa_cons (pe_cl c__law_differing hr (by decide) rfl (pa_cons (pv 3) (pa_cons (pv 4) pa_nil))) (pa_cons (pv 4) pa_nil))))))))))))))))), ?_⟩
    try dsimp only [cxOf, Cx.nox, Cx.wish]
    refine st_of (σ' := [some _, none, none, none, none, none, none, none]) rfl ?_
    wtm_at "jw"
    refine ⟨a, ns, rfl, hS, hl, fun p c H0 s0 hp hc d0 => ?_⟩
    wtm_at "jw"
    refine ⟨p, c, rfl, d0, fun kd ks H1 d1 hkd hk sk k0 k1 => ?_⟩
    have nk := d0.ne_none hkd
    wtm_at "jw"
    refine ⟨p, c, kd, ks, rfl, d1.at_, hk, nk, sk, k1, fun f fs H2 d2 hf fl => ?_⟩
    have hk2 := d2.kp _ _ hk nk
    wtm_at "jw"
    refine ⟨p, c, kd, f, ks, fs, rfl, d2.at_, hk2, nk, sk, k0, k1, SqT.of hf, fl, fun g gs H3 d3 hg gl => ?_⟩
    have hk3 := d3.kp _ _ hk2 nk
    have hf3 := ((d3.tps d2.at_) f).1 _ hf
    wtm_at "jw"
    refine ⟨p, c, kd, f, ks, fs, rfl, d3.at_, hk3, nk, sk, k1, SqT.of hf3, fl, fun e cc H4 d4 he => ?_⟩
    have hf4 := ((d4.tps d3.at_) f).1 _ hf3
    have hg4 := ((d4.tps d3.at_) g).1 _ hg
    rw [← fl] at he
    wtm_at "jw"
    refine ⟨f, g, e, fs, gs, cc, rfl, SqT.of hf4, SqT.of hg4, by omega, by omega, he, fun H5 s5 => ?_⟩
    have d5 := d4.same s5
    have hf5 := s5 _ _ hf4
    have hg5 := s5 _ _ hg4
    wtm_at "jw"
    refine ⟨p, c, rfl, d5.at_, fun jd js H6 d6 hjd hj sj j0 j1 => ?_⟩
    have nj := d5.at_.ne_none hjd
    have hf6 := ((d6.tps d5.at_) f).1 _ hf5
    have hg6 := ((d6.tps d5.at_) g).1 _ hg5
    wtm_at "jw"
    refine ⟨p, c, jd, js, rfl, d6.at_, hj, nj, sj, j1, fun m ms H7 d7 hm ml => ?_⟩
    have hj7 := d7.kp _ _ hj nj
    have hf7 := ((d7.tps d6.at_) f).1 _ hf6
    have hg7 := ((d7.tps d6.at_) g).1 _ hg6
    wtm_at "jw"
    refine ⟨p, c, jd, m, js, ms, rfl, d7.at_, hj7, nj, sj, j0, j1, SqT.of hm, ml, fun n ns H8 d8 hn nl => ?_⟩
    have hj8 := d8.kp _ _ hj7 nj
    have hf8 := ((d8.tps d7.at_) f).1 _ hf7
    have hg8 := ((d8.tps d7.at_) g).1 _ hg7
    have hm8 := ((d8.tps d7.at_) m).1 _ hm
    wtm_at "jw"
    refine ⟨p, c, jd, m, js, ms, rfl, d8.at_, hj8, nj, sj, j1, SqT.of hm8, ml, fun e2 c2 H9 d9 he2 => ?_⟩
    have hf9 := ((d9.tps d8.at_) f).1 _ hf8
    have hg9 := ((d9.tps d8.at_) g).1 _ hg8
    have hm9 := ((d9.tps d8.at_) m).1 _ hm8
    have hn9 := ((d9.tps d8.at_) n).1 _ hn
    rw [← ml] at he2
    wtm_at "jw"
    refine ⟨m, n, e2, ms, ns, c2, rfl, SqT.of hm9, SqT.of hn9, by omega, by omega, he2, fun H10 s10 => ?_⟩
    have hf10 := s10 _ _ hf9
    have hg10 := s10 _ _ hg9
    wtm_at "jw"
    refine ⟨f, g, fs, gs, rfl, SqT.of hf10, SqT.of hg10, by omega, by omega, fun H11 s11 => ?_⟩
    have hf11 := s11 _ _ hf10
    have hg11 := s11 _ _ hg10
    wtm_at "jw"
    refine ⟨f, g, fs, gs, rfl, SqT.of hf11, SqT.of hg11, by omega, by omega, fun r H12 s12 p12 => ?_⟩
    wtm_at "jw"
    exact ⟨f, r, g, fs, gs, _, rfl, SqT.of (s12 _ _ hf11), p12, by omega, df_in (by omega), SqT.of (s12 _ _ hg11), ap_df (by omega), fun H13 s13 => k _⟩
theorem law_hands {K : PySem.W.Frag} {H : Hp} (a : Addr) (ns : List Int) (hl : ns.length ≤ 63) (hb : ∀ z ∈ ns, Builtin.Int.intBits z ≤ 1048576) (hS : SqL K H a (ns.map V.int)) :
    sp_law K [.ref a] H (fun v _ => v = .bl true) fun _ _ _ => False := ⟨a, ns, rfl, hS, hl, fun _ => rfl⟩
theorem all_mk {l : PySem.W.OpenLaw} {w : World} {K : PySem.W.Frag} {h : Heap} {mg : Str → Option Value} {fa : Addr} (X : K.In h) (G : h.Ns mainGlobals mg) (hfa : mg "law" = some (.ref fa))
    {f__law_begin : Addr} {od__law_begin an__law_begin : Option Addr} {sl__law_begin : Array (Option Value)} {oc__law_begin kV__law_begin dc__law_begin pm__law_begin cd__law_begin ct__law_begin : Value}
    {f__law_draw : Addr} {od__law_draw an__law_draw : Option Addr} {sl__law_draw : Array (Option Value)} {oc__law_draw kV__law_draw dc__law_draw pm__law_draw cd__law_draw ct__law_draw : Value}
    {f__law_pick : Addr} {od__law_pick an__law_pick : Option Addr} {sl__law_pick : Array (Option Value)} {oc__law_pick kV__law_pick dc__law_pick pm__law_pick cd__law_pick ct__law_pick : Value}
    {f__law_layout : Addr} {od__law_layout an__law_layout : Option Addr} {sl__law_layout : Array (Option Value)} {oc__law_layout kV__law_layout dc__law_layout pm__law_layout cd__law_layout ct__law_layout : Value}
    {f__law_entry : Addr} {od__law_entry an__law_entry : Option Addr} {sl__law_entry : Array (Option Value)} {oc__law_entry kV__law_entry dc__law_entry pm__law_entry cd__law_entry ct__law_entry : Value}
    {f__law_any : Addr} {od__law_any an__law_any : Option Addr} {sl__law_any : Array (Option Value)} {oc__law_any kV__law_any dc__law_any pm__law_any cd__law_any ct__law_any : Value}
    {f__law_other : Addr} {od__law_other an__law_other : Option Addr} {sl__law_other : Array (Option Value)} {oc__law_other kV__law_other dc__law_other pm__law_other cd__law_other ct__law_other : Value}
    {f__law_differing : Addr} {od__law_differing an__law_differing : Option Addr} {sl__law_differing : Array (Option Value)} {oc__law_differing kV__law_differing dc__law_differing pm__law_differing cd__law_differing ct__law_differing : Value}
    {f__law_applied : Addr} {od__law_applied an__law_applied : Option Addr} {sl__law_applied : Array (Option Value)} {oc__law_applied kV__law_applied dc__law_applied pm__law_applied cd__law_applied ct__law_applied : Value}
    {f_changed : Addr} {od_changed an_changed : Option Addr} {sl_changed : Array (Option Value)} {oc_changed kV_changed dc_changed pm_changed cd_changed ct_changed : Value}
    {f__law_is_int : Addr} {od__law_is_int an__law_is_int : Option Addr} {sl__law_is_int : Array (Option Value)} {oc__law_is_int kV__law_is_int dc__law_is_int pm__law_is_int cd__law_is_int ct__law_is_int : Value}
    {f__law_is_ints : Addr} {od__law_is_ints an__law_is_ints : Option Addr} {sl__law_is_ints : Array (Option Value)} {oc__law_is_ints kV__law_is_ints dc__law_is_ints pm__law_is_ints cd__law_is_ints ct__law_is_ints : Value}
    {f__law_is_changed : Addr} {od__law_is_changed an__law_is_changed : Option Addr} {sl__law_is_changed : Array (Option Value)} {oc__law_is_changed kV__law_is_changed dc__law_is_changed pm__law_is_changed cd__law_is_changed ct__law_is_changed : Value}
    {f_thinned : Addr} {od_thinned an_thinned : Option Addr} {sl_thinned : Array (Option Value)} {oc_thinned kV_thinned dc_thinned pm_thinned cd_thinned ct_thinned : Value}
    {f__law_is_entries : Addr} {od__law_is_entries an__law_is_entries : Option Addr} {sl__law_is_entries : Array (Option Value)} {oc__law_is_entries kV__law_is_entries dc__law_is_entries pm__law_is_entries cd__law_is_entries ct__law_is_entries : Value}
    {f__law_is_thinned : Addr} {od__law_is_thinned an__law_is_thinned : Option Addr} {sl__law_is_thinned : Array (Option Value)} {oc__law_is_thinned kV__law_is_thinned dc__law_is_thinned pm__law_is_thinned cd__law_is_thinned ct__law_is_thinned : Value}
    {f_difference : Addr} {od_difference an_difference : Option Addr} {sl_difference : Array (Option Value)} {oc_difference kV_difference dc_difference pm_difference cd_difference ct_difference : Value}
    {f__law_is_difference : Addr} {od__law_is_difference an__law_is_difference : Option Addr} {sl__law_is_difference : Array (Option Value)} {oc__law_is_difference kV__law_is_difference dc__law_is_difference pm__law_is_difference cd__law_is_difference ct__law_is_difference : Value}
    {f__law_are_right : Addr} {od__law_are_right an__law_are_right : Option Addr} {sl__law_are_right : Array (Option Value)} {oc__law_are_right kV__law_are_right dc__law_are_right pm__law_are_right cd__law_are_right ct__law_are_right : Value}
    {f__law_entries : Addr} {od__law_entries an__law_entries : Option Addr} {sl__law_entries : Array (Option Value)} {oc__law_entries kV__law_entries dc__law_entries pm__law_entries cd__law_entries ct__law_entries : Value}
    {f_law : Addr} {od_law an_law : Option Addr} {sl_law : Array (Option Value)} {oc_law kV_law dc_law pm_law cd_law ct_law : Value}
    (a__law_begin : PySem.W.nsIn K mainGlobals "_law_begin" = some (some (.ref f__law_begin))) (l__law_begin : K.lookup f__law_begin = some ⟨oc__law_begin, od__law_begin, .func (PySem.W.fnOf "_law_begin" "_law_begin" (defArgs s__law_begin) (defBody s__law_begin) (defScope s__law_begin) .none kV__law_begin dc__law_begin pm__law_begin an__law_begin cd__law_begin ct__law_begin), sl__law_begin⟩) (c__law_begin : PySem.W.codeIn K cd__law_begin "_law_begin" = true) (k__law_begin : PySem.W.keepIn K (.ref f__law_begin) = true)
    (a__law_draw : PySem.W.nsIn K mainGlobals "_law_draw" = some (some (.ref f__law_draw))) (l__law_draw : K.lookup f__law_draw = some ⟨oc__law_draw, od__law_draw, .func (PySem.W.fnOf "_law_draw" "_law_draw" (defArgs s__law_draw) (defBody s__law_draw) (defScope s__law_draw) .none kV__law_draw dc__law_draw pm__law_draw an__law_draw cd__law_draw ct__law_draw), sl__law_draw⟩) (c__law_draw : PySem.W.codeIn K cd__law_draw "_law_draw" = true) (k__law_draw : PySem.W.keepIn K (.ref f__law_draw) = true)
    (a__law_pick : PySem.W.nsIn K mainGlobals "_law_pick" = some (some (.ref f__law_pick))) (l__law_pick : K.lookup f__law_pick = some ⟨oc__law_pick, od__law_pick, .func (PySem.W.fnOf "_law_pick" "_law_pick" (defArgs s__law_pick) (defBody s__law_pick) (defScope s__law_pick) .none kV__law_pick dc__law_pick pm__law_pick an__law_pick cd__law_pick ct__law_pick), sl__law_pick⟩) (c__law_pick : PySem.W.codeIn K cd__law_pick "_law_pick" = true) (k__law_pick : PySem.W.keepIn K (.ref f__law_pick) = true)
    (a__law_layout : PySem.W.nsIn K mainGlobals "_law_layout" = some (some (.ref f__law_layout))) (l__law_layout : K.lookup f__law_layout = some ⟨oc__law_layout, od__law_layout, .func (PySem.W.fnOf "_law_layout" "_law_layout" (defArgs s__law_layout) (defBody s__law_layout) (defScope s__law_layout) .none kV__law_layout dc__law_layout pm__law_layout an__law_layout cd__law_layout ct__law_layout), sl__law_layout⟩) (c__law_layout : PySem.W.codeIn K cd__law_layout "_law_layout" = true) (k__law_layout : PySem.W.keepIn K (.ref f__law_layout) = true)
    (a__law_entry : PySem.W.nsIn K mainGlobals "_law_entry" = some (some (.ref f__law_entry))) (l__law_entry : K.lookup f__law_entry = some ⟨oc__law_entry, od__law_entry, .func (PySem.W.fnOf "_law_entry" "_law_entry" (defArgs s__law_entry) (defBody s__law_entry) (defScope s__law_entry) .none kV__law_entry dc__law_entry pm__law_entry an__law_entry cd__law_entry ct__law_entry), sl__law_entry⟩) (c__law_entry : PySem.W.codeIn K cd__law_entry "_law_entry" = true) (k__law_entry : PySem.W.keepIn K (.ref f__law_entry) = true)
    (a__law_any : PySem.W.nsIn K mainGlobals "_law_any" = some (some (.ref f__law_any))) (l__law_any : K.lookup f__law_any = some ⟨oc__law_any, od__law_any, .func (PySem.W.fnOf "_law_any" "_law_any" (defArgs s__law_any) (defBody s__law_any) (defScope s__law_any) .none kV__law_any dc__law_any pm__law_any an__law_any cd__law_any ct__law_any), sl__law_any⟩) (c__law_any : PySem.W.codeIn K cd__law_any "_law_any" = true) (k__law_any : PySem.W.keepIn K (.ref f__law_any) = true)
    (a__law_other : PySem.W.nsIn K mainGlobals "_law_other" = some (some (.ref f__law_other))) (l__law_other : K.lookup f__law_other = some ⟨oc__law_other, od__law_other, .func (PySem.W.fnOf "_law_other" "_law_other" (defArgs s__law_other) (defBody s__law_other) (defScope s__law_other) .none kV__law_other dc__law_other pm__law_other an__law_other cd__law_other ct__law_other), sl__law_other⟩) (c__law_other : PySem.W.codeIn K cd__law_other "_law_other" = true) (k__law_other : PySem.W.keepIn K (.ref f__law_other) = true)
    (a__law_differing : PySem.W.nsIn K mainGlobals "_law_differing" = some (some (.ref f__law_differing))) (l__law_differing : K.lookup f__law_differing = some ⟨oc__law_differing, od__law_differing, .func (PySem.W.fnOf "_law_differing" "_law_differing" (defArgs s__law_differing) (defBody s__law_differing) (defScope s__law_differing) .none kV__law_differing dc__law_differing pm__law_differing an__law_differing cd__law_differing ct__law_differing), sl__law_differing⟩) (c__law_differing : PySem.W.codeIn K cd__law_differing "_law_differing" = true) (k__law_differing : PySem.W.keepIn K (.ref f__law_differing) = true)
    (a__law_applied : PySem.W.nsIn K mainGlobals "_law_applied" = some (some (.ref f__law_applied))) (l__law_applied : K.lookup f__law_applied = some ⟨oc__law_applied, od__law_applied, .func (PySem.W.fnOf "_law_applied" "_law_applied" (defArgs s__law_applied) (defBody s__law_applied) (defScope s__law_applied) .none kV__law_applied dc__law_applied pm__law_applied an__law_applied cd__law_applied ct__law_applied), sl__law_applied⟩) (c__law_applied : PySem.W.codeIn K cd__law_applied "_law_applied" = true) (k__law_applied : PySem.W.keepIn K (.ref f__law_applied) = true)
    (a_changed : PySem.W.nsIn K mainGlobals "changed" = some (some (.ref f_changed))) (l_changed : K.lookup f_changed = some ⟨oc_changed, od_changed, .func (PySem.W.fnOf "changed" "changed" (defArgs s_changed) (defBody s_changed) (defScope s_changed) .none kV_changed dc_changed pm_changed an_changed cd_changed ct_changed), sl_changed⟩) (c_changed : PySem.W.codeIn K cd_changed "changed" = true) (k_changed : PySem.W.keepIn K (.ref f_changed) = true)
    (a__law_is_int : PySem.W.nsIn K mainGlobals "_law_is_int" = some (some (.ref f__law_is_int))) (l__law_is_int : K.lookup f__law_is_int = some ⟨oc__law_is_int, od__law_is_int, .func (PySem.W.fnOf "_law_is_int" "_law_is_int" (defArgs s__law_is_int) (defBody s__law_is_int) (defScope s__law_is_int) .none kV__law_is_int dc__law_is_int pm__law_is_int an__law_is_int cd__law_is_int ct__law_is_int), sl__law_is_int⟩) (c__law_is_int : PySem.W.codeIn K cd__law_is_int "_law_is_int" = true) (k__law_is_int : PySem.W.keepIn K (.ref f__law_is_int) = true)
    (a__law_is_ints : PySem.W.nsIn K mainGlobals "_law_is_ints" = some (some (.ref f__law_is_ints))) (l__law_is_ints : K.lookup f__law_is_ints = some ⟨oc__law_is_ints, od__law_is_ints, .func (PySem.W.fnOf "_law_is_ints" "_law_is_ints" (defArgs s__law_is_ints) (defBody s__law_is_ints) (defScope s__law_is_ints) .none kV__law_is_ints dc__law_is_ints pm__law_is_ints an__law_is_ints cd__law_is_ints ct__law_is_ints), sl__law_is_ints⟩) (c__law_is_ints : PySem.W.codeIn K cd__law_is_ints "_law_is_ints" = true) (k__law_is_ints : PySem.W.keepIn K (.ref f__law_is_ints) = true)
    (a__law_is_changed : PySem.W.nsIn K mainGlobals "_law_is_changed" = some (some (.ref f__law_is_changed))) (l__law_is_changed : K.lookup f__law_is_changed = some ⟨oc__law_is_changed, od__law_is_changed, .func (PySem.W.fnOf "_law_is_changed" "_law_is_changed" (defArgs s__law_is_changed) (defBody s__law_is_changed) (defScope s__law_is_changed) .none kV__law_is_changed dc__law_is_changed pm__law_is_changed an__law_is_changed cd__law_is_changed ct__law_is_changed), sl__law_is_changed⟩) (c__law_is_changed : PySem.W.codeIn K cd__law_is_changed "_law_is_changed" = true) (k__law_is_changed : PySem.W.keepIn K (.ref f__law_is_changed) = true)
    (a_thinned : PySem.W.nsIn K mainGlobals "thinned" = some (some (.ref f_thinned))) (l_thinned : K.lookup f_thinned = some ⟨oc_thinned, od_thinned, .func (PySem.W.fnOf "thinned" "thinned" (defArgs s_thinned) (defBody s_thinned) (defScope s_thinned) .none kV_thinned dc_thinned pm_thinned an_thinned cd_thinned ct_thinned), sl_thinned⟩) (c_thinned : PySem.W.codeIn K cd_thinned "thinned" = true) (k_thinned : PySem.W.keepIn K (.ref f_thinned) = true)
    (a__law_is_entries : PySem.W.nsIn K mainGlobals "_law_is_entries" = some (some (.ref f__law_is_entries))) (l__law_is_entries : K.lookup f__law_is_entries = some ⟨oc__law_is_entries, od__law_is_entries, .func (PySem.W.fnOf "_law_is_entries" "_law_is_entries" (defArgs s__law_is_entries) (defBody s__law_is_entries) (defScope s__law_is_entries) .none kV__law_is_entries dc__law_is_entries pm__law_is_entries an__law_is_entries cd__law_is_entries ct__law_is_entries), sl__law_is_entries⟩) (c__law_is_entries : PySem.W.codeIn K cd__law_is_entries "_law_is_entries" = true) (k__law_is_entries : PySem.W.keepIn K (.ref f__law_is_entries) = true)
    (a__law_is_thinned : PySem.W.nsIn K mainGlobals "_law_is_thinned" = some (some (.ref f__law_is_thinned))) (l__law_is_thinned : K.lookup f__law_is_thinned = some ⟨oc__law_is_thinned, od__law_is_thinned, .func (PySem.W.fnOf "_law_is_thinned" "_law_is_thinned" (defArgs s__law_is_thinned) (defBody s__law_is_thinned) (defScope s__law_is_thinned) .none kV__law_is_thinned dc__law_is_thinned pm__law_is_thinned an__law_is_thinned cd__law_is_thinned ct__law_is_thinned), sl__law_is_thinned⟩) (c__law_is_thinned : PySem.W.codeIn K cd__law_is_thinned "_law_is_thinned" = true) (k__law_is_thinned : PySem.W.keepIn K (.ref f__law_is_thinned) = true)
    (a_difference : PySem.W.nsIn K mainGlobals "difference" = some (some (.ref f_difference))) (l_difference : K.lookup f_difference = some ⟨oc_difference, od_difference, .func (PySem.W.fnOf "difference" "difference" (defArgs s_difference) (defBody s_difference) (defScope s_difference) .none kV_difference dc_difference pm_difference an_difference cd_difference ct_difference), sl_difference⟩) (c_difference : PySem.W.codeIn K cd_difference "difference" = true) (k_difference : PySem.W.keepIn K (.ref f_difference) = true)
    (a__law_is_difference : PySem.W.nsIn K mainGlobals "_law_is_difference" = some (some (.ref f__law_is_difference))) (l__law_is_difference : K.lookup f__law_is_difference = some ⟨oc__law_is_difference, od__law_is_difference, .func (PySem.W.fnOf "_law_is_difference" "_law_is_difference" (defArgs s__law_is_difference) (defBody s__law_is_difference) (defScope s__law_is_difference) .none kV__law_is_difference dc__law_is_difference pm__law_is_difference an__law_is_difference cd__law_is_difference ct__law_is_difference), sl__law_is_difference⟩) (c__law_is_difference : PySem.W.codeIn K cd__law_is_difference "_law_is_difference" = true) (k__law_is_difference : PySem.W.keepIn K (.ref f__law_is_difference) = true)
    (a__law_are_right : PySem.W.nsIn K mainGlobals "_law_are_right" = some (some (.ref f__law_are_right))) (l__law_are_right : K.lookup f__law_are_right = some ⟨oc__law_are_right, od__law_are_right, .func (PySem.W.fnOf "_law_are_right" "_law_are_right" (defArgs s__law_are_right) (defBody s__law_are_right) (defScope s__law_are_right) .none kV__law_are_right dc__law_are_right pm__law_are_right an__law_are_right cd__law_are_right ct__law_are_right), sl__law_are_right⟩) (c__law_are_right : PySem.W.codeIn K cd__law_are_right "_law_are_right" = true) (k__law_are_right : PySem.W.keepIn K (.ref f__law_are_right) = true)
    (a__law_entries : PySem.W.nsIn K mainGlobals "_law_entries" = some (some (.ref f__law_entries))) (l__law_entries : K.lookup f__law_entries = some ⟨oc__law_entries, od__law_entries, .func (PySem.W.fnOf "_law_entries" "_law_entries" (defArgs s__law_entries) (defBody s__law_entries) (defScope s__law_entries) .none kV__law_entries dc__law_entries pm__law_entries an__law_entries cd__law_entries ct__law_entries), sl__law_entries⟩) (c__law_entries : PySem.W.codeIn K cd__law_entries "_law_entries" = true) (k__law_entries : PySem.W.keepIn K (.ref f__law_entries) = true)
    (a_law : PySem.W.nsIn K mainGlobals "law" = some (some (.ref f_law))) (l_law : K.lookup f_law = some ⟨oc_law, od_law, .func (PySem.W.fnOf "law" "law" (defArgs s_law) (defBody s_law) (defScope s_law) .none kV_law dc_law pm_law an_law cd_law ct_law), sl_law⟩) (c_law : PySem.W.codeIn K cd_law "law" = true) (k_law : PySem.W.keepIn K (.ref f_law) = true)
    (z_int : PySem.W.nsIn K mainGlobals "int" = some none)
    (z_len : PySem.W.nsIn K mainGlobals "len" = some none)
    (z_abs : PySem.W.nsIn K mainGlobals "abs" = some none)
    (z_range : PySem.W.nsIn K mainGlobals "range" = some none)
    (z_tuple : PySem.W.nsIn K mainGlobals "tuple" = some none)
    (z_list : PySem.W.nsIn K mainGlobals "list" = some none)
    (z_isinstance : PySem.W.nsIn K mainGlobals "isinstance" = some none)
    (z_bool : PySem.W.nsIn K mainGlobals "bool" = some none)
    (z_all : PySem.W.nsIn K mainGlobals "all" = some none)
    : ∃ fd : FuncData, (∀ (s : Shared) (v : Value), BindsTo s fd ⟨[v], []⟩ [("script", v)]) ∧ ∀ base : Heap, K.In base → base.Ns mainGlobals mg → FnOk l.prog w K mg base CX0 6 fa fd ["script"] (sp_law K) := by
  have e := hfa.symm.trans (PySem.W.mg_of X G a_law)
  cases e
  have T : Txt mg := ⟨PySem.W.mg_none_of X G z_int, PySem.W.mg_none_of X G z_len, PySem.W.mg_none_of X G z_abs, PySem.W.mg_none_of X G z_range, PySem.W.mg_none_of X G z_tuple, PySem.W.mg_none_of X G z_list, PySem.W.mg_none_of X G z_isinstance, PySem.W.mg_none_of X G z_bool, PySem.W.mg_none_of X G z_all⟩
  have F__law_begin := fun_mk (st := s__law_begin) l__law_begin c__law_begin k__law_begin
  have D__law_begin : Df K mg "_law_begin" s__law_begin f__law_begin _ ["script"] := ⟨F__law_begin, PySem.W.mg_of X G a__law_begin, F__law_begin.binds (ps := ["script"]) fun _ _ _ _ _ _ us hl => match us, hl with | [_], _ => rfl⟩
  have F__law_draw := fun_mk (st := s__law_draw) l__law_draw c__law_draw k__law_draw
  have D__law_draw : Df K mg "_law_draw" s__law_draw f__law_draw _ ["d", "many"] := ⟨F__law_draw, PySem.W.mg_of X G a__law_draw, F__law_draw.binds (ps := ["d", "many"]) fun _ _ _ _ _ _ us hl => match us, hl with | [_, _], _ => rfl⟩
  have F__law_pick := fun_mk (st := s__law_pick) l__law_pick c__law_pick k__law_pick
  have D__law_pick : Df K mg "_law_pick" s__law_pick f__law_pick _ ["d", "row"] := ⟨F__law_pick, PySem.W.mg_of X G a__law_pick, F__law_pick.binds (ps := ["d", "row"]) fun _ _ _ _ _ _ us hl => match us, hl with | [_, _], _ => rfl⟩
  have F__law_layout := fun_mk (st := s__law_layout) l__law_layout c__law_layout k__law_layout
  have D__law_layout : Df K mg "_law_layout" s__law_layout f__law_layout _ ["d"] := ⟨F__law_layout, PySem.W.mg_of X G a__law_layout, F__law_layout.binds (ps := ["d"]) fun _ _ _ _ _ _ us hl => match us, hl with | [_], _ => rfl⟩
  have F__law_entry := fun_mk (st := s__law_entry) l__law_entry c__law_entry k__law_entry
  have D__law_entry : Df K mg "_law_entry" s__law_entry f__law_entry _ ["d", "kind"] := ⟨F__law_entry, PySem.W.mg_of X G a__law_entry, F__law_entry.binds (ps := ["d", "kind"]) fun _ _ _ _ _ _ us hl => match us, hl with | [_, _], _ => rfl⟩
  have F__law_any := fun_mk (st := s__law_any) l__law_any c__law_any k__law_any
  have D__law_any : Df K mg "_law_any" s__law_any f__law_any _ ["d", "kinds"] := ⟨F__law_any, PySem.W.mg_of X G a__law_any, F__law_any.binds (ps := ["d", "kinds"]) fun _ _ _ _ _ _ us hl => match us, hl with | [_, _], _ => rfl⟩
  have F__law_other := fun_mk (st := s__law_other) l__law_other c__law_other k__law_other
  have D__law_other : Df K mg "_law_other" s__law_other f__law_other _ ["d", "kinds", "old"] := ⟨F__law_other, PySem.W.mg_of X G a__law_other, F__law_other.binds (ps := ["d", "kinds", "old"]) fun _ _ _ _ _ _ us hl => match us, hl with | [_, _, _], _ => rfl⟩
  have F__law_differing := fun_mk (st := s__law_differing) l__law_differing c__law_differing k__law_differing
  have D__law_differing : Df K mg "_law_differing" s__law_differing f__law_differing _ ["old", "new"] := ⟨F__law_differing, PySem.W.mg_of X G a__law_differing, F__law_differing.binds (ps := ["old", "new"]) fun _ _ _ _ _ _ us hl => match us, hl with | [_, _], _ => rfl⟩
  have F__law_applied := fun_mk (st := s__law_applied) l__law_applied c__law_applied k__law_applied
  have D__law_applied : Df K mg "_law_applied" s__law_applied f__law_applied _ ["old", "rows"] := ⟨F__law_applied, PySem.W.mg_of X G a__law_applied, F__law_applied.binds (ps := ["old", "rows"]) fun _ _ _ _ _ _ us hl => match us, hl with | [_, _], _ => rfl⟩
  have F_changed := fun_mk (st := s_changed) l_changed c_changed k_changed
  have D_changed : Df K mg "changed" s_changed f_changed _ ["old", "rows"] := ⟨F_changed, PySem.W.mg_of X G a_changed, F_changed.binds (ps := ["old", "rows"]) fun _ _ _ _ _ _ us hl => match us, hl with | [_, _], _ => rfl⟩
  have F__law_is_int := fun_mk (st := s__law_is_int) l__law_is_int c__law_is_int k__law_is_int
  have D__law_is_int : Df K mg "_law_is_int" s__law_is_int f__law_is_int _ ["thing"] := ⟨F__law_is_int, PySem.W.mg_of X G a__law_is_int, F__law_is_int.binds (ps := ["thing"]) fun _ _ _ _ _ _ us hl => match us, hl with | [_], _ => rfl⟩
  have F__law_is_ints := fun_mk (st := s__law_is_ints) l__law_is_ints c__law_is_ints k__law_is_ints
  have D__law_is_ints : Df K mg "_law_is_ints" s__law_is_ints f__law_is_ints _ ["row"] := ⟨F__law_is_ints, PySem.W.mg_of X G a__law_is_ints, F__law_is_ints.binds (ps := ["row"]) fun _ _ _ _ _ _ us hl => match us, hl with | [_], _ => rfl⟩
  have F__law_is_changed := fun_mk (st := s__law_is_changed) l__law_is_changed c__law_is_changed k__law_is_changed
  have D__law_is_changed : Df K mg "_law_is_changed" s__law_is_changed f__law_is_changed _ ["old", "rows", "due"] := ⟨F__law_is_changed, PySem.W.mg_of X G a__law_is_changed, F__law_is_changed.binds (ps := ["old", "rows", "due"]) fun _ _ _ _ _ _ us hl => match us, hl with | [_, _, _], _ => rfl⟩
  have F_thinned := fun_mk (st := s_thinned) l_thinned c_thinned k_thinned
  have D_thinned : Df K mg "thinned" s_thinned f_thinned _ ["old", "rows"] := ⟨F_thinned, PySem.W.mg_of X G a_thinned, F_thinned.binds (ps := ["old", "rows"]) fun _ _ _ _ _ _ us hl => match us, hl with | [_, _], _ => rfl⟩
  have F__law_is_entries := fun_mk (st := s__law_is_entries) l__law_is_entries c__law_is_entries k__law_is_entries
  have D__law_is_entries : Df K mg "_law_is_entries" s__law_is_entries f__law_is_entries _ ["rows"] := ⟨F__law_is_entries, PySem.W.mg_of X G a__law_is_entries, F__law_is_entries.binds (ps := ["rows"]) fun _ _ _ _ _ _ us hl => match us, hl with | [_], _ => rfl⟩
  have F__law_is_thinned := fun_mk (st := s__law_is_thinned) l__law_is_thinned c__law_is_thinned k__law_is_thinned
  have D__law_is_thinned : Df K mg "_law_is_thinned" s__law_is_thinned f__law_is_thinned _ ["old", "rows", "due"] := ⟨F__law_is_thinned, PySem.W.mg_of X G a__law_is_thinned, F__law_is_thinned.binds (ps := ["old", "rows", "due"]) fun _ _ _ _ _ _ us hl => match us, hl with | [_, _, _], _ => rfl⟩
  have F_difference := fun_mk (st := s_difference) l_difference c_difference k_difference
  have D_difference : Df K mg "difference" s_difference f_difference _ ["old", "new"] := ⟨F_difference, PySem.W.mg_of X G a_difference, F_difference.binds (ps := ["old", "new"]) fun _ _ _ _ _ _ us hl => match us, hl with | [_, _], _ => rfl⟩
  have F__law_is_difference := fun_mk (st := s__law_is_difference) l__law_is_difference c__law_is_difference k__law_is_difference
  have D__law_is_difference : Df K mg "_law_is_difference" s__law_is_difference f__law_is_difference _ ["old", "new"] := ⟨F__law_is_difference, PySem.W.mg_of X G a__law_is_difference, F__law_is_difference.binds (ps := ["old", "new"]) fun _ _ _ _ _ _ us hl => match us, hl with | [_, _], _ => rfl⟩
  have F__law_are_right := fun_mk (st := s__law_are_right) l__law_are_right c__law_are_right k__law_are_right
  have D__law_are_right : Df K mg "_law_are_right" s__law_are_right f__law_are_right _ ["old", "new", "rows"] := ⟨F__law_are_right, PySem.W.mg_of X G a__law_are_right, F__law_are_right.binds (ps := ["old", "new", "rows"]) fun _ _ _ _ _ _ us hl => match us, hl with | [_, _, _], _ => rfl⟩
  have F__law_entries := fun_mk (st := s__law_entries) l__law_entries c__law_entries k__law_entries
  have D__law_entries : Df K mg "_law_entries" s__law_entries f__law_entries _ ["d", "kinds", "old"] := ⟨F__law_entries, PySem.W.mg_of X G a__law_entries, F__law_entries.binds (ps := ["d", "kinds", "old"]) fun _ _ _ _ _ _ us hl => match us, hl with | [_, _, _], _ => rfl⟩
  have F_law := fun_mk (st := s_law) l_law c_law k_law
  have D_law : Df K mg "law" s_law _ _ ["script"] := ⟨F_law, PySem.W.mg_of X G a_law, F_law.binds (ps := ["script"]) fun _ _ _ _ _ _ us hl => match us, hl with | [_], _ => rfl⟩
  refine ⟨PySem.W.fnOf "law" "law" (defArgs s_law) (defBody s_law) (defScope s_law) .none kV_law dc_law pm_law an_law cd_law ct_law, fun s v => .of_eq rfl, fun base _ _ => ?_⟩
  have C__law_begin : Cl l.prog w K mg base 1 "_law_begin" (sp__law_begin K) := D__law_begin.cl (ok__law_begin D__law_begin T )
  have C__law_draw : Cl l.prog w K mg base 1 "_law_draw" (sp__law_draw K) := D__law_draw.cl (ok__law_draw D__law_draw T )
  have C__law_pick : Cl l.prog w K mg base 2 "_law_pick" (sp__law_pick K) := D__law_pick.cl (ok__law_pick D__law_pick T C__law_draw)
  have C__law_layout : Cl l.prog w K mg base 3 "_law_layout" (sp__law_layout K) := D__law_layout.cl (ok__law_layout D__law_layout T C__law_pick)
  have C__law_entry : Cl l.prog w K mg base 3 "_law_entry" (sp__law_entry K) := D__law_entry.cl (ok__law_entry D__law_entry T C__law_pick C__law_draw)
  have C__law_any : Cl l.prog w K mg base 4 "_law_any" (sp__law_any K) := D__law_any.cl (ok__law_any D__law_any T C__law_entry)
  have C__law_other : Cl l.prog w K mg base 5 "_law_other" (sp__law_other K) := D__law_other.cl (ok__law_other D__law_other T C__law_draw C__law_any C__law_pick C__law_entry)
  have C__law_differing : Cl l.prog w K mg base 1 "_law_differing" (sp__law_differing K) := D__law_differing.cl (ok__law_differing D__law_differing T )
  have C__law_applied : Cl l.prog w K mg base 1 "_law_applied" (sp__law_applied K) := D__law_applied.cl (ok__law_applied D__law_applied T )
  have C_changed : Cl l.prog w K mg base 1 "changed" (sp_changed K) := D_changed.cl (ok_changed D_changed T )
  have C__law_is_int : Cl l.prog w K mg base 1 "_law_is_int" (sp__law_is_int K) := D__law_is_int.cl (ok__law_is_int D__law_is_int T )
  have C__law_is_ints : Cl l.prog w K mg base 2 "_law_is_ints" (sp__law_is_ints K) := D__law_is_ints.cl (ok__law_is_ints D__law_is_ints T C__law_is_int)
  have C__law_is_changed : Cl l.prog w K mg base 3 "_law_is_changed" (sp__law_is_changed K) := D__law_is_changed.cl (ok__law_is_changed D__law_is_changed T C_changed C__law_is_ints)
  have C_thinned : Cl l.prog w K mg base 1 "thinned" (sp_thinned K) := D_thinned.cl (ok_thinned D_thinned T )
  have C__law_is_entries : Cl l.prog w K mg base 3 "_law_is_entries" (sp__law_is_entries K) := D__law_is_entries.cl (ok__law_is_entries D__law_is_entries T C__law_is_ints)
  have C__law_is_thinned : Cl l.prog w K mg base 4 "_law_is_thinned" (sp__law_is_thinned K) := D__law_is_thinned.cl (ok__law_is_thinned D__law_is_thinned T C_thinned C__law_is_entries)
  have C_difference : Cl l.prog w K mg base 1 "difference" (sp_difference K) := D_difference.cl (ok_difference D_difference T )
  have C__law_is_difference : Cl l.prog w K mg base 4 "_law_is_difference" (sp__law_is_difference K) := D__law_is_difference.cl (ok__law_is_difference D__law_is_difference T C_difference C__law_is_entries C__law_differing)
  have C__law_are_right : Cl l.prog w K mg base 5 "_law_are_right" (sp__law_are_right K) := D__law_are_right.cl (ok__law_are_right D__law_are_right T C__law_differing C__law_applied C__law_is_changed C__law_is_thinned C__law_is_difference)
  have C__law_entries : Cl l.prog w K mg base 4 "_law_entries" (sp__law_entries K) := D__law_entries.cl (ok__law_entries D__law_entries T C__law_draw C__law_entry)
  exact ok_law D_law T C__law_begin C__law_layout C__law_any C__law_other C__law_are_right C__law_is_difference C__law_is_changed C__law_entries C__law_differing
theorem walk {l : PySem.W.OpenLaw} {q : Program} {loose : List Str} {XP : (Str → Option Value) → Heap → Prop} {YP : World → Heap → Prop} {d : DefRec} {K : Params → PySem.W.Frag} (hn : l.most = some 63) (hdf : d.params.defaults = [])
    (hY : ∀ (w : World) (h : Heap), YP w h → (K w.params).In h)
    (F : ∀ (w : World) (mg : Str → Option Value) (fa : Addr) (h : Heap), (K w.params).In h → h.Ns mainGlobals mg → mg d.name = some (.ref fa) →
      ∃ fd : FuncData, (∀ (s : Shared) (u : Value), BindsTo s fd ⟨[u], []⟩ [("script", u)]) ∧ ∀ base : Heap, (K w.params).In base → base.Ns mainGlobals mg → FnOk l.prog w (K w.params) mg base CX0 6 fa fd ["script"] (sp_law (K w.params))) :
    PySem.W.WalkO q loose XP YP l.row.toRowW d [] (fun f vs => PySem.call f vs) :=
  L2.walk_ofB (n := 63) (k := 6) (x := "script") (CX := fun _ => CX0) (sp := fun w => sp_law (K w.params)) hn (by decide) hdf ⟨rfl, by decide, by decide⟩ hY F (fun _ _ a ns hl hb _ hS => law_hands a ns hl hb hS) fun _ _ _ _ _ z => z
end Law
open PySem PySem.W PyProof.Rows in
set_option maxRecDepth 100000 in
set_option maxHeartbeats 0 in
theorem PySem.Challenge.cw_judgedplay_k31_differences_holds : PySem.Challenge.rw_judgedplay_k31_differences.Holds := by
  w_on; o_law; k_head; (case hw => w_witness2)
  k_fill
  refine Law.walk (l := PySem.Challenge.rw_judgedplay_k31_differences) rfl rfl (fun w h Y => PySem.W.kIn_of Y) ?F
  case F =>
    intro w mg fa h KX G hmg
    refine' Law.all_mk KX G hmg ?a__law_begin ?l__law_begin ?c__law_begin ?k__law_begin ?a__law_draw ?l__law_draw ?c__law_draw ?k__law_draw ?a__law_pick ?l__law_pick ?c__law_pick ?k__law_pick ?a__law_layout ?l__law_layout ?c__law_layout ?k__law_layout ?a__law_entry ?l__law_entry ?c__law_entry ?k__law_entry ?a__law_any ?l__law_any ?c__law_any ?k__law_any ?a__law_other ?l__law_other ?c__law_other ?k__law_other ?a__law_differing ?l__law_differing ?c__law_differing ?k__law_differing ?a__law_applied ?l__law_applied ?c__law_applied ?k__law_applied ?a_changed ?l_changed ?c_changed ?k_changed ?a__law_is_int ?l__law_is_int ?c__law_is_int ?k__law_is_int ?a__law_is_ints ?l__law_is_ints ?c__law_is_ints ?k__law_is_ints ?a__law_is_changed ?l__law_is_changed ?c__law_is_changed ?k__law_is_changed ?a_thinned ?l_thinned ?c_thinned ?k_thinned ?a__law_is_entries ?l__law_is_entries ?c__law_is_entries ?k__law_is_entries ?a__law_is_thinned ?l__law_is_thinned ?c__law_is_thinned ?k__law_is_thinned ?a_difference ?l_difference ?c_difference ?k_difference ?a__law_is_difference ?l__law_is_difference ?c__law_is_difference ?k__law_is_difference ?a__law_are_right ?l__law_are_right ?c__law_are_right ?k__law_are_right ?a__law_entries ?l__law_entries ?c__law_entries ?k__law_entries ?a_law ?l_law ?c_law ?k_law ?z_int ?z_len ?z_abs ?z_range ?z_tuple ?z_list ?z_isinstance ?z_bool ?z_all
    (case a__law_begin => k_is)
    (case l__law_begin => k_is)
    (case c__law_begin => k_is)
    (case k__law_begin => k_is)
    (case a__law_draw => k_is)
    (case l__law_draw => k_is)
    (case c__law_draw => k_is)
    (case k__law_draw => k_is)
    (case a__law_pick => k_is)
    (case l__law_pick => k_is)
    (case c__law_pick => k_is)
    (case k__law_pick => k_is)
    (case a__law_layout => k_is)
    (case l__law_layout => k_is)
    (case c__law_layout => k_is)
    (case k__law_layout => k_is)
    (case a__law_entry => k_is)
    (case l__law_entry => k_is)
    (case c__law_entry => k_is)
    (case k__law_entry => k_is)
    (case a__law_any => k_is)
    (case l__law_any => k_is)
    (case c__law_any => k_is)
    (case k__law_any => k_is)
    (case a__law_other => k_is)
    (case l__law_other => k_is)
    (case c__law_other => k_is)
    (case k__law_other => k_is)
    (case a__law_differing => k_is)
    (case l__law_differing => k_is)
    (case c__law_differing => k_is)
    (case k__law_differing => k_is)
    (case a__law_applied => k_is)
    (case l__law_applied => k_is)
    (case c__law_applied => k_is)
    (case k__law_applied => k_is)
    (case a_changed => k_is)
    (case l_changed => k_is)
    (case c_changed => k_is)
    (case k_changed => k_is)
    (case a__law_is_int => k_is)
    (case l__law_is_int => k_is)
    (case c__law_is_int => k_is)
    (case k__law_is_int => k_is)
    (case a__law_is_ints => k_is)
    (case l__law_is_ints => k_is)
    (case c__law_is_ints => k_is)
    (case k__law_is_ints => k_is)
    (case a__law_is_changed => k_is)
    (case l__law_is_changed => k_is)
    (case c__law_is_changed => k_is)
    (case k__law_is_changed => k_is)
    (case a_thinned => k_is)
    (case l_thinned => k_is)
    (case c_thinned => k_is)
    (case k_thinned => k_is)
    (case a__law_is_entries => k_is)
    (case l__law_is_entries => k_is)
    (case c__law_is_entries => k_is)
    (case k__law_is_entries => k_is)
    (case a__law_is_thinned => k_is)
    (case l__law_is_thinned => k_is)
    (case c__law_is_thinned => k_is)
    (case k__law_is_thinned => k_is)
    (case a_difference => k_is)
    (case l_difference => k_is)
    (case c_difference => k_is)
    (case k_difference => k_is)
    (case a__law_is_difference => k_is)
    (case l__law_is_difference => k_is)
    (case c__law_is_difference => k_is)
    (case k__law_is_difference => k_is)
    (case a__law_are_right => k_is)
    (case l__law_are_right => k_is)
    (case c__law_are_right => k_is)
    (case k__law_are_right => k_is)
    (case a__law_entries => k_is)
    (case l__law_entries => k_is)
    (case c__law_entries => k_is)
    (case k__law_entries => k_is)
    (case a_law => k_is)
    (case l_law => k_is)
    (case c_law => k_is)
    (case k_law => k_is)
    (case z_int => k_is)
    (case z_len => k_is)
    (case z_abs => k_is)
    (case z_range => k_is)
    (case z_tuple => k_is)
    (case z_list => k_is)
    (case z_isinstance => k_is)
    (case z_bool => k_is)
    (case z_all => k_is)
#print axioms PySem.Challenge.cw_judgedplay_k31_differences_holds
