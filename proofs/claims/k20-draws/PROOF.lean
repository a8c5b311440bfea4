import PyProof.Rows.All
import Wide.All
import OpenK.AllK
import Wide.FinOn
import HandS.ForMost
import HandS.Wide
import HandS.WideBits
import HandS.IsInst
import HandS.TupAny
import HandS.Deep
import HandS.EndBits
import PySem.Challenge.RW_judgedplay_k20_draws_ahead
set_option Elab.async false
set_option linter.all false
set_option maxRecDepth 100000
set_option maxHeartbeats 4000000
/-! ### my own layer: introduction forms for the readings -/
namespace Jp
open PySem PySem.Spec PyProof.Rows L2
/-! rules by names -/
section
variable {X : Cx}
def rInt1 : List V → Hp → VK → Prop := fun xs H Q => (∃ i, xs = [.int i] ∧ Q (.int i) H) ∨ ∃ k, xs = [.bl k] ∧ Q (.int (if k then 1 else 0)) H
theorem c_int : CallR X (.type "int") rInt1 := call_int1
def rAbs : List V → Hp → VK → Prop := fun xs H Q => ∃ i, xs = [.int i] ∧ Q (.int (if i < 0 then -i else i)) H
theorem c_abs : CallR X (.builtin "abs") rAbs := call_abs
def rMax2 : List V → Hp → VK → Prop := fun xs H Q => ∃ i j, xs = [.int i, .int j] ∧ Q (.int (if j > i then j else i)) H
theorem c_max2 (hc : X.calm = true) : CallR X (.builtin "max") rMax2 := call_max2 hc
def rMin2 : List V → Hp → VK → Prop := fun xs H Q => ∃ i j, xs = [.int i, .int j] ∧ Q (.int (if j < i then j else i)) H
theorem c_min2 (hc : X.calm = true) : CallR X (.builtin "min") rMin2 := call_min2 hc
def rLen (K : PySem.W.Frag) : List V → Hp → VK → Prop := fun xs H Q => ∃ x n, xs = [x] ∧ LenV K x H n ∧ Q (.int (n : Nat)) H
theorem c_len : CallR X (.builtin "len") (rLen X.K) := call_len
def rLenD : List V → Hp → VK → Prop := fun xs H Q => ∃ a kvs, xs = [V.ref a] ∧ H a = some (.dK kvs) ∧ Q (.int kvs.length) H
theorem c_lenD : CallR X (.builtin "len") rLenD := call_lenD
def rTupOf (K : PySem.W.Frag) : List V → Hp → VK → Prop := fun xs H Q => ∃ p ys, xs = [.ref p] ∧ ((SqL K H p ys ∧ ∀ l, H l = none → Q (.ref l) (upd H l (.tup ys))) ∨ (SqT K H p ys ∧ Q (.ref p) H))
theorem c_tup : CallR X (.type "tuple") (rTupOf X.K) := call_tuple_of
def rLstOf (K : PySem.W.Frag) : List V → Hp → VK → Prop := fun xs H Q => ∃ p ys, xs = [.ref p] ∧ (SqL K H p ys ∨ SqT K H p ys) ∧ ∀ l, H l = none → Q (.ref l) (upd H l (.lst ys))
theorem c_lst : CallR X (.type "list") (rLstOf X.K) := call_list_of
def rBool1 : List V → Hp → VK → Prop := fun xs H Q => (∃ i, xs = [.int i] ∧ Q (.bl (i != 0)) H) ∨ ∃ k, xs = [.bl k] ∧ Q (.bl k) H
theorem c_bool1 : CallR X (.type "bool") rBool1 := call_bool1
def rIsNon : R2 := fun x y H Q => y = .non ∧ Q (.bl (decide (x = .non))) H
theorem o_isN : OpR X (compareOp .Is) rIsNon := op_isN
def rNotNon : R2 := fun x y H Q => y = .non ∧ Q (.bl (!decide (x = .non))) H
theorem o_notN : OpR X (compareOp .IsNot) rNotNon := op_notN
def rAddStr : R2 := fun x y H Q => ∃ i j, x = .str i ∧ y = .str j ∧ i.length + j.length ≤ sizeLine ∧ Q (.str (i ++ j)) H
theorem o_addS : OpR X (binaryOp .Add) rAddStr := op_add_str
theorem o_iaddS : OpR X (inplaceOp .Add) rAddStr := iop_add_str
end
section
variable {K : PySem.W.Frag} {σ : L2.St} {H : Hp} {Q : VK}
theorem i_isN {x : V} (q : Q (.bl (decide (x = .non))) H) : rIsNon x .non H Q := ⟨rfl, q⟩
theorem i_notN {x : V} (q : Q (.bl (!decide (x = .non))) H) : rNotNon x .non H Q := ⟨rfl, q⟩
theorem i_int {i : Int} (q : Q (.int i) H) : rInt1 [.int i] H Q := .inl ⟨i, rfl, q⟩
theorem i_intB {k : Bool} (q : Q (.int (if k then 1 else 0)) H) : rInt1 [.bl k] H Q := .inr ⟨k, rfl, q⟩
theorem i_abs {i : Int} (q : Q (.int (if i < 0 then -i else i)) H) : rAbs [.int i] H Q := ⟨i, rfl, q⟩
theorem i_max2 {i j : Int} (q : Q (.int (if j > i then j else i)) H) : rMax2 [.int i, .int j] H Q := ⟨i, j, rfl, q⟩
theorem i_min2 {i j : Int} (q : Q (.int (if j < i then j else i)) H) : rMin2 [.int i, .int j] H Q := ⟨i, j, rfl, q⟩
theorem i_lenL {p : Addr} {xs : List V} (h : SqL K H p xs) (q : Q (.int xs.length) H) : rLen K [.ref p] H Q := ⟨.ref p, xs.length, rfl, .inl ⟨xs, h, rfl⟩, q⟩
theorem i_lenT {p : Addr} {xs : List V} (h : SqT K H p xs) (q : Q (.int xs.length) H) : rLen K [.ref p] H Q := ⟨.ref p, xs.length, rfl, .inr ⟨xs, h, rfl⟩, q⟩
theorem i_lenS {x : Str} (h : x.length ≤ sizeLine) (q : Q (.int x.length) H) : rLen K [.str x] H Q := ⟨.str x, x.length, rfl, ⟨h, rfl⟩, q⟩
theorem i_lenD {p : Addr} {kvs : List (L2.Key × V)} (h : H p = some (.dK kvs)) (q : Q (.int kvs.length) H) : rLenD [.ref p] H Q := ⟨p, kvs, rfl, h, q⟩
theorem i_tupL {p : Addr} {ys : List V} (h : SqL K H p ys) (q : ∀ l, H l = none → Q (.ref l) (upd H l (.tup ys))) : rTupOf K [.ref p] H Q := ⟨p, ys, rfl, .inl ⟨h, q⟩⟩
theorem i_tupT {p : Addr} {ys : List V} (h : SqT K H p ys) (q : Q (.ref p) H) : rTupOf K [.ref p] H Q := ⟨p, ys, rfl, .inr ⟨h, q⟩⟩
theorem i_lstL {p : Addr} {ys : List V} (h : SqL K H p ys) (q : ∀ l, H l = none → Q (.ref l) (upd H l (.lst ys))) : rLstOf K [.ref p] H Q := ⟨p, ys, rfl, .inl h, q⟩
theorem i_lstT {p : Addr} {ys : List V} (h : SqT K H p ys) (q : ∀ l, H l = none → Q (.ref l) (upd H l (.lst ys))) : rLstOf K [.ref p] H Q := ⟨p, ys, rfl, .inr h, q⟩
theorem i_catA {p b : Addr} {xs ys : List V} (h1 : SqT K H p xs) (h2 : SqT K H b ys) (hl : xs.length + ys.length ≤ sizeLine) (q : ∀ (r : Addr) (H' : Hp), (∀ b o, H b = some o → H' b = some o) → SqT K H' r (xs ++ ys) → Q (.ref r) H') : rCatA K (.ref p) (.ref b) H Q := by
  refine ⟨p, b, xs, ys, rfl, rfl, h1, h2, hl, fun e => ?_, fun _ e => ?_, fun _ _ r hr => ?_⟩
  · subst e; exact q b H (fun _ _ h => h) h2
  · subst e; exact q p H (fun _ _ h => h) (by rw [List.append_nil]; exact h1)
  · exact q r _ (fun b o e => by rw [upd_ne (ne_of_none e hr)]; exact e) (.inl (.inl upd_same))
theorem i_catI {p b : Addr} {ns ms : List Int} (h1 : SqT K H p (ns.map V.int)) (h2 : SqT K H b (ms.map V.int)) (hl : ns.length + ms.length ≤ 10000) (q : ∀ (r : Addr) (H' : Hp), (∀ b o, H b = some o → H' b = some o) → SqT K H' r ((ns ++ ms).map V.int) → Q (.ref r) H') : rCatA K (.ref p) (.ref b) H Q :=
  i_catA h1 h2 (by rw [List.length_map, List.length_map]; exact Nat.le_trans hl (by decide)) fun r H' s t => q r H' s (by rw [List.map_append]; exact t)
/-- ns[lo:hi] -/
def cutI (ns : List Int) (lo hi : Option Int) : List Int := (ns.drop (HT.sIx ns.length 0 lo)).take (HT.sIx ns.length ns.length hi - HT.sIx ns.length 0 lo)
theorem cutI_len (ns : List Int) (lo hi : Option Int) : (cutI ns lo hi).length ≤ ns.length := by
  unfold cutI
  rw [List.length_take, List.length_drop]
  omega
theorem i_slI {p : Addr} {ns : List Int} {lo hi : Option Int} (h : SqT K H p (ns.map V.int)) (hw : ¬ (HT.sIx ns.length 0 lo = 0 ∧ HT.sIx ns.length ns.length hi = ns.length))
    (q : ∀ (r : Addr) (H' : Hp), (∀ b o, H b = some o → H' b = some o) → SqT K H' r ((cutI ns lo hi).map V.int) → Q (.ref r) H') : rSlT K (.ref p) lo hi H Q := by
  refine ⟨p, _, rfl, h, by rw [List.length_map]; exact hw, fun r hr => q r _ (fun b o e => by rw [upd_ne (ne_of_none e hr)]; exact e) (.inl (.inl ?_))⟩
  rw [upd_same]
  unfold cutV cutI
  rw [List.length_map, List.map_take, List.map_drop]
theorem i_sl {r : V → Option Int → Option Int → Hp → VK → Prop} {te : TE} {tl th : TO} (h : te σ H fun x H1 => tl σ H1 fun l H2 => th σ H2 fun u H3 => r x l u H3 Q) : tSl r te tl th σ H Q := h
theorem i_noPart {Q : Option Int → Hp → Prop} (q : Q none H) : tNoPart σ H Q := q
theorem i_part {t : TE} {Q : Option Int → Hp → Prop} (h : t σ H fun x H1 => ∃ i, x = .int i ∧ Q (some i) H1) : tPart t σ H Q := h
theorem i_cat {p b : Addr} {xs zs : List V} (h1 : H p = some (.lst xs)) (h2 : H b = some (.lst zs)) (hl : xs.length + zs.length ≤ sizeLine) (q : ∀ r, H r = none → Q (.ref r) (upd H r (.lst (xs ++ zs)))) : rCat (.ref p) (.ref b) H Q := ⟨p, b, xs, zs, rfl, rfl, h1, h2, hl, q⟩
theorem i_chain {r r' : R2} {ta tb tc : TE} (h : ta σ H fun x H1 => tb σ H1 fun y H2 => r x y H2 fun z H3 => ∃ k, z = .bl k ∧ (if k = true then tc σ H3 fun w' H4 => r' y w' H4 Q else Q (.bl false) H3)) : tChain r r' ta tb tc σ H Q := h
theorem i_popAt {p : Addr} {xs : List V} {i : Int} {y : V} (h : H p = some (.lst xs)) (h0 : 0 ≤ i) (h1 : i < xs.length) (h2 : xs.length ≤ 1000000) (e : xs[i.toNat]? = some y) (q : Q y (upd H p (.lst (xs.eraseIdx i.toNat)))) : rPopAt (.ref p) [.int i] H Q :=
  ⟨p, xs, i, i.toNat, y, rfl, rfl, h, by omega, by omega, seqIndex_of h0 h1, e, q⟩
theorem i_isI {i : Int} {Q : Int → Prop} (q : Q i) : ∃ i', V.int i = .int i' ∧ Q i' := ⟨i, rfl, q⟩
theorem i_bm {T : String} {r : V → List V → Hp → VK → Prop} {to : TE} {t : TA} (h : to σ H fun x H1 => tyV K T x H1 ∧ t σ H1 fun xs H2 => r x xs H2 Q) : tBM K T r to t σ H Q := h
theorem i_bm0 {T : String} {r : V → List V → Hp → VK → Prop} {to : TE} (h : to σ H fun x H1 => tyV K T x H1 ∧ r x [] H1 Q) : tBM0 K T r to σ H Q := h
theorem i_tyL {p : Addr} {xs : List V} {R : Prop} (s : SqL K H p xs) (q : R) : tyV K "list" (.ref p) H ∧ R := ⟨.inl ⟨rfl, xs, s⟩, q⟩
theorem i_app {p : Addr} {xs : List V} {y : V} (h : H p = some (.lst xs)) (hl : xs.length < sizeLine) (q : Q .non (upd H p (.lst (xs ++ [y])))) : rAppend (.ref p) [y] H Q := ⟨p, xs, y, rfl, rfl, h, hl, q⟩
theorem i_addS {x y : Str} (h : x.length + y.length ≤ sizeLine) (q : Q (.str (x ++ y)) H) : rAddStr (.str x) (.str y) H Q := ⟨x, y, rfl, rfl, h, q⟩
theorem i_isi {x : V} {n : String} {t : Value} {b : Bool} (ty : TyX K H x t) (e : PySem.W.kitOne K t (.type n) = some b) (q : Q (.bl b) H) : rIsi K [x, .ty n] H Q := ⟨x, .ty n, t, .type n, b, rfl, .ty n, ty, e, q⟩
theorem i_var {i : Nat} {v : V} (h : σ[i]? = some (some v)) (q : Q v H) : tVar i σ H Q := ⟨v, h, q⟩
theorem i_c {v : V} (q : Q v H) : tC v σ H Q := q
theorem i_op {r : R2} {ta tb : TE} (h : ta σ H fun x H1 => tb σ H1 fun y H2 => r x y H2 Q) : tOp r ta tb σ H Q := h
theorem i_un {r : V → Hp → VK → Prop} {ta : TE} (h : ta σ H fun x H1 => r x H1 Q) : tUn r ta σ H Q := h
theorem i_rI0 {g : Int → Int → V} {i j : Int} (q : Q (g i j) H) : rI0 g (.int i) (.int j) H Q := ⟨i, j, rfl, rfl, q⟩
theorem i_rI {C : Int → Int → Prop} {g : Int → Int → V} {i j : Int} (c : C i j) (q : Q (g i j) H) : rI C g (.int i) (.int j) H Q := ⟨i, j, rfl, rfl, c, q⟩
theorem i_rU {g : Int → V} {i : Int} (q : Q (g i) H) : rU g (.int i) H Q := ⟨i, rfl, q⟩
theorem i_eqI {i j : Int} (q : Q (.bl (decide (i = j))) H) : rEq (.int i) (.int j) H Q := ⟨rfl, by
  have e : decide (V.int i = V.int j) = decide (i = j) := by simp
  rw [e]; exact q⟩
theorem i_neI {i j : Int} (q : Q (.bl (!decide (i = j))) H) : rNe (.int i) (.int j) H Q := ⟨rfl, by
  have e : decide (V.int i = V.int j) = decide (i = j) := by simp
  rw [e]; exact q⟩
theorem i_eqB {i j : Bool} (q : Q (.bl (decide (i = j))) H) : rEq (.bl i) (.bl j) H Q := ⟨rfl, by
  have e : decide (V.bl i = V.bl j) = decide (i = j) := by simp
  rw [e]; exact q⟩
theorem i_neB {i j : Bool} (q : Q (.bl (!decide (i = j))) H) : rNe (.bl i) (.bl j) H Q := ⟨rfl, by
  have e : decide (V.bl i = V.bl j) = decide (i = j) := by simp
  rw [e]; exact q⟩
theorem i_eqS {i j : Str} (q : Q (.bl (decide (i = j))) H) : rEq (.str i) (.str j) H Q := ⟨rfl, by
  have e : decide (V.str i = V.str j) = decide (i = j) := by simp
  rw [e]; exact q⟩
theorem i_neS {i j : Str} (q : Q (.bl (!decide (i = j))) H) : rNe (.str i) (.str j) H Q := ⟨rfl, by
  have e : decide (V.str i = V.str j) = decide (i = j) := by simp
  rw [e]; exact q⟩
/-! index -/
theorem i_ixL {p : Addr} {xs : List V} {i : Int} {v : V} (h : SqL K H p xs) (e : atI xs i = some v) (q : Q v H) : rIxL K (.ref p) (.int i) H Q := ⟨p, xs, i, v, rfl, rfl, h, e, q⟩
theorem i_ixT {p : Addr} {xs : List V} {i : Int} {v : V} (h : SqT K H p xs) (e : atI xs i = some v) (q : Q v H) : rIxT K (.ref p) (.int i) H Q := ⟨p, xs, i, v, rfl, rfl, h, e, q⟩
theorem i_ix1 {x y : V} (h : rIxL K x y H Q) : rIx K x y H Q := .inl h
theorem i_ix2 {x y : V} (h : rIxT K x y H Q) : rIx K x y H Q := .inr (.inl h)
/-! arguments, calls, displays -/
theorem i_nil {Q : List V → Hp → Prop} (q : Q [] H) : tNil σ H Q := q
theorem i_cons {ta : TE} {tr : TA} {Q : List V → Hp → Prop} (h : ta σ H fun x H1 => tr σ H1 fun xs H2 => Q (x :: xs) H2) : tCons ta tr σ H Q := h
theorem i_call {sp : Sp} {E : XK} {t : TA} (h : t σ H fun vs H1 => sp (vs ++ []) H1 Q E) : tCall sp [] E t σ H Q := h
theorem i_cb {r : List V → Hp → VK → Prop} {t : TA} (h : t σ H fun vs H1 => r vs H1 Q) : tCB r t σ H Q := h
theorem i_tup {t : TA} (h : t σ H fun xs H1 => xs.length ≤ sizeLine ∧ ∀ p, H1 p = none → Q (.ref p) (upd H1 p (.tup xs))) : tTup t σ H Q := h
theorem i_lst {t : TA} (h : t σ H fun xs H1 => xs.length ≤ sizeLine ∧ ∀ p, H1 p = none → Q (.ref p) (upd H1 p (.lst xs))) : tLst t σ H Q := h
theorem i_new {n : Nat} {R : Addr → Prop} (h : n ≤ sizeLine) (q : ∀ p, H p = none → R p) : n ≤ sizeLine ∧ ∀ p, H p = none → R p := ⟨h, q⟩
theorem i_if {c : TT} {ta tb : TE} (h : c σ H fun b H1 => if b = true then ta σ H1 Q else tb σ H1 Q) : tIf c ta tb σ H Q := h
theorem i_andV {ta tb : TE} (h : ta σ H fun x H1 => ∃ c, x = .bl c ∧ if c = true then tb σ H1 Q else Q (.bl false) H1) : tAndV ta tb σ H Q := h
theorem i_orV {ta tb : TE} (h : ta σ H fun x H1 => ∃ c, x = .bl c ∧ if c = true then Q (.bl true) H1 else tb σ H1 Q) : tOrV ta tb σ H Q := h
theorem i_notV {ta : TE} (h : ta σ H fun x H1 => ∃ c, x = .bl c ∧ Q (.bl (!c)) H1) : tNotV ta σ H Q := h
/-! tests -/
theorem i_test {t : TE} {Q : Bool → Hp → Prop} (h : t σ H fun x H1 => ∃ k, x = .bl k ∧ Q k H1) : tTest t σ H Q := h
theorem i_B {t : TE} {Q : Bool → Hp → Prop} (h : t σ H fun x H1 => ∃ k, x = .bl k ∧ Q k H1) : tB t σ H Q := h
theorem i_isb {k : Bool} {Q : Bool → Prop} (q : Q k) : ∃ k', V.bl k = .bl k' ∧ Q k' := ⟨k, rfl, q⟩
theorem i_and {t u : TT} {Q : Bool → Hp → Prop} (h : t σ H fun c H1 => if c = true then u σ H1 Q else Q false H1) : tAnd t u σ H Q := h
theorem i_or {t u : TT} {Q : Bool → Hp → Prop} (h : t σ H fun c H1 => if c = true then Q true H1 else u σ H1 Q) : tOr t u σ H Q := h
theorem i_not {t : TT} {Q : Bool → Hp → Prop} (h : t σ H fun c H1 => Q (!c) H1) : tNot t σ H Q := h
/-! statements -/
section
variable {nx : L2.St → Hp → Prop} {rt : VK} {bk ct : L2.St → Hp → Prop}
theorem i_seq {t u : TS} (h : t ⟨u ⟨nx, rt, bk, ct⟩, rt, bk, ct⟩ σ H) : tSeq t u ⟨nx, rt, bk, ct⟩ σ H := h
theorem i_next (h : nx σ H) : tNext ⟨nx, rt, bk, ct⟩ σ H := h
theorem i_asg {te : TE} {g : TG} (h : te σ H fun x H1 => g x σ H1 nx) : tAsg te g ⟨nx, rt, bk, ct⟩ σ H := h
theorem i_drop {te : TE} (h : te σ H fun _ H1 => nx σ H1) : tDrop te ⟨nx, rt, bk, ct⟩ σ H := h
theorem i_ret {te : TE} (h : te σ H rt) : tRet te ⟨nx, rt, bk, ct⟩ σ H := h
theorem i_retN (h : rt .non H) : tRetN ⟨nx, rt, bk, ct⟩ σ H := h
theorem i_ifS {c : TT} {t u : TS} (h : c σ H fun b H1 => if b = true then t ⟨nx, rt, bk, ct⟩ σ H1 else u ⟨nx, rt, bk, ct⟩ σ H1) : tIfS c t u ⟨nx, rt, bk, ct⟩ σ H := h
theorem i_ifC {c : TT} {t u : TS} (J : L2.St → Hp → Prop) (h1 : ∀ σ' H', J σ' H' → nx σ' H') (h2 : ∀ N : L2.St → Hp → Prop, (∀ σ' H', J σ' H' → N σ' H') → tIfS c t u ⟨N, rt, bk, ct⟩ σ H) : tIfS c t u ⟨nx, rt, bk, ct⟩ σ H := h2 _ h1
theorem i_break (h : bk σ H) : tBreak ⟨nx, rt, bk, ct⟩ σ H := h
theorem i_cont (h : ct σ H) : tCont ⟨nx, rt, bk, ct⟩ σ H := h
theorem i_augE {i : Nat} {te : TE} {ti : TIp} {x : V} (e : σ[i]? = some (some x)) (h : te σ H fun y H1 => ti x y H1 fun z H2 => gName i z σ H2 nx) : tAug i te ti ⟨nx, rt, bk, ct⟩ σ H := ⟨x, e, h⟩
theorem i_augS {to ti te : TE} {tget : V → V → Hp → VK → Prop} {tip : TIp} {tset : TSet} (h : to σ H fun o H1 => ti σ H1 fun i H2 => tget o i H2 fun x H3 => te σ H3 fun y H4 => tip x y H4 fun z H5 => tset o i z H5 fun H6 => nx σ H6) : tAugS to ti te tget tip tset ⟨nx, rt, bk, ct⟩ σ H := h
theorem i_ipI {f : Int → Int → Int} {i j : Int} (q : Q (.int (f i j)) H) : ipI f (.int i) (.int j) H Q := ⟨i, j, rfl, rfl, q⟩
theorem i_for {wi : TI} {g : TG} {tb : TS} (h : wi σ H fun J H1 => ∃ W : Nat → Nat → L2.St → Hp → Prop, (∃ m, W 0 m σ H1) ∧ ∀ i m σ H, W i m σ H →
  (J.stop i H ∧ nx σ H) ∨ (J.go i H ∧ ∃ N : L2.St → Hp → Prop, (∀ σ' H', N σ' H' → ∃ m', m' < m ∧ W (i + 1) m' σ' H') ∧ ∀ x H', J.yld i H x H' → g x σ H' fun σ2 H2 => tb ⟨N, rt, nx, N⟩ σ2 H2)) : tFor wi g tb ⟨nx, rt, bk, ct⟩ σ H := h
theorem i_iList {tl : TE} {R : It → Hp → Prop} (h : tl σ H fun x H1 => ∃ a, x = .ref a ∧ (∃ xs, SqL K H1 a xs) ∧ R (Itl K a) H1) : iList K tl σ H R := h
theorem i_iTup {tl : TE} {R : It → Hp → Prop} (h : tl σ H fun x H1 => ∃ a, x = .ref a ∧ (∃ xs, SqT K H1 a xs) ∧ R (Itt K a) H1) : iTup K tl σ H R := h
theorem i_isL {a : Addr} {xs : List V} {R : Addr → Prop} (s : SqL K H a xs) (h : R a) : ∃ a', V.ref a = .ref a' ∧ (∃ xs, SqL K H a' xs) ∧ R a' := ⟨a, rfl, ⟨xs, s⟩, h⟩
theorem i_isT {a : Addr} {xs : List V} {R : Addr → Prop} (s : SqT K H a xs) (h : R a) : ∃ a', V.ref a = .ref a' ∧ (∃ xs, SqT K H a' xs) ∧ R a' := ⟨a, rfl, ⟨xs, s⟩, h⟩
theorem i_rng1 {ta : TA} {R : It → Hp → Prop} (h : ta σ H fun vs H1 => ∃ j : Int, vs = [.int j] ∧ -(2 ^ 62) ≤ j ∧ j < 2 ^ 62 ∧ R (Itr 0 j.toNat) H1) : iRng1 ta σ H R := h
theorem i_rng2 {ta : TA} {R : It → Hp → Prop} (h : ta σ H fun vs H1 => ∃ i j : Int, vs = [.int i, .int j] ∧ (-(2 ^ 62) ≤ i ∧ i < 2 ^ 62 ∧ -(2 ^ 62) ≤ j ∧ j < 2 ^ 62) ∧ R (Itr i (j - i).toNat) H1) : iRng2 ta σ H R := h
theorem i_isR1 {j : Int} {R : Int → Prop} (h1 : -(2 ^ 62) ≤ j) (h2 : j < 2 ^ 62) (h : R j) : ∃ j' : Int, [V.int j] = [.int j'] ∧ -(2 ^ 62) ≤ j' ∧ j' < 2 ^ 62 ∧ R j' := ⟨j, rfl, h1, h2, h⟩
theorem i_isR2 {i j : Int} {R : Int → Int → Prop} (h1 : -(2 ^ 62) ≤ i) (h2 : i < 2 ^ 62) (h3 : -(2 ^ 62) ≤ j) (h4 : j < 2 ^ 62) (h : R i j) : ∃ i' j' : Int, [V.int i, V.int j] = [.int i', .int j'] ∧ (-(2 ^ 62) ≤ i' ∧ i' < 2 ^ 62 ∧ -(2 ^ 62) ≤ j' ∧ j' < 2 ^ 62) ∧ R i' j' := ⟨i, j, rfl, ⟨h1, h2, h3, h4⟩, h⟩
end
/-! comprehensions -/
theorem i_lc {wi : TI} {g : TG} {tt : TT} {te : TE} {ws : List Nat} {σ' : L2.St} (e : wipe σ ws = σ') (h : wi σ H fun J H1 => ∀ D, H1 D = none → ∃ W : Nat → Nat → Hp → Prop, (∃ m, W 0 m (upd H1 D (.lst []))) ∧ ∀ i m H, W i m H →
  (J.stop i H ∧ Q (.ref D) H) ∨ (J.go i H ∧ ∃ Nx : Hp → Prop, (∀ H', Nx H' → ∃ m', m' < m ∧ W (i + 1) m' H') ∧ ∀ x H', J.yld i H x H' → g x σ' H' fun σ2 H2 => wipe σ2 ws = σ' ∧ tt σ2 H2 fun b H3 =>
    if b = true then te σ2 H3 fun y H4 => ∃ acc, H4 D = some (.lst acc) ∧ acc.length < sizeLine ∧ Nx (upd H4 D (.lst (acc ++ [y]))) else Nx H3)) : tLc wi g tt te ws σ H Q := by subst e; exact h
/-! targets -/
theorem i_gNameE {i : Nat} {v : V} {σ' : L2.St} {Q : L2.St → Hp → Prop} (e : σ.set i (some v) = σ') (q : Q σ' H) : gName i v σ H Q := by subst e; exact q
theorem st_of {t : TS} {D : Ends} {σ σ' : L2.St} {H : Hp} (e : σ = σ') (h : t D σ' H) : t D σ H := by subst e; exact h
theorem i_gName {i : Nat} {v : V} {Q : L2.St → Hp → Prop} (q : Q (σ.set i (some v)) H) : gName i v σ H Q := q
theorem i_gSub {to ti : TE} {t : TSet} {v : V} {Q : L2.St → Hp → Prop} (h : to σ H fun o H1 => ti σ H1 fun i H2 => t o i v H2 fun H3 => Q σ H3) : gSub to ti t v σ H Q := h
theorem i_setL {p : Addr} {xs : List V} {k : Int} {j : Nat} {v : V} {Q : Hp → Prop} (h : H p = some (.lst xs)) (e : ixN xs.length k = some j) (q : Q (upd H p (.lst (xs.set j v)))) : rSetL (.ref p) (.int k) v H Q := ⟨p, xs, k, j, rfl, rfl, h, e, q⟩
theorem i_gTup {n : Nat} {t : TGs} {a : Addr} {xs : List V} {Q : L2.St → Hp → Prop} (h : SqT K H a xs) (e : xs.length = n) (q : t xs σ H Q) : gTup K n t (.ref a) σ H Q := ⟨a, xs, rfl, h, e, q⟩
theorem i_gNil {Q : L2.St → Hp → Prop} (q : Q σ H) : gNil [] σ H Q := ⟨rfl, q⟩
theorem i_gCons {t : TG} {u : TGs} {v : V} {r : List V} {Q : L2.St → Hp → Prop} (q : t v σ H fun σ' H' => u r σ' H' Q) : gCons t u (v :: r) σ H Q := ⟨v, r, rfl, q⟩
/-! builtins' calls -/
end
/-! ### heaps -/
/-- all but p is as it was -/
def Kp (p : Addr) (H H' : Hp) : Prop := ∀ b o, H b = some o → b ≠ p → H' b = some o
theorem Kp.refl {p : Addr} {H : Hp} : Kp p H H := fun _ _ e _ => e
theorem Kp.of {p : Addr} {H H' : Hp} (s : Same H H') : Kp p H H' := fun b o e _ => s b o e
theorem Kp.trans {p : Addr} {H H1 H2 : Hp} (a : Kp p H H1) (b : Kp p H1 H2) : Kp p H H2 := fun c o e n => b c o (a c o e n) n
theorem Kp.upd {p : Addr} {H : Hp} {o : HO} : Kp p H (upd H p o) := fun b u e n => by rw [upd_ne n]; exact e
theorem same_new {H : Hp} {p : Addr} {o : HO} (h : H p = none) : Same H (upd H p o) := fun b x e => by
  rw [upd_ne (ne_of_none e h)]
  exact e
theorem Same.tup {K : PySem.W.Frag} {H H' : Hp} {a : Addr} {xs : List V} (e : Same H H') (h : SqT K H a xs) : SqT K H' a xs := by
  rcases h with (h | ⟨o, h⟩) | h
  · exact .inl (.inl (e _ _ h))
  · exact .inl (.inr ⟨o, e _ _ h⟩)
  · exact .inr h
/-- all tuples are as they were -/
def Tps (H H' : Hp) : Prop := ∀ a, (∀ xs, H a = some (.tup xs) → H' a = some (.tup xs)) ∧ ∀ o xs, H a = some (.frz o (.tup xs)) → H' a = some (.frz o (.tup xs))
theorem Tps.sq {K : PySem.W.Frag} {H H' : Hp} {a : Addr} {xs : List V} (e : Tps H H') (h : SqT K H a xs) : SqT K H' a xs := by
  rcases h with (h | ⟨o, h⟩) | h
  · exact .inl (.inl ((e a).1 _ h))
  · exact .inl (.inr ⟨o, (e a).2 _ _ h⟩)
  · exact .inr h
theorem Tps.refl {H : Hp} : Tps H H := fun _ => ⟨fun _ h => h, fun _ _ h => h⟩
theorem Tps.trans {H H1 H2 : Hp} (a : Tps H H1) (b : Tps H1 H2) : Tps H H2 := fun c => ⟨fun xs h => (b c).1 xs ((a c).1 xs h), fun o xs h => (b c).2 o xs ((a c).2 o xs h)⟩
theorem Tps.of {H H' : Hp} (s : Same H H') : Tps H H' := fun a => ⟨fun xs h => s _ _ h, fun o xs h => s _ _ h⟩
theorem Kp.tps {p : Addr} {H H' : Hp} (k : Kp p H H') {xs : List V} (h : H p = some (.lst xs)) : Tps H H' := fun a => ⟨fun ys e => k _ _ e (ne_of e h (by intro z; cases z)), fun o ys e => k _ _ e (ne_of e h (by intro z; cases z))⟩
theorem Kp.seq {K : PySem.W.Frag} {p b : Addr} {H H' : Hp} {xs : List V} (k : Kp p H H') (h : SqL K H b xs) (n : b ≠ p) : SqL K H' b xs := by
  rcases h with (h | ⟨o, h⟩) | h
  · exact .inl (.inl (k _ _ h n))
  · exact .inl (.inr ⟨o, k _ _ h n⟩)
  · exact .inr h
/-! ### data -/
def Shp (n : Nat) (d : PyData) : Prop := d.canLay0 = true ∧ d.depth ≤ n
theorem Shp.shaped {n : Nat} {d : PyData} (h : Shp n d) (hn : n ≤ 64) : SeqAt.shaped d = true := by
  unfold SeqAt.shaped
  rw [h.1, decide_eq_true (Nat.le_trans h.2 hn)]
  rfl
theorem Shp.eqv {n : Nat} {d : PyData} (h : Shp n d) : PyData.eqv d d = true := SeqAt.eqv_refl d h.1
theorem Shp.int (i : Int) : Shp 0 (.int i) := ⟨by simp [PyData.canLay0], by simp [PyData.depth]⟩
theorem Shp.non : Shp 0 .none := ⟨by simp [PyData.canLay0], by simp [PyData.depth]⟩
theorem Shp.bool (b : Bool) : Shp 0 (.bool b) := ⟨by simp [PyData.canLay0], by simp [PyData.depth]⟩
theorem Shp.mono {n m : Nat} {d : PyData} (h : Shp n d) (hm : n ≤ m) : Shp m d := ⟨h.1, Nat.le_trans h.2 hm⟩
theorem shpAll {n : Nat} : ∀ {ds : List PyData}, (∀ d ∈ ds, Shp n d) → PyData.canLayAll0 ds = true ∧ PyData.depthAll ds ≤ n
  | [], _ => ⟨by simp [PyData.canLayAll0], by simp [PyData.depthAll]⟩
  | d :: ds, h => by
    have h1 := h d List.mem_cons_self
    have h2 := shpAll (ds := ds) fun x hx => h x (List.mem_cons_of_mem _ hx)
    refine ⟨by rw [PyData.canLayAll0, h1.1, h2.1]; rfl, ?_⟩
    rw [PyData.depthAll]
    exact Nat.max_le.mpr ⟨h1.2, h2.2⟩
theorem Shp.tup {n : Nat} {ds : List PyData} (h : ∀ d ∈ ds, Shp n d) : Shp (n + 1) (.tuple ds) := by
  have := shpAll h
  exact ⟨by rw [PyData.canLay0]; exact this.1, by rw [PyData.depth]; omega⟩
theorem Shp.lst {n : Nat} {ds : List PyData} (h : ∀ d ∈ ds, Shp n d) : Shp (n + 1) (.list ds) := by
  have := shpAll h
  exact ⟨by rw [PyData.canLay0]; exact this.1, by rw [PyData.depth]; omega⟩
theorem dpAll_of {K : PySem.W.Frag} {H : Hp} : ∀ {xs : List V} {ds : List PyData}, xs.length = ds.length → (∀ (i : Nat) x d, xs[i]? = some x → ds[i]? = some d → Dp K H x d) → DpAll K H xs ds
  | [], [], _, _ => .nil
  | x :: xs, d :: ds, hl, h => .cons (h 0 x d rfl rfl) (dpAll_of (by simpa using hl) fun i y e h1 h2 => h (i + 1) y e (by simpa using h1) (by simpa using h2))
theorem dp_ints {K : PySem.W.Frag} {H : Hp} {a : Addr} {ns : List Int} (h : SqT K H a (ns.map V.int)) : Dp K H (.ref a) (.tuple (ns.map PyData.int)) := by
  refine .tup h (dpAll_of (by simp) fun i x d h1 h2 => ?_)
  rw [List.getElem?_map] at h1 h2
  cases e : ns[i]? with
  | none => rw [e] at h1; cases h1
  | some z =>
    rw [e] at h1 h2
    cases h1
    cases h2
    exact .int z
/-! ### slices of tuples -/
section
variable {prog : Program} {w : World} {A : Around} {E : Value → Shared → Prop} {s : Shared}
theorem tup_whole {t sl : Addr} {items : Array Value} {vl vu : Value} {lo hi : Option Int} {Q : Value → Shared → Prop} (ht : IsTup s.heap t items) (hs : s.heap.IsSliceOf sl vl vu .none) (pl : IsPart vl lo) (pu : IsPart vu hi)
    (h0 : HT.sIx items.size 0 lo = 0) (h1 : HT.sIx items.size items.size hi = items.size) (h : Q (.ref t) s) : wpAny (model prog w) A (getItem (.ref t) (.ref sl)) Q E s := by
  have hTs : s.TypeIs (.ref sl) "slice" := by
    obtain ⟨os, hos, hcs, _⟩ := id hs
    exact ⟨os, hos, hcs⟩
  unfold getItem
  try with_reducible refine wpAny_holding ?_
  first | refine wpAny_bind (wpAny_pure ?_) | skip
  refine wpAny_bind (wpAny_sequenceKey ht.typeIs (by decide) (wpAny_bind (wpAny_callSpecial?_slot (name := Str.ofString "__getitem__") ht.typeIs PyProof.Rows.slot_tuple_getitem (wpAny_call_entry PyProof.Rows.slot_tuple_getitem ht.typeIs entry_tuple_getitem ?_ (args_tuple_getitem _ _)))))
  show wpAny _ _ (Builtin.Tuple.tupleItemsOf (.ref t) >>= _) _ _ s
  refine wpAny_bind (tupleItemsOf_ ht (wpAny_bind (wpAny_typeOf hTs ?_)))
  rw [if_pos (by decide)]
  refine wpAny_bind (HT.sliceApplied_gen hs pl pu ?_)
  show wpAny _ _ (if (((HT.sIx items.size 0 lo : Nat) : Int) == 0 && (1 : Int) == 1 && (HT.sIx items.size items.size hi - HT.sIx items.size 0 lo) == items.size) = true then _ else _) _ _ s
  rw [h0, h1, if_pos (by simp)]
  unfold Builtin.Tuple.tupleIsExact
  refine wpAny_bind (wpAny_bind (wpAny_typeOf ht.typeIs (wpAny_pure ?_)))
  rw [if_pos (by decide)]
  first
    | exact wpAny_bind (wpAny_rule (wpAny_pure ⟨_, rfl, wpAny_pure h⟩))
    | exact wpAny_bind (wpAny_rule (wpAny_bind (wpAny_pure (wpAny_pure ⟨_, rfl, wpAny_pure h⟩))))
end
section
variable {X : Cx}
/-- t[lo:hi], the whole of it too (that is t itself) -/
def rSlQ (K : PySem.W.Frag) : V → Option Int → Option Int → Hp → VK → Prop := fun x lo hi H Q => ∃ a xs, x = .ref a ∧ SqT K H a xs ∧
  (cutV xs lo hi = xs → Q (.ref a) H) ∧ ∀ p, H p = none → Q (.ref p) (upd H p (.tup (cutV xs lo hi)))
theorem sl_tupQ : SlR X (rSlQ X.K) := by
  intro pins s σ H x v vl vu lo hi sl Q I rx hs pl pu h
  obtain ⟨a, xs, e, hx, q0, q1⟩ := h
  by_cases hw : HT.sIx xs.length 0 lo = 0 ∧ HT.sIx xs.length xs.length hi = xs.length
  · subst e
    cases rx
    obtain ⟨its, r, ht, hz⟩ := I.tuple hx
    have hlen : its.toArray.size = xs.length := by rw [List.size_toArray]; exact r.length.symm
    refine ⟨"tuple", _, PyProof.Rows.slot_tuple_getitem.lookup, ht.typeIs, ?_⟩
    refine tup_whole ht hs pl pu (by rw [hlen]; exact hw.1) (by rw [hlen]; exact hw.2) ⟨.ref a, H, I, rfl, q0 ?_⟩
    unfold cutV
    rw [hw.1, hw.2]
    simp
  · exact sl_tup pins s σ H x v vl vu lo hi sl Q I rx hs pl pu ⟨a, xs, e, hx, hw, q1⟩
end
/-! ### loops -/
section
variable {K : PySem.W.Frag} {a : Addr} {xs : List V} {g : TG} {tb : TS} {σ : L2.St} {H : Hp} {nx : L2.St → Hp → Prop} {rt : VK}
theorem f_list (Pv : Nat → L2.St → Hp → Prop) (h0 : Pv 0 σ H) (hl : ∀ i σ H, i ≤ xs.length → Pv i σ H → SqL K H a xs)
    (hs : ∀ i x σ H, xs[i]? = some x → Pv i σ H → g x σ H fun σ2 H2 => tb ⟨Pv (i + 1), rt, nx, Pv (i + 1)⟩ σ2 H2) (hd : ∀ σ H, Pv xs.length σ H → nx σ H) :
    ∃ W : Nat → Nat → L2.St → Hp → Prop, (∃ m, W 0 m σ H) ∧ ∀ i m σ H, W i m σ H →
      ((Itl K a).stop i H ∧ nx σ H) ∨ ((Itl K a).go i H ∧ ∃ N : L2.St → Hp → Prop, (∀ σ' H', N σ' H' → ∃ m', m' < m ∧ W (i + 1) m' σ' H') ∧ ∀ x H', (Itl K a).yld i H x H' → g x σ H' fun σ2 H2 => tb ⟨N, rt, nx, N⟩ σ2 H2) :=
  for_list (D := ⟨nx, rt, fun _ _ => False, fun _ _ => False⟩) Pv h0 hl hs hd
theorem f_tup (Pv : Nat → L2.St → Hp → Prop) (h0 : Pv 0 σ H) (hl : ∀ i σ H, i ≤ xs.length → Pv i σ H → SqT K H a xs)
    (hs : ∀ i x σ H, xs[i]? = some x → Pv i σ H → g x σ H fun σ2 H2 => tb ⟨Pv (i + 1), rt, nx, Pv (i + 1)⟩ σ2 H2) (hd : ∀ σ H, Pv xs.length σ H → nx σ H) :
    ∃ W : Nat → Nat → L2.St → Hp → Prop, (∃ m, W 0 m σ H) ∧ ∀ i m σ H, W i m σ H →
      ((Itt K a).stop i H ∧ nx σ H) ∨ ((Itt K a).go i H ∧ ∃ N : L2.St → Hp → Prop, (∀ σ' H', N σ' H' → ∃ m', m' < m ∧ W (i + 1) m' σ' H') ∧ ∀ x H', (Itt K a).yld i H x H' → g x σ H' fun σ2 H2 => tb ⟨N, rt, nx, N⟩ σ2 H2) :=
  for_tup (D := ⟨nx, rt, fun _ _ => False, fun _ _ => False⟩) Pv h0 hl hs hd
theorem f_range {lo : Int} {n : Nat} (Pv : Nat → L2.St → Hp → Prop) (h0 : Pv 0 σ H)
    (hs : ∀ i σ H, i < n → Pv i σ H → g (.int (lo + i)) σ H fun σ2 H2 => tb ⟨Pv (i + 1), rt, nx, Pv (i + 1)⟩ σ2 H2) (hd : ∀ σ H, Pv n σ H → nx σ H) :
    ∃ W : Nat → Nat → L2.St → Hp → Prop, (∃ m, W 0 m σ H) ∧ ∀ i m σ H, W i m σ H →
      ((Itr lo n).stop i H ∧ nx σ H) ∨ ((Itr lo n).go i H ∧ ∃ N : L2.St → Hp → Prop, (∀ σ' H', N σ' H' → ∃ m', m' < m ∧ W (i + 1) m' σ' H') ∧ ∀ x H', (Itr lo n).yld i H x H' → g x σ H' fun σ2 H2 => tb ⟨N, rt, nx, N⟩ σ2 H2) :=
  for_range (D := ⟨nx, rt, fun _ _ => False, fun _ _ => False⟩) Pv h0 hs hd
variable {tt : TT} {te : TE} {ws : List Nat} {D : Addr} {Qd : Hp → Prop} {σ' : L2.St}
theorem l_list (Pv : Nat → Hp → Prop) (h0 : Pv 0 (upd H D (.lst []))) (hl : ∀ i H, i ≤ xs.length → Pv i H → SqL K H a xs)
    (hs : ∀ i x H, xs[i]? = some x → Pv i H → g x σ' H fun σ2 H2 => wipe σ2 ws = σ' ∧ tt σ2 H2 fun b H3 =>
      if b = true then te σ2 H3 fun y H4 => ∃ acc, H4 D = some (.lst acc) ∧ acc.length < sizeLine ∧ Pv (i + 1) (upd H4 D (.lst (acc ++ [y]))) else Pv (i + 1) H3) (hd : ∀ H, Pv xs.length H → Qd H) (e : wipe σ' ws = σ' := by rfl) :
    ∃ W : Nat → Nat → Hp → Prop, (∃ m, W 0 m (upd H D (.lst []))) ∧ ∀ i m H, W i m H →
      ((Itl K a).stop i H ∧ Qd H) ∨ ((Itl K a).go i H ∧ ∃ Nx : Hp → Prop, (∀ H', Nx H' → ∃ m', m' < m ∧ W (i + 1) m' H') ∧ ∀ x H', (Itl K a).yld i H x H' → g x σ' H' fun σ2 H2 => wipe σ2 ws = σ' ∧ tt σ2 H2 fun b H3 =>
        if b = true then te σ2 H3 fun y H4 => ∃ acc, H4 D = some (.lst acc) ∧ acc.length < sizeLine ∧ Nx (upd H4 D (.lst (acc ++ [y]))) else Nx H3) := by
  have h := lc_list (K := K) (a := a) (xs := xs) (g := g) (tt := tt) (te := te) (vs := ws) (σ := σ') (H1 := H) (D := D) (Qd := Qd) Pv h0 hl (by rw [e]; exact hs) hd
  rw [e] at h
  exact h
theorem l_tup (Pv : Nat → Hp → Prop) (h0 : Pv 0 (upd H D (.lst []))) (hl : ∀ i H, i ≤ xs.length → Pv i H → SqT K H a xs)
    (hs : ∀ i x H, xs[i]? = some x → Pv i H → g x σ' H fun σ2 H2 => wipe σ2 ws = σ' ∧ tt σ2 H2 fun b H3 =>
      if b = true then te σ2 H3 fun y H4 => ∃ acc, H4 D = some (.lst acc) ∧ acc.length < sizeLine ∧ Pv (i + 1) (upd H4 D (.lst (acc ++ [y]))) else Pv (i + 1) H3) (hd : ∀ H, Pv xs.length H → Qd H) (e : wipe σ' ws = σ' := by rfl) :
    ∃ W : Nat → Nat → Hp → Prop, (∃ m, W 0 m (upd H D (.lst []))) ∧ ∀ i m H, W i m H →
      ((Itt K a).stop i H ∧ Qd H) ∨ ((Itt K a).go i H ∧ ∃ Nx : Hp → Prop, (∀ H', Nx H' → ∃ m', m' < m ∧ W (i + 1) m' H') ∧ ∀ x H', (Itt K a).yld i H x H' → g x σ' H' fun σ2 H2 => wipe σ2 ws = σ' ∧ tt σ2 H2 fun b H3 =>
        if b = true then te σ2 H3 fun y H4 => ∃ acc, H4 D = some (.lst acc) ∧ acc.length < sizeLine ∧ Nx (upd H4 D (.lst (acc ++ [y]))) else Nx H3) := by
  have h := lc_tup (K := K) (a := a) (xs := xs) (g := g) (tt := tt) (te := te) (vs := ws) (σ := σ') (H1 := H) (D := D) (Qd := Qd) Pv h0 hl (by rw [e]; exact hs) hd
  rw [e] at h
  exact h
theorem l_range {lo : Int} {n : Nat} (Pv : Nat → Hp → Prop) (h0 : Pv 0 (upd H D (.lst [])))
    (hs : ∀ i H, i < n → Pv i H → g (.int (lo + i)) σ' H fun σ2 H2 => wipe σ2 ws = σ' ∧ tt σ2 H2 fun b H3 =>
      if b = true then te σ2 H3 fun y H4 => ∃ acc, H4 D = some (.lst acc) ∧ acc.length < sizeLine ∧ Pv (i + 1) (upd H4 D (.lst (acc ++ [y]))) else Pv (i + 1) H3) (hd : ∀ H, Pv n H → Qd H) (e : wipe σ' ws = σ' := by rfl) :
    ∃ W : Nat → Nat → Hp → Prop, (∃ m, W 0 m (upd H D (.lst []))) ∧ ∀ i m H, W i m H →
      ((Itr lo n).stop i H ∧ Qd H) ∨ ((Itr lo n).go i H ∧ ∃ Nx : Hp → Prop, (∀ H', Nx H' → ∃ m', m' < m ∧ W (i + 1) m' H') ∧ ∀ x H', (Itr lo n).yld i H x H' → g x σ' H' fun σ2 H2 => wipe σ2 ws = σ' ∧ tt σ2 H2 fun b H3 =>
        if b = true then te σ2 H3 fun y H4 => ∃ acc, H4 D = some (.lst acc) ∧ acc.length < sizeLine ∧ Nx (upd H4 D (.lst (acc ++ [y]))) else Nx H3) := by
  have h := lc_range (lo := lo) (n := n) (g := g) (tt := tt) (te := te) (vs := ws) (σ := σ') (H1 := H) (D := D) (Qd := Qd) Pv h0 (by rw [e]; exact hs) hd
  rw [e] at h
  exact h
/-! a comprehension whose elements lay nothing -/
theorem l_rangeP {lo : Int} {n : Nat} (f : Nat → V) (hD : H D = none) (hn : n ≤ 1000000)
    (hs : ∀ i H' (R : VK), i < n → Same H H' → R (f i) H' → g (.int (lo + i)) σ' H' fun σ2 H2 => wipe σ2 ws = σ' ∧ tt σ2 H2 fun b H3 => if b = true then te σ2 H3 R else False)
    (hd : ∀ H', Same H H' → H' D = some (.lst ((List.range n).map f)) → Qd H') (e : wipe σ' ws = σ' := by rfl)
    (htt : ∀ (σ2 : L2.St) (H2 : Hp) (A : Hp → Prop) (B : Hp → Prop), (tt σ2 H2 fun b H3 => if b = true then A H3 else False) → tt σ2 H2 fun b H3 => if b = true then A H3 else B H3 := by intro _ _ _ _ h; exact h) (hg : ∀ x (σ2 : L2.St) (H2 : Hp) (A B : L2.St → Hp → Prop), (∀ s h, A s h → B s h) → g x σ2 H2 A → g x σ2 H2 B := by intro _ _ _ _ _ h q; exact h _ _ q) :
    ∃ W : Nat → Nat → Hp → Prop, (∃ m, W 0 m (upd H D (.lst []))) ∧ ∀ i m H, W i m H →
      ((Itr lo n).stop i H ∧ Qd H) ∨ ((Itr lo n).go i H ∧ ∃ Nx : Hp → Prop, (∀ H', Nx H' → ∃ m', m' < m ∧ W (i + 1) m' H') ∧ ∀ x H', (Itr lo n).yld i H x H' → g x σ' H' fun σ2 H2 => wipe σ2 ws = σ' ∧ tt σ2 H2 fun b H3 =>
        if b = true then te σ2 H3 fun y H4 => ∃ acc, H4 D = some (.lst acc) ∧ acc.length < sizeLine ∧ Nx (upd H4 D (.lst (acc ++ [y]))) else Nx H3) := by
  refine l_range (fun i H' => Same H H' ∧ H' D = some (.lst ((List.range i).map f))) ⟨same_new hD, upd_same⟩ (fun i H' hi h => ?_) (fun H' h => hd H' h.1 h.2) e
  obtain ⟨s, hD'⟩ := h
  refine hg _ _ _ _ _ (fun σ2 H2 q => ⟨q.1, htt _ _ _ _ q.2⟩) (hs i H' _ hi s ⟨_, hD', ?_, fun b o hb => ?_, ?_⟩)
  · rw [List.length_map, List.length_range, sizeLine_eq]; omega
  · rw [upd_ne (ne_of_none hb hD)]; exact s _ _ hb
  · rw [upd_same, List.range_succ, List.map_append] <;> rfl
theorem l_listP (f : Nat → V) (hD : H D = none) (hn : xs.length ≤ 1000000) (hx : SqL K H a xs)
    (hs : ∀ i x H' (R : VK), xs[i]? = some x → Same H H' → R (f i) H' → g x σ' H' fun σ2 H2 => wipe σ2 ws = σ' ∧ tt σ2 H2 fun b H3 => if b = true then te σ2 H3 R else False)
    (hd : ∀ H', Same H H' → H' D = some (.lst ((List.range xs.length).map f)) → Qd H') (e : wipe σ' ws = σ' := by rfl)
    (htt : ∀ (σ2 : L2.St) (H2 : Hp) (A : Hp → Prop) (B : Hp → Prop), (tt σ2 H2 fun b H3 => if b = true then A H3 else False) → tt σ2 H2 fun b H3 => if b = true then A H3 else B H3 := by intro _ _ _ _ h; exact h) (hg : ∀ x (σ2 : L2.St) (H2 : Hp) (A B : L2.St → Hp → Prop), (∀ s h, A s h → B s h) → g x σ2 H2 A → g x σ2 H2 B := by intro _ _ _ _ _ h q; exact h _ _ q) :
    ∃ W : Nat → Nat → Hp → Prop, (∃ m, W 0 m (upd H D (.lst []))) ∧ ∀ i m H, W i m H →
      ((Itl K a).stop i H ∧ Qd H) ∨ ((Itl K a).go i H ∧ ∃ Nx : Hp → Prop, (∀ H', Nx H' → ∃ m', m' < m ∧ W (i + 1) m' H') ∧ ∀ x H', (Itl K a).yld i H x H' → g x σ' H' fun σ2 H2 => wipe σ2 ws = σ' ∧ tt σ2 H2 fun b H3 =>
        if b = true then te σ2 H3 fun y H4 => ∃ acc, H4 D = some (.lst acc) ∧ acc.length < sizeLine ∧ Nx (upd H4 D (.lst (acc ++ [y]))) else Nx H3) := by
  refine l_list (xs := xs) (fun i H' => Same H H' ∧ H' D = some (.lst ((List.range i).map f))) ⟨same_new hD, upd_same⟩ (fun i H' _ h => Same.seq h.1 hx) (fun i x H' hi h => ?_) (fun H' h => hd H' h.1 h.2) e
  obtain ⟨s, hD'⟩ := h
  have hlt := (List.getElem?_eq_some_iff.mp hi).1
  refine hg _ _ _ _ _ (fun σ2 H2 q => ⟨q.1, htt _ _ _ _ q.2⟩) (hs i x H' _ hi s ⟨_, hD', ?_, fun b o hb => ?_, ?_⟩)
  · rw [List.length_map, List.length_range, sizeLine_eq]; omega
  · rw [upd_ne (ne_of_none hb hD)]; exact s _ _ hb
  · rw [upd_same, List.range_succ, List.map_append] <;> rfl
theorem l_tupP (f : Nat → V) (hD : H D = none) (hn : xs.length ≤ 1000000) (hx : SqT K H a xs)
    (hs : ∀ i x H' (R : VK), xs[i]? = some x → Same H H' → R (f i) H' → g x σ' H' fun σ2 H2 => wipe σ2 ws = σ' ∧ tt σ2 H2 fun b H3 => if b = true then te σ2 H3 R else False)
    (hd : ∀ H', Same H H' → H' D = some (.lst ((List.range xs.length).map f)) → Qd H') (e : wipe σ' ws = σ' := by rfl)
    (htt : ∀ (σ2 : L2.St) (H2 : Hp) (A : Hp → Prop) (B : Hp → Prop), (tt σ2 H2 fun b H3 => if b = true then A H3 else False) → tt σ2 H2 fun b H3 => if b = true then A H3 else B H3 := by intro _ _ _ _ h; exact h) (hg : ∀ x (σ2 : L2.St) (H2 : Hp) (A B : L2.St → Hp → Prop), (∀ s h, A s h → B s h) → g x σ2 H2 A → g x σ2 H2 B := by intro _ _ _ _ _ h q; exact h _ _ q) :
    ∃ W : Nat → Nat → Hp → Prop, (∃ m, W 0 m (upd H D (.lst []))) ∧ ∀ i m H, W i m H →
      ((Itt K a).stop i H ∧ Qd H) ∨ ((Itt K a).go i H ∧ ∃ Nx : Hp → Prop, (∀ H', Nx H' → ∃ m', m' < m ∧ W (i + 1) m' H') ∧ ∀ x H', (Itt K a).yld i H x H' → g x σ' H' fun σ2 H2 => wipe σ2 ws = σ' ∧ tt σ2 H2 fun b H3 =>
        if b = true then te σ2 H3 fun y H4 => ∃ acc, H4 D = some (.lst acc) ∧ acc.length < sizeLine ∧ Nx (upd H4 D (.lst (acc ++ [y]))) else Nx H3) := by
  refine l_tup (xs := xs) (fun i H' => Same H H' ∧ H' D = some (.lst ((List.range i).map f))) ⟨same_new hD, upd_same⟩ (fun i H' _ h => Same.tup h.1 hx) (fun i x H' hi h => ?_) (fun H' h => hd H' h.1 h.2) e
  obtain ⟨s, hD'⟩ := h
  have hlt := (List.getElem?_eq_some_iff.mp hi).1
  refine hg _ _ _ _ _ (fun σ2 H2 q => ⟨q.1, htt _ _ _ _ q.2⟩) (hs i x H' _ hi s ⟨_, hD', ?_, fun b o hb => ?_, ?_⟩)
  · rw [List.length_map, List.length_range, sizeLine_eq]; omega
  · rw [upd_ne (ne_of_none hb hD)]; exact s _ _ hb
  · rw [upd_same, List.range_succ, List.map_append] <;> rfl
end
theorem i_yes {σ : L2.St} {H : Hp} {Q : Bool → Hp → Prop} (q : Q true H) : tYes σ H Q := q
/-! ### ifs -/
theorem c_dec {P A B : Prop} [Decidable P] (h1 : P → A) (h2 : ¬ P → B) : if decide P = true then A else B := by
  by_cases h : P
  · rw [if_pos (decide_eq_true h)]; exact h1 h
  · rw [if_neg (by rw [decide_eq_false h]; exact Bool.false_ne_true)]; exact h2 h
theorem c_decN {P A B : Prop} [Decidable P] (h1 : ¬ P → A) (h2 : P → B) : if (!decide P) = true then A else B := by
  by_cases h : P
  · rw [if_neg (by rw [decide_eq_true h]; exact Bool.false_ne_true)]; exact h2 h
  · rw [if_pos (by rw [decide_eq_false h]; rfl)]; exact h1 h
theorem c_nt {A B : Prop} (h : B) : if (!true) = true then A else B := iteF h
theorem c_nf {A B : Prop} (h : A) : if (!false) = true then A else B := iteT h
theorem c_bool {b : Bool} {A B : Prop} (h1 : b = true → A) (h2 : b = false → B) : if b = true then A else B := by
  cases b
  · exact iteF (h2 rfl)
  · exact iteT (h1 rfl)
theorem c_yes {P A B : Prop} [Decidable P] (h : P) (h1 : A) : if decide P = true then A else B := by rw [if_pos (decide_eq_true h)]; exact h1
theorem c_no {P A B : Prop} [Decidable P] (h : ¬ P) (h1 : B) : if decide P = true then A else B := by rw [if_neg (by rw [decide_eq_false h]; exact Bool.false_ne_true)]; exact h1
theorem c_yesN {P A B : Prop} [Decidable P] (h : ¬ P) (h1 : A) : if (!decide P) = true then A else B := by rw [if_pos (by rw [decide_eq_false h]; rfl)]; exact h1
theorem c_noN {P A B : Prop} [Decidable P] (h : P) (h1 : B) : if (!decide P) = true then A else B := by rw [if_neg (by rw [decide_eq_true h]; exact Bool.false_ne_true)]; exact h1
section
variable {K : PySem.W.Frag} {σ : L2.St} {H : Hp} {Q : VK}
theorem i_slA {p : Addr} {xs : List V} {lo hi : Option Int} (h : SqT K H p xs) (q : ∀ (r : Addr) (H' : Hp), Same H H' → SqT K H' r (cutV xs lo hi) → Q (.ref r) H') : rSlQ K (.ref p) lo hi H Q :=
  ⟨p, xs, rfl, h, fun e => q p H (Same.refl H) (by rw [e]; exact h), fun r hr => q r _ (same_new hr) (SqT.of upd_same)⟩
theorem i_eqD {x y : V} {d e : PyData} {n m : Nat} (h1 : Dp K H x d) (h2 : Dp K H y e) (s1 : Shp n d) (s2 : Shp m e) (hn : n ≤ 64) (hm : m ≤ 64) (q : Q (.bl (PyData.eqv d e)) H) : rEqD K x y H Q := ⟨d, e, h1, h2, s1.shaped hn, s2.shaped hm, q⟩
theorem i_neD {x y : V} {d e : PyData} {n m : Nat} (h1 : Dp K H x d) (h2 : Dp K H y e) (s1 : Shp n d) (s2 : Shp m e) (hn : n ≤ 64) (hm : m ≤ 64) (q : Q (.bl (!PyData.eqv d e)) H) : rNeD K x y H Q := ⟨d, e, h1, h2, s1.shaped hn, s2.shaped hm, q⟩
/-- == and != of the same data -/
theorem i_eqS' {x y : V} {d : PyData} {n : Nat} (h1 : Dp K H x d) (h2 : Dp K H y d) (s1 : Shp n d) (hn : n ≤ 64) (q : Q (.bl true) H) : rEqD K x y H Q := i_eqD h1 h2 s1 s1 hn hn (by rw [s1.eqv]; exact q)
theorem i_neS' {x y : V} {d : PyData} {n : Nat} (h1 : Dp K H x d) (h2 : Dp K H y d) (s1 : Shp n d) (hn : n ≤ 64) (q : Q (.bl false) H) : rNeD K x y H Q := i_neD h1 h2 s1 s1 hn hn (by rw [s1.eqv]; exact q)
theorem i_while {c : TT} {tb : TS} {nx : L2.St → Hp → Prop} {rt : VK} {bk ct : L2.St → Hp → Prop} (W : Nat → L2.St → Hp → Prop) (h0 : ∃ m, W m σ H) (h : ∀ m σ H, W m σ H →
  c σ H fun b H1 => if b = true then ∃ N : L2.St → Hp → Prop, (∀ σ' H', N σ' H' → ∃ m', m' < m ∧ W m' σ' H') ∧ tb ⟨N, rt, nx, N⟩ σ H1 else nx σ H1) : tWhile c tb ⟨nx, rt, bk, ct⟩ σ H := ⟨W, h0, h⟩
theorem i_par {i j : Nat} {ta : TA} {nx : L2.St → Hp → Prop} {rt : VK} {bk ct : L2.St → Hp → Prop} (h : ta σ H fun vs H1 => ∃ v w, vs = [v, w] ∧ nx ((σ.set i (some v)).set j (some w)) H1) : tPar i j ta ⟨nx, rt, bk, ct⟩ σ H := h
theorem i_two {x y : V} {R : V → V → Prop} (q : R x y) : ∃ v w, [x, y] = [v, w] ∧ R v w := ⟨x, y, rfl, q⟩
theorem Dp.same {K : PySem.W.Frag} {H H' : Hp} (s : Same H H') : ∀ (d : PyData) (v : V), Dp K H v d → Dp K H' v d := by
  intro d v h
  exact Dp.rec (motive_1 := fun v d _ => Dp K H' v d) (motive_2 := fun vs ds _ => DpAll K H' vs ds) .non (fun b => .bl b) (fun i => .int i) (fun x => .str x) (fun h _ q => .lst (s.seq h) q) (fun h _ q => .tup (Same.tup s h) q) .nil (fun _ _ h1 h2 => .cons h1 h2) h
end
/-! ### a def that can be called -/
structure Df (K : PySem.W.Frag) (mg : Str → Option Value) (x : Str) (st : Stmt) (f : Addr) (fd : FuncData) (ps : List Str) : Prop where
  fn : Fun K x x st f fd
  mgf : mg x = some (.ref f)
  bi : Binds K fd ps []
/-- a def of the text by its promise: it lets no exception out -/
structure Cl (P : Program) (w : World) (K : PySem.W.Frag) (mg : Str → Option Value) (base : Heap) (k : Nat) (x : Str) (sp : Sp) : Prop where
  ex : ∃ (f : Addr) (fd : FuncData) (ps : List Str), FnOk P w K mg base CX0 k f fd ps sp ∧ mg x = some (.ref f) ∧ PySem.W.keepIn K (.ref f) = true ∧ Binds K fd ps []
section
variable {P : Program} {w : World} {K : PySem.W.Frag} {mg : Str → Option Value} {base : Heap}
theorem Df.ok {x : Str} {st : Stmt} {f : Addr} {fd : FuncData} {ps N : List Str} {k : Nat} {sp : Sp} (F : Df K mg x st f fd ps) (S : FnScope N ps (defScope st)) (len : ∀ vs H Q E, sp vs H Q E → vs.length = ps.length)
    (hbody : ∀ (cdv : Value) (A : Around) (outer : List Env) (s : Shared) (H : Hp) (vs : List V) (Q : VK) (E : XK), Room k (A.deeper (envOfC x (defScope st) s.heap.objs.size f cdv)) → sp vs H Q E →
      ∃ t, PSs (cxOf CX0 P w K mg base N x (defScope st) f cdv A outer s H E).nox (defBody st) t ∧ t { nx := fun _ H' => Q .non H', rt := Q } (start N vs) H) : FnOk P w K mg base CX0 (k + 1) f fd ps sp :=
  F.fn.ok S len hbody
theorem Df.cl {x : Str} {st : Stmt} {f : Addr} {fd : FuncData} {ps : List Str} {k : Nat} {sp : Sp} (F : Df K mg x st f fd ps) (o : FnOk P w K mg base CX0 k f fd ps sp) : Cl P w K mg base k x sp :=
  ⟨f, fd, ps, o, F.mgf, F.fn.kp, F.bi⟩
variable {X : Cx}
theorem pe_cl {x : Str} {sp : Sp} {j k : Nat} {e : Expr} {es : List Expr} {t : TA} {p pos : Pos} (c : Cl X.prog X.w X.K X.mg X.base k x sp) (hr : Room j X.A) (hk : k ≤ j) (hg : Gl X x) (ha : PA X (e :: es) t)
    (hdb : (x == ("__debug__" : Str)) = false := by decide) (he : starEach (e :: es) X.env = (false, eval e X.env) :: starEach es X.env := by rfl) (hpl : (backTo pos (starEach es X.env)).any (·.1) = false := by rfl) :
    PE X (.Call (.Name x p) (e :: es) [] pos) (tCall sp [] E0 t) := by
  obtain ⟨f, fd, ps, F, hm, kp, b⟩ := c.ex
  exact pe_call F (hr.mono hk) hg hm kp b .nil pass0 ha hdb he hpl
theorem pe_cl0 {x : Str} {sp : Sp} {j k : Nat} {p pos : Pos} (c : Cl X.prog X.w X.K X.mg X.base k x sp) (hr : Room j X.A) (hk : k ≤ j) (hg : Gl X x) (hdb : (x == ("__debug__" : Str)) = false := by decide) :
    PE X (.Call (.Name x p) [] [] pos) (tCall sp [] E0 tNil) := by
  obtain ⟨f, fd, ps, F, hm, kp, b⟩ := c.ex
  exact pe_call0 F (hr.mono hk) hg hm kp b .nil pass0 hdb
/-- a constant of the module's top -/
def Cn (mg : Str → Option Value) (x : Str) (v : V) : Prop := ∃ u, mg x = some u ∧ RelV v u
theorem pe_cn {x : Str} {v : V} {pos : Pos} (hg : Gl X x) (h : Cn X.mg x v) (hd : (x == ("__debug__" : Str)) = false := by decide) : PE X (.Name x pos) (tC v) := by
  obtain ⟨u, hm, r⟩ := h
  exact pe_glob hg hm r hd
section
variable {K : PySem.W.Frag} {T : String} {name : Str} {id : String} {r : V → List V → Hp → VK → Prop} {o e : Expr} {es : List Expr} {apos cpos pos : Pos} {to ta : TE} {t : TA}
theorem pe_bm0K (hK : X.K = K) (pa : PlainAttrs T) (slot : Slot T name id) (hty : typeOf (.builtin id) = pure (.type "method_descriptor")) (hm : MtR X id r) (ho : PE X o to)
    (hbase : attributeBase o name X.env (eval o X.env) = eval o X.env := by rfl) (hline : (apos.endLine == cpos.line) = true := by rfl) : PE X (.Call (.Attribute o name apos) [] [] cpos) (tBM0 K T r to) := by
  subst hK; exact pe_bm0 pa slot hty hm ho hbase hline
theorem pe_bmK (hK : X.K = K) (pa : PlainAttrs T) (slot : Slot T name id) (hty : typeOf (.builtin id) = pure (.type "method_descriptor")) (hm : MtR X id r) (ho : PE X o to) (ha : PA X (e :: es) t)
    (hbase : attributeBase o name X.env (eval o X.env) = eval o X.env := by rfl)
    (hfew : ((backTo cpos (starEach (e :: es) X.env)).all (fun x => !x.1) && (backToKw cpos (keywordEach [] X.env)).all (fun x => x.1.isSome)
      && decide ((e :: es).length + ([] : List Keyword).length + (if ([] : List Keyword).isEmpty then 0 else 1) < 30)) = true := by rfl)
    (hline : (apos.endLine == cpos.line) = true := by rfl) (hs : starEach (e :: es) X.env = (false, eval e X.env) :: starEach es X.env := by rfl) (hplain : (backTo cpos (starEach es X.env)).any (·.1) = false := by rfl) :
    PE X (.Call (.Attribute o name apos) (e :: es) [] cpos) (tBM K T r to t) := by
  subst hK; exact pe_bm pa slot hty hm ho ha hbase hfew hline hs hplain
theorem pe_fldK (hK : X.K = K) {f : Str} (he : PE X e ta) (hb : attributeBase e f X.env (eval e X.env) = eval e X.env) : PE X (.Attribute e f pos) (tFld K ta f) := by
  subst hK; exact pe_fld he hb
theorem pg_tupK (hK : X.K = K) {es : List Expr} {k : Nat} {t : TGs} {n : Nat} (hc : X.calm = true) (h : PGs X es t)
    (hn : (assignEach es X.env).length = n := by rfl) (hst : (assignEach es X.env).findIdx? (·.1) = none := by rfl) : PG X (.Tuple es k pos) (gTup K n t) := by
  subst hK; exact pg_tup hc h hn hst
end
theorem get_list : L2.PGet X (rIxL X.K) := by
  intro pins s σ H x y v u Q I rx ry h
  obtain ⟨p, xs, i, z, rfl, rfl, hq, he, q⟩ := h
  cases rx
  obtain ⟨t, rfl⟩ := ry
  obtain ⟨its, r, pl, hz⟩ := I.list hq
  obtain ⟨j, h1, h2, h3, h4, h5⟩ := atI_get he
  obtain ⟨w, ew, rw'⟩ := r.get h2
  have hl := r.length
  have hn := line63
  have fin : EP X pins σ Q w s := ⟨z, H, I, rw', q⟩
  by_cases h0 : 0 ≤ i
  · have hj : i.toNat = j := by
      rw [seqIndex_of h0 h5] at h1
      exact Option.some.inj h1
    exact wpAny_getItem_list pl.isList h0 (by omega) (by rw [hj]; simpa using ew) fin
  · have hj : (i + (its.toArray.size : Int)).toNat = j := by
      rw [seqIndex_neg (by omega) h4] at h1
      rw [List.size_toArray, ← hl]
      exact Option.some.inj h1
    exact wpAny_getItem_list_neg pl.isList (by omega) (by rw [List.size_toArray] <;> omega) (by omega) (by rw [hj]; simpa using ew) fin
end
theorem perm_erase {α : Type} : ∀ (l : List α) (i : Nat) (h : i < l.length), (l[i] :: l.eraseIdx i).Perm l
  | x :: r, 0, _ => List.Perm.refl _
  | x :: r, i + 1, h => (List.Perm.swap x (r[i]'(Nat.lt_of_succ_lt_succ h)) (r.eraseIdx i)).trans ((perm_erase r i (Nat.lt_of_succ_lt_succ h)).cons x)
theorem ints_at {ns : List Int} {i : Nat} {x : V} (h : (ns.map V.int)[i]? = some x) : ∃ z, x = .int z ∧ ns[i]? = some z ∧ ns.take (i + 1) = ns.take i ++ [z] ∧ i < ns.length := by
  rw [List.getElem?_map] at h
  cases e : ns[i]? with
  | none => rw [e] at h; cases h
  | some z =>
    rw [e] at h
    exact ⟨z, (Option.some.inj h).symm, rfl, by rw [List.take_add_one, e]; rfl, (List.getElem?_eq_some_iff.mp e).1⟩
theorem at_lt {α : Type} {xs : List α} {i : Int} (h0 : 0 ≤ i) (h : i < xs.length) : ∃ v, atI xs i = some v ∧ v ∈ xs ∧ xs[i.toNat]? = some v := by
  have hl : i.toNat < xs.length := by omega
  refine ⟨xs[i.toNat], ?_, List.getElem_mem hl, List.getElem?_eq_getElem hl⟩
  have := atI_nat (xs := xs) (j := i.toNat) (v := xs[i.toNat]) (List.getElem?_eq_getElem hl)
  rw [Int.toNat_of_nonneg h0] at this
  exact this
theorem ixN_of {n : Nat} {i : Int} (h0 : 0 ≤ i) (h : i < n) : ixN n i = some i.toNat := by
  unfold ixN
  rw [if_pos h0, if_pos h]
end Jp

namespace Law
open PySem PySem.Spec PyProof.Rows L2 Jp
/-! ### the walk's small steps -/
local macro_rules | `(tactic| wtm_at "jset") => `(tactic| (first | (simp only [wipe, List.map_cons, List.map_nil, List.set_cons_zero, List.set_cons_succ]; done) | (simp only [wipe, List.map_cons, List.map_nil, List.set_cons_zero, List.set_cons_succ]; exact rfl) | exact rfl))
local macro_rules | `(tactic| wtm_at "jw1") => `(tactic| first
  | ((with_reducible refine' i_var ?h ?_); (case h => exact rfl))
  | with_reducible refine' i_c ?_ | with_reducible refine' i_op ?_ | with_reducible refine' i_seq ?_ | with_reducible refine' i_asg ?_
  | ((with_reducible refine' i_gNameE ?e ?_); (case e => wtm_at "jset"))
  | with_reducible refine' i_ret ?_ | with_reducible refine' i_test ?_ | with_reducible refine' i_isb ?_
  | with_reducible refine' i_cons ?_ | with_reducible refine' i_nil ?_ | with_reducible refine' i_call ?_ | with_reducible refine' i_cb ?_
  | with_reducible refine' i_rI0 ?_ | ((with_reducible refine' i_rI ?c ?_); (case c => wtm_at "jside")) | with_reducible refine' i_rU ?_
  | with_reducible refine' i_eqI ?_ | with_reducible refine' i_neI ?_ | with_reducible refine' i_eqB ?_ | with_reducible refine' i_neB ?_ | with_reducible refine' i_eqS ?_ | with_reducible refine' i_neS ?_
  | with_reducible refine' i_isN ?_ | with_reducible refine' i_notN ?_
  | with_reducible refine' i_un ?_ | with_reducible refine' i_drop ?_ | with_reducible refine' i_retN ?_ | with_reducible refine' i_next ?_
  | ((with_reducible refine' i_ixL ?h ?e ?_); (case h => wtm_at "jsq"); (case e => wtm_at "jat"))
  | ((with_reducible refine' i_ixT ?h ?e ?_); (case h => wtm_at "jsq"); (case e => wtm_at "jat"))
  | ((with_reducible refine' i_ix1 (i_ixL ?h ?e ?_)); (case h => wtm_at "jsq"); (case e => wtm_at "jat"))
  | ((with_reducible refine' i_ix2 (i_ixT ?h ?e ?_)); (case h => wtm_at "jsq"); (case e => wtm_at "jat"))
  | with_reducible refine' i_gSub ?_
  | ((with_reducible refine' i_setL ?h ?e ?_); (case h => wtm_at "jhp"); (case e => wtm_at "jixn"))
  | ((with_reducible refine' i_gTup ?h ?e ?_); (case h => wtm_at "jsq"); (case e => rfl)) | with_reducible refine' i_gCons ?_ | with_reducible refine' i_gNil ?_
  | with_reducible refine' i_int ?_ | with_reducible refine' i_intB ?_ | with_reducible refine' i_abs ?_ | with_reducible refine' i_max2 ?_ | with_reducible refine' i_min2 ?_
  | ((with_reducible refine' i_lenL ?h ?_); (case h => wtm_at "jsq")) | ((with_reducible refine' i_lenT ?h ?_); (case h => wtm_at "jsq"))
  | ((with_reducible refine' i_tupL ?h ?_); (case h => wtm_at "jsq")) | ((with_reducible refine' i_lstL ?h ?_); (case h => wtm_at "jsq")) | ((with_reducible refine' i_lstT ?h ?_); (case h => wtm_at "jsq")) | ((with_reducible refine' i_tupT ?h ?_); (case h => wtm_at "jsq"))
  | ((with_reducible refine' i_new ?h ?_); (case h => wtm_at "jlen"))
  | with_reducible refine' i_tup ?_ | with_reducible refine' i_lst ?_ | with_reducible refine' i_if ?_ | with_reducible refine' i_andV ?_ | with_reducible refine' i_orV ?_ | with_reducible refine' i_notV ?_ | with_reducible refine' i_B ?_
  | with_reducible refine' i_and ?_ | with_reducible refine' i_or ?_ | with_reducible refine' i_not ?_ | with_reducible refine' i_break ?_ | with_reducible refine' i_cont ?_
  | ((with_reducible refine' i_augE ?h ?_); (case h => exact rfl)) | with_reducible refine' i_augS ?_ | with_reducible refine' i_ipI ?_
  | with_reducible refine' i_for ?_ | with_reducible refine' i_iList ?_ | with_reducible refine' i_iTup ?_ | ((with_reducible refine' i_isL ?h ?_); (case h => wtm_at "jsq")) | ((with_reducible refine' i_isT ?h ?_); (case h => wtm_at "jsq"))
  | with_reducible refine' i_rng1 ?_ | with_reducible refine' i_rng2 ?_
  | ((with_reducible refine' i_isR1 ?h1 ?h2 ?_); (case h1 => wtm_at "jside"); (case h2 => wtm_at "jside"))
  | ((with_reducible refine' i_isR2 ?h1 ?h2 ?h3 ?h4 ?_); (case h1 => wtm_at "jside"); (case h2 => wtm_at "jside"); (case h3 => wtm_at "jside"); (case h4 => wtm_at "jside"))
  | ((with_reducible refine' i_lc ?e ?_); (case e => wtm_at "jset"))
  | with_reducible refine' i_yes ?_ | with_reducible refine' i_sl ?_ | with_reducible refine' i_par ?_ | with_reducible refine' i_two ?_ | with_reducible refine' i_noPart ?_ | with_reducible refine' i_part ?_ | with_reducible refine' i_isI ?_
  | with_reducible refine' i_bm ?_ | with_reducible refine' i_bm0 ?_ | ((with_reducible refine' i_tyL ?h ?_); (case h => wtm_at "jsq"))
  | ((with_reducible refine' i_app ?h ?e ?_); (case h => wtm_at "jhp"); (case e => wtm_at "jsmall"))
  | with_reducible refine' i_chain ?_ | ((with_reducible refine' i_cat ?h1 ?h2 ?e ?_); (case h1 => wtm_at "jhp"); (case h2 => wtm_at "jhp"); (case e => wtm_at "jlen"))
  | with_reducible refine iteT ?_ | with_reducible refine iteF ?_ | with_reducible refine' c_nt ?_ | with_reducible refine' c_nf ?_)
local macro_rules | `(tactic| wtm_at "js") => `(tactic| repeat (wtm_at "jw1"))
local macro_rules | `(tactic| wtm_at "jw") => `(tactic| repeat (first | wtm_at "jw1" | with_reducible refine' i_ifS ?_))
local macro_rules | `(tactic| wtm_at "jlen") => `(tactic| first | decide | (simp [sizeLine]; done) | omega)
/- a condition of an operation -/
local macro_rules | `(tactic| wtm_at "jside") => `(tactic| first | with_reducible assumption | omega | decide | (simp only [List.length_map]; omega) | (refine Or.inl ?_; decide) | (refine Or.inr ?_; decide) | (refine ⟨?_, ?_⟩ <;> omega) | (refine Or.inl ?_; constructor <;> omega) | (refine Or.inr ?_; constructor <;> omega) | (refine ⟨by decide, by decide, by decide⟩))
/- H p = some o -/
local macro_rules | `(tactic| wtm_at "jhp") => `(tactic| first | assumption | with_reducible exact upd_same | ((with_reducible refine' Eq.trans (upd_ne ?hne) ?hgo); (case hne => wtm_at "jne"); (case hgo => wtm_at "jhp")))
local macro_rules | `(tactic| wtm_at "jne") => `(tactic| first | assumption | (refine Ne.symm ?_; assumption) | (refine ne_of_none (by assumption) (by assumption)) | (refine (ne_of_none (by assumption) (by assumption)).symm))
local macro_rules | `(tactic| wtm_at "jsq") => `(tactic| first | assumption | ((with_reducible refine' SqL.of ?hh); (case hh => wtm_at "jhp")) | ((with_reducible refine' SqT.of ?hh); (case hh => wtm_at "jhp")) | ((with_reducible refine' Same.seq (same_new ?hn) ?hh); (case hn => assumption); (case hh => wtm_at "jsq")) | ((with_reducible refine' Same.tup (same_new ?hn) ?hh); (case hn => assumption); (case hh => wtm_at "jsq")))
/- the item at a place -/
local macro_rules | `(tactic| wtm_at "jat") => `(tactic| first | exact rfl | assumption)
local macro_rules | `(tactic| wtm_at "jixn") => `(tactic| first | exact rfl | assumption)
local macro_rules | `(tactic| wtm_at "jsmall") => `(tactic| first | assumption | exact small1000 (by first | assumption | omega | (simp; done) | (simp; omega)))

def top (i : Nat) : Stmt := PySem.Challenge.pw_judgedplay_k20_draws_ahead.main.body.getD i (.Pass ⟨0, 0, 0, 0⟩)
abbrev s__law_begin : Stmt := top 9
abbrev N__law_begin : List Str := ["script", "cell"]
theorem sc__law_begin : FnScope N__law_begin ["script"] (defScope s__law_begin) := ⟨rfl, rfl, rfl, by decide +kernel, rfl, by decide +kernel, by decide +kernel⟩
abbrev s__law_draw : Stmt := top 10
abbrev N__law_draw : List Str := ["d", "many", "found", "size", "cell"]
theorem sc__law_draw : FnScope N__law_draw ["d", "many"] (defScope s__law_draw) := ⟨rfl, rfl, rfl, by decide +kernel, rfl, by decide +kernel, by decide +kernel⟩
abbrev s__law_pick : Stmt := top 11
abbrev N__law_pick : List Str := ["d", "row"]
theorem sc__law_pick : FnScope N__law_pick ["d", "row"] (defScope s__law_pick) := ⟨rfl, rfl, rfl, by decide +kernel, rfl, by decide +kernel, by decide +kernel⟩
abbrev s__law_any_number : Stmt := top 14
abbrev N__law_any_number : List Str := ["d", "way"]
theorem sc__law_any_number : FnScope N__law_any_number ["d"] (defScope s__law_any_number) := ⟨rfl, rfl, rfl, by decide +kernel, rfl, by decide +kernel, by decide +kernel⟩
abbrev s__law_hold : Stmt := top 13
abbrev N__law_hold : List Str := ["low", "number", "high"]
theorem sc__law_hold : FnScope N__law_hold ["low", "number", "high"] (defScope s__law_hold) := ⟨rfl, rfl, rfl, by decide +kernel, rfl, by decide +kernel, by decide +kernel⟩
abbrev s__law_count : Stmt := top 15
abbrev N__law_count : List Str := ["d", "most", "way", "found"]
theorem sc__law_count : FnScope N__law_count ["d", "most"] (defScope s__law_count) := ⟨rfl, rfl, rfl, by decide +kernel, rfl, by decide +kernel, by decide +kernel⟩
abbrev s__law_is_int : Stmt := top 12
abbrev N__law_is_int : List Str := ["thing"]
theorem sc__law_is_int : FnScope N__law_is_int ["thing"] (defScope s__law_is_int) := ⟨rfl, rfl, rfl, by decide +kernel, rfl, by decide +kernel, by decide +kernel⟩
abbrev s__law_same : Stmt := top 19
abbrev N__law_same : List Str := ["told", "due"]
theorem sc__law_same : FnScope N__law_same ["told", "due"] (defScope s__law_same) := ⟨rfl, rfl, rfl, by decide +kernel, rfl, by decide +kernel, by decide +kernel⟩
abbrev s_joined_steps : Stmt := top 6
abbrev N_joined_steps : List Str := ["first", "second", "factor", "addend"]
theorem sc_joined_steps : FnScope N_joined_steps ["first", "second"] (defScope s_joined_steps) := ⟨rfl, rfl, rfl, by decide +kernel, rfl, by decide +kernel, by decide +kernel⟩
abbrev s_ahead : Stmt := top 7
abbrev N_ahead : List Str := ["number", "many", "whole", "power", "rest"]
theorem sc_ahead : FnScope N_ahead ["number", "many"] (defScope s_ahead) := ⟨rfl, rfl, rfl, by decide +kernel, rfl, by decide +kernel, by decide +kernel⟩
abbrev s__law_is_draw : Stmt := top 18
abbrev N__law_is_draw : List Str := ["told", "number", "many"]
theorem sc__law_is_draw : FnScope N__law_is_draw ["told", "number", "many"] (defScope s__law_is_draw) := ⟨rfl, rfl, rfl, by decide +kernel, rfl, by decide +kernel, by decide +kernel⟩
abbrev s_next_draw : Stmt := top 4
abbrev N_next_draw : List Str := ["number"]
theorem sc_next_draw : FnScope N_next_draw ["number"] (defScope s_next_draw) := ⟨rfl, rfl, rfl, by decide +kernel, rfl, by decide +kernel, by decide +kernel⟩
abbrev s_drawn : Stmt := top 5
abbrev N_drawn : List Str := ["number", "many"]
theorem sc_drawn : FnScope N_drawn ["number", "many"] (defScope s_drawn) := ⟨rfl, rfl, rfl, by decide +kernel, rfl, by decide +kernel, by decide +kernel⟩
abbrev s__law_is_chain : Stmt := top 20
abbrev N__law_is_chain : List Str := ["r", "size", "at", "turn", "many", "after"]
theorem sc__law_is_chain : FnScope N__law_is_chain ["r", "size"] (defScope s__law_is_chain) := ⟨rfl, rfl, rfl, by decide +kernel, rfl, by decide +kernel, by decide +kernel⟩
abbrev s__law_power : Stmt := top 16
abbrev N__law_power : List Str := ["many", "found", "base", "rest", "turn"]
theorem sc__law_power : FnScope N__law_power ["many"] (defScope s__law_power) := ⟨rfl, rfl, rfl, by decide +kernel, rfl, by decide +kernel, by decide +kernel⟩
abbrev s__law_behind : Stmt := top 17
abbrev N__law_behind : List Str := ["number", "many"]
theorem sc__law_behind : FnScope N__law_behind ["number", "many"] (defScope s__law_behind) := ⟨rfl, rfl, rfl, by decide +kernel, rfl, by decide +kernel, by decide +kernel⟩
abbrev s__law_is_way : Stmt := top 22
abbrev N__law_is_way : List Str := ["r", "one", "two", "first", "due", "second", "after"]
theorem sc__law_is_way : FnScope N__law_is_way ["r", "one", "two"] (defScope s__law_is_way) := ⟨rfl, rfl, rfl, by decide +kernel, rfl, by decide +kernel, by decide +kernel⟩
abbrev s__law_is_edge : Stmt := top 21
abbrev N__law_is_edge : List Str := ["many", "place", "number"]
theorem sc__law_is_edge : FnScope N__law_is_edge ["many", "place"] (defScope s__law_is_edge) := ⟨rfl, rfl, rfl, by decide +kernel, rfl, by decide +kernel, by decide +kernel⟩
abbrev s_law : Stmt := top 23
abbrev N_law : List Str := ["script", "d", "r", "turn", "many", "one", "two"]
theorem sc_law : FnScope N_law ["script"] (defScope s_law) := ⟨rfl, rfl, rfl, by decide +kernel, rfl, by decide +kernel, by decide +kernel⟩
/-- what the text's top has: built-ins that are still so, constants -/
structure Txt (mg : Str → Option Value) : Prop where
  b_int : mg "int" = none
  b_len : mg "len" = none
  b_abs : mg "abs" = none
  b_min : mg "min" = none
  b_max : mg "max" = none
  b_isinstance : mg "isinstance" = none
  b_bool : mg "bool" = none
  b_range : mg "range" = none
  c_MODULUS : Cn mg "MODULUS" (.int 32749)
  c_TIMES : Cn mg "TIMES" (.int 219)
  c_PLUS : Cn mg "PLUS" (.int 7)
/-! ### the draws -/
/-- a row of draws stands at p, its cells at a -/
def DrawAt (H : Hp) (p a : Addr) : Prop := ∃ (ns : List Int) (pos pend seed : Int), H p = some (.lst [.ref a, .int pos, .int pend, .int seed]) ∧ H a = some (.lst (ns.map V.int)) ∧ a ≠ p ∧ 0 ≤ pos
theorem DrawAt.same {H H' : Hp} {p a : Addr} (d : DrawAt H p a) (s : Same H H') : DrawAt H' p a := by
  obtain ⟨ns, pos, pend, seed, h1, h2, h3, h4⟩ := d
  exact ⟨ns, pos, pend, seed, s _ _ h1, s _ _ h2, h3, h4⟩
/-- behind draws: the row stands, all else is as it was -/
structure Drew (p a : Addr) (H H' : Hp) : Prop where
  at_ : DrawAt H' p a
  kp : Kp p H H'
theorem Drew.trans {p a : Addr} {H H1 H2 : Hp} (x : Drew p a H H1) (y : Drew p a H1 H2) : Drew p a H H2 := ⟨y.at_, x.kp.trans y.kp⟩
theorem Drew.new {p a q : Addr} {H H1 : Hp} {o : HO} (x : Drew p a H H1) (h : H1 q = none) : Drew p a H (upd H1 q o) := ⟨x.at_.same (same_new h), x.kp.trans (.of (same_new h))⟩
theorem Drew.same {p a : Addr} {H H1 H2 : Hp} (x : Drew p a H H1) (s : Same H1 H2) : Drew p a H H2 := ⟨x.at_.same s, x.kp.trans (.of s)⟩
theorem DrawAt.drew {p a : Addr} {H : Hp} (d : DrawAt H p a) : Drew p a H H := ⟨d, Kp.refl⟩
theorem DrawAt.some {H : Hp} {p a : Addr} (d : DrawAt H p a) : ∃ xs, H p = some (.lst xs) := by
  obtain ⟨ns, pos, pend, seed, h1, _⟩ := d
  exact ⟨_, h1⟩
theorem DrawAt.ne_none {H : Hp} {p a q : Addr} (d : DrawAt H p a) (h : H q = none) : q ≠ p := by
  obtain ⟨xs, e⟩ := d.some
  exact (ne_of_none e h).symm
theorem DrawAt.ne_noneA {H : Hp} {p a q : Addr} (d : DrawAt H p a) (h : H q = none) : q ≠ a := by
  obtain ⟨ns, pos, pend, seed, _, h1, _⟩ := d
  exact (ne_of_none h1 h).symm
theorem Drew.free {p a q : Addr} {H H' : Hp} (w : Drew p a H H') (h : H' q = none) : H q = none := by
  cases e : H q with
  | none => rfl
  | some o =>
    by_cases hq : q = p
    · obtain ⟨xs, e'⟩ := w.at_.some
      rw [hq, e'] at h; cases h
    · rw [w.kp _ _ e hq] at h; cases h
/-- a thing of our own, made behind H, is written -/
theorem Drew.put {p a q : Addr} {H H1 : Hp} {o : HO} (x : Drew p a H H1) (d : DrawAt H p a) (h : H q = none) : Drew p a H (upd H1 q o) := by
  have n1 := d.ne_none h
  have n2 := d.ne_noneA h
  obtain ⟨ns, pos, pend, seed, h1, h2, h3, h4⟩ := x.at_
  refine ⟨⟨ns, pos, pend, seed, by rw [upd_ne n1.symm]; exact h1, by rw [upd_ne n2.symm]; exact h2, h3, h4⟩, fun b u hb hne => ?_⟩
  rw [upd_ne (ne_of_none hb h)]
  exact x.kp _ _ hb hne
theorem Drew.tps {p a : Addr} {H H' : Hp} (w : Drew p a H H') (d : DrawAt H p a) : Tps H H' := by
  obtain ⟨xs, e⟩ := d.some
  exact w.kp.tps e
def sp__law_begin (K : PySem.W.Frag) : Sp := fun vs H Q _ => ∃ (a : Addr) (ns : List Int), vs = [.ref a] ∧ SqL K H a (ns.map V.int) ∧ ns.length ≤ 63 ∧
  ∀ (p c : Addr) (H' : Hp), Same H H' → H p = none → H c = none → DrawAt H' p c → Q (.ref p) H'
theorem ok__law_begin {P : Program} {w : World} {K : PySem.W.Frag} {mg : Str → Option Value} {base : Heap} {f : Addr} {fd : FuncData} (F : Df K mg "_law_begin" s__law_begin f fd ["script"]) (T : Txt mg) : FnOk P w K mg base CX0 1 f fd ["script"] (sp__law_begin K) := by
  refine F.ok sc__law_begin (fun vs H Q E h => ?_) (fun cdv A outer s H vs Q E hr h => ?_)
  · obtain ⟨a, ns, rfl, _⟩ := h
    rfl
  · obtain ⟨a, ns, rfl, hS, hl, k⟩ := h
    refine ⟨_, (pss_one (ps_ret (pe_lst (pa_cons (pe_lc (own := [("cell", 1)]) (g := gName 1) (tt := tYes) rfl sc__law_begin.nd (pi_list (pv 0)) (blkOk_by (own := [("cell", 1)]) (N := N__law_begin) (sc := defScope s__law_begin) (by decide +kernel)) (fun _ _ _ _ _ => (pg_name (i := 1) sc__law_begin.nd rfl (Or.inl rfl))) (fun _ _ _ _ _ => pts_nil) (fun _ _ _ _ _ => (pe_callTy (T := "int") c_int (by rfl) T.b_int (by decide +kernel) (pa_cons (pv 1) pa_nil)))) (pa_cons pe_int (pa_cons pe_int (pa_cons pe_int pa_nil))))))), ?_⟩
    try dsimp only [cxOf, Cx.nox, Cx.wish]
    refine st_of (σ' := [some _, none]) rfl ?_
    wtm_at "jw"
    intro D hD
    refine l_list (xs := ns.map V.int) (fun i H1 => Same H H1 ∧ H1 D = some (.lst ((ns.take i).map V.int))) ⟨same_new hD, upd_same⟩ (fun i H1 _ h => h.1.seq hS) (fun i x H1 hi h => ?_) (fun H1 h => ?_)
    · obtain ⟨s1, h1⟩ := h
      rw [List.getElem?_map] at hi
      cases e : ns[i]? with
      | none => rw [e] at hi; cases hi
      | some z =>
        rw [e] at hi
        cases hi
        have hlt : i < ns.length := (List.getElem?_eq_some_iff.mp e).1
        wtm_at "jw"
        refine ⟨rfl, ?_⟩
        wtm_at "jw"
        refine ⟨_, h1, small1000 (by rw [List.length_map, List.length_take]; omega), ?_, ?_⟩
        · intro b o hb
          have hne : b ≠ D := ne_of_none hb hD
          rw [upd_ne hne]
          exact s1 _ _ hb
        · rw [upd_same, List.take_add_one, e, List.map_append]
          rfl
    · obtain ⟨s1, h1⟩ := h
      rw [List.length_map, List.take_length] at h1
      wtm_at "jw"
      intro p hp
      have hne : D ≠ p := ne_of_none h1 hp
      refine k p D _ (fun b o hb => ?_) (s1.free hp) hD ⟨ns, 0, 0, 11, upd_same, by rw [upd_ne hne]; exact h1, hne, by decide⟩
      rw [upd_ne (ne_of_none (s1 _ _ hb) hp)]
      exact s1 _ _ hb
def sp__law_draw (K : PySem.W.Frag) : Sp := fun vs H Q _ => ∃ (p a : Addr) (many : Int), vs = [.ref p, .int many] ∧ DrawAt H p a ∧ 0 < many ∧ many < 1073741824 ∧
  ∀ (r : Int) (H' : Hp), 0 ≤ r → r < many → Drew p a H H' → Q (.int r) H'
theorem ok__law_draw {P : Program} {w : World} {K : PySem.W.Frag} {mg : Str → Option Value} {base : Heap} {f : Addr} {fd : FuncData} (F : Df K mg "_law_draw" s__law_draw f fd ["d", "many"]) (T : Txt mg) : FnOk P w K mg base CX0 1 f fd ["d", "many"] (sp__law_draw K) := by
  refine F.ok sc__law_draw (fun vs H Q E h => ?_) (fun cdv A outer s H vs Q E hr h => ?_)
  · obtain ⟨p, a, m, rfl, _⟩ := h
    rfl
  · obtain ⟨p, a, m, rfl, ⟨ns, pos, pend, seed, hp, ha, nap, h0⟩, hm0, hm1, k⟩ := h
    have fin : ∀ (z : Int) (pos' pend' seed' : Int) (H' : Hp), 0 ≤ pos' → H' p = some (.lst [.ref a, .int pos', .int pend', .int seed']) → Kp p H H' → Q (.int (z % m)) H' := fun z pos' pend' seed' H' hp' h1 h2 =>
      k _ _ (Int.emod_nonneg _ (by omega)) (Int.emod_lt_of_pos _ hm0) ⟨⟨ns, pos', pend', seed', h1, h2 _ _ ha nap, nap, hp'⟩, h2⟩
    refine ⟨_, (pss_cons (ps_if (pt_cmpR op_gt (pe_ix (r := rIxL K) ix_list (pv 0) pe_int (fun _ _ => rfl)) pe_int (nomark _)) (pss_cons (ps_set (i := 2) sc__law_draw.nd rfl (Or.inl rfl) (pe_ix (r := rIxL K) ix_list (pv 0) pe_int (fun _ _ => rfl)))
      (pss_cons (ps_asg (pe_op op_fdiv (pv 2) (pv 1)) (pg_sub (pv 0) pe_int set_list))
      (pss_one (ps_ret (pe_op op_mod (pe_callTy (T := "int") c_int (by rfl) T.b_int (by decide +kernel) (pa_cons (pv 2) pa_nil)) (pv 1)))))) pss_nil)
      (pss_cons (ps_set (i := 3) sc__law_draw.nd rfl (Or.inl rfl) pe_int)
      (pss_cons (ps_if (pt_cmpR op_lt (pe_ix (r := rIxL K) ix_list (pv 0) pe_int (fun _ _ => rfl)) (pe_callB (id := "len") (r := rLen K) c_len (by rfl) T.b_len (by decide +kernel) (pa_cons (pe_ix (r := rIxL K) ix_list (pv 0) pe_int (fun _ _ => rfl)) pa_nil)) (nomark _)) (pss_cons (ps_set (i := 4) sc__law_draw.nd rfl (Or.inl rfl) (pe_ix (r := rIx K) ix_seq (pe_ix (r := rIxL K) ix_list (pv 0) pe_int (fun _ _ => rfl)) (pe_ix (r := rIxL K) ix_list (pv 0) pe_int (fun _ _ => rfl)) (fun _ _ => rfl)))
      (pss_one (ps_set (i := 3) sc__law_draw.nd rfl (Or.inl rfl) (pe_op op_add (pe_op op_mul pe_int (pe_callB (id := "abs") c_abs (by rfl) T.b_abs (by decide +kernel) (pa_cons (pv 4) pa_nil))) (pe_callTy (T := "int") c_int (by rfl) T.b_int (by decide +kernel) (pa_cons (pe_cmpR op_lt (pv 4) pe_int (nomark _)) pa_nil)))))) pss_nil)
      (pss_cons (ps_augS (pv 0) pe_int get_list pe_int iop_add set_list)
      (pss_cons (ps_if (pt_cmpR op_ge (pv 3) (pe_op op_mul pe_int (pe_op op_pow pe_int pe_int)) (nomark _)) (pss_cons (ps_set (i := 2) sc__law_draw.nd rfl (Or.inl rfl) (pe_op op_mod (pe_callTy (T := "int") c_int (by rfl) T.b_int (by decide +kernel) (pa_cons (pe_op op_fdiv (pv 3) pe_int) pa_nil)) (pe_op op_shl pe_int pe_int)))
      (pss_cons (ps_asg (pe_op op_fdiv (pv 2) (pv 1)) (pg_sub (pv 0) pe_int set_list))
      (pss_one (ps_ret (pe_op op_mod (pe_callTy (T := "int") c_int (by rfl) T.b_int (by decide +kernel) (pa_cons (pv 2) pa_nil)) (pv 1)))))) pss_nil)
      (pss_cons (ps_asg (pe_op op_mod (pe_callTy (T := "int") c_int (by rfl) T.b_int (by decide +kernel) (pa_cons (pe_op op_add (pe_op op_add (pe_op op_add (pe_op op_mul (pe_ix (r := rIxL K) ix_list (pv 0) pe_int (fun _ _ => rfl)) pe_int) (pe_op op_mul (pe_op op_mod (pe_callTy (T := "int") c_int (by rfl) T.b_int (by decide +kernel) (pa_cons (pv 3) pa_nil)) pe_int) pe_int)) (pe_op op_mul (pe_ix (r := rIxL K) ix_list (pv 0) pe_int (fun _ _ => rfl)) pe_int)) pe_int) pa_nil)) pe_int) (pg_sub (pv 0) pe_int set_list))
      (pss_one (ps_ret (pe_op op_mod (pe_callTy (T := "int") c_int (by rfl) T.b_int (by decide +kernel) (pa_cons (pe_op op_fdiv (pe_ix (r := rIxL K) ix_list (pv 0) pe_int (fun _ _ => rfl)) pe_int) pa_nil)) (pv 1)))))))))), ?_⟩
    try dsimp only [cxOf, Cx.nox, Cx.wish]
    refine st_of (σ' := [some _, some _, none, none, none]) rfl ?_
    wtm_at "jw"
    refine c_dec (fun h => ?_) (fun h => ?_)
    · wtm_at "jw"
      exact fin _ _ _ _ _ h0 upd_same Kp.upd
    · wtm_at "jw"
      refine c_dec (fun h1 => ?_) (fun h1 => ?_)
      · obtain ⟨c, hc⟩ : ∃ c : Int, atI (ns.map V.int) pos = some (.int c) := by
          obtain ⟨v, e, hv, _⟩ := at_lt (xs := ns.map V.int) h0 h1
          obtain ⟨z, _, rfl⟩ := List.mem_map.mp hv
          exact ⟨z, e⟩
        wtm_at "jw"
        refine c_dec (fun h2 => ?_) (fun h2 => ?_)
        · wtm_at "jw"
          exact fin _ (pos + 1) _ _ _ (by omega) upd_same (Kp.upd.trans Kp.upd)
        · wtm_at "jw"
          exact fin _ (pos + 1) _ _ _ (by omega) upd_same (Kp.upd.trans Kp.upd)
      · wtm_at "jw"
        refine c_dec (fun h2 => ?_) (fun h2 => ?_)
        · wtm_at "jw"
          exact fin _ (pos + 1) _ _ _ (by omega) upd_same (Kp.upd.trans Kp.upd)
        · wtm_at "jw"
          exact fin _ (pos + 1) _ _ _ (by omega) upd_same (Kp.upd.trans Kp.upd)

def sp__law_pick (K : PySem.W.Frag) : Sp := fun vs H Q _ => ∃ (p a b : Addr) (xs : List V), vs = [.ref p, .ref b] ∧ DrawAt H p a ∧ ((b ≠ p ∧ SqL K H b xs) ∨ SqT K H b xs) ∧ 0 < xs.length ∧ xs.length < 1073741824 ∧
  ∀ (x : V) (H' : Hp), x ∈ xs → Drew p a H H' → Q x H'
theorem ok__law_pick {P : Program} {w : World} {K : PySem.W.Frag} {mg : Str → Option Value} {base : Heap} {f : Addr} {fd : FuncData} (F : Df K mg "_law_pick" s__law_pick f fd ["d", "row"]) (T : Txt mg)
    (c__law_draw : Cl P w K mg base 1 "_law_draw" (sp__law_draw K)) : FnOk P w K mg base CX0 2 f fd ["d", "row"] (sp__law_pick K) := by
  refine F.ok sc__law_pick (fun vs H Q E h => ?_) (fun cdv A outer s H vs Q E hr h => ?_)
  · obtain ⟨p, a, b, xs, rfl, _⟩ := h
    rfl
  · obtain ⟨p, a, b, xs, rfl, hd, hb, hl0, hl1, k⟩ := h
    refine ⟨_, (pss_one (ps_ret (pe_ix (r := rIx K) ix_seq (pv 1) (pe_cl c__law_draw hr (by decide) rfl (pa_cons (pv 0) (pa_cons (pe_callB (id := "len") (r := rLen K) c_len (by rfl) T.b_len (by decide +kernel) (pa_cons (pv 1) pa_nil)) pa_nil))) (fun _ _ => rfl)))), ?_⟩
    try dsimp only [cxOf, Cx.nox, Cx.wish]
    refine st_of (σ' := [some _, some _]) rfl ?_
    rcases hb with ⟨nb, hb⟩ | hb
    all_goals
      wtm_at "jw"
      refine ⟨p, a, _, rfl, hd, by omega, by omega, fun r H' hr0 hr1 w => ?_⟩
      obtain ⟨v, e, hv, _⟩ := at_lt hr0 hr1
    · have hb' := w.kp.seq hb nb
      wtm_at "jw"
      exact k _ _ hv w
    · have hb' := (w.tps hd).sq hb
      wtm_at "jw"
      exact k _ _ hv w

def sp__law_is_int (K : PySem.W.Frag) : Sp := fun vs H Q _ => ∃ (i : Int), vs = [.int i] ∧ Q (.bl true) H
theorem ok__law_is_int {P : Program} {w : World} {K : PySem.W.Frag} {mg : Str → Option Value} {base : Heap} {f : Addr} {fd : FuncData} (F : Df K mg "_law_is_int" s__law_is_int f fd ["thing"]) (T : Txt mg) : FnOk P w K mg base CX0 1 f fd ["thing"] (sp__law_is_int K) := by
  refine F.ok sc__law_is_int (fun vs H Q E h => ?_) (fun cdv A outer s H vs Q E hr h => ?_)
  · obtain ⟨i, rfl, _⟩ := h
    rfl
  · obtain ⟨i, rfl, k⟩ := h
    refine ⟨_, (pss_one (ps_ret (pe_and (pe_callB (id := "isinstance") (r := rIsi K) call_isi (by rfl) T.b_isinstance (by decide +kernel) (pa_cons (pv 0) (pa_cons (pe_bltn (v := .ty "int") (u := Value.type "int") (by rfl) T.b_int (by decide +kernel) rfl) pa_nil))) (pe_one (pe_not (pe_callB (id := "isinstance") (r := rIsi K) call_isi (by rfl) T.b_isinstance (by decide +kernel) (pa_cons (pv 0) (pa_cons (pe_bltn (v := .ty "bool") (u := Value.type "bool") (by rfl) T.b_bool (by decide +kernel) rfl) pa_nil)))))))), ?_⟩
    try dsimp only [cxOf, Cx.nox, Cx.wish]
    refine st_of (σ' := [some _]) rfl ?_
    wtm_at "jw"
    refine i_isi (.base (.int i)) rfl ?_
    wtm_at "jw"
    refine i_isi (.base (.int i)) rfl ?_
    wtm_at "jw"
    exact k

/-! ### the numbers -/
/-- the number behind n draws -/
def bh (r : Int) (n : Nat) : Int := (28092 + (r - 28092) * 219 ^ n) % 32749
theorem bh_lt (r : Int) (n : Nat) : 0 ≤ bh r n ∧ bh r n < 32749 := by
  unfold bh
  omega
theorem mod_of {a b k : Int} (h : a = b + 32749 * k) : a % 32749 = b % 32749 := by
  rw [h, Int.add_mul_emod_self_left]
theorem mod_is (a : Int) : ∃ k, a % 32749 = a + 32749 * k := ⟨-(a / 32749), by omega⟩
theorem bh_zero {r : Int} (h0 : 0 ≤ r) (h1 : r < 32749) : bh r 0 = r := by
  unfold bh
  rw [Int.pow_zero]
  omega
theorem bh_next (r : Int) (n : Nat) : (219 * bh r n + 7) % 32749 = bh r (n + 1) := by
  obtain ⟨k, hk⟩ := mod_is (28092 + (r - 28092) * 219 ^ n)
  unfold bh
  rw [hk, Int.pow_succ]
  generalize (219 : Int) ^ n = g
  exact mod_of (k := 219 * k + 187) (by grind)
theorem bh_add (r : Int) (a b : Nat) : bh (bh r a) b = bh r (a + b) := by
  obtain ⟨k, hk⟩ := mod_is (28092 + (r - 28092) * 219 ^ a)
  unfold bh
  rw [hk, Int.pow_add]
  generalize (219 : Int) ^ a = g
  generalize (219 : Int) ^ b = h
  exact mod_of (k := k * h) (by grind)
/-- a pair that does n draws -/
structure Good (a b : Int) (n : Nat) : Prop where
  a0 : 0 ≤ a
  a1 : a < 32749
  b0 : 0 ≤ b
  b1 : b < 32749
  ga : ∃ k, a = 219 ^ n + 32749 * k
  gb : ∃ l, b = 28092 - 28092 * a + 32749 * l
theorem Good.join {a b a2 b2 : Int} {n m : Nat} (x : Good a b n) (y : Good a2 b2 m) : Good (a * a2 % 32749) ((b * a2 + b2) % 32749) (n + m) := by
  obtain ⟨k, hk⟩ := x.ga
  obtain ⟨l, hl⟩ := x.gb
  obtain ⟨k2, hk2⟩ := y.ga
  obtain ⟨l2, hl2⟩ := y.gb
  obtain ⟨u, hu⟩ := mod_is (a * a2)
  obtain ⟨v, hv⟩ := mod_is (b * a2 + b2)
  refine ⟨by omega, by omega, by omega, by omega, ?_, ?_⟩
  · rw [hu, Int.pow_add]
    generalize (219 : Int) ^ n = g at *
    generalize (219 : Int) ^ m = h at *
    exact ⟨g * k2 + k * h + 32749 * k * k2 + u, by rw [hk, hk2]; grind⟩
  · rw [hv, hu, hl, hl2]
    exact ⟨l * a2 + l2 + v + 28092 * u, by grind⟩
theorem Good.one : Good 1 0 0 := ⟨by decide, by decide, by decide, by decide, ⟨0, by decide⟩, ⟨0, by decide⟩⟩
theorem Good.two : Good 219 7 1 := ⟨by decide, by decide, by decide, by decide, ⟨0, by decide⟩, ⟨187, by decide⟩⟩
theorem Good.does {a b : Int} {n : Nat} (x : Good a b n) (r : Int) : (a * r + b) % 32749 = bh r n := by
  obtain ⟨k, hk⟩ := x.ga
  obtain ⟨l, hl⟩ := x.gb
  unfold bh
  generalize (219 : Int) ^ n = g at *
  exact mod_of (k := k * (r - 28092) + l) (by rw [hl, hk]; grind)
theorem half_step {w r p n : Nat} (h : w + r * p = n) (ho : r % 2 = 1) : w + p + r / 2 * (p + p) = n := by
  have : r = 2 * (r / 2) + 1 := by omega
  rw [this, Nat.add_mul] at h
  have e : 2 * (r / 2) * p = r / 2 * (p + p) := by grind
  omega
theorem half_step0 {w r p n : Nat} (h : w + r * p = n) (ho : r % 2 = 0) : w + r / 2 * (p + p) = n := by
  have : r = 2 * (r / 2) := by omega
  rw [this] at h
  have e : 2 * (r / 2) * p = r / 2 * (p + p) := by grind
  omega
/-! ### the program -/
def sp_next_draw (K : PySem.W.Frag) : Sp := fun vs H Q _ => ∃ (r : Int), vs = [.int r] ∧ Q (.int ((219 * r + 7) % 32749)) H
theorem ok_next_draw {P : Program} {w : World} {K : PySem.W.Frag} {mg : Str → Option Value} {base : Heap} {f : Addr} {fd : FuncData} (F : Df K mg "next_draw" s_next_draw f fd ["number"]) (T : Txt mg) : FnOk P w K mg base CX0 1 f fd ["number"] (sp_next_draw K) := by
  refine F.ok sc_next_draw (fun vs H Q E h => ?_) (fun cdv A outer s H vs Q E hr h => ?_)
  · obtain ⟨r, rfl, _⟩ := h
    rfl
  · obtain ⟨r, rfl, q⟩ := h
    refine ⟨_, (pss_one (ps_ret (pe_op op_mod (pe_op op_add (pe_op op_mul (pe_cn rfl T.c_TIMES) (pv 0)) (pe_cn rfl T.c_PLUS)) (pe_cn rfl T.c_MODULUS)))), ?_⟩
    try dsimp only [cxOf, Cx.nox, Cx.wish]
    refine st_of (σ' := [some _]) rfl ?_
    wtm_at "jw"
    exact q
def sp_drawn (K : PySem.W.Frag) : Sp := fun vs H Q _ => ∃ (r m : Int), vs = [.int r, .int m] ∧ 0 ≤ m ∧ m ≤ 64 ∧ Q (.int (r * m / 32749)) H
theorem ok_drawn {P : Program} {w : World} {K : PySem.W.Frag} {mg : Str → Option Value} {base : Heap} {f : Addr} {fd : FuncData} (F : Df K mg "drawn" s_drawn f fd ["number", "many"]) (T : Txt mg) : FnOk P w K mg base CX0 1 f fd ["number", "many"] (sp_drawn K) := by
  refine F.ok sc_drawn (fun vs H Q E h => ?_) (fun cdv A outer s H vs Q E hr h => ?_)
  · obtain ⟨r, m, rfl, _⟩ := h
    rfl
  · obtain ⟨r, m, rfl, m0, m1, q⟩ := h
    refine ⟨_, (pss_one (ps_ret (pe_op op_fdiv (pe_op op_mul (pv 0) (pv 1)) (pe_cn rfl T.c_MODULUS)))), ?_⟩
    try dsimp only [cxOf, Cx.nox, Cx.wish]
    refine st_of (σ' := [some _, some _]) rfl ?_
    wtm_at "jw"
    exact q
def sp_joined_steps (K : PySem.W.Frag) : Sp := fun vs H Q _ => ∃ (t u : Addr) (a b c e : Int) (n m : Nat), vs = [.ref t, .ref u] ∧ SqT K H t [.int a, .int b] ∧ SqT K H u [.int c, .int e] ∧ Good a b n ∧ Good c e m ∧
  ∀ (r : Addr) (H' : Hp) (x y : Int), Same H H' → H' r = some (.tup [.int x, .int y]) → Good x y (n + m) → Q (.ref r) H'
theorem ok_joined_steps {P : Program} {w : World} {K : PySem.W.Frag} {mg : Str → Option Value} {base : Heap} {f : Addr} {fd : FuncData} (F : Df K mg "joined_steps" s_joined_steps f fd ["first", "second"]) (T : Txt mg) : FnOk P w K mg base CX0 1 f fd ["first", "second"] (sp_joined_steps K) := by
  refine F.ok sc_joined_steps (fun vs H Q E h => ?_) (fun cdv A outer s H vs Q E hr h => ?_)
  · obtain ⟨t, u, a, b, c, e, n, m, rfl, _⟩ := h
    rfl
  · obtain ⟨t, u, a, b, c, e, n, m, rfl, ht, hu, g1, g2, q⟩ := h
    refine ⟨_, (pss_cons (ps_set (i := 2) sc_joined_steps.nd rfl (Or.inl rfl) (pe_op op_mod (pe_op op_mul (pe_ix (r := rIxT K) ix_tup (pv 0) pe_int (fun _ _ => rfl)) (pe_ix (r := rIxT K) ix_tup (pv 1) pe_int (fun _ _ => rfl))) (pe_cn rfl T.c_MODULUS)))
      (pss_cons (ps_set (i := 3) sc_joined_steps.nd rfl (Or.inl rfl) (pe_op op_mod (pe_op op_add (pe_op op_mul (pe_ix (r := rIxT K) ix_tup (pv 0) pe_int (fun _ _ => rfl)) (pe_ix (r := rIxT K) ix_tup (pv 1) pe_int (fun _ _ => rfl))) (pe_ix (r := rIxT K) ix_tup (pv 1) pe_int (fun _ _ => rfl))) (pe_cn rfl T.c_MODULUS)))
      (pss_one (ps_ret (pe_tup (pa_cons (pv 2) (pa_cons (pv 3) pa_nil))))))), ?_⟩
    try dsimp only [cxOf, Cx.nox, Cx.wish]
    refine st_of (σ' := [some _, some _, none, none]) rfl ?_
    have i1 := g1.a0
    have i2 := g1.a1
    have i3 := g1.b0
    have i4 := g1.b1
    wtm_at "jw"
    intro r hr
    exact q r _ _ _ (same_new hr) upd_same (g1.join g2)
def sp_ahead (K : PySem.W.Frag) : Sp := fun vs H Q _ => ∃ (r m : Int), vs = [.int r, .int m] ∧ 0 ≤ r ∧ r < 32749 ∧ 0 ≤ m ∧ ∀ H', Same H H' → Q (.int (bh r m.toNat)) H'
theorem ok_ahead {P : Program} {w : World} {K : PySem.W.Frag} {mg : Str → Option Value} {base : Heap} {f : Addr} {fd : FuncData} (F : Df K mg "ahead" s_ahead f fd ["number", "many"]) (T : Txt mg)
    (c_joined_steps : Cl P w K mg base 1 "joined_steps" (sp_joined_steps K)) : FnOk P w K mg base CX0 2 f fd ["number", "many"] (sp_ahead K) := by
  refine F.ok sc_ahead (fun vs H Q E h => ?_) (fun cdv A outer s H vs Q E hr h => ?_)
  · obtain ⟨r, m, rfl, _⟩ := h
    rfl
  · obtain ⟨r, m, rfl, r0, r1, m0, q⟩ := h
    refine ⟨_, (pss_cons (ps_set (i := 2) sc_ahead.nd rfl (Or.inl rfl) (pe_tup (pa_cons pe_int (pa_cons pe_int pa_nil))))
      (pss_cons (ps_set (i := 3) sc_ahead.nd rfl (Or.inl rfl) (pe_tup (pa_cons (pe_cn rfl T.c_TIMES) (pa_cons (pe_cn rfl T.c_PLUS) pa_nil))))
      (pss_cons (ps_set (i := 4) sc_ahead.nd rfl (Or.inl rfl) (pv 1))
      (pss_cons (ps_while PassesOwn.never (pt_cmpR op_gt (pv 4) pe_int (nomark _)) (pss_cons (ps_if (pt_cmpR op_eq (pe_op op_mod (pv 4) pe_int) pe_int (nomark _)) (pss_one (ps_set (i := 2) sc_ahead.nd rfl (Or.inl rfl) (pe_cl c_joined_steps hr (by decide) rfl (pa_cons (pv 2) (pa_cons (pv 3) pa_nil))))) pss_nil)
      (pss_cons (ps_set (i := 3) sc_ahead.nd rfl (Or.inl rfl) (pe_cl c_joined_steps hr (by decide) rfl (pa_cons (pv 3) (pa_cons (pv 3) pa_nil))))
      (pss_one (ps_set (i := 4) sc_ahead.nd rfl (Or.inl rfl) (pe_op op_fdiv (pv 4) pe_int))))))
      (pss_one (ps_ret (pe_op op_mod (pe_op op_add (pe_op op_mul (pe_ix (r := rIxT K) ix_tup (pv 2) pe_int (fun _ _ => rfl)) (pv 0)) (pe_ix (r := rIxT K) ix_tup (pv 2) pe_int (fun _ _ => rfl))) (pe_cn rfl T.c_MODULUS)))))))), ?_⟩
    try dsimp only [cxOf, Cx.nox, Cx.wish]
    refine st_of (σ' := [some _, some _, none, none, none]) rfl ?_
    wtm_at "jw"
    intro t ht
    wtm_at "jw"
    intro u hu
    wtm_at "jw"
    refine i_while (fun z σ H' => Same H H' ∧ ∃ (t u : Addr) (a b c e : Int) (W P : Nat) (R : Nat), σ = [some (.int r), some (.int m), some (.ref t), some (.ref u), some (.int R)] ∧ SqT K H' t [.int a, .int b] ∧ SqT K H' u [.int c, .int e] ∧ Good a b W ∧ Good c e P ∧ W + R * P = m.toNat ∧ z = R)
      ⟨m.toNat, (same_new ht).trans (same_new hu), t, u, 1, 0, 219, 7, 0, 1, m.toNat, by rw [Int.toNat_of_nonneg m0], Same.tup (same_new hu) (SqT.of upd_same), SqT.of upd_same, Good.one, Good.two, by omega, rfl⟩ ?_
    rintro z σ H' ⟨s1, t, u, a, b, c, e, W, P, R, rfl, ht', hu', g1, g2, hn, rfl⟩
    wtm_at "jw"
    refine c_dec (fun hp => ?_) (fun hp => ?_)
    · refine ⟨fun σ' H'' => ∃ z', z' < z ∧ Same H H'' ∧ ∃ (t u : Addr) (a b c e : Int) (W P : Nat) (R : Nat), σ' = [some (.int r), some (.int m), some (.ref t), some (.ref u), some (.int R)] ∧ SqT K H'' t [.int a, .int b] ∧ SqT K H'' u [.int c, .int e] ∧ Good a b W ∧ Good c e P ∧ W + R * P = m.toNat ∧ z' = R, fun _ _ h => h, ?_⟩
      wtm_at "js"
      refine i_ifC (fun σ' H2 => Same H H2 ∧ ∃ (t : Addr) (a b : Int) (W : Nat), σ' = [some (.int r), some (.int m), some (.ref t), some (.ref u), some (.int z)] ∧ SqT K H2 t [.int a, .int b] ∧ SqT K H2 u [.int c, .int e] ∧ Good a b W ∧ W + z / 2 * (P + P) = m.toNat) ?_ ?_
      · rintro σ' H2 ⟨s2, t, a, b, W, rfl, ht2, hu2, g3, hn2⟩
        wtm_at "jw"
        refine ⟨u, u, c, e, c, e, P, P, rfl, hu2, hu2, g2, g2, fun v H3 x y s3 hv g4 => ?_⟩
        wtm_at "jw"
        refine ⟨z / 2, by omega, s2.trans s3, t, v, a, b, x, y, W, P + P, z / 2, ?_, Same.tup s3 ht2, SqT.of hv, g3, g4, hn2, rfl⟩
        rw [show (((z / 2 : Nat)) : Int) = (z : Int) / 2 by omega]
      · intro N hN
        wtm_at "jw"
        refine c_dec (fun ho => ?_) (fun ho => ?_)
        · wtm_at "jw"
          refine ⟨t, u, a, b, c, e, W, P, rfl, ht', hu', g1, g2, fun v H3 x y s3 hv g4 => ?_⟩
          wtm_at "jw"
          exact hN _ _ ⟨s1.trans s3, v, x, y, W + P, rfl, SqT.of hv, Same.tup s3 hu', g4, half_step hn (by omega)⟩
        · wtm_at "jw"
          exact hN _ _ ⟨s1, t, a, b, W, rfl, ht', hu', g1, half_step0 hn (by omega)⟩
    · have hz : z = 0 := by omega
      subst hz
      have i1 := g1.a0
      have i2 := g1.a1
      have hW : W = m.toNat := by omega
      wtm_at "jw"
      rw [g1.does, hW]
      exact q _ s1
/-! ### the law's own -/
def sp__law_hold (K : PySem.W.Frag) : Sp := fun vs H Q _ => ∃ (l n u : Int), vs = [.int l, .int n, .int u] ∧ l ≤ u ∧ ∀ r : Int, l ≤ r → r ≤ u → Q (.int r) H
theorem ok__law_hold {P : Program} {w : World} {K : PySem.W.Frag} {mg : Str → Option Value} {base : Heap} {f : Addr} {fd : FuncData} (F : Df K mg "_law_hold" s__law_hold f fd ["low", "number", "high"]) (T : Txt mg) : FnOk P w K mg base CX0 1 f fd ["low", "number", "high"] (sp__law_hold K) := by
  refine F.ok sc__law_hold (fun vs H Q E h => ?_) (fun cdv A outer s H vs Q E hr h => ?_)
  · obtain ⟨l, n, u, rfl, _⟩ := h
    rfl
  · obtain ⟨l, n, u, rfl, lu, q⟩ := h
    refine ⟨_, (pss_one (ps_ret (pe_callB (id := "min") (c_min2 rfl) (by rfl) T.b_min (by decide +kernel) (pa_cons (pe_callB (id := "max") (c_max2 rfl) (by rfl) T.b_max (by decide +kernel) (pa_cons (pv 1) (pa_cons (pv 0) pa_nil))) (pa_cons (pv 2) pa_nil))))), ?_⟩
    try dsimp only [cxOf, Cx.nox, Cx.wish]
    refine st_of (σ' := [some _, some _, some _]) rfl ?_
    wtm_at "jw"
    refine q _ ?_ ?_
    · split <;> split <;> omega
    · split <;> split <;> omega
def sp__law_same (K : PySem.W.Frag) : Sp := fun vs H Q _ => ∃ (x y : Int), vs = [.int x, .int y] ∧ x = y ∧ Q (.bl true) H
theorem ok__law_same {P : Program} {w : World} {K : PySem.W.Frag} {mg : Str → Option Value} {base : Heap} {f : Addr} {fd : FuncData} (F : Df K mg "_law_same" s__law_same f fd ["told", "due"]) (T : Txt mg)
    (c__law_is_int : Cl P w K mg base 1 "_law_is_int" (sp__law_is_int K)) : FnOk P w K mg base CX0 2 f fd ["told", "due"] (sp__law_same K) := by
  refine F.ok sc__law_same (fun vs H Q E h => ?_) (fun cdv A outer s H vs Q E hr h => ?_)
  · obtain ⟨x, y, rfl, _⟩ := h
    rfl
  · obtain ⟨x, y, rfl, e, q⟩ := h
    refine ⟨_, (pss_one (ps_ret (pe_and (pe_cl c__law_is_int hr (by decide) rfl (pa_cons (pv 0) pa_nil)) (pe_one (pe_cmpR op_eq (pv 0) (pv 1) (nomark _)))))), ?_⟩
    try dsimp only [cxOf, Cx.nox, Cx.wish]
    refine st_of (σ' := [some _, some _]) rfl ?_
    wtm_at "jw"
    refine ⟨x, rfl, ?_⟩
    wtm_at "jw"
    rw [decide_eq_true e]
    exact q
def sp__law_any_number (K : PySem.W.Frag) : Sp := fun vs H Q _ => ∃ (p a : Addr), vs = [.ref p] ∧ DrawAt H p a ∧ ∀ (r : Int) (H' : Hp), 0 ≤ r → r < 32749 → Drew p a H H' → Q (.int r) H'
theorem ok__law_any_number {P : Program} {w : World} {K : PySem.W.Frag} {mg : Str → Option Value} {base : Heap} {f : Addr} {fd : FuncData} (F : Df K mg "_law_any_number" s__law_any_number f fd ["d"]) (T : Txt mg)
    (c__law_draw : Cl P w K mg base 1 "_law_draw" (sp__law_draw K))
    (c__law_pick : Cl P w K mg base 2 "_law_pick" (sp__law_pick K)) : FnOk P w K mg base CX0 3 f fd ["d"] (sp__law_any_number K) := by
  refine F.ok sc__law_any_number (fun vs H Q E h => ?_) (fun cdv A outer s H vs Q E hr h => ?_)
  · obtain ⟨p, a, rfl, _⟩ := h
    rfl
  · obtain ⟨p, a, rfl, hd, k⟩ := h
    refine ⟨_, (pss_cons (ps_set (i := 1) sc__law_any_number.nd rfl (Or.inl rfl) (pe_cl c__law_draw hr (by decide) rfl (pa_cons (pv 0) (pa_cons pe_int pa_nil))))
      (pss_cons (ps_if (pt_cmpR op_eq (pv 1) pe_int (nomark _)) (pss_one (ps_ret (pe_cl c__law_pick hr (by decide) rfl (pa_cons (pv 0) (pa_cons (pe_lst (pa_cons pe_int (pa_cons pe_int (pa_cons pe_int (pa_cons pe_int (pa_cons pe_int (pa_cons pe_int (pa_cons pe_int pa_nil)))))))) pa_nil))))) pss_nil)
      (pss_cons (ps_if (pt_cmpR op_eq (pv 1) pe_int (nomark _)) (pss_one (ps_ret (pe_cl c__law_draw hr (by decide) rfl (pa_cons (pv 0) (pa_cons pe_int pa_nil))))) pss_nil)
      (pss_one (ps_ret (pe_cl c__law_draw hr (by decide) rfl (pa_cons (pv 0) (pa_cons pe_int pa_nil)))))))), ?_⟩
    try dsimp only [cxOf, Cx.nox, Cx.wish]
    refine st_of (σ' := [some _, none]) rfl ?_
    wtm_at "jw"
    refine ⟨p, a, _, rfl, hd, by decide, by decide, fun way H1 w0 w1 d1 => ?_⟩
    wtm_at "jw"
    refine c_dec (fun h => ?_) (fun h => ?_)
    · wtm_at "jw"
      intro q hq
      have d2 := d1.new (o := .lst [V.int 0, V.int 1, V.int 32748, V.int 32747, V.int 28092, V.int 28091, V.int 28093]) hq
      wtm_at "jw"
      refine ⟨p, a, q, _, rfl, d2.at_, .inl ⟨d1.at_.ne_none hq, SqL.of upd_same⟩, by simp, by simp, fun x H3 hx d3 => ?_⟩
      obtain ⟨z, rfl, z0, z1⟩ : ∃ z : Int, x = V.int z ∧ 0 ≤ z ∧ z < 32749 := by
        simp only [List.mem_cons, List.not_mem_nil, or_false] at hx
        rcases hx with h | h | h | h | h | h | h <;> exact ⟨_, h, by omega, by omega⟩
      exact k _ _ z0 z1 (d2.trans d3)
    · wtm_at "jw"
      refine c_dec (fun h => ?_) (fun h => ?_)
      · wtm_at "jw"
        refine ⟨p, a, _, rfl, d1.at_, by decide, by decide, fun r H2 r0 r1 d2 => ?_⟩
        exact k _ _ r0 (by omega) (d1.trans d2)
      · wtm_at "jw"
        refine ⟨p, a, _, rfl, d1.at_, by decide, by decide, fun r H2 r0 r1 d2 => ?_⟩
        exact k _ _ r0 r1 (d1.trans d2)
def sp__law_count (K : PySem.W.Frag) : Sp := fun vs H Q _ => ∃ (p a : Addr) (m : Int), vs = [.ref p, .int m] ∧ DrawAt H p a ∧ 0 ≤ m ∧ ∀ (r : Int) (H' : Hp), 0 ≤ r → r ≤ m → Drew p a H H' → Q (.int r) H'
theorem ok__law_count {P : Program} {w : World} {K : PySem.W.Frag} {mg : Str → Option Value} {base : Heap} {f : Addr} {fd : FuncData} (F : Df K mg "_law_count" s__law_count f fd ["d", "most"]) (T : Txt mg)
    (c__law_draw : Cl P w K mg base 1 "_law_draw" (sp__law_draw K))
    (c__law_hold : Cl P w K mg base 1 "_law_hold" (sp__law_hold K)) : FnOk P w K mg base CX0 2 f fd ["d", "most"] (sp__law_count K) := by
  refine F.ok sc__law_count (fun vs H Q E h => ?_) (fun cdv A outer s H vs Q E hr h => ?_)
  · obtain ⟨p, a, m, rfl, _⟩ := h
    rfl
  · obtain ⟨p, a, m, rfl, hd, hm, k⟩ := h
    refine ⟨_, (pss_cons (ps_set (i := 2) sc__law_count.nd rfl (Or.inl rfl) (pe_cl c__law_draw hr (by decide) rfl (pa_cons (pv 0) (pa_cons pe_int pa_nil))))
      (pss_cons (ps_if (pt_cmpR op_eq (pv 2) pe_int (nomark _)) (pss_one (ps_set (i := 3) sc__law_count.nd rfl (Or.inl rfl) (pe_cl c__law_draw hr (by decide) rfl (pa_cons (pv 0) (pa_cons pe_int pa_nil))))) (pss_one (ps_if (pt_cmpR op_eq (pv 2) pe_int (nomark _)) (pss_one (ps_set (i := 3) sc__law_count.nd rfl (Or.inl rfl) (pe_op op_sub (pe_op op_add (pe_op op_shl pe_int (pe_cl c__law_draw hr (by decide) rfl (pa_cons (pv 0) (pa_cons pe_int pa_nil)))) (pe_cl c__law_draw hr (by decide) rfl (pa_cons (pv 0) (pa_cons pe_int pa_nil)))) pe_int))) (pss_one (ps_if (pt_cmpR op_eq (pv 2) pe_int (nomark _)) (pss_one (ps_set (i := 3) sc__law_count.nd rfl (Or.inl rfl) (pe_op op_sub (pe_op op_add (pe_op op_mul pe_int (pe_cl c__law_draw hr (by decide) rfl (pa_cons (pv 0) (pa_cons pe_int pa_nil)))) (pe_cl c__law_draw hr (by decide) rfl (pa_cons (pv 0) (pa_cons pe_int pa_nil)))) pe_int))) (pss_one (ps_if (pt_cmpR op_eq (pv 2) pe_int (nomark _)) (pss_one (ps_set (i := 3) sc__law_count.nd rfl (Or.inl rfl) (pe_op op_sub (pv 1) (pe_cl c__law_draw hr (by decide) rfl (pa_cons (pv 0) (pa_cons pe_int pa_nil)))))) (pss_one (ps_set (i := 3) sc__law_count.nd rfl (Or.inl rfl) (pe_op op_add (pe_op op_mul pe_int (pe_cl c__law_draw hr (by decide) rfl (pa_cons (pv 0) (pa_cons pe_int pa_nil)))) (pe_cl c__law_draw hr (by decide) rfl (pa_cons (pv 0) (pa_cons pe_int pa_nil)))))))))))))
      (pss_one (ps_ret (pe_cl c__law_hold hr (by decide) rfl (pa_cons pe_int (pa_cons (pv 3) (pa_cons (pv 1) pa_nil)))))))), ?_⟩
    try dsimp only [cxOf, Cx.nox, Cx.wish]
    refine st_of (σ' := [some _, some _, none, none]) rfl ?_
    wtm_at "js"
    refine ⟨p, a, _, rfl, hd, by decide, by decide, fun way H1 w0 w1 d1 => ?_⟩
    wtm_at "js"
    refine i_ifC (fun σ' H2 => Drew p a H H2 ∧ ∃ f : Int, σ' = [some (.ref p), some (.int m), some (.int way), some (.int f)]) ?_ ?_
    · rintro σ' H2 ⟨d2, f, rfl⟩
      wtm_at "jw"
      exact ⟨0, f, m, rfl, hm, fun r r0 r1 => k _ _ r0 r1 d2⟩
    · intro N hN
      wtm_at "jw"
      refine c_dec (fun h => ?_) (fun h => ?_)
      · wtm_at "jw"
        refine ⟨p, a, _, rfl, d1.at_, by decide, by decide, fun r H2 r0 r1 d2 => ?_⟩
        wtm_at "jw"
        exact hN _ _ ⟨d1.trans d2, _, rfl⟩
      · wtm_at "jw"
        refine c_dec (fun h => ?_) (fun h => ?_)
        · wtm_at "jw"
          refine ⟨p, a, _, rfl, d1.at_, by decide, by decide, fun r H2 r0 r1 d2 => ?_⟩
          refine i_rI ⟨r0, by omega, by decide⟩ ?_
          wtm_at "jw"
          refine ⟨p, a, _, rfl, d2.at_, by decide, by decide, fun r' H3 r0' r1' d3 => ?_⟩
          wtm_at "jw"
          exact hN _ _ ⟨(d1.trans d2).trans d3, _, rfl⟩
        · wtm_at "jw"
          refine c_dec (fun h => ?_) (fun h => ?_)
          · wtm_at "jw"
            refine ⟨p, a, _, rfl, d1.at_, by decide, by decide, fun r H2 r0 r1 d2 => ?_⟩
            wtm_at "jw"
            refine ⟨p, a, _, rfl, d2.at_, by decide, by decide, fun r' H3 r0' r1' d3 => ?_⟩
            wtm_at "jw"
            exact hN _ _ ⟨(d1.trans d2).trans d3, _, rfl⟩
          · wtm_at "jw"
            refine c_dec (fun h => ?_) (fun h => ?_)
            · wtm_at "jw"
              refine ⟨p, a, _, rfl, d1.at_, by decide, by decide, fun r H2 r0 r1 d2 => ?_⟩
              wtm_at "jw"
              exact hN _ _ ⟨d1.trans d2, _, rfl⟩
            · wtm_at "jw"
              refine ⟨p, a, _, rfl, d1.at_, by decide, by decide, fun r H2 r0 r1 d2 => ?_⟩
              wtm_at "jw"
              refine ⟨p, a, _, rfl, d2.at_, by decide, by decide, fun r' H3 r0' r1' d3 => ?_⟩
              wtm_at "jw"
              exact hN _ _ ⟨(d1.trans d2).trans d3, _, rfl⟩
structure Pw (a : Int) (n : Nat) : Prop where
  a0 : 0 ≤ a
  a1 : a < 32749
  ga : ∃ k, a = 219 ^ n + 32749 * k
theorem Pw.mul {a b : Int} {n m : Nat} (x : Pw a n) (y : Pw b m) : Pw (a * b % 32749) (n + m) := by
  obtain ⟨k, hk⟩ := x.ga
  obtain ⟨k2, hk2⟩ := y.ga
  obtain ⟨u, hu⟩ := mod_is (a * b)
  refine ⟨by omega, by omega, ?_⟩
  rw [hu, Int.pow_add]
  generalize (219 : Int) ^ n = g at *
  generalize (219 : Int) ^ m = h at *
  exact ⟨g * k2 + k * h + 32749 * k * k2 + u, by rw [hk, hk2]; grind⟩
def sp__law_power (K : PySem.W.Frag) : Sp := fun vs H Q _ => ∃ (m : Int), vs = [.int m] ∧ 0 ≤ m ∧ m ≤ 1000000000 ∧ ∀ a : Int, Pw a m.toNat → Q (.int a) H
theorem ok__law_power {P : Program} {w : World} {K : PySem.W.Frag} {mg : Str → Option Value} {base : Heap} {f : Addr} {fd : FuncData} (F : Df K mg "_law_power" s__law_power f fd ["many"]) (T : Txt mg) : FnOk P w K mg base CX0 1 f fd ["many"] (sp__law_power K) := by
  refine F.ok sc__law_power (fun vs H Q E h => ?_) (fun cdv A outer s H vs Q E hr h => ?_)
  · obtain ⟨m, rfl, _⟩ := h
    rfl
  · obtain ⟨m, rfl, m0, m1, q⟩ := h
    refine ⟨_, (pss_cons (ps_set (i := 1) sc__law_power.nd rfl (Or.inl rfl) pe_int)
      (pss_cons (ps_set (i := 2) sc__law_power.nd rfl (Or.inl rfl) pe_int)
      (pss_cons (ps_set (i := 3) sc__law_power.nd rfl (Or.inl rfl) (pv 0))
      (pss_cons (ps_for PassesOwn.never rfl (pi_range1 rfl T.b_range (pa_cons pe_int pa_nil)) (pg_name (i := 4) sc__law_power.nd rfl (Or.inl rfl)) (pss_cons (ps_if (pt_cmpR op_eq (pe_op op_mod (pe_callTy (T := "int") c_int (by rfl) T.b_int (by decide +kernel) (pa_cons (pv 3) pa_nil)) pe_int) pe_int (nomark _)) (pss_one (ps_set (i := 1) sc__law_power.nd rfl (Or.inl rfl) (pe_op op_mod (pe_callTy (T := "int") c_int (by rfl) T.b_int (by decide +kernel) (pa_cons (pe_op op_mul (pv 1) (pv 2)) pa_nil)) pe_int))) pss_nil)
      (pss_cons (ps_set (i := 2) sc__law_power.nd rfl (Or.inl rfl) (pe_op op_mod (pe_callTy (T := "int") c_int (by rfl) T.b_int (by decide +kernel) (pa_cons (pe_op op_mul (pv 2) (pv 2)) pa_nil)) pe_int))
      (pss_one (ps_set (i := 3) sc__law_power.nd rfl (Or.inl rfl) (pe_op op_fdiv (pv 3) pe_int))))))
      (pss_one (ps_ret (pv 1))))))), ?_⟩
    try dsimp only [cxOf, Cx.nox, Cx.wish]
    refine st_of (σ' := [some _, none, none, none, none]) rfl ?_
    wtm_at "jw"
    refine f_range (fun i σ H' => H' = H ∧ ∃ (f b : Int) (W P R : Nat) (v : Option V), σ = [some (.int m), some (.int f), some (.int b), some (.int R), v] ∧ Pw f W ∧ Pw b P ∧ W + R * P = m.toNat ∧ R = m.toNat / 2 ^ i)
      ⟨rfl, 1, 219, 0, 1, m.toNat, none, by rw [Int.toNat_of_nonneg m0], ⟨by decide, by decide, 0, by decide⟩, ⟨by decide, by decide, 0, by decide⟩, by omega, by simp⟩ (fun i σ H' hi h => ?_) (fun σ H' h => ?_)
    · obtain ⟨rfl, f, b, W, P, R, v, rfl, g1, g2, hn, hR⟩ := h
      have f0 := g1.a0
      have f1 := g1.a1
      have b0 := g2.a0
      have b1 := g2.a1
      have hR2 : R / 2 = m.toNat / 2 ^ (i + 1) := by rw [hR, Nat.div_div_eq_div_mul, Nat.pow_succ]
      wtm_at "js"
      refine i_ifC (fun σ' H2 => H2 = H' ∧ ∃ (f : Int) (W : Nat), σ' = [some (.int m), some (.int f), some (.int b), some (.int R), some (.int (0 + (i : Int)))] ∧ Pw f W ∧ W + R / 2 * (P + P) = m.toNat) ?_ ?_
      · rintro σ' H2 ⟨rfl, f, W, rfl, g3, hn3⟩
        wtm_at "jw"
        refine ⟨rfl, f, _, W, P + P, R / 2, some (.int (0 + (i : Int))), ?_, g3, g2.mul g2, hn3, hR2⟩
        rw [show (((R / 2 : Nat)) : Int) = (R : Int) / 2 by omega]
      · intro N hN
        wtm_at "jw"
        refine c_dec (fun ho => ?_) (fun ho => ?_)
        · wtm_at "jw"
          exact hN _ _ ⟨rfl, _, W + P, rfl, g1.mul g2, half_step hn (by omega)⟩
        · wtm_at "jw"
          exact hN _ _ ⟨rfl, f, W, rfl, g1, half_step0 hn (by omega)⟩
    · obtain ⟨rfl, f, b, W, P, R, v, rfl, g1, g2, hn, hR⟩ := h
      have h0 : R = 0 := by
        rw [hR]
        exact Nat.div_eq_of_lt (by show m.toNat < 2 ^ Int.toNat 30; rw [show (2 : Nat) ^ Int.toNat 30 = 1073741824 by decide]; omega)
      subst h0
      have hW : W = m.toNat := by omega
      wtm_at "jw"
      rw [hW] at g1
      exact q _ g1
def sp__law_behind (K : PySem.W.Frag) : Sp := fun vs H Q _ => ∃ (r m : Int), vs = [.int r, .int m] ∧ 0 ≤ r ∧ r < 32749 ∧ 0 ≤ m ∧ m ≤ 1000000000 ∧ Q (.int (bh r m.toNat)) H
theorem ok__law_behind {P : Program} {w : World} {K : PySem.W.Frag} {mg : Str → Option Value} {base : Heap} {f : Addr} {fd : FuncData} (F : Df K mg "_law_behind" s__law_behind f fd ["number", "many"]) (T : Txt mg)
    (c__law_power : Cl P w K mg base 1 "_law_power" (sp__law_power K)) : FnOk P w K mg base CX0 2 f fd ["number", "many"] (sp__law_behind K) := by
  refine F.ok sc__law_behind (fun vs H Q E h => ?_) (fun cdv A outer s H vs Q E hr h => ?_)
  · obtain ⟨r, m, rfl, _⟩ := h
    rfl
  · obtain ⟨r, m, rfl, r0, r1, m0, m1, q⟩ := h
    refine ⟨_, (pss_one (ps_ret (pe_op op_mod (pe_callTy (T := "int") c_int (by rfl) T.b_int (by decide +kernel) (pa_cons (pe_op op_add pe_int (pe_op op_mul (pe_op op_sub (pv 0) pe_int) (pe_cl c__law_power hr (by decide) rfl (pa_cons (pv 1) pa_nil)))) pa_nil)) pe_int))), ?_⟩
    try dsimp only [cxOf, Cx.nox, Cx.wish]
    refine st_of (σ' := [some _, some _]) rfl ?_
    wtm_at "jw"
    refine ⟨m, rfl, m0, m1, fun a g => ?_⟩
    wtm_at "jw"
    obtain ⟨k, hk⟩ := g.ga
    have e : (28092 + (r - 28092) * a) % 32749 = bh r m.toNat := by
      unfold bh
      exact mod_of (k := (r - 28092) * k) (by rw [hk]; grind)
    rw [e]
    exact q
def sp__law_is_draw (K : PySem.W.Frag) : Sp := fun vs H Q _ => ∃ (r m : Int), vs = [.int (r * m / 32749), .int r, .int m] ∧ 0 ≤ r ∧ r < 32749 ∧ 0 < m ∧ m ≤ 64 ∧ Q (.bl true) H
theorem ok__law_is_draw {P : Program} {w : World} {K : PySem.W.Frag} {mg : Str → Option Value} {base : Heap} {f : Addr} {fd : FuncData} (F : Df K mg "_law_is_draw" s__law_is_draw f fd ["told", "number", "many"]) (T : Txt mg)
    (c__law_is_int : Cl P w K mg base 1 "_law_is_int" (sp__law_is_int K)) : FnOk P w K mg base CX0 2 f fd ["told", "number", "many"] (sp__law_is_draw K) := by
  refine F.ok sc__law_is_draw (fun vs H Q E h => ?_) (fun cdv A outer s H vs Q E hr h => ?_)
  · obtain ⟨r, m, rfl, _⟩ := h
    rfl
  · obtain ⟨r, m, rfl, r0, r1, m0, m1, q⟩ := h
    refine ⟨_, (pss_cons (ps_if (PW.pt (pw_or (pt_not (pt_val (pe_cl c__law_is_int hr (by decide) rfl (pa_cons (pv 0) pa_nil)))) (pw_or1 (pt_not (pt_chain op_le op_lt pe_int (pv 0) (pv 2)))))) (pss_one (ps_ret pe_bl)) pss_nil)
      (pss_one (ps_ret (pe_chain op_le op_lt (pe_op op_mul (pv 0) pe_int) (pe_op op_mul (pv 1) (pv 2)) (pe_op op_mul (pe_op op_add (pv 0) pe_int) pe_int))))), ?_⟩
    try dsimp only [cxOf, Cx.nox, Cx.wish]
    refine st_of (σ' := [some _, some _, some _]) rfl ?_
    have t0 : 0 ≤ r * m / 32749 := Int.ediv_nonneg (Int.mul_nonneg r0 (by omega)) (by decide)
    have t1 : r * m / 32749 < m := by
      refine Int.ediv_lt_of_lt_mul (by decide) ?_
      rw [Int.mul_comm]
      exact Int.mul_lt_mul_of_pos_left r1 m0
    generalize hg : r * m / 32749 = told at *
    wtm_at "jw"
    refine ⟨told, rfl, ?_⟩
    wtm_at "jw"
    refine c_yes t0 ?_
    wtm_at "jw"
    rw [decide_eq_true t1]
    wtm_at "jw"
    refine c_yes (by omega) ?_
    wtm_at "jw"
    rw [decide_eq_true (by omega)]
    exact q
def sp__law_is_chain (K : PySem.W.Frag) : Sp := fun vs H Q _ => ∃ (r n : Int), vs = [.int r, .int n] ∧ 0 ≤ r ∧ r < 32749 ∧ 0 ≤ n ∧ n ≤ 100 ∧ ∀ H', Same H H' → Q (.bl true) H'
theorem ok__law_is_chain {P : Program} {w : World} {K : PySem.W.Frag} {mg : Str → Option Value} {base : Heap} {f : Addr} {fd : FuncData} (F : Df K mg "_law_is_chain" s__law_is_chain f fd ["r", "size"]) (T : Txt mg)
    (c__law_same : Cl P w K mg base 2 "_law_same" (sp__law_same K))
    (c_ahead : Cl P w K mg base 2 "ahead" (sp_ahead K))
    (c__law_is_draw : Cl P w K mg base 2 "_law_is_draw" (sp__law_is_draw K))
    (c_next_draw : Cl P w K mg base 1 "next_draw" (sp_next_draw K))
    (c_drawn : Cl P w K mg base 1 "drawn" (sp_drawn K)) : FnOk P w K mg base CX0 3 f fd ["r", "size"] (sp__law_is_chain K) := by
  refine F.ok sc__law_is_chain (fun vs H Q E h => ?_) (fun cdv A outer s H vs Q E hr h => ?_)
  · obtain ⟨r, m, rfl, _⟩ := h
    rfl
  · obtain ⟨r, n, rfl, r0, r1, n0, n1, q⟩ := h
    refine ⟨_, (pss_cons (ps_set (i := 2) sc__law_is_chain.nd rfl (Or.inl rfl) (pv 0))
      (pss_cons (ps_for PassesOwn.never rfl (pi_range1 rfl T.b_range (pa_cons (pv 1) pa_nil)) (pg_name (i := 3) sc__law_is_chain.nd rfl (Or.inl rfl)) (pss_cons (ps_if (pt_not (pt_val (pe_cl c__law_same hr (by decide) rfl (pa_cons (pe_cl c_ahead hr (by decide) rfl (pa_cons (pv 0) (pa_cons (pv 3) pa_nil))) (pa_cons (pv 2) pa_nil))))) (pss_one (ps_ret pe_bl)) pss_nil)
      (pss_cons (ps_for PassesOwn.never rfl (pi_range2 rfl T.b_range (pa_cons pe_int (pa_cons pe_int pa_nil))) (pg_name (i := 4) sc__law_is_chain.nd rfl (Or.inl rfl)) (pss_one (ps_if (pt_not (pt_val (pe_cl c__law_is_draw hr (by decide) rfl (pa_cons (pe_cl c_drawn hr (by decide) rfl (pa_cons (pv 2) (pa_cons (pv 4) pa_nil))) (pa_cons (pv 2) (pa_cons (pv 4) pa_nil)))))) (pss_one (ps_ret pe_bl)) pss_nil)))
      (pss_cons (ps_set (i := 5) sc__law_is_chain.nd rfl (Or.inl rfl) (pe_op op_mod (pe_callTy (T := "int") c_int (by rfl) T.b_int (by decide +kernel) (pa_cons (pe_op op_add (pe_op op_mul pe_int (pv 2)) pe_int) pa_nil)) pe_int))
      (pss_cons (ps_if (pt_not (pt_val (pe_cl c__law_same hr (by decide) rfl (pa_cons (pe_cl c_next_draw hr (by decide) rfl (pa_cons (pv 2) pa_nil)) (pa_cons (pv 5) pa_nil))))) (pss_one (ps_ret pe_bl)) pss_nil)
      (pss_one (ps_set (i := 2) sc__law_is_chain.nd rfl (Or.inl rfl) (pv 5))))))))
      (pss_one (ps_ret pe_bl)))), ?_⟩
    try dsimp only [cxOf, Cx.nox, Cx.wish]
    refine st_of (σ' := [some _, some _, none, none, none, none]) rfl ?_
    wtm_at "jw"
    refine f_range (fun i σ H' => Same H H' ∧ ∃ (v1 v2 v3 : Option V), σ = [some (.int r), some (.int n), some (.int (bh r i)), v1, v2, v3]) ⟨Same.refl _, none, none, none, by rw [bh_zero r0 r1]⟩ (fun i σ H' hi h => ?_) (fun σ H' h => ?_)
    · obtain ⟨s1, v1, v2, v3, rfl⟩ := h
      have b := bh_lt r i
      wtm_at "jw"
      refine ⟨r, _, rfl, r0, r1, by omega, fun H2 s2 => ?_⟩
      wtm_at "jw"
      refine ⟨_, _, rfl, by rw [show (0 + (i : Int)).toNat = i by omega], ?_⟩
      wtm_at "jw"
      refine f_range (fun j σ H3 => H3 = H2 ∧ ∃ (v2 : Option V), σ = [some (.int r), some (.int n), some (.int (bh r i)), some (.int (0 + (i : Int))), v2, v3]) ⟨rfl, v2, rfl⟩ (fun j σ H3 hj h => ?_) (fun σ H3 h => ?_)
      · obtain ⟨rfl, v2, rfl⟩ := h
        have hj' : j < 64 := hj
        wtm_at "jw"
        refine ⟨bh r i, _, rfl, by omega, by omega, ?_⟩
        wtm_at "jw"
        refine ⟨bh r i, _, rfl, b.1, b.2, by omega, by omega, ?_⟩
        wtm_at "jw"
        exact ⟨rfl, _, rfl⟩
      · obtain ⟨rfl, v2, rfl⟩ := h
        wtm_at "jw"
        refine ⟨_, rfl, ?_⟩
        wtm_at "jw"
        refine ⟨_, _, rfl, rfl, ?_⟩
        wtm_at "jw"
        rw [bh_next]
        exact ⟨s1.trans s2, _, _, _, rfl⟩
    · obtain ⟨s1, v1, v2, v3, rfl⟩ := h
      wtm_at "jw"
      exact q _ s1
theorem edges : ∀ m : Nat, m < 65 → ∀ p : Nat, p < m → ((p * 32749 + m - 1) / m) * m / 32749 = p ∧ (p = 0 ∨ 0 < (p * 32749 + m - 1) / m ∧ (((p * 32749 + m - 1) / m) - 1) * m / 32749 = p - 1) := by decide +kernel
def sp__law_is_edge (K : PySem.W.Frag) : Sp := fun vs H Q _ => ∃ (m p : Int), vs = [.int m, .int p] ∧ 0 < m ∧ m ≤ 64 ∧ 0 ≤ p ∧ p < m ∧ Q (.bl true) H
theorem ok__law_is_edge {P : Program} {w : World} {K : PySem.W.Frag} {mg : Str → Option Value} {base : Heap} {f : Addr} {fd : FuncData} (F : Df K mg "_law_is_edge" s__law_is_edge f fd ["many", "place"]) (T : Txt mg)
    (c__law_same : Cl P w K mg base 2 "_law_same" (sp__law_same K))
    (c_drawn : Cl P w K mg base 1 "drawn" (sp_drawn K)) : FnOk P w K mg base CX0 3 f fd ["many", "place"] (sp__law_is_edge K) := by
  refine F.ok sc__law_is_edge (fun vs H Q E h => ?_) (fun cdv A outer s H vs Q E hr h => ?_)
  · obtain ⟨r, m, rfl, _⟩ := h
    rfl
  · obtain ⟨m, p, rfl, m0, m1, p0, p1, q⟩ := h
    obtain ⟨M, rfl⟩ : ∃ M : Nat, m = M := ⟨m.toNat, by omega⟩
    obtain ⟨P', rfl⟩ : ∃ M : Nat, p = M := ⟨p.toNat, by omega⟩
    obtain ⟨e1, e2⟩ := edges M (by omega) P' (by omega)
    refine ⟨_, (pss_cons (ps_set (i := 2) sc__law_is_edge.nd rfl (Or.inl rfl) (pe_op op_fdiv (pe_op op_sub (pe_op op_add (pe_op op_mul (pv 1) pe_int) (pv 0)) pe_int) (pv 0)))
      (pss_cons (ps_if (pt_not (pt_val (pe_cl c__law_same hr (by decide) rfl (pa_cons (pe_cl c_drawn hr (by decide) rfl (pa_cons (pv 2) (pa_cons (pv 0) pa_nil))) (pa_cons (pv 1) pa_nil))))) (pss_one (ps_ret pe_bl)) pss_nil)
      (pss_one (ps_ret (pe_or (pe_cmpR op_eq (pv 1) pe_int (nomark _)) (pe_one (pe_cl c__law_same hr (by decide) rfl (pa_cons (pe_cl c_drawn hr (by decide) rfl (pa_cons (pe_op op_sub (pv 2) pe_int) (pa_cons (pv 0) pa_nil))) (pa_cons (pe_op op_sub (pv 1) pe_int) pa_nil))))))))), ?_⟩
    try dsimp only [cxOf, Cx.nox, Cx.wish]
    refine st_of (σ' := [some _, some _, none]) rfl ?_
    have en : ((P' : Int) * 32749 + (M : Int) - 1) / (M : Int) = (((P' * 32749 + M - 1) / M : Nat) : Int) := by
      rw [Int.natCast_ediv]
      congr 1
      omega
    generalize hG : (P' * 32749 + M - 1) / M = G at *
    wtm_at "jw"
    rw [en]
    refine ⟨_, _, rfl, by omega, by omega, ?_⟩
    have c1 : (G : Int) * (M : Int) / 32749 = (P' : Int) := by
      rw [← Int.natCast_mul]
      have := e1
      omega
    wtm_at "jw"
    refine ⟨_, _, rfl, c1, ?_⟩
    wtm_at "jw"
    refine c_dec (fun hz => ?_) (fun hz => ?_)
    · wtm_at "jw"
      exact q
    · rcases e2 with e2 | ⟨e2, e3⟩
      · exact absurd (by omega) hz
      wtm_at "jw"
      refine ⟨_, _, rfl, by omega, by omega, ?_⟩
      have c2 : ((G : Int) - 1) * (M : Int) / 32749 = (P' : Int) - 1 := by
        rw [show (G : Int) - 1 = ((G - 1 : Nat) : Int) by omega, ← Int.natCast_mul]
        omega
      wtm_at "jw"
      exact ⟨_, _, rfl, c2, q⟩
def sp__law_is_way (K : PySem.W.Frag) : Sp := fun vs H Q _ => ∃ (r a b : Int), vs = [.int r, .int a, .int b] ∧ 0 ≤ r ∧ r < 32749 ∧ 0 ≤ a ∧ 0 ≤ b ∧ a + b ≤ 1000000000 ∧ ∀ H', Same H H' → Q (.bl true) H'
theorem ok__law_is_way {P : Program} {w : World} {K : PySem.W.Frag} {mg : Str → Option Value} {base : Heap} {f : Addr} {fd : FuncData} (F : Df K mg "_law_is_way" s__law_is_way f fd ["r", "one", "two"]) (T : Txt mg)
    (c_ahead : Cl P w K mg base 2 "ahead" (sp_ahead K))
    (c__law_behind : Cl P w K mg base 2 "_law_behind" (sp__law_behind K))
    (c_next_draw : Cl P w K mg base 1 "next_draw" (sp_next_draw K))
    (c__law_same : Cl P w K mg base 2 "_law_same" (sp__law_same K)) : FnOk P w K mg base CX0 3 f fd ["r", "one", "two"] (sp__law_is_way K) := by
  refine F.ok sc__law_is_way (fun vs H Q E h => ?_) (fun cdv A outer s H vs Q E hr h => ?_)
  · obtain ⟨r, a, b, rfl, _⟩ := h
    rfl
  · obtain ⟨r, a, b, rfl, r0, r1, a0, b0, ab, q⟩ := h
    refine ⟨_, (pss_cons (ps_set (i := 3) sc__law_is_way.nd rfl (Or.inl rfl) (pe_cl c_ahead hr (by decide) rfl (pa_cons (pv 0) (pa_cons (pv 1) pa_nil))))
      (pss_cons (ps_if (pt_not (pt_val (pe_cl c__law_same hr (by decide) rfl (pa_cons (pv 3) (pa_cons (pe_cl c__law_behind hr (by decide) rfl (pa_cons (pv 0) (pa_cons (pv 1) pa_nil))) pa_nil))))) (pss_one (ps_ret pe_bl)) pss_nil)
      (pss_cons (ps_set (i := 4) sc__law_is_way.nd rfl (Or.inl rfl) (pe_cl c__law_behind hr (by decide) rfl (pa_cons (pv 0) (pa_cons (pe_op op_add (pv 1) (pv 2)) pa_nil))))
      (pss_cons (ps_if (PW.pt (pw_or (pt_not (pt_val (pe_cl c__law_same hr (by decide) rfl (pa_cons (pe_cl c_ahead hr (by decide) rfl (pa_cons (pv 0) (pa_cons (pe_op op_add (pv 1) (pv 2)) pa_nil))) (pa_cons (pv 4) pa_nil))))) (pw_or1 (pt_not (pt_val (pe_cl c__law_same hr (by decide) rfl (pa_cons (pe_cl c_ahead hr (by decide) rfl (pa_cons (pv 3) (pa_cons (pv 2) pa_nil))) (pa_cons (pv 4) pa_nil)))))))) (pss_one (ps_ret pe_bl)) pss_nil)
      (pss_cons (ps_set (i := 5) sc__law_is_way.nd rfl (Or.inl rfl) (pe_cl c_ahead hr (by decide) rfl (pa_cons (pv 0) (pa_cons (pv 2) pa_nil))))
      (pss_cons (ps_if (PW.pt (pw_or (pt_not (pt_val (pe_cl c__law_same hr (by decide) rfl (pa_cons (pv 5) (pa_cons (pe_cl c__law_behind hr (by decide) rfl (pa_cons (pv 0) (pa_cons (pv 2) pa_nil))) pa_nil))))) (pw_or1 (pt_not (pt_val (pe_cl c__law_same hr (by decide) rfl (pa_cons (pe_cl c_ahead hr (by decide) rfl (pa_cons (pv 5) (pa_cons (pv 1) pa_nil))) (pa_cons (pv 4) pa_nil)))))))) (pss_one (ps_ret pe_bl)) pss_nil)
      (pss_cons (ps_set (i := 6) sc__law_is_way.nd rfl (Or.inl rfl) (pe_cl c_next_draw hr (by decide) rfl (pa_cons (pv 3) pa_nil)))
      (pss_cons (ps_if (pt_not (pt_val (pe_cl c__law_same hr (by decide) rfl (pa_cons (pv 6) (pa_cons (pe_op op_mod (pe_callTy (T := "int") c_int (by rfl) T.b_int (by decide +kernel) (pa_cons (pe_op op_add (pe_op op_mul pe_int (pv 3)) pe_int) pa_nil)) pe_int) pa_nil))))) (pss_one (ps_ret pe_bl)) pss_nil)
      (pss_one (ps_ret (pe_cl c__law_same hr (by decide) rfl (pa_cons (pe_cl c_ahead hr (by decide) rfl (pa_cons (pe_cl c_next_draw hr (by decide) rfl (pa_cons (pv 0) pa_nil)) (pa_cons (pv 1) pa_nil))) (pa_cons (pv 6) pa_nil))))))))))))), ?_⟩
    try dsimp only [cxOf, Cx.nox, Cx.wish]
    refine st_of (σ' := [some _, some _, some _, none, none, none, none]) rfl ?_
    have f := bh_lt r a.toNat
    have g := bh_lt r b.toNat
    have eab : (a + b).toNat = a.toNat + b.toNat := by omega
    wtm_at "jw"
    refine ⟨r, a, rfl, r0, r1, a0, fun H1 s1 => ?_⟩
    wtm_at "jw"
    refine ⟨r, a, rfl, r0, r1, a0, by omega, ?_⟩
    wtm_at "jw"
    refine ⟨_, _, rfl, rfl, ?_⟩
    wtm_at "jw"
    refine ⟨r, _, rfl, r0, r1, by omega, by omega, ?_⟩
    wtm_at "jw"
    refine ⟨r, _, rfl, r0, r1, by omega, fun H2 s2 => ?_⟩
    wtm_at "jw"
    refine ⟨_, _, rfl, rfl, ?_⟩
    wtm_at "jw"
    refine ⟨_, b, rfl, f.1, f.2, b0, fun H3 s3 => ?_⟩
    wtm_at "jw"
    refine ⟨_, _, rfl, by rw [bh_add, eab], ?_⟩
    wtm_at "jw"
    refine ⟨r, b, rfl, r0, r1, b0, fun H4 s4 => ?_⟩
    wtm_at "jw"
    refine ⟨r, b, rfl, r0, r1, b0, by omega, ?_⟩
    wtm_at "jw"
    refine ⟨_, _, rfl, rfl, ?_⟩
    wtm_at "jw"
    refine ⟨_, a, rfl, g.1, g.2, a0, fun H5 s5 => ?_⟩
    wtm_at "jw"
    refine ⟨_, _, rfl, by rw [bh_add, eab, Nat.add_comm], ?_⟩
    wtm_at "jw"
    refine ⟨_, rfl, ?_⟩
    wtm_at "jw"
    refine ⟨_, _, rfl, rfl, ?_⟩
    wtm_at "jw"
    refine ⟨_, rfl, ?_⟩
    wtm_at "jw"
    have hn := Int.emod_nonneg (219 * r + 7) (show (32749 : Int) ≠ 0 by decide)
    have hl := Int.emod_lt_of_pos (219 * r + 7) (show (0 : Int) < 32749 by decide)
    refine ⟨_, a, rfl, hn, hl, a0, fun H6 s6 => ?_⟩
    wtm_at "jw"
    refine ⟨_, _, rfl, ?_, q _ (((((s1.trans s2).trans s3).trans s4).trans s5).trans s6)⟩
    have e0 : (219 * r + 7) % 32749 = bh r 1 := by
      have := bh_next r 0
      rw [bh_zero r0 r1] at this
      exact this
    rw [e0, bh_add, bh_next, Nat.add_comm]
theorem round : (219 : Nat) ^ 32748 % 32749 = 1 := by decide +kernel
theorem bh_round {r : Int} (h0 : 0 ≤ r) (h1 : r < 32749) : bh r 32748 = r := by
  unfold bh
  have e : (219 : Int) ^ 32748 = 1 + 32749 * (((219 : Nat) ^ 32748 / 32749 : Nat) : Int) := by
    have h := Nat.div_add_mod (219 ^ 32748) 32749
    rw [round] at h
    have h2 := congrArg (fun n : Nat => (n : Int)) h
    simp only [Int.natCast_add, Int.natCast_mul, Int.natCast_pow] at h2
    omega
  rw [e]
  generalize (((219 : Nat) ^ 32748 / 32749 : Nat) : Int) = z
  rw [mod_of (a := 28092 + (r - 28092) * (1 + 32749 * z)) (b := r) (k := (r - 28092) * z) (by grind)]
  omega
def sp_law (K : PySem.W.Frag) : Sp := fun vs H Q _ => ∃ (a : Addr) (ns : List Int), vs = [.ref a] ∧ SqL K H a (ns.map V.int) ∧ ns.length ≤ 63 ∧ ∀ H', Q (.bl true) H'
theorem ok_law {P : Program} {w : World} {K : PySem.W.Frag} {mg : Str → Option Value} {base : Heap} {f : Addr} {fd : FuncData} (F : Df K mg "law" s_law f fd ["script"]) (T : Txt mg)
    (c__law_begin : Cl P w K mg base 1 "_law_begin" (sp__law_begin K))
    (c__law_any_number : Cl P w K mg base 3 "_law_any_number" (sp__law_any_number K))
    (c__law_count : Cl P w K mg base 2 "_law_count" (sp__law_count K))
    (c__law_is_chain : Cl P w K mg base 3 "_law_is_chain" (sp__law_is_chain K))
    (c__law_same : Cl P w K mg base 2 "_law_same" (sp__law_same K))
    (c__law_is_way : Cl P w K mg base 3 "_law_is_way" (sp__law_is_way K))
    (c__law_draw : Cl P w K mg base 1 "_law_draw" (sp__law_draw K))
    (c__law_is_edge : Cl P w K mg base 3 "_law_is_edge" (sp__law_is_edge K))
    (c_ahead : Cl P w K mg base 2 "ahead" (sp_ahead K)) : FnOk P w K mg base CX0 4 f fd ["script"] (sp_law K) := by
  refine F.ok sc_law (fun vs H Q E h => ?_) (fun cdv A outer s H vs Q E hr h => ?_)
  · obtain ⟨a, ns, rfl, _⟩ := h
    rfl
  · obtain ⟨a, ns, rfl, hs, hl, k⟩ := h
    refine ⟨_, (pss_cons (ps_set (i := 1) sc_law.nd rfl (Or.inl rfl) (pe_cl c__law_begin hr (by decide) rfl (pa_cons (pv 0) pa_nil)))
      (pss_cons (ps_set (i := 2) sc_law.nd rfl (Or.inl rfl) (pe_cl c__law_any_number hr (by decide) rfl (pa_cons (pv 1) pa_nil)))
      (pss_cons (ps_if (pt_not (pt_val (pe_cl c__law_is_chain hr (by decide) rfl (pa_cons (pv 2) (pa_cons (pe_op op_add pe_int (pe_cl c__law_draw hr (by decide) rfl (pa_cons (pv 1) (pa_cons pe_int pa_nil)))) pa_nil))))) (pss_one (ps_ret pe_bl)) pss_nil)
      (pss_cons (ps_for PassesOwn.never rfl (pi_range1 rfl T.b_range (pa_cons pe_int pa_nil)) (pg_name (i := 3) sc_law.nd rfl (Or.inl rfl)) (pss_cons (ps_set (i := 4) sc_law.nd rfl (Or.inl rfl) (pe_op op_add pe_int (pe_cl c__law_draw hr (by decide) rfl (pa_cons (pv 1) (pa_cons pe_int pa_nil)))))
      (pss_one (ps_if (pt_not (pt_val (pe_cl c__law_is_edge hr (by decide) rfl (pa_cons (pv 4) (pa_cons (pe_cl c__law_draw hr (by decide) rfl (pa_cons (pv 1) (pa_cons (pv 4) pa_nil))) pa_nil))))) (pss_one (ps_ret pe_bl)) pss_nil))))
      (pss_cons (ps_set (i := 5) sc_law.nd rfl (Or.inl rfl) (pe_cl c__law_count hr (by decide) rfl (pa_cons (pv 1) (pa_cons (pe_op op_pow pe_int pe_int) pa_nil))))
      (pss_cons (ps_set (i := 6) sc_law.nd rfl (Or.inl rfl) (pe_cl c__law_count hr (by decide) rfl (pa_cons (pv 1) (pa_cons (pe_op op_sub (pe_op op_pow pe_int pe_int) (pv 5)) pa_nil))))
      (pss_cons (ps_if (PW.pt (pw_or (pt_not (pt_val (pe_cl c__law_is_way hr (by decide) rfl (pa_cons (pv 2) (pa_cons (pv 5) (pa_cons (pv 6) pa_nil)))))) (pw_or1 (pt_not (pt_val (pe_cl c__law_is_way hr (by decide) rfl (pa_cons (pe_cl c__law_any_number hr (by decide) rfl (pa_cons (pv 1) pa_nil)) (pa_cons (pv 6) (pa_cons (pv 5) pa_nil))))))))) (pss_one (ps_ret pe_bl)) pss_nil)
      (pss_one (ps_ret (pe_and (pe_cl c__law_same hr (by decide) rfl (pa_cons (pe_cl c_ahead hr (by decide) rfl (pa_cons (pv 2) (pa_cons pe_int pa_nil))) (pa_cons (pv 2) pa_nil))) (pe_and (pe_cl c__law_same hr (by decide) rfl (pa_cons (pe_cl c_ahead hr (by decide) rfl (pa_cons (pv 2) (pa_cons pe_int pa_nil))) (pa_cons (pv 2) pa_nil))) (pe_one (pe_cl c__law_is_way hr (by decide) rfl (pa_cons (pv 2) (pa_cons (pv 5) (pa_cons (pv 6) pa_nil)))))))))))))))), ?_⟩
    try dsimp only [cxOf, Cx.nox, Cx.wish]
    refine st_of (σ' := [some _, none, none, none, none, none, none]) rfl ?_
    wtm_at "jw"
    refine ⟨a, ns, rfl, hs, hl, fun p c H1 s1 p0 c0 dr => ?_⟩
    wtm_at "jw"
    refine ⟨p, c, rfl, dr, fun r H2 r0 r1 w2 => ?_⟩
    wtm_at "jw"
    refine ⟨p, c, _, rfl, w2.at_, by decide, by decide, fun r3 H3 r30 r31 w3 => ?_⟩
    wtm_at "jw"
    refine ⟨r, _, rfl, r0, r1, by omega, by omega, fun H4 s4 => ?_⟩
    wtm_at "jw"
    refine f_range (fun i σ H' => ∃ (v1 v2 v3 v4 : Option V), σ = [some (.ref a), some (.ref p), some (.int r), v1, v2, v3, v4] ∧ DrawAt H' p c) ⟨none, none, none, none, rfl, w3.at_.same s4⟩ (fun i σ H' hi h => ?_) (fun σ H' h => ?_)
    · obtain ⟨v1, v2, v3, v4, rfl, d1⟩ := h
      wtm_at "jw"
      refine ⟨p, c, _, rfl, d1, by decide, by decide, fun m H5 m0 m1 w5 => ?_⟩
      wtm_at "jw"
      refine ⟨p, c, _, rfl, w5.at_, by omega, by omega, fun q H6 q0 q1 w6 => ?_⟩
      wtm_at "jw"
      refine ⟨_, q, rfl, by omega, by omega, q0, q1, ?_⟩
      wtm_at "jw"
      exact ⟨_, _, _, _, rfl, w6.at_⟩
    · obtain ⟨v1, v2, v3, v4, rfl, d1⟩ := h
      have e9 : (10 : Int) ^ Int.toNat 9 = 1000000000 := by decide
      wtm_at "jw"
      rw [e9]
      refine ⟨p, c, _, rfl, d1, by decide, fun one H5 o0 o1 w5 => ?_⟩
      wtm_at "jw"
      rw [e9]
      refine ⟨p, c, _, rfl, w5.at_, by omega, fun two H6 t0 t1 w6 => ?_⟩
      wtm_at "jw"
      refine ⟨r, one, two, rfl, r0, r1, o0, t0, by omega, fun H7 s7 => ?_⟩
      wtm_at "jw"
      refine ⟨p, c, rfl, w6.at_.same s7, fun r' H8 r0' r1' w8 => ?_⟩
      wtm_at "jw"
      refine ⟨r', two, one, rfl, r0', r1', t0, o0, by omega, fun H9 s9 => ?_⟩
      wtm_at "jw"
      refine ⟨r, _, rfl, r0, r1, by decide, fun HA sA => ?_⟩
      wtm_at "jw"
      refine ⟨_, _, rfl, bh_round r0 r1, ?_⟩
      wtm_at "jw"
      refine ⟨r, _, rfl, r0, r1, by decide, fun HB sB => ?_⟩
      wtm_at "jw"
      refine ⟨_, _, rfl, bh_zero r0 r1, ?_⟩
      wtm_at "jw"
      exact ⟨r, one, two, rfl, r0, r1, o0, t0, by omega, fun HC sC => k _⟩
theorem law_hands {K : PySem.W.Frag} {H : Hp} (a : Addr) (ns : List Int) (hl : ns.length ≤ 63) (hb : ∀ z ∈ ns, Builtin.Int.intBits z ≤ 1048576) (hS : SqL K H a (ns.map V.int)) :
    sp_law K [.ref a] H (fun v _ => v = .bl true) fun _ _ _ => False := ⟨a, ns, rfl, hS, hl, fun _ => rfl⟩
theorem all_mk {l : PySem.W.OpenLaw} {w : World} {K : PySem.W.Frag} {h : Heap} {mg : Str → Option Value} {fa : Addr} (X : K.In h) (G : h.Ns mainGlobals mg) (hfa : mg "law" = some (.ref fa))
    {f__law_begin : Addr} {od__law_begin an__law_begin : Option Addr} {sl__law_begin : Array (Option Value)} {oc__law_begin kV__law_begin dc__law_begin pm__law_begin cd__law_begin ct__law_begin : Value}
    {f__law_draw : Addr} {od__law_draw an__law_draw : Option Addr} {sl__law_draw : Array (Option Value)} {oc__law_draw kV__law_draw dc__law_draw pm__law_draw cd__law_draw ct__law_draw : Value}
    {f__law_pick : Addr} {od__law_pick an__law_pick : Option Addr} {sl__law_pick : Array (Option Value)} {oc__law_pick kV__law_pick dc__law_pick pm__law_pick cd__law_pick ct__law_pick : Value}
    {f__law_any_number : Addr} {od__law_any_number an__law_any_number : Option Addr} {sl__law_any_number : Array (Option Value)} {oc__law_any_number kV__law_any_number dc__law_any_number pm__law_any_number cd__law_any_number ct__law_any_number : Value}
    {f__law_hold : Addr} {od__law_hold an__law_hold : Option Addr} {sl__law_hold : Array (Option Value)} {oc__law_hold kV__law_hold dc__law_hold pm__law_hold cd__law_hold ct__law_hold : Value}
    {f__law_count : Addr} {od__law_count an__law_count : Option Addr} {sl__law_count : Array (Option Value)} {oc__law_count kV__law_count dc__law_count pm__law_count cd__law_count ct__law_count : Value}
    {f__law_is_int : Addr} {od__law_is_int an__law_is_int : Option Addr} {sl__law_is_int : Array (Option Value)} {oc__law_is_int kV__law_is_int dc__law_is_int pm__law_is_int cd__law_is_int ct__law_is_int : Value}
    {f__law_same : Addr} {od__law_same an__law_same : Option Addr} {sl__law_same : Array (Option Value)} {oc__law_same kV__law_same dc__law_same pm__law_same cd__law_same ct__law_same : Value}
    {f_joined_steps : Addr} {od_joined_steps an_joined_steps : Option Addr} {sl_joined_steps : Array (Option Value)} {oc_joined_steps kV_joined_steps dc_joined_steps pm_joined_steps cd_joined_steps ct_joined_steps : Value}
    {f_ahead : Addr} {od_ahead an_ahead : Option Addr} {sl_ahead : Array (Option Value)} {oc_ahead kV_ahead dc_ahead pm_ahead cd_ahead ct_ahead : Value}
    {f__law_is_draw : Addr} {od__law_is_draw an__law_is_draw : Option Addr} {sl__law_is_draw : Array (Option Value)} {oc__law_is_draw kV__law_is_draw dc__law_is_draw pm__law_is_draw cd__law_is_draw ct__law_is_draw : Value}
    {f_next_draw : Addr} {od_next_draw an_next_draw : Option Addr} {sl_next_draw : Array (Option Value)} {oc_next_draw kV_next_draw dc_next_draw pm_next_draw cd_next_draw ct_next_draw : Value}
    {f_drawn : Addr} {od_drawn an_drawn : Option Addr} {sl_drawn : Array (Option Value)} {oc_drawn kV_drawn dc_drawn pm_drawn cd_drawn ct_drawn : Value}
    {f__law_is_chain : Addr} {od__law_is_chain an__law_is_chain : Option Addr} {sl__law_is_chain : Array (Option Value)} {oc__law_is_chain kV__law_is_chain dc__law_is_chain pm__law_is_chain cd__law_is_chain ct__law_is_chain : Value}
    {f__law_power : Addr} {od__law_power an__law_power : Option Addr} {sl__law_power : Array (Option Value)} {oc__law_power kV__law_power dc__law_power pm__law_power cd__law_power ct__law_power : Value}
    {f__law_behind : Addr} {od__law_behind an__law_behind : Option Addr} {sl__law_behind : Array (Option Value)} {oc__law_behind kV__law_behind dc__law_behind pm__law_behind cd__law_behind ct__law_behind : Value}
    {f__law_is_way : Addr} {od__law_is_way an__law_is_way : Option Addr} {sl__law_is_way : Array (Option Value)} {oc__law_is_way kV__law_is_way dc__law_is_way pm__law_is_way cd__law_is_way ct__law_is_way : Value}
    {f__law_is_edge : Addr} {od__law_is_edge an__law_is_edge : Option Addr} {sl__law_is_edge : Array (Option Value)} {oc__law_is_edge kV__law_is_edge dc__law_is_edge pm__law_is_edge cd__law_is_edge ct__law_is_edge : Value}
    {f_law : Addr} {od_law an_law : Option Addr} {sl_law : Array (Option Value)} {oc_law kV_law dc_law pm_law cd_law ct_law : Value}
    (a__law_begin : PySem.W.nsIn K mainGlobals "_law_begin" = some (some (.ref f__law_begin))) (l__law_begin : K.lookup f__law_begin = some ⟨oc__law_begin, od__law_begin, .func (PySem.W.fnOf "_law_begin" "_law_begin" (defArgs s__law_begin) (defBody s__law_begin) (defScope s__law_begin) .none kV__law_begin dc__law_begin pm__law_begin an__law_begin cd__law_begin ct__law_begin), sl__law_begin⟩) (c__law_begin : PySem.W.codeIn K cd__law_begin "_law_begin" = true) (k__law_begin : PySem.W.keepIn K (.ref f__law_begin) = true)
    (a__law_draw : PySem.W.nsIn K mainGlobals "_law_draw" = some (some (.ref f__law_draw))) (l__law_draw : K.lookup f__law_draw = some ⟨oc__law_draw, od__law_draw, .func (PySem.W.fnOf "_law_draw" "_law_draw" (defArgs s__law_draw) (defBody s__law_draw) (defScope s__law_draw) .none kV__law_draw dc__law_draw pm__law_draw an__law_draw cd__law_draw ct__law_draw), sl__law_draw⟩) (c__law_draw : PySem.W.codeIn K cd__law_draw "_law_draw" = true) (k__law_draw : PySem.W.keepIn K (.ref f__law_draw) = true)
    (a__law_pick : PySem.W.nsIn K mainGlobals "_law_pick" = some (some (.ref f__law_pick))) (l__law_pick : K.lookup f__law_pick = some ⟨oc__law_pick, od__law_pick, .func (PySem.W.fnOf "_law_pick" "_law_pick" (defArgs s__law_pick) (defBody s__law_pick) (defScope s__law_pick) .none kV__law_pick dc__law_pick pm__law_pick an__law_pick cd__law_pick ct__law_pick), sl__law_pick⟩) (c__law_pick : PySem.W.codeIn K cd__law_pick "_law_pick" = true) (k__law_pick : PySem.W.keepIn K (.ref f__law_pick) = true)
    (a__law_any_number : PySem.W.nsIn K mainGlobals "_law_any_number" = some (some (.ref f__law_any_number))) (l__law_any_number : K.lookup f__law_any_number = some ⟨oc__law_any_number, od__law_any_number, .func (PySem.W.fnOf "_law_any_number" "_law_any_number" (defArgs s__law_any_number) (defBody s__law_any_number) (defScope s__law_any_number) .none kV__law_any_number dc__law_any_number pm__law_any_number an__law_any_number cd__law_any_number ct__law_any_number), sl__law_any_number⟩) (c__law_any_number : PySem.W.codeIn K cd__law_any_number "_law_any_number" = true) (k__law_any_number : PySem.W.keepIn K (.ref f__law_any_number) = true)
    (a__law_hold : PySem.W.nsIn K mainGlobals "_law_hold" = some (some (.ref f__law_hold))) (l__law_hold : K.lookup f__law_hold = some ⟨oc__law_hold, od__law_hold, .func (PySem.W.fnOf "_law_hold" "_law_hold" (defArgs s__law_hold) (defBody s__law_hold) (defScope s__law_hold) .none kV__law_hold dc__law_hold pm__law_hold an__law_hold cd__law_hold ct__law_hold), sl__law_hold⟩) (c__law_hold : PySem.W.codeIn K cd__law_hold "_law_hold" = true) (k__law_hold : PySem.W.keepIn K (.ref f__law_hold) = true)
    (a__law_count : PySem.W.nsIn K mainGlobals "_law_count" = some (some (.ref f__law_count))) (l__law_count : K.lookup f__law_count = some ⟨oc__law_count, od__law_count, .func (PySem.W.fnOf "_law_count" "_law_count" (defArgs s__law_count) (defBody s__law_count) (defScope s__law_count) .none kV__law_count dc__law_count pm__law_count an__law_count cd__law_count ct__law_count), sl__law_count⟩) (c__law_count : PySem.W.codeIn K cd__law_count "_law_count" = true) (k__law_count : PySem.W.keepIn K (.ref f__law_count) = true)
    (a__law_is_int : PySem.W.nsIn K mainGlobals "_law_is_int" = some (some (.ref f__law_is_int))) (l__law_is_int : K.lookup f__law_is_int = some ⟨oc__law_is_int, od__law_is_int, .func (PySem.W.fnOf "_law_is_int" "_law_is_int" (defArgs s__law_is_int) (defBody s__law_is_int) (defScope s__law_is_int) .none kV__law_is_int dc__law_is_int pm__law_is_int an__law_is_int cd__law_is_int ct__law_is_int), sl__law_is_int⟩) (c__law_is_int : PySem.W.codeIn K cd__law_is_int "_law_is_int" = true) (k__law_is_int : PySem.W.keepIn K (.ref f__law_is_int) = true)
    (a__law_same : PySem.W.nsIn K mainGlobals "_law_same" = some (some (.ref f__law_same))) (l__law_same : K.lookup f__law_same = some ⟨oc__law_same, od__law_same, .func (PySem.W.fnOf "_law_same" "_law_same" (defArgs s__law_same) (defBody s__law_same) (defScope s__law_same) .none kV__law_same dc__law_same pm__law_same an__law_same cd__law_same ct__law_same), sl__law_same⟩) (c__law_same : PySem.W.codeIn K cd__law_same "_law_same" = true) (k__law_same : PySem.W.keepIn K (.ref f__law_same) = true)
    (a_joined_steps : PySem.W.nsIn K mainGlobals "joined_steps" = some (some (.ref f_joined_steps))) (l_joined_steps : K.lookup f_joined_steps = some ⟨oc_joined_steps, od_joined_steps, .func (PySem.W.fnOf "joined_steps" "joined_steps" (defArgs s_joined_steps) (defBody s_joined_steps) (defScope s_joined_steps) .none kV_joined_steps dc_joined_steps pm_joined_steps an_joined_steps cd_joined_steps ct_joined_steps), sl_joined_steps⟩) (c_joined_steps : PySem.W.codeIn K cd_joined_steps "joined_steps" = true) (k_joined_steps : PySem.W.keepIn K (.ref f_joined_steps) = true)
    (a_ahead : PySem.W.nsIn K mainGlobals "ahead" = some (some (.ref f_ahead))) (l_ahead : K.lookup f_ahead = some ⟨oc_ahead, od_ahead, .func (PySem.W.fnOf "ahead" "ahead" (defArgs s_ahead) (defBody s_ahead) (defScope s_ahead) .none kV_ahead dc_ahead pm_ahead an_ahead cd_ahead ct_ahead), sl_ahead⟩) (c_ahead : PySem.W.codeIn K cd_ahead "ahead" = true) (k_ahead : PySem.W.keepIn K (.ref f_ahead) = true)
    (a__law_is_draw : PySem.W.nsIn K mainGlobals "_law_is_draw" = some (some (.ref f__law_is_draw))) (l__law_is_draw : K.lookup f__law_is_draw = some ⟨oc__law_is_draw, od__law_is_draw, .func (PySem.W.fnOf "_law_is_draw" "_law_is_draw" (defArgs s__law_is_draw) (defBody s__law_is_draw) (defScope s__law_is_draw) .none kV__law_is_draw dc__law_is_draw pm__law_is_draw an__law_is_draw cd__law_is_draw ct__law_is_draw), sl__law_is_draw⟩) (c__law_is_draw : PySem.W.codeIn K cd__law_is_draw "_law_is_draw" = true) (k__law_is_draw : PySem.W.keepIn K (.ref f__law_is_draw) = true)
    (a_next_draw : PySem.W.nsIn K mainGlobals "next_draw" = some (some (.ref f_next_draw))) (l_next_draw : K.lookup f_next_draw = some ⟨oc_next_draw, od_next_draw, .func (PySem.W.fnOf "next_draw" "next_draw" (defArgs s_next_draw) (defBody s_next_draw) (defScope s_next_draw) .none kV_next_draw dc_next_draw pm_next_draw an_next_draw cd_next_draw ct_next_draw), sl_next_draw⟩) (c_next_draw : PySem.W.codeIn K cd_next_draw "next_draw" = true) (k_next_draw : PySem.W.keepIn K (.ref f_next_draw) = true)
    (a_drawn : PySem.W.nsIn K mainGlobals "drawn" = some (some (.ref f_drawn))) (l_drawn : K.lookup f_drawn = some ⟨oc_drawn, od_drawn, .func (PySem.W.fnOf "drawn" "drawn" (defArgs s_drawn) (defBody s_drawn) (defScope s_drawn) .none kV_drawn dc_drawn pm_drawn an_drawn cd_drawn ct_drawn), sl_drawn⟩) (c_drawn : PySem.W.codeIn K cd_drawn "drawn" = true) (k_drawn : PySem.W.keepIn K (.ref f_drawn) = true)
    (a__law_is_chain : PySem.W.nsIn K mainGlobals "_law_is_chain" = some (some (.ref f__law_is_chain))) (l__law_is_chain : K.lookup f__law_is_chain = some ⟨oc__law_is_chain, od__law_is_chain, .func (PySem.W.fnOf "_law_is_chain" "_law_is_chain" (defArgs s__law_is_chain) (defBody s__law_is_chain) (defScope s__law_is_chain) .none kV__law_is_chain dc__law_is_chain pm__law_is_chain an__law_is_chain cd__law_is_chain ct__law_is_chain), sl__law_is_chain⟩) (c__law_is_chain : PySem.W.codeIn K cd__law_is_chain "_law_is_chain" = true) (k__law_is_chain : PySem.W.keepIn K (.ref f__law_is_chain) = true)
    (a__law_power : PySem.W.nsIn K mainGlobals "_law_power" = some (some (.ref f__law_power))) (l__law_power : K.lookup f__law_power = some ⟨oc__law_power, od__law_power, .func (PySem.W.fnOf "_law_power" "_law_power" (defArgs s__law_power) (defBody s__law_power) (defScope s__law_power) .none kV__law_power dc__law_power pm__law_power an__law_power cd__law_power ct__law_power), sl__law_power⟩) (c__law_power : PySem.W.codeIn K cd__law_power "_law_power" = true) (k__law_power : PySem.W.keepIn K (.ref f__law_power) = true)
    (a__law_behind : PySem.W.nsIn K mainGlobals "_law_behind" = some (some (.ref f__law_behind))) (l__law_behind : K.lookup f__law_behind = some ⟨oc__law_behind, od__law_behind, .func (PySem.W.fnOf "_law_behind" "_law_behind" (defArgs s__law_behind) (defBody s__law_behind) (defScope s__law_behind) .none kV__law_behind dc__law_behind pm__law_behind an__law_behind cd__law_behind ct__law_behind), sl__law_behind⟩) (c__law_behind : PySem.W.codeIn K cd__law_behind "_law_behind" = true) (k__law_behind : PySem.W.keepIn K (.ref f__law_behind) = true)
    (a__law_is_way : PySem.W.nsIn K mainGlobals "_law_is_way" = some (some (.ref f__law_is_way))) (l__law_is_way : K.lookup f__law_is_way = some ⟨oc__law_is_way, od__law_is_way, .func (PySem.W.fnOf "_law_is_way" "_law_is_way" (defArgs s__law_is_way) (defBody s__law_is_way) (defScope s__law_is_way) .none kV__law_is_way dc__law_is_way pm__law_is_way an__law_is_way cd__law_is_way ct__law_is_way), sl__law_is_way⟩) (c__law_is_way : PySem.W.codeIn K cd__law_is_way "_law_is_way" = true) (k__law_is_way : PySem.W.keepIn K (.ref f__law_is_way) = true)
    (a__law_is_edge : PySem.W.nsIn K mainGlobals "_law_is_edge" = some (some (.ref f__law_is_edge))) (l__law_is_edge : K.lookup f__law_is_edge = some ⟨oc__law_is_edge, od__law_is_edge, .func (PySem.W.fnOf "_law_is_edge" "_law_is_edge" (defArgs s__law_is_edge) (defBody s__law_is_edge) (defScope s__law_is_edge) .none kV__law_is_edge dc__law_is_edge pm__law_is_edge an__law_is_edge cd__law_is_edge ct__law_is_edge), sl__law_is_edge⟩) (c__law_is_edge : PySem.W.codeIn K cd__law_is_edge "_law_is_edge" = true) (k__law_is_edge : PySem.W.keepIn K (.ref f__law_is_edge) = true)
    (a_law : PySem.W.nsIn K mainGlobals "law" = some (some (.ref f_law))) (l_law : K.lookup f_law = some ⟨oc_law, od_law, .func (PySem.W.fnOf "law" "law" (defArgs s_law) (defBody s_law) (defScope s_law) .none kV_law dc_law pm_law an_law cd_law ct_law), sl_law⟩) (c_law : PySem.W.codeIn K cd_law "law" = true) (k_law : PySem.W.keepIn K (.ref f_law) = true)
    (z_int : PySem.W.nsIn K mainGlobals "int" = some none)
    (z_len : PySem.W.nsIn K mainGlobals "len" = some none)
    (z_abs : PySem.W.nsIn K mainGlobals "abs" = some none)
    (z_min : PySem.W.nsIn K mainGlobals "min" = some none)
    (z_max : PySem.W.nsIn K mainGlobals "max" = some none)
    (z_isinstance : PySem.W.nsIn K mainGlobals "isinstance" = some none)
    (z_bool : PySem.W.nsIn K mainGlobals "bool" = some none)
    (z_range : PySem.W.nsIn K mainGlobals "range" = some none)
    {u_MODULUS : Value} (n_MODULUS : PySem.W.nsIn K mainGlobals "MODULUS" = some (some u_MODULUS)) (r_MODULUS : RelV (.int 32749) u_MODULUS)
    {u_TIMES : Value} (n_TIMES : PySem.W.nsIn K mainGlobals "TIMES" = some (some u_TIMES)) (r_TIMES : RelV (.int 219) u_TIMES)
    {u_PLUS : Value} (n_PLUS : PySem.W.nsIn K mainGlobals "PLUS" = some (some u_PLUS)) (r_PLUS : RelV (.int 7) u_PLUS)
    : ∃ fd : FuncData, (∀ (s : Shared) (v : Value), BindsTo s fd ⟨[v], []⟩ [("script", v)]) ∧ ∀ base : Heap, K.In base → base.Ns mainGlobals mg → FnOk l.prog w K mg base CX0 4 fa fd ["script"] (sp_law K) := by
  have e := hfa.symm.trans (PySem.W.mg_of X G a_law)
  cases e
  have T : Txt mg := ⟨PySem.W.mg_none_of X G z_int, PySem.W.mg_none_of X G z_len, PySem.W.mg_none_of X G z_abs, PySem.W.mg_none_of X G z_min, PySem.W.mg_none_of X G z_max, PySem.W.mg_none_of X G z_isinstance, PySem.W.mg_none_of X G z_bool, PySem.W.mg_none_of X G z_range, ⟨_, PySem.W.mg_of X G n_MODULUS, r_MODULUS⟩, ⟨_, PySem.W.mg_of X G n_TIMES, r_TIMES⟩, ⟨_, PySem.W.mg_of X G n_PLUS, r_PLUS⟩⟩
  have F__law_begin := fun_mk (st := s__law_begin) l__law_begin c__law_begin k__law_begin
  have D__law_begin : Df K mg "_law_begin" s__law_begin f__law_begin _ ["script"] := ⟨F__law_begin, PySem.W.mg_of X G a__law_begin, F__law_begin.binds (ps := ["script"]) fun _ _ _ _ _ _ us hl => match us, hl with | [_], _ => rfl⟩
  have F__law_draw := fun_mk (st := s__law_draw) l__law_draw c__law_draw k__law_draw
  have D__law_draw : Df K mg "_law_draw" s__law_draw f__law_draw _ ["d", "many"] := ⟨F__law_draw, PySem.W.mg_of X G a__law_draw, F__law_draw.binds (ps := ["d", "many"]) fun _ _ _ _ _ _ us hl => match us, hl with | [_, _], _ => rfl⟩
  have F__law_pick := fun_mk (st := s__law_pick) l__law_pick c__law_pick k__law_pick
  have D__law_pick : Df K mg "_law_pick" s__law_pick f__law_pick _ ["d", "row"] := ⟨F__law_pick, PySem.W.mg_of X G a__law_pick, F__law_pick.binds (ps := ["d", "row"]) fun _ _ _ _ _ _ us hl => match us, hl with | [_, _], _ => rfl⟩
  have F__law_any_number := fun_mk (st := s__law_any_number) l__law_any_number c__law_any_number k__law_any_number
  have D__law_any_number : Df K mg "_law_any_number" s__law_any_number f__law_any_number _ ["d"] := ⟨F__law_any_number, PySem.W.mg_of X G a__law_any_number, F__law_any_number.binds (ps := ["d"]) fun _ _ _ _ _ _ us hl => match us, hl with | [_], _ => rfl⟩
  have F__law_hold := fun_mk (st := s__law_hold) l__law_hold c__law_hold k__law_hold
  have D__law_hold : Df K mg "_law_hold" s__law_hold f__law_hold _ ["low", "number", "high"] := ⟨F__law_hold, PySem.W.mg_of X G a__law_hold, F__law_hold.binds (ps := ["low", "number", "high"]) fun _ _ _ _ _ _ us hl => match us, hl with | [_, _, _], _ => rfl⟩
  have F__law_count := fun_mk (st := s__law_count) l__law_count c__law_count k__law_count
  have D__law_count : Df K mg "_law_count" s__law_count f__law_count _ ["d", "most"] := ⟨F__law_count, PySem.W.mg_of X G a__law_count, F__law_count.binds (ps := ["d", "most"]) fun _ _ _ _ _ _ us hl => match us, hl with | [_, _], _ => rfl⟩
  have F__law_is_int := fun_mk (st := s__law_is_int) l__law_is_int c__law_is_int k__law_is_int
  have D__law_is_int : Df K mg "_law_is_int" s__law_is_int f__law_is_int _ ["thing"] := ⟨F__law_is_int, PySem.W.mg_of X G a__law_is_int, F__law_is_int.binds (ps := ["thing"]) fun _ _ _ _ _ _ us hl => match us, hl with | [_], _ => rfl⟩
  have F__law_same := fun_mk (st := s__law_same) l__law_same c__law_same k__law_same
  have D__law_same : Df K mg "_law_same" s__law_same f__law_same _ ["told", "due"] := ⟨F__law_same, PySem.W.mg_of X G a__law_same, F__law_same.binds (ps := ["told", "due"]) fun _ _ _ _ _ _ us hl => match us, hl with | [_, _], _ => rfl⟩
  have F_joined_steps := fun_mk (st := s_joined_steps) l_joined_steps c_joined_steps k_joined_steps
  have D_joined_steps : Df K mg "joined_steps" s_joined_steps f_joined_steps _ ["first", "second"] := ⟨F_joined_steps, PySem.W.mg_of X G a_joined_steps, F_joined_steps.binds (ps := ["first", "second"]) fun _ _ _ _ _ _ us hl => match us, hl with | [_, _], _ => rfl⟩
  have F_ahead := fun_mk (st := s_ahead) l_ahead c_ahead k_ahead
  have D_ahead : Df K mg "ahead" s_ahead f_ahead _ ["number", "many"] := ⟨F_ahead, PySem.W.mg_of X G a_ahead, F_ahead.binds (ps := ["number", "many"]) fun _ _ _ _ _ _ us hl => match us, hl with | [_, _], _ => rfl⟩
  have F__law_is_draw := fun_mk (st := s__law_is_draw) l__law_is_draw c__law_is_draw k__law_is_draw
  have D__law_is_draw : Df K mg "_law_is_draw" s__law_is_draw f__law_is_draw _ ["told", "number", "many"] := ⟨F__law_is_draw, PySem.W.mg_of X G a__law_is_draw, F__law_is_draw.binds (ps := ["told", "number", "many"]) fun _ _ _ _ _ _ us hl => match us, hl with | [_, _, _], _ => rfl⟩
  have F_next_draw := fun_mk (st := s_next_draw) l_next_draw c_next_draw k_next_draw
  have D_next_draw : Df K mg "next_draw" s_next_draw f_next_draw _ ["number"] := ⟨F_next_draw, PySem.W.mg_of X G a_next_draw, F_next_draw.binds (ps := ["number"]) fun _ _ _ _ _ _ us hl => match us, hl with | [_], _ => rfl⟩
  have F_drawn := fun_mk (st := s_drawn) l_drawn c_drawn k_drawn
  have D_drawn : Df K mg "drawn" s_drawn f_drawn _ ["number", "many"] := ⟨F_drawn, PySem.W.mg_of X G a_drawn, F_drawn.binds (ps := ["number", "many"]) fun _ _ _ _ _ _ us hl => match us, hl with | [_, _], _ => rfl⟩
  have F__law_is_chain := fun_mk (st := s__law_is_chain) l__law_is_chain c__law_is_chain k__law_is_chain
  have D__law_is_chain : Df K mg "_law_is_chain" s__law_is_chain f__law_is_chain _ ["r", "size"] := ⟨F__law_is_chain, PySem.W.mg_of X G a__law_is_chain, F__law_is_chain.binds (ps := ["r", "size"]) fun _ _ _ _ _ _ us hl => match us, hl with | [_, _], _ => rfl⟩
  have F__law_power := fun_mk (st := s__law_power) l__law_power c__law_power k__law_power
  have D__law_power : Df K mg "_law_power" s__law_power f__law_power _ ["many"] := ⟨F__law_power, PySem.W.mg_of X G a__law_power, F__law_power.binds (ps := ["many"]) fun _ _ _ _ _ _ us hl => match us, hl with | [_], _ => rfl⟩
  have F__law_behind := fun_mk (st := s__law_behind) l__law_behind c__law_behind k__law_behind
  have D__law_behind : Df K mg "_law_behind" s__law_behind f__law_behind _ ["number", "many"] := ⟨F__law_behind, PySem.W.mg_of X G a__law_behind, F__law_behind.binds (ps := ["number", "many"]) fun _ _ _ _ _ _ us hl => match us, hl with | [_, _], _ => rfl⟩
  have F__law_is_way := fun_mk (st := s__law_is_way) l__law_is_way c__law_is_way k__law_is_way
  have D__law_is_way : Df K mg "_law_is_way" s__law_is_way f__law_is_way _ ["r", "one", "two"] := ⟨F__law_is_way, PySem.W.mg_of X G a__law_is_way, F__law_is_way.binds (ps := ["r", "one", "two"]) fun _ _ _ _ _ _ us hl => match us, hl with | [_, _, _], _ => rfl⟩
  have F__law_is_edge := fun_mk (st := s__law_is_edge) l__law_is_edge c__law_is_edge k__law_is_edge
  have D__law_is_edge : Df K mg "_law_is_edge" s__law_is_edge f__law_is_edge _ ["many", "place"] := ⟨F__law_is_edge, PySem.W.mg_of X G a__law_is_edge, F__law_is_edge.binds (ps := ["many", "place"]) fun _ _ _ _ _ _ us hl => match us, hl with | [_, _], _ => rfl⟩
  have F_law := fun_mk (st := s_law) l_law c_law k_law
  have D_law : Df K mg "law" s_law _ _ ["script"] := ⟨F_law, PySem.W.mg_of X G a_law, F_law.binds (ps := ["script"]) fun _ _ _ _ _ _ us hl => match us, hl with | [_], _ => rfl⟩
  refine ⟨PySem.W.fnOf "law" "law" (defArgs s_law) (defBody s_law) (defScope s_law) .none kV_law dc_law pm_law an_law cd_law ct_law, fun s v => .of_eq rfl, fun base _ _ => ?_⟩
  have C__law_begin : Cl l.prog w K mg base 1 "_law_begin" (sp__law_begin K) := D__law_begin.cl (ok__law_begin D__law_begin T )
  have C__law_draw : Cl l.prog w K mg base 1 "_law_draw" (sp__law_draw K) := D__law_draw.cl (ok__law_draw D__law_draw T )
  have C__law_pick : Cl l.prog w K mg base 2 "_law_pick" (sp__law_pick K) := D__law_pick.cl (ok__law_pick D__law_pick T C__law_draw)
  have C__law_any_number : Cl l.prog w K mg base 3 "_law_any_number" (sp__law_any_number K) := D__law_any_number.cl (ok__law_any_number D__law_any_number T C__law_draw C__law_pick)
  have C__law_hold : Cl l.prog w K mg base 1 "_law_hold" (sp__law_hold K) := D__law_hold.cl (ok__law_hold D__law_hold T )
  have C__law_count : Cl l.prog w K mg base 2 "_law_count" (sp__law_count K) := D__law_count.cl (ok__law_count D__law_count T C__law_draw C__law_hold)
  have C__law_is_int : Cl l.prog w K mg base 1 "_law_is_int" (sp__law_is_int K) := D__law_is_int.cl (ok__law_is_int D__law_is_int T )
  have C__law_same : Cl l.prog w K mg base 2 "_law_same" (sp__law_same K) := D__law_same.cl (ok__law_same D__law_same T C__law_is_int)
  have C_joined_steps : Cl l.prog w K mg base 1 "joined_steps" (sp_joined_steps K) := D_joined_steps.cl (ok_joined_steps D_joined_steps T )
  have C_ahead : Cl l.prog w K mg base 2 "ahead" (sp_ahead K) := D_ahead.cl (ok_ahead D_ahead T C_joined_steps)
  have C__law_is_draw : Cl l.prog w K mg base 2 "_law_is_draw" (sp__law_is_draw K) := D__law_is_draw.cl (ok__law_is_draw D__law_is_draw T C__law_is_int)
  have C_next_draw : Cl l.prog w K mg base 1 "next_draw" (sp_next_draw K) := D_next_draw.cl (ok_next_draw D_next_draw T )
  have C_drawn : Cl l.prog w K mg base 1 "drawn" (sp_drawn K) := D_drawn.cl (ok_drawn D_drawn T )
  have C__law_is_chain : Cl l.prog w K mg base 3 "_law_is_chain" (sp__law_is_chain K) := D__law_is_chain.cl (ok__law_is_chain D__law_is_chain T C__law_same C_ahead C__law_is_draw C_next_draw C_drawn)
  have C__law_power : Cl l.prog w K mg base 1 "_law_power" (sp__law_power K) := D__law_power.cl (ok__law_power D__law_power T )
  have C__law_behind : Cl l.prog w K mg base 2 "_law_behind" (sp__law_behind K) := D__law_behind.cl (ok__law_behind D__law_behind T C__law_power)
  have C__law_is_way : Cl l.prog w K mg base 3 "_law_is_way" (sp__law_is_way K) := D__law_is_way.cl (ok__law_is_way D__law_is_way T C_ahead C__law_behind C_next_draw C__law_same)
  have C__law_is_edge : Cl l.prog w K mg base 3 "_law_is_edge" (sp__law_is_edge K) := D__law_is_edge.cl (ok__law_is_edge D__law_is_edge T C__law_same C_drawn)
  exact ok_law D_law T C__law_begin C__law_any_number C__law_count C__law_is_chain C__law_same C__law_is_way C__law_draw C__law_is_edge C_ahead
theorem walk {l : PySem.W.OpenLaw} {q : Program} {loose : List Str} {XP : (Str → Option Value) → Heap → Prop} {YP : World → Heap → Prop} {d : DefRec} {K : Params → PySem.W.Frag} (hn : l.most = some 63) (hdf : d.params.defaults = [])
    (hY : ∀ (w : World) (h : Heap), YP w h → (K w.params).In h)
    (F : ∀ (w : World) (mg : Str → Option Value) (fa : Addr) (h : Heap), (K w.params).In h → h.Ns mainGlobals mg → mg d.name = some (.ref fa) →
      ∃ fd : FuncData, (∀ (s : Shared) (u : Value), BindsTo s fd ⟨[u], []⟩ [("script", u)]) ∧ ∀ base : Heap, (K w.params).In base → base.Ns mainGlobals mg → FnOk l.prog w (K w.params) mg base CX0 4 fa fd ["script"] (sp_law (K w.params))) :
    PySem.W.WalkO q loose XP YP l.row.toRowW d [] (fun f vs => PySem.call f vs) :=
  L2.walk_ofB (n := 63) (k := 4) (x := "script") (CX := fun _ => CX0) (sp := fun w => sp_law (K w.params)) hn (by decide) hdf ⟨rfl, by decide, by decide⟩ hY F (fun _ _ a ns hl hb _ hS => law_hands a ns hl hb hS) fun _ _ _ _ _ z => z
end Law
open PySem PySem.W PyProof.Rows in
set_option maxRecDepth 100000 in
set_option maxHeartbeats 0 in
theorem PySem.Challenge.cw_judgedplay_k20_draws_ahead_holds : PySem.Challenge.rw_judgedplay_k20_draws_ahead.Holds := by
  w_on; o_law; k_head; (case hw => w_witness2)
  k_fill
  refine Law.walk (l := PySem.Challenge.rw_judgedplay_k20_draws_ahead) rfl rfl (fun w h Y => PySem.W.kIn_of Y) ?F
  case F =>
    intro w mg fa h KX G hmg
    refine' Law.all_mk KX G hmg ?a__law_begin ?l__law_begin ?c__law_begin ?k__law_begin ?a__law_draw ?l__law_draw ?c__law_draw ?k__law_draw ?a__law_pick ?l__law_pick ?c__law_pick ?k__law_pick ?a__law_any_number ?l__law_any_number ?c__law_any_number ?k__law_any_number ?a__law_hold ?l__law_hold ?c__law_hold ?k__law_hold ?a__law_count ?l__law_count ?c__law_count ?k__law_count ?a__law_is_int ?l__law_is_int ?c__law_is_int ?k__law_is_int ?a__law_same ?l__law_same ?c__law_same ?k__law_same ?a_joined_steps ?l_joined_steps ?c_joined_steps ?k_joined_steps ?a_ahead ?l_ahead ?c_ahead ?k_ahead ?a__law_is_draw ?l__law_is_draw ?c__law_is_draw ?k__law_is_draw ?a_next_draw ?l_next_draw ?c_next_draw ?k_next_draw ?a_drawn ?l_drawn ?c_drawn ?k_drawn ?a__law_is_chain ?l__law_is_chain ?c__law_is_chain ?k__law_is_chain ?a__law_power ?l__law_power ?c__law_power ?k__law_power ?a__law_behind ?l__law_behind ?c__law_behind ?k__law_behind ?a__law_is_way ?l__law_is_way ?c__law_is_way ?k__law_is_way ?a__law_is_edge ?l__law_is_edge ?c__law_is_edge ?k__law_is_edge ?a_law ?l_law ?c_law ?k_law ?z_int ?z_len ?z_abs ?z_min ?z_max ?z_isinstance ?z_bool ?z_range ?n_MODULUS ?r_MODULUS ?n_TIMES ?r_TIMES ?n_PLUS ?r_PLUS
    (case a__law_begin => k_is)
    (case l__law_begin => k_is)
    (case c__law_begin => k_is)
    (case k__law_begin => k_is)
    (case a__law_draw => k_is)
    (case l__law_draw => k_is)
    (case c__law_draw => k_is)
    (case k__law_draw => k_is)
    (case a__law_pick => k_is)
    (case l__law_pick => k_is)
    (case c__law_pick => k_is)
    (case k__law_pick => k_is)
    (case a__law_any_number => k_is)
    (case l__law_any_number => k_is)
    (case c__law_any_number => k_is)
    (case k__law_any_number => k_is)
    (case a__law_hold => k_is)
    (case l__law_hold => k_is)
    (case c__law_hold => k_is)
    (case k__law_hold => k_is)
    (case a__law_count => k_is)
    (case l__law_count => k_is)
    (case c__law_count => k_is)
    (case k__law_count => k_is)
    (case a__law_is_int => k_is)
    (case l__law_is_int => k_is)
    (case c__law_is_int => k_is)
    (case k__law_is_int => k_is)
    (case a__law_same => k_is)
    (case l__law_same => k_is)
    (case c__law_same => k_is)
    (case k__law_same => k_is)
    (case a_joined_steps => k_is)
    (case l_joined_steps => k_is)
    (case c_joined_steps => k_is)
    (case k_joined_steps => k_is)
    (case a_ahead => k_is)
    (case l_ahead => k_is)
    (case c_ahead => k_is)
    (case k_ahead => k_is)
    (case a__law_is_draw => k_is)
    (case l__law_is_draw => k_is)
    (case c__law_is_draw => k_is)
    (case k__law_is_draw => k_is)
    (case a_next_draw => k_is)
    (case l_next_draw => k_is)
    (case c_next_draw => k_is)
    (case k_next_draw => k_is)
    (case a_drawn => k_is)
    (case l_drawn => k_is)
    (case c_drawn => k_is)
    (case k_drawn => k_is)
    (case a__law_is_chain => k_is)
    (case l__law_is_chain => k_is)
    (case c__law_is_chain => k_is)
    (case k__law_is_chain => k_is)
    (case a__law_power => k_is)
    (case l__law_power => k_is)
    (case c__law_power => k_is)
    (case k__law_power => k_is)
    (case a__law_behind => k_is)
    (case l__law_behind => k_is)
    (case c__law_behind => k_is)
    (case k__law_behind => k_is)
    (case a__law_is_way => k_is)
    (case l__law_is_way => k_is)
    (case c__law_is_way => k_is)
    (case k__law_is_way => k_is)
    (case a__law_is_edge => k_is)
    (case l__law_is_edge => k_is)
    (case c__law_is_edge => k_is)
    (case k__law_is_edge => k_is)
    (case a_law => k_is)
    (case l_law => k_is)
    (case c_law => k_is)
    (case k_law => k_is)
    (case z_int => k_is)
    (case z_len => k_is)
    (case z_abs => k_is)
    (case z_min => k_is)
    (case z_max => k_is)
    (case z_isinstance => k_is)
    (case z_bool => k_is)
    (case z_range => k_is)
    (case n_MODULUS => k_is)
    (case r_MODULUS => first | exact ⟨_, rfl⟩ | rfl)
    (case n_TIMES => k_is)
    (case r_TIMES => first | exact ⟨_, rfl⟩ | rfl)
    (case n_PLUS => k_is)
    (case r_PLUS => first | exact ⟨_, rfl⟩ | rfl)
#print axioms PySem.Challenge.cw_judgedplay_k20_draws_ahead_holds
