import PyProof.Rows.All
import Wide.All
import OpenK.AllK
import Wide.FinOn
import HandS.ForMost
import HandS.Wide
import HandS.WideBits
import HandS.IsInst
import HandS.TupAny
import HandS.Deep
import HandS.EndBits
import PySem.Challenge.RW_judgedplay_k78_bounds
set_option Elab.async false
set_option linter.all false
set_option maxRecDepth 100000
set_option maxHeartbeats 4000000
/-! ### my own layer: introduction forms for the readings -/
namespace Jp
open PySem PySem.Spec PyProof.Rows L2
/-! rules by names -/
section
variable {X : Cx}
def rInt1 : List V → Hp → VK → Prop := fun xs H Q => (∃ i, xs = [.int i] ∧ Q (.int i) H) ∨ ∃ k, xs = [.bl k] ∧ Q (.int (if k then 1 else 0)) H
theorem c_int : CallR X (.type "int") rInt1 := call_int1
def rAbs : List V → Hp → VK → Prop := fun xs H Q => ∃ i, xs = [.int i] ∧ Q (.int (if i < 0 then -i else i)) H
theorem c_abs : CallR X (.builtin "abs") rAbs := call_abs
def rMax2 : List V → Hp → VK → Prop := fun xs H Q => ∃ i j, xs = [.int i, .int j] ∧ Q (.int (if j > i then j else i)) H
theorem c_max2 (hc : X.calm = true) : CallR X (.builtin "max") rMax2 := call_max2 hc
def rMin2 : List V → Hp → VK → Prop := fun xs H Q => ∃ i j, xs = [.int i, .int j] ∧ Q (.int (if j < i then j else i)) H
theorem c_min2 (hc : X.calm = true) : CallR X (.builtin "min") rMin2 := call_min2 hc
def rLen (K : PySem.W.Frag) : List V → Hp → VK → Prop := fun xs H Q => ∃ x n, xs = [x] ∧ LenV K x H n ∧ Q (.int (n : Nat)) H
theorem c_len : CallR X (.builtin "len") (rLen X.K) := call_len
def rLenD : List V → Hp → VK → Prop := fun xs H Q => ∃ a kvs, xs = [V.ref a] ∧ H a = some (.dK kvs) ∧ Q (.int kvs.length) H
theorem c_lenD : CallR X (.builtin "len") rLenD := call_lenD
def rTupOf (K : PySem.W.Frag) : List V → Hp → VK → Prop := fun xs H Q => ∃ p ys, xs = [.ref p] ∧ ((SqL K H p ys ∧ ∀ l, H l = none → Q (.ref l) (upd H l (.tup ys))) ∨ (SqT K H p ys ∧ Q (.ref p) H))
theorem c_tup : CallR X (.type "tuple") (rTupOf X.K) := call_tuple_of
def rLstOf (K : PySem.W.Frag) : List V → Hp → VK → Prop := fun xs H Q => ∃ p ys, xs = [.ref p] ∧ (SqL K H p ys ∨ SqT K H p ys) ∧ ∀ l, H l = none → Q (.ref l) (upd H l (.lst ys))
theorem c_lst : CallR X (.type "list") (rLstOf X.K) := call_list_of
def rBool1 : List V → Hp → VK → Prop := fun xs H Q => (∃ i, xs = [.int i] ∧ Q (.bl (i != 0)) H) ∨ ∃ k, xs = [.bl k] ∧ Q (.bl k) H
theorem c_bool1 : CallR X (.type "bool") rBool1 := call_bool1
def rIsNon : R2 := fun x y H Q => y = .non ∧ Q (.bl (decide (x = .non))) H
theorem o_isN : OpR X (compareOp .Is) rIsNon := op_isN
def rNotNon : R2 := fun x y H Q => y = .non ∧ Q (.bl (!decide (x = .non))) H
theorem o_notN : OpR X (compareOp .IsNot) rNotNon := op_notN
def rAddStr : R2 := fun x y H Q => ∃ i j, x = .str i ∧ y = .str j ∧ i.length + j.length ≤ sizeLine ∧ Q (.str (i ++ j)) H
theorem o_addS : OpR X (binaryOp .Add) rAddStr := op_add_str
theorem o_iaddS : OpR X (inplaceOp .Add) rAddStr := iop_add_str
end
section
variable {K : PySem.W.Frag} {σ : L2.St} {H : Hp} {Q : VK}
theorem i_isN {x : V} (q : Q (.bl (decide (x = .non))) H) : rIsNon x .non H Q := ⟨rfl, q⟩
theorem i_notN {x : V} (q : Q (.bl (!decide (x = .non))) H) : rNotNon x .non H Q := ⟨rfl, q⟩
theorem i_int {i : Int} (q : Q (.int i) H) : rInt1 [.int i] H Q := .inl ⟨i, rfl, q⟩
theorem i_intB {k : Bool} (q : Q (.int (if k then 1 else 0)) H) : rInt1 [.bl k] H Q := .inr ⟨k, rfl, q⟩
theorem i_abs {i : Int} (q : Q (.int (if i < 0 then -i else i)) H) : rAbs [.int i] H Q := ⟨i, rfl, q⟩
theorem i_max2 {i j : Int} (q : Q (.int (if j > i then j else i)) H) : rMax2 [.int i, .int j] H Q := ⟨i, j, rfl, q⟩
theorem i_min2 {i j : Int} (q : Q (.int (if j < i then j else i)) H) : rMin2 [.int i, .int j] H Q := ⟨i, j, rfl, q⟩
theorem i_lenL {p : Addr} {xs : List V} (h : SqL K H p xs) (q : Q (.int xs.length) H) : rLen K [.ref p] H Q := ⟨.ref p, xs.length, rfl, .inl ⟨xs, h, rfl⟩, q⟩
theorem i_lenT {p : Addr} {xs : List V} (h : SqT K H p xs) (q : Q (.int xs.length) H) : rLen K [.ref p] H Q := ⟨.ref p, xs.length, rfl, .inr ⟨xs, h, rfl⟩, q⟩
theorem i_lenS {x : Str} (h : x.length ≤ sizeLine) (q : Q (.int x.length) H) : rLen K [.str x] H Q := ⟨.str x, x.length, rfl, ⟨h, rfl⟩, q⟩
theorem i_lenD {p : Addr} {kvs : List (L2.Key × V)} (h : H p = some (.dK kvs)) (q : Q (.int kvs.length) H) : rLenD [.ref p] H Q := ⟨p, kvs, rfl, h, q⟩
theorem i_tupL {p : Addr} {ys : List V} (h : SqL K H p ys) (q : ∀ l, H l = none → Q (.ref l) (upd H l (.tup ys))) : rTupOf K [.ref p] H Q := ⟨p, ys, rfl, .inl ⟨h, q⟩⟩
theorem i_tupT {p : Addr} {ys : List V} (h : SqT K H p ys) (q : Q (.ref p) H) : rTupOf K [.ref p] H Q := ⟨p, ys, rfl, .inr ⟨h, q⟩⟩
theorem i_lstL {p : Addr} {ys : List V} (h : SqL K H p ys) (q : ∀ l, H l = none → Q (.ref l) (upd H l (.lst ys))) : rLstOf K [.ref p] H Q := ⟨p, ys, rfl, .inl h, q⟩
theorem i_lstT {p : Addr} {ys : List V} (h : SqT K H p ys) (q : ∀ l, H l = none → Q (.ref l) (upd H l (.lst ys))) : rLstOf K [.ref p] H Q := ⟨p, ys, rfl, .inr h, q⟩
theorem i_catA {p b : Addr} {xs ys : List V} (h1 : SqT K H p xs) (h2 : SqT K H b ys) (hl : xs.length + ys.length ≤ sizeLine) (q : ∀ (r : Addr) (H' : Hp), (∀ b o, H b = some o → H' b = some o) → SqT K H' r (xs ++ ys) → Q (.ref r) H') : rCatA K (.ref p) (.ref b) H Q := by
  refine ⟨p, b, xs, ys, rfl, rfl, h1, h2, hl, fun e => ?_, fun _ e => ?_, fun _ _ r hr => ?_⟩
  · subst e; exact q b H (fun _ _ h => h) h2
  · subst e; exact q p H (fun _ _ h => h) (by rw [List.append_nil]; exact h1)
  · exact q r _ (fun b o e => by rw [upd_ne (ne_of_none e hr)]; exact e) (.inl (.inl upd_same))
theorem i_catI {p b : Addr} {ns ms : List Int} (h1 : SqT K H p (ns.map V.int)) (h2 : SqT K H b (ms.map V.int)) (hl : ns.length + ms.length ≤ 10000) (q : ∀ (r : Addr) (H' : Hp), (∀ b o, H b = some o → H' b = some o) → SqT K H' r ((ns ++ ms).map V.int) → Q (.ref r) H') : rCatA K (.ref p) (.ref b) H Q :=
  i_catA h1 h2 (by rw [List.length_map, List.length_map]; exact Nat.le_trans hl (by decide)) fun r H' s t => q r H' s (by rw [List.map_append]; exact t)
/-- ns[lo:hi] -/
def cutI (ns : List Int) (lo hi : Option Int) : List Int := (ns.drop (HT.sIx ns.length 0 lo)).take (HT.sIx ns.length ns.length hi - HT.sIx ns.length 0 lo)
theorem cutI_len (ns : List Int) (lo hi : Option Int) : (cutI ns lo hi).length ≤ ns.length := by
  unfold cutI
  rw [List.length_take, List.length_drop]
  omega
theorem i_slI {p : Addr} {ns : List Int} {lo hi : Option Int} (h : SqT K H p (ns.map V.int)) (hw : ¬ (HT.sIx ns.length 0 lo = 0 ∧ HT.sIx ns.length ns.length hi = ns.length))
    (q : ∀ (r : Addr) (H' : Hp), (∀ b o, H b = some o → H' b = some o) → SqT K H' r ((cutI ns lo hi).map V.int) → Q (.ref r) H') : rSlT K (.ref p) lo hi H Q := by
  refine ⟨p, _, rfl, h, by rw [List.length_map]; exact hw, fun r hr => q r _ (fun b o e => by rw [upd_ne (ne_of_none e hr)]; exact e) (.inl (.inl ?_))⟩
  rw [upd_same]
  unfold cutV cutI
  rw [List.length_map, List.map_take, List.map_drop]
theorem i_slT {te : TE} {tl th : TO} (h : te σ H fun x H1 => tl σ H1 fun l H2 => th σ H2 fun u H3 => rSlT K x l u H3 Q) : tSl (rSlT K) te tl th σ H Q := h
theorem i_slL {te : TE} {tl th : TO} (h : te σ H fun x H1 => tl σ H1 fun l H2 => th σ H2 fun u H3 => rSlL K x l u H3 Q) : tSl (rSlL K) te tl th σ H Q := h
theorem i_noPart {Q : Option Int → Hp → Prop} (q : Q none H) : tNoPart σ H Q := q
theorem i_part {t : TE} {Q : Option Int → Hp → Prop} (h : t σ H fun x H1 => ∃ i, x = .int i ∧ Q (some i) H1) : tPart t σ H Q := h
theorem i_cat {p b : Addr} {xs zs : List V} (h1 : H p = some (.lst xs)) (h2 : H b = some (.lst zs)) (hl : xs.length + zs.length ≤ sizeLine) (q : ∀ r, H r = none → Q (.ref r) (upd H r (.lst (xs ++ zs)))) : rCat (.ref p) (.ref b) H Q := ⟨p, b, xs, zs, rfl, rfl, h1, h2, hl, q⟩
theorem i_chain {r r' : R2} {ta tb tc : TE} (h : ta σ H fun x H1 => tb σ H1 fun y H2 => r x y H2 fun z H3 => ∃ k, z = .bl k ∧ (if k = true then tc σ H3 fun w' H4 => r' y w' H4 Q else Q (.bl false) H3)) : tChain r r' ta tb tc σ H Q := h
theorem i_popAt {p : Addr} {xs : List V} {i : Int} {y : V} (h : H p = some (.lst xs)) (h0 : 0 ≤ i) (h1 : i < xs.length) (h2 : xs.length ≤ 1000000) (e : xs[i.toNat]? = some y) (q : Q y (upd H p (.lst (xs.eraseIdx i.toNat)))) : rPopAt (.ref p) [.int i] H Q :=
  ⟨p, xs, i, i.toNat, y, rfl, rfl, h, by omega, by omega, seqIndex_of h0 h1, e, q⟩
theorem i_isI {i : Int} {Q : Int → Prop} (q : Q i) : ∃ i', V.int i = .int i' ∧ Q i' := ⟨i, rfl, q⟩
theorem i_bm {T : String} {r : V → List V → Hp → VK → Prop} {to : TE} {t : TA} (h : to σ H fun x H1 => tyV K T x H1 ∧ t σ H1 fun xs H2 => r x xs H2 Q) : tBM K T r to t σ H Q := h
theorem i_bm0 {T : String} {r : V → List V → Hp → VK → Prop} {to : TE} (h : to σ H fun x H1 => tyV K T x H1 ∧ r x [] H1 Q) : tBM0 K T r to σ H Q := h
theorem i_tyL {p : Addr} {xs : List V} {R : Prop} (s : SqL K H p xs) (q : R) : tyV K "list" (.ref p) H ∧ R := ⟨.inl ⟨rfl, xs, s⟩, q⟩
theorem i_app {p : Addr} {xs : List V} {y : V} (h : H p = some (.lst xs)) (hl : xs.length < sizeLine) (q : Q .non (upd H p (.lst (xs ++ [y])))) : rAppend (.ref p) [y] H Q := ⟨p, xs, y, rfl, rfl, h, hl, q⟩
theorem i_addS {x y : Str} (h : x.length + y.length ≤ sizeLine) (q : Q (.str (x ++ y)) H) : rAddStr (.str x) (.str y) H Q := ⟨x, y, rfl, rfl, h, q⟩
theorem i_isi {x : V} {n : String} {t : Value} {b : Bool} (ty : TyX K H x t) (e : PySem.W.kitOne K t (.type n) = some b) (q : Q (.bl b) H) : rIsi K [x, .ty n] H Q := ⟨x, .ty n, t, .type n, b, rfl, .ty n, ty, e, q⟩
theorem i_var {i : Nat} {v : V} (h : σ[i]? = some (some v)) (q : Q v H) : tVar i σ H Q := ⟨v, h, q⟩
theorem i_c {v : V} (q : Q v H) : tC v σ H Q := q
theorem i_op {r : R2} {ta tb : TE} (h : ta σ H fun x H1 => tb σ H1 fun y H2 => r x y H2 Q) : tOp r ta tb σ H Q := h
theorem i_un {r : V → Hp → VK → Prop} {ta : TE} (h : ta σ H fun x H1 => r x H1 Q) : tUn r ta σ H Q := h
theorem i_rI0 {g : Int → Int → V} {i j : Int} (q : Q (g i j) H) : rI0 g (.int i) (.int j) H Q := ⟨i, j, rfl, rfl, q⟩
theorem i_rI {C : Int → Int → Prop} {g : Int → Int → V} {i j : Int} (c : C i j) (q : Q (g i j) H) : rI C g (.int i) (.int j) H Q := ⟨i, j, rfl, rfl, c, q⟩
theorem i_rU {g : Int → V} {i : Int} (q : Q (g i) H) : rU g (.int i) H Q := ⟨i, rfl, q⟩
theorem i_eqI {i j : Int} (q : Q (.bl (decide (i = j))) H) : rEq (.int i) (.int j) H Q := ⟨rfl, by
  have e : decide (V.int i = V.int j) = decide (i = j) := by simp
  rw [e]; exact q⟩
theorem i_neI {i j : Int} (q : Q (.bl (!decide (i = j))) H) : rNe (.int i) (.int j) H Q := ⟨rfl, by
  have e : decide (V.int i = V.int j) = decide (i = j) := by simp
  rw [e]; exact q⟩
theorem i_eqB {i j : Bool} (q : Q (.bl (decide (i = j))) H) : rEq (.bl i) (.bl j) H Q := ⟨rfl, by
  have e : decide (V.bl i = V.bl j) = decide (i = j) := by simp
  rw [e]; exact q⟩
theorem i_neB {i j : Bool} (q : Q (.bl (!decide (i = j))) H) : rNe (.bl i) (.bl j) H Q := ⟨rfl, by
  have e : decide (V.bl i = V.bl j) = decide (i = j) := by simp
  rw [e]; exact q⟩
theorem i_eqS {i j : Str} (q : Q (.bl (decide (i = j))) H) : rEq (.str i) (.str j) H Q := ⟨rfl, by
  have e : decide (V.str i = V.str j) = decide (i = j) := by simp
  rw [e]; exact q⟩
theorem i_neS {i j : Str} (q : Q (.bl (!decide (i = j))) H) : rNe (.str i) (.str j) H Q := ⟨rfl, by
  have e : decide (V.str i = V.str j) = decide (i = j) := by simp
  rw [e]; exact q⟩
/-! index -/
theorem i_ixL {p : Addr} {xs : List V} {i : Int} {v : V} (h : SqL K H p xs) (e : atI xs i = some v) (q : Q v H) : rIxL K (.ref p) (.int i) H Q := ⟨p, xs, i, v, rfl, rfl, h, e, q⟩
theorem i_ixT {p : Addr} {xs : List V} {i : Int} {v : V} (h : SqT K H p xs) (e : atI xs i = some v) (q : Q v H) : rIxT K (.ref p) (.int i) H Q := ⟨p, xs, i, v, rfl, rfl, h, e, q⟩
theorem i_ix1 {x y : V} (h : rIxL K x y H Q) : rIx K x y H Q := .inl h
theorem i_ix2 {x y : V} (h : rIxT K x y H Q) : rIx K x y H Q := .inr (.inl h)
/-! arguments, calls, displays -/
theorem i_nil {Q : List V → Hp → Prop} (q : Q [] H) : tNil σ H Q := q
theorem i_cons {ta : TE} {tr : TA} {Q : List V → Hp → Prop} (h : ta σ H fun x H1 => tr σ H1 fun xs H2 => Q (x :: xs) H2) : tCons ta tr σ H Q := h
theorem i_call {sp : Sp} {E : XK} {t : TA} (h : t σ H fun vs H1 => sp (vs ++ []) H1 Q E) : tCall sp [] E t σ H Q := h
theorem i_cb {r : List V → Hp → VK → Prop} {t : TA} (h : t σ H fun vs H1 => r vs H1 Q) : tCB r t σ H Q := h
theorem i_tup {t : TA} (h : t σ H fun xs H1 => xs.length ≤ sizeLine ∧ ∀ p, H1 p = none → Q (.ref p) (upd H1 p (.tup xs))) : tTup t σ H Q := h
theorem i_lst {t : TA} (h : t σ H fun xs H1 => xs.length ≤ sizeLine ∧ ∀ p, H1 p = none → Q (.ref p) (upd H1 p (.lst xs))) : tLst t σ H Q := h
theorem i_new {n : Nat} {R : Addr → Prop} (h : n ≤ sizeLine) (q : ∀ p, H p = none → R p) : n ≤ sizeLine ∧ ∀ p, H p = none → R p := ⟨h, q⟩
theorem i_if {c : TT} {ta tb : TE} (h : c σ H fun b H1 => if b = true then ta σ H1 Q else tb σ H1 Q) : tIf c ta tb σ H Q := h
theorem i_andV {ta tb : TE} (h : ta σ H fun x H1 => ∃ c, x = .bl c ∧ if c = true then tb σ H1 Q else Q (.bl false) H1) : tAndV ta tb σ H Q := h
theorem i_orV {ta tb : TE} (h : ta σ H fun x H1 => ∃ c, x = .bl c ∧ if c = true then Q (.bl true) H1 else tb σ H1 Q) : tOrV ta tb σ H Q := h
theorem i_notV {ta : TE} (h : ta σ H fun x H1 => ∃ c, x = .bl c ∧ Q (.bl (!c)) H1) : tNotV ta σ H Q := h
/-! tests -/
theorem i_test {t : TE} {Q : Bool → Hp → Prop} (h : t σ H fun x H1 => ∃ k, x = .bl k ∧ Q k H1) : tTest t σ H Q := h
theorem i_B {t : TE} {Q : Bool → Hp → Prop} (h : t σ H fun x H1 => ∃ k, x = .bl k ∧ Q k H1) : tB t σ H Q := h
theorem i_isb {k : Bool} {Q : Bool → Prop} (q : Q k) : ∃ k', V.bl k = .bl k' ∧ Q k' := ⟨k, rfl, q⟩
theorem i_and {t u : TT} {Q : Bool → Hp → Prop} (h : t σ H fun c H1 => if c = true then u σ H1 Q else Q false H1) : tAnd t u σ H Q := h
theorem i_or {t u : TT} {Q : Bool → Hp → Prop} (h : t σ H fun c H1 => if c = true then Q true H1 else u σ H1 Q) : tOr t u σ H Q := h
theorem i_not {t : TT} {Q : Bool → Hp → Prop} (h : t σ H fun c H1 => Q (!c) H1) : tNot t σ H Q := h
/-! statements -/
section
variable {nx : L2.St → Hp → Prop} {rt : VK} {bk ct : L2.St → Hp → Prop}
theorem i_seq {t u : TS} (h : t ⟨u ⟨nx, rt, bk, ct⟩, rt, bk, ct⟩ σ H) : tSeq t u ⟨nx, rt, bk, ct⟩ σ H := h
theorem i_next (h : nx σ H) : tNext ⟨nx, rt, bk, ct⟩ σ H := h
theorem i_asg {te : TE} {g : TG} (h : te σ H fun x H1 => g x σ H1 nx) : tAsg te g ⟨nx, rt, bk, ct⟩ σ H := h
theorem i_drop {te : TE} (h : te σ H fun _ H1 => nx σ H1) : tDrop te ⟨nx, rt, bk, ct⟩ σ H := h
theorem i_ret {te : TE} (h : te σ H rt) : tRet te ⟨nx, rt, bk, ct⟩ σ H := h
theorem i_retN (h : rt .non H) : tRetN ⟨nx, rt, bk, ct⟩ σ H := h
theorem i_ifS {c : TT} {t u : TS} (h : c σ H fun b H1 => if b = true then t ⟨nx, rt, bk, ct⟩ σ H1 else u ⟨nx, rt, bk, ct⟩ σ H1) : tIfS c t u ⟨nx, rt, bk, ct⟩ σ H := h
theorem i_ifC {c : TT} {t u : TS} (J : L2.St → Hp → Prop) (h1 : ∀ σ' H', J σ' H' → nx σ' H') (h2 : ∀ N : L2.St → Hp → Prop, (∀ σ' H', J σ' H' → N σ' H') → tIfS c t u ⟨N, rt, bk, ct⟩ σ H) : tIfS c t u ⟨nx, rt, bk, ct⟩ σ H := h2 _ h1
theorem i_break (h : bk σ H) : tBreak ⟨nx, rt, bk, ct⟩ σ H := h
theorem i_cont (h : ct σ H) : tCont ⟨nx, rt, bk, ct⟩ σ H := h
theorem i_augE {i : Nat} {te : TE} {ti : TIp} {x : V} (e : σ[i]? = some (some x)) (h : te σ H fun y H1 => ti x y H1 fun z H2 => gName i z σ H2 nx) : tAug i te ti ⟨nx, rt, bk, ct⟩ σ H := ⟨x, e, h⟩
theorem i_augS {to ti te : TE} {tget : V → V → Hp → VK → Prop} {tip : TIp} {tset : TSet} (h : to σ H fun o H1 => ti σ H1 fun i H2 => tget o i H2 fun x H3 => te σ H3 fun y H4 => tip x y H4 fun z H5 => tset o i z H5 fun H6 => nx σ H6) : tAugS to ti te tget tip tset ⟨nx, rt, bk, ct⟩ σ H := h
theorem i_ipI {f : Int → Int → Int} {i j : Int} (q : Q (.int (f i j)) H) : ipI f (.int i) (.int j) H Q := ⟨i, j, rfl, rfl, q⟩
theorem i_for {wi : TI} {g : TG} {tb : TS} (h : wi σ H fun J H1 => ∃ W : Nat → Nat → L2.St → Hp → Prop, (∃ m, W 0 m σ H1) ∧ ∀ i m σ H, W i m σ H →
  (J.stop i H ∧ nx σ H) ∨ (J.go i H ∧ ∃ N : L2.St → Hp → Prop, (∀ σ' H', N σ' H' → ∃ m', m' < m ∧ W (i + 1) m' σ' H') ∧ ∀ x H', J.yld i H x H' → g x σ H' fun σ2 H2 => tb ⟨N, rt, nx, N⟩ σ2 H2)) : tFor wi g tb ⟨nx, rt, bk, ct⟩ σ H := h
theorem i_iList {tl : TE} {R : It → Hp → Prop} (h : tl σ H fun x H1 => ∃ a, x = .ref a ∧ (∃ xs, SqL K H1 a xs) ∧ R (Itl K a) H1) : iList K tl σ H R := h
theorem i_iTup {tl : TE} {R : It → Hp → Prop} (h : tl σ H fun x H1 => ∃ a, x = .ref a ∧ (∃ xs, SqT K H1 a xs) ∧ R (Itt K a) H1) : iTup K tl σ H R := h
theorem i_isL {a : Addr} {xs : List V} {R : Addr → Prop} (s : SqL K H a xs) (h : R a) : ∃ a', V.ref a = .ref a' ∧ (∃ xs, SqL K H a' xs) ∧ R a' := ⟨a, rfl, ⟨xs, s⟩, h⟩
theorem i_isT {a : Addr} {xs : List V} {R : Addr → Prop} (s : SqT K H a xs) (h : R a) : ∃ a', V.ref a = .ref a' ∧ (∃ xs, SqT K H a' xs) ∧ R a' := ⟨a, rfl, ⟨xs, s⟩, h⟩
theorem i_rng1 {ta : TA} {R : It → Hp → Prop} (h : ta σ H fun vs H1 => ∃ j : Int, vs = [.int j] ∧ -(2 ^ 62) ≤ j ∧ j < 2 ^ 62 ∧ R (Itr 0 j.toNat) H1) : iRng1 ta σ H R := h
theorem i_rng2 {ta : TA} {R : It → Hp → Prop} (h : ta σ H fun vs H1 => ∃ i j : Int, vs = [.int i, .int j] ∧ (-(2 ^ 62) ≤ i ∧ i < 2 ^ 62 ∧ -(2 ^ 62) ≤ j ∧ j < 2 ^ 62) ∧ R (Itr i (j - i).toNat) H1) : iRng2 ta σ H R := h
theorem i_isR1 {j : Int} {R : Int → Prop} (h1 : -(2 ^ 62) ≤ j) (h2 : j < 2 ^ 62) (h : R j) : ∃ j' : Int, [V.int j] = [.int j'] ∧ -(2 ^ 62) ≤ j' ∧ j' < 2 ^ 62 ∧ R j' := ⟨j, rfl, h1, h2, h⟩
theorem i_isR2 {i j : Int} {R : Int → Int → Prop} (h1 : -(2 ^ 62) ≤ i) (h2 : i < 2 ^ 62) (h3 : -(2 ^ 62) ≤ j) (h4 : j < 2 ^ 62) (h : R i j) : ∃ i' j' : Int, [V.int i, V.int j] = [.int i', .int j'] ∧ (-(2 ^ 62) ≤ i' ∧ i' < 2 ^ 62 ∧ -(2 ^ 62) ≤ j' ∧ j' < 2 ^ 62) ∧ R i' j' := ⟨i, j, rfl, ⟨h1, h2, h3, h4⟩, h⟩
end
/-! comprehensions -/
theorem i_lc {wi : TI} {g : TG} {tt : TT} {te : TE} {ws : List Nat} {σ' : L2.St} (e : wipe σ ws = σ') (h : wi σ H fun J H1 => ∀ D, H1 D = none → ∃ W : Nat → Nat → Hp → Prop, (∃ m, W 0 m (upd H1 D (.lst []))) ∧ ∀ i m H, W i m H →
  (J.stop i H ∧ Q (.ref D) H) ∨ (J.go i H ∧ ∃ Nx : Hp → Prop, (∀ H', Nx H' → ∃ m', m' < m ∧ W (i + 1) m' H') ∧ ∀ x H', J.yld i H x H' → g x σ' H' fun σ2 H2 => wipe σ2 ws = σ' ∧ tt σ2 H2 fun b H3 =>
    if b = true then te σ2 H3 fun y H4 => ∃ acc, H4 D = some (.lst acc) ∧ acc.length < sizeLine ∧ Nx (upd H4 D (.lst (acc ++ [y]))) else Nx H3)) : tLc wi g tt te ws σ H Q := by subst e; exact h
/-! targets -/
theorem i_gNameE {i : Nat} {v : V} {σ' : L2.St} {Q : L2.St → Hp → Prop} (e : σ.set i (some v) = σ') (q : Q σ' H) : gName i v σ H Q := by subst e; exact q
theorem st_of {t : TS} {D : Ends} {σ σ' : L2.St} {H : Hp} (e : σ = σ') (h : t D σ' H) : t D σ H := by subst e; exact h
theorem i_gName {i : Nat} {v : V} {Q : L2.St → Hp → Prop} (q : Q (σ.set i (some v)) H) : gName i v σ H Q := q
theorem i_gSub {to ti : TE} {t : TSet} {v : V} {Q : L2.St → Hp → Prop} (h : to σ H fun o H1 => ti σ H1 fun i H2 => t o i v H2 fun H3 => Q σ H3) : gSub to ti t v σ H Q := h
theorem i_setL {p : Addr} {xs : List V} {k : Int} {j : Nat} {v : V} {Q : Hp → Prop} (h : H p = some (.lst xs)) (e : ixN xs.length k = some j) (q : Q (upd H p (.lst (xs.set j v)))) : rSetL (.ref p) (.int k) v H Q := ⟨p, xs, k, j, rfl, rfl, h, e, q⟩
theorem i_gTup {n : Nat} {t : TGs} {a : Addr} {xs : List V} {Q : L2.St → Hp → Prop} (h : SqT K H a xs) (e : xs.length = n) (q : t xs σ H Q) : gTup K n t (.ref a) σ H Q := ⟨a, xs, rfl, h, e, q⟩
theorem i_gNil {Q : L2.St → Hp → Prop} (q : Q σ H) : gNil [] σ H Q := ⟨rfl, q⟩
theorem i_gCons {t : TG} {u : TGs} {v : V} {r : List V} {Q : L2.St → Hp → Prop} (q : t v σ H fun σ' H' => u r σ' H' Q) : gCons t u (v :: r) σ H Q := ⟨v, r, rfl, q⟩
/-! builtins' calls -/
end
/-! ### heaps -/
/-- all but p is as it was -/
def Kp (p : Addr) (H H' : Hp) : Prop := ∀ b o, H b = some o → b ≠ p → H' b = some o
theorem Kp.refl {p : Addr} {H : Hp} : Kp p H H := fun _ _ e _ => e
theorem Kp.of {p : Addr} {H H' : Hp} (s : Same H H') : Kp p H H' := fun b o e _ => s b o e
theorem Kp.trans {p : Addr} {H H1 H2 : Hp} (a : Kp p H H1) (b : Kp p H1 H2) : Kp p H H2 := fun c o e n => b c o (a c o e n) n
theorem Kp.upd {p : Addr} {H : Hp} {o : HO} : Kp p H (upd H p o) := fun b u e n => by rw [upd_ne n]; exact e
theorem same_new {H : Hp} {p : Addr} {o : HO} (h : H p = none) : Same H (upd H p o) := fun b x e => by
  rw [upd_ne (ne_of_none e h)]
  exact e
theorem Same.tup {K : PySem.W.Frag} {H H' : Hp} {a : Addr} {xs : List V} (e : Same H H') (h : SqT K H a xs) : SqT K H' a xs := by
  rcases h with (h | ⟨o, h⟩) | h
  · exact .inl (.inl (e _ _ h))
  · exact .inl (.inr ⟨o, e _ _ h⟩)
  · exact .inr h
/-- all tuples are as they were -/
def Tps (H H' : Hp) : Prop := ∀ a, (∀ xs, H a = some (.tup xs) → H' a = some (.tup xs)) ∧ ∀ o xs, H a = some (.frz o (.tup xs)) → H' a = some (.frz o (.tup xs))
theorem Tps.sq {K : PySem.W.Frag} {H H' : Hp} {a : Addr} {xs : List V} (e : Tps H H') (h : SqT K H a xs) : SqT K H' a xs := by
  rcases h with (h | ⟨o, h⟩) | h
  · exact .inl (.inl ((e a).1 _ h))
  · exact .inl (.inr ⟨o, (e a).2 _ _ h⟩)
  · exact .inr h
theorem Tps.refl {H : Hp} : Tps H H := fun _ => ⟨fun _ h => h, fun _ _ h => h⟩
theorem Tps.trans {H H1 H2 : Hp} (a : Tps H H1) (b : Tps H1 H2) : Tps H H2 := fun c => ⟨fun xs h => (b c).1 xs ((a c).1 xs h), fun o xs h => (b c).2 o xs ((a c).2 o xs h)⟩
theorem Tps.of {H H' : Hp} (s : Same H H') : Tps H H' := fun a => ⟨fun xs h => s _ _ h, fun o xs h => s _ _ h⟩
theorem Kp.tps {p : Addr} {H H' : Hp} (k : Kp p H H') {xs : List V} (h : H p = some (.lst xs)) : Tps H H' := fun a => ⟨fun ys e => k _ _ e (ne_of e h (by intro z; cases z)), fun o ys e => k _ _ e (ne_of e h (by intro z; cases z))⟩
theorem Kp.seq {K : PySem.W.Frag} {p b : Addr} {H H' : Hp} {xs : List V} (k : Kp p H H') (h : SqL K H b xs) (n : b ≠ p) : SqL K H' b xs := by
  rcases h with (h | ⟨o, h⟩) | h
  · exact .inl (.inl (k _ _ h n))
  · exact .inl (.inr ⟨o, k _ _ h n⟩)
  · exact .inr h
/-! ### loops -/
section
variable {K : PySem.W.Frag} {a : Addr} {xs : List V} {g : TG} {tb : TS} {σ : L2.St} {H : Hp} {nx : L2.St → Hp → Prop} {rt : VK}
theorem f_list (Pv : Nat → L2.St → Hp → Prop) (h0 : Pv 0 σ H) (hl : ∀ i σ H, i ≤ xs.length → Pv i σ H → SqL K H a xs)
    (hs : ∀ i x σ H, xs[i]? = some x → Pv i σ H → g x σ H fun σ2 H2 => tb ⟨Pv (i + 1), rt, nx, Pv (i + 1)⟩ σ2 H2) (hd : ∀ σ H, Pv xs.length σ H → nx σ H) :
    ∃ W : Nat → Nat → L2.St → Hp → Prop, (∃ m, W 0 m σ H) ∧ ∀ i m σ H, W i m σ H →
      ((Itl K a).stop i H ∧ nx σ H) ∨ ((Itl K a).go i H ∧ ∃ N : L2.St → Hp → Prop, (∀ σ' H', N σ' H' → ∃ m', m' < m ∧ W (i + 1) m' σ' H') ∧ ∀ x H', (Itl K a).yld i H x H' → g x σ H' fun σ2 H2 => tb ⟨N, rt, nx, N⟩ σ2 H2) :=
  for_list (D := ⟨nx, rt, fun _ _ => False, fun _ _ => False⟩) Pv h0 hl hs hd
theorem f_tup (Pv : Nat → L2.St → Hp → Prop) (h0 : Pv 0 σ H) (hl : ∀ i σ H, i ≤ xs.length → Pv i σ H → SqT K H a xs)
    (hs : ∀ i x σ H, xs[i]? = some x → Pv i σ H → g x σ H fun σ2 H2 => tb ⟨Pv (i + 1), rt, nx, Pv (i + 1)⟩ σ2 H2) (hd : ∀ σ H, Pv xs.length σ H → nx σ H) :
    ∃ W : Nat → Nat → L2.St → Hp → Prop, (∃ m, W 0 m σ H) ∧ ∀ i m σ H, W i m σ H →
      ((Itt K a).stop i H ∧ nx σ H) ∨ ((Itt K a).go i H ∧ ∃ N : L2.St → Hp → Prop, (∀ σ' H', N σ' H' → ∃ m', m' < m ∧ W (i + 1) m' σ' H') ∧ ∀ x H', (Itt K a).yld i H x H' → g x σ H' fun σ2 H2 => tb ⟨N, rt, nx, N⟩ σ2 H2) :=
  for_tup (D := ⟨nx, rt, fun _ _ => False, fun _ _ => False⟩) Pv h0 hl hs hd
theorem f_range {lo : Int} {n : Nat} (Pv : Nat → L2.St → Hp → Prop) (h0 : Pv 0 σ H)
    (hs : ∀ i σ H, i < n → Pv i σ H → g (.int (lo + i)) σ H fun σ2 H2 => tb ⟨Pv (i + 1), rt, nx, Pv (i + 1)⟩ σ2 H2) (hd : ∀ σ H, Pv n σ H → nx σ H) :
    ∃ W : Nat → Nat → L2.St → Hp → Prop, (∃ m, W 0 m σ H) ∧ ∀ i m σ H, W i m σ H →
      ((Itr lo n).stop i H ∧ nx σ H) ∨ ((Itr lo n).go i H ∧ ∃ N : L2.St → Hp → Prop, (∀ σ' H', N σ' H' → ∃ m', m' < m ∧ W (i + 1) m' σ' H') ∧ ∀ x H', (Itr lo n).yld i H x H' → g x σ H' fun σ2 H2 => tb ⟨N, rt, nx, N⟩ σ2 H2) :=
  for_range (D := ⟨nx, rt, fun _ _ => False, fun _ _ => False⟩) Pv h0 hs hd
variable {tt : TT} {te : TE} {ws : List Nat} {D : Addr} {Qd : Hp → Prop} {σ' : L2.St}
theorem l_list (Pv : Nat → Hp → Prop) (h0 : Pv 0 (upd H D (.lst []))) (hl : ∀ i H, i ≤ xs.length → Pv i H → SqL K H a xs)
    (hs : ∀ i x H, xs[i]? = some x → Pv i H → g x σ' H fun σ2 H2 => wipe σ2 ws = σ' ∧ tt σ2 H2 fun b H3 =>
      if b = true then te σ2 H3 fun y H4 => ∃ acc, H4 D = some (.lst acc) ∧ acc.length < sizeLine ∧ Pv (i + 1) (upd H4 D (.lst (acc ++ [y]))) else Pv (i + 1) H3) (hd : ∀ H, Pv xs.length H → Qd H) (e : wipe σ' ws = σ' := by rfl) :
    ∃ W : Nat → Nat → Hp → Prop, (∃ m, W 0 m (upd H D (.lst []))) ∧ ∀ i m H, W i m H →
      ((Itl K a).stop i H ∧ Qd H) ∨ ((Itl K a).go i H ∧ ∃ Nx : Hp → Prop, (∀ H', Nx H' → ∃ m', m' < m ∧ W (i + 1) m' H') ∧ ∀ x H', (Itl K a).yld i H x H' → g x σ' H' fun σ2 H2 => wipe σ2 ws = σ' ∧ tt σ2 H2 fun b H3 =>
        if b = true then te σ2 H3 fun y H4 => ∃ acc, H4 D = some (.lst acc) ∧ acc.length < sizeLine ∧ Nx (upd H4 D (.lst (acc ++ [y]))) else Nx H3) := by
  have h := lc_list (K := K) (a := a) (xs := xs) (g := g) (tt := tt) (te := te) (vs := ws) (σ := σ') (H1 := H) (D := D) (Qd := Qd) Pv h0 hl (by rw [e]; exact hs) hd
  rw [e] at h
  exact h
theorem l_tup (Pv : Nat → Hp → Prop) (h0 : Pv 0 (upd H D (.lst []))) (hl : ∀ i H, i ≤ xs.length → Pv i H → SqT K H a xs)
    (hs : ∀ i x H, xs[i]? = some x → Pv i H → g x σ' H fun σ2 H2 => wipe σ2 ws = σ' ∧ tt σ2 H2 fun b H3 =>
      if b = true then te σ2 H3 fun y H4 => ∃ acc, H4 D = some (.lst acc) ∧ acc.length < sizeLine ∧ Pv (i + 1) (upd H4 D (.lst (acc ++ [y]))) else Pv (i + 1) H3) (hd : ∀ H, Pv xs.length H → Qd H) (e : wipe σ' ws = σ' := by rfl) :
    ∃ W : Nat → Nat → Hp → Prop, (∃ m, W 0 m (upd H D (.lst []))) ∧ ∀ i m H, W i m H →
      ((Itt K a).stop i H ∧ Qd H) ∨ ((Itt K a).go i H ∧ ∃ Nx : Hp → Prop, (∀ H', Nx H' → ∃ m', m' < m ∧ W (i + 1) m' H') ∧ ∀ x H', (Itt K a).yld i H x H' → g x σ' H' fun σ2 H2 => wipe σ2 ws = σ' ∧ tt σ2 H2 fun b H3 =>
        if b = true then te σ2 H3 fun y H4 => ∃ acc, H4 D = some (.lst acc) ∧ acc.length < sizeLine ∧ Nx (upd H4 D (.lst (acc ++ [y]))) else Nx H3) := by
  have h := lc_tup (K := K) (a := a) (xs := xs) (g := g) (tt := tt) (te := te) (vs := ws) (σ := σ') (H1 := H) (D := D) (Qd := Qd) Pv h0 hl (by rw [e]; exact hs) hd
  rw [e] at h
  exact h
theorem l_range {lo : Int} {n : Nat} (Pv : Nat → Hp → Prop) (h0 : Pv 0 (upd H D (.lst [])))
    (hs : ∀ i H, i < n → Pv i H → g (.int (lo + i)) σ' H fun σ2 H2 => wipe σ2 ws = σ' ∧ tt σ2 H2 fun b H3 =>
      if b = true then te σ2 H3 fun y H4 => ∃ acc, H4 D = some (.lst acc) ∧ acc.length < sizeLine ∧ Pv (i + 1) (upd H4 D (.lst (acc ++ [y]))) else Pv (i + 1) H3) (hd : ∀ H, Pv n H → Qd H) (e : wipe σ' ws = σ' := by rfl) :
    ∃ W : Nat → Nat → Hp → Prop, (∃ m, W 0 m (upd H D (.lst []))) ∧ ∀ i m H, W i m H →
      ((Itr lo n).stop i H ∧ Qd H) ∨ ((Itr lo n).go i H ∧ ∃ Nx : Hp → Prop, (∀ H', Nx H' → ∃ m', m' < m ∧ W (i + 1) m' H') ∧ ∀ x H', (Itr lo n).yld i H x H' → g x σ' H' fun σ2 H2 => wipe σ2 ws = σ' ∧ tt σ2 H2 fun b H3 =>
        if b = true then te σ2 H3 fun y H4 => ∃ acc, H4 D = some (.lst acc) ∧ acc.length < sizeLine ∧ Nx (upd H4 D (.lst (acc ++ [y]))) else Nx H3) := by
  have h := lc_range (lo := lo) (n := n) (g := g) (tt := tt) (te := te) (vs := ws) (σ := σ') (H1 := H) (D := D) (Qd := Qd) Pv h0 (by rw [e]; exact hs) hd
  rw [e] at h
  exact h
/-! a comprehension whose elements lay nothing -/
theorem l_rangeP {lo : Int} {n : Nat} (f : Nat → V) (hD : H D = none) (hn : n ≤ 1000000)
    (hs : ∀ i H' (R : VK), i < n → Same H H' → R (f i) H' → g (.int (lo + i)) σ' H' fun σ2 H2 => wipe σ2 ws = σ' ∧ tt σ2 H2 fun b H3 => if b = true then te σ2 H3 R else False)
    (hd : ∀ H', Same H H' → H' D = some (.lst ((List.range n).map f)) → Qd H') (e : wipe σ' ws = σ' := by rfl)
    (htt : ∀ (σ2 : L2.St) (H2 : Hp) (A : Hp → Prop) (B : Hp → Prop), (tt σ2 H2 fun b H3 => if b = true then A H3 else False) → tt σ2 H2 fun b H3 => if b = true then A H3 else B H3 := by intro _ _ _ _ h; exact h) (hg : ∀ x (σ2 : L2.St) (H2 : Hp) (A B : L2.St → Hp → Prop), (∀ s h, A s h → B s h) → g x σ2 H2 A → g x σ2 H2 B := by intro _ _ _ _ _ h q; exact h _ _ q) :
    ∃ W : Nat → Nat → Hp → Prop, (∃ m, W 0 m (upd H D (.lst []))) ∧ ∀ i m H, W i m H →
      ((Itr lo n).stop i H ∧ Qd H) ∨ ((Itr lo n).go i H ∧ ∃ Nx : Hp → Prop, (∀ H', Nx H' → ∃ m', m' < m ∧ W (i + 1) m' H') ∧ ∀ x H', (Itr lo n).yld i H x H' → g x σ' H' fun σ2 H2 => wipe σ2 ws = σ' ∧ tt σ2 H2 fun b H3 =>
        if b = true then te σ2 H3 fun y H4 => ∃ acc, H4 D = some (.lst acc) ∧ acc.length < sizeLine ∧ Nx (upd H4 D (.lst (acc ++ [y]))) else Nx H3) := by
  refine l_range (fun i H' => Same H H' ∧ H' D = some (.lst ((List.range i).map f))) ⟨same_new hD, upd_same⟩ (fun i H' hi h => ?_) (fun H' h => hd H' h.1 h.2) e
  obtain ⟨s, hD'⟩ := h
  refine hg _ _ _ _ _ (fun σ2 H2 q => ⟨q.1, htt _ _ _ _ q.2⟩) (hs i H' _ hi s ⟨_, hD', ?_, fun b o hb => ?_, ?_⟩)
  · rw [List.length_map, List.length_range, sizeLine_eq]; omega
  · rw [upd_ne (ne_of_none hb hD)]; exact s _ _ hb
  · rw [upd_same, List.range_succ, List.map_append] <;> rfl
theorem l_listP (f : Nat → V) (hD : H D = none) (hn : xs.length ≤ 1000000) (hx : SqL K H a xs)
    (hs : ∀ i x H' (R : VK), xs[i]? = some x → Same H H' → R (f i) H' → g x σ' H' fun σ2 H2 => wipe σ2 ws = σ' ∧ tt σ2 H2 fun b H3 => if b = true then te σ2 H3 R else False)
    (hd : ∀ H', Same H H' → H' D = some (.lst ((List.range xs.length).map f)) → Qd H') (e : wipe σ' ws = σ' := by rfl)
    (htt : ∀ (σ2 : L2.St) (H2 : Hp) (A : Hp → Prop) (B : Hp → Prop), (tt σ2 H2 fun b H3 => if b = true then A H3 else False) → tt σ2 H2 fun b H3 => if b = true then A H3 else B H3 := by intro _ _ _ _ h; exact h) (hg : ∀ x (σ2 : L2.St) (H2 : Hp) (A B : L2.St → Hp → Prop), (∀ s h, A s h → B s h) → g x σ2 H2 A → g x σ2 H2 B := by intro _ _ _ _ _ h q; exact h _ _ q) :
    ∃ W : Nat → Nat → Hp → Prop, (∃ m, W 0 m (upd H D (.lst []))) ∧ ∀ i m H, W i m H →
      ((Itl K a).stop i H ∧ Qd H) ∨ ((Itl K a).go i H ∧ ∃ Nx : Hp → Prop, (∀ H', Nx H' → ∃ m', m' < m ∧ W (i + 1) m' H') ∧ ∀ x H', (Itl K a).yld i H x H' → g x σ' H' fun σ2 H2 => wipe σ2 ws = σ' ∧ tt σ2 H2 fun b H3 =>
        if b = true then te σ2 H3 fun y H4 => ∃ acc, H4 D = some (.lst acc) ∧ acc.length < sizeLine ∧ Nx (upd H4 D (.lst (acc ++ [y]))) else Nx H3) := by
  refine l_list (xs := xs) (fun i H' => Same H H' ∧ H' D = some (.lst ((List.range i).map f))) ⟨same_new hD, upd_same⟩ (fun i H' _ h => Same.seq h.1 hx) (fun i x H' hi h => ?_) (fun H' h => hd H' h.1 h.2) e
  obtain ⟨s, hD'⟩ := h
  have hlt := (List.getElem?_eq_some_iff.mp hi).1
  refine hg _ _ _ _ _ (fun σ2 H2 q => ⟨q.1, htt _ _ _ _ q.2⟩) (hs i x H' _ hi s ⟨_, hD', ?_, fun b o hb => ?_, ?_⟩)
  · rw [List.length_map, List.length_range, sizeLine_eq]; omega
  · rw [upd_ne (ne_of_none hb hD)]; exact s _ _ hb
  · rw [upd_same, List.range_succ, List.map_append] <;> rfl
theorem l_tupP (f : Nat → V) (hD : H D = none) (hn : xs.length ≤ 1000000) (hx : SqT K H a xs)
    (hs : ∀ i x H' (R : VK), xs[i]? = some x → Same H H' → R (f i) H' → g x σ' H' fun σ2 H2 => wipe σ2 ws = σ' ∧ tt σ2 H2 fun b H3 => if b = true then te σ2 H3 R else False)
    (hd : ∀ H', Same H H' → H' D = some (.lst ((List.range xs.length).map f)) → Qd H') (e : wipe σ' ws = σ' := by rfl)
    (htt : ∀ (σ2 : L2.St) (H2 : Hp) (A : Hp → Prop) (B : Hp → Prop), (tt σ2 H2 fun b H3 => if b = true then A H3 else False) → tt σ2 H2 fun b H3 => if b = true then A H3 else B H3 := by intro _ _ _ _ h; exact h) (hg : ∀ x (σ2 : L2.St) (H2 : Hp) (A B : L2.St → Hp → Prop), (∀ s h, A s h → B s h) → g x σ2 H2 A → g x σ2 H2 B := by intro _ _ _ _ _ h q; exact h _ _ q) :
    ∃ W : Nat → Nat → Hp → Prop, (∃ m, W 0 m (upd H D (.lst []))) ∧ ∀ i m H, W i m H →
      ((Itt K a).stop i H ∧ Qd H) ∨ ((Itt K a).go i H ∧ ∃ Nx : Hp → Prop, (∀ H', Nx H' → ∃ m', m' < m ∧ W (i + 1) m' H') ∧ ∀ x H', (Itt K a).yld i H x H' → g x σ' H' fun σ2 H2 => wipe σ2 ws = σ' ∧ tt σ2 H2 fun b H3 =>
        if b = true then te σ2 H3 fun y H4 => ∃ acc, H4 D = some (.lst acc) ∧ acc.length < sizeLine ∧ Nx (upd H4 D (.lst (acc ++ [y]))) else Nx H3) := by
  refine l_tup (xs := xs) (fun i H' => Same H H' ∧ H' D = some (.lst ((List.range i).map f))) ⟨same_new hD, upd_same⟩ (fun i H' _ h => Same.tup h.1 hx) (fun i x H' hi h => ?_) (fun H' h => hd H' h.1 h.2) e
  obtain ⟨s, hD'⟩ := h
  have hlt := (List.getElem?_eq_some_iff.mp hi).1
  refine hg _ _ _ _ _ (fun σ2 H2 q => ⟨q.1, htt _ _ _ _ q.2⟩) (hs i x H' _ hi s ⟨_, hD', ?_, fun b o hb => ?_, ?_⟩)
  · rw [List.length_map, List.length_range, sizeLine_eq]; omega
  · rw [upd_ne (ne_of_none hb hD)]; exact s _ _ hb
  · rw [upd_same, List.range_succ, List.map_append] <;> rfl
end
theorem i_yes {σ : L2.St} {H : Hp} {Q : Bool → Hp → Prop} (q : Q true H) : tYes σ H Q := q
/-! ### ifs -/
theorem c_dec {P A B : Prop} [Decidable P] (h1 : P → A) (h2 : ¬ P → B) : if decide P = true then A else B := by
  by_cases h : P
  · rw [if_pos (decide_eq_true h)]; exact h1 h
  · rw [if_neg (by rw [decide_eq_false h]; exact Bool.false_ne_true)]; exact h2 h
theorem c_decN {P A B : Prop} [Decidable P] (h1 : ¬ P → A) (h2 : P → B) : if (!decide P) = true then A else B := by
  by_cases h : P
  · rw [if_neg (by rw [decide_eq_true h]; exact Bool.false_ne_true)]; exact h2 h
  · rw [if_pos (by rw [decide_eq_false h]; rfl)]; exact h1 h
theorem c_nt {A B : Prop} (h : B) : if (!true) = true then A else B := iteF h
theorem c_nf {A B : Prop} (h : A) : if (!false) = true then A else B := iteT h
theorem c_bool {b : Bool} {A B : Prop} (h1 : b = true → A) (h2 : b = false → B) : if b = true then A else B := by
  cases b
  · exact iteF (h2 rfl)
  · exact iteT (h1 rfl)
theorem c_yes {P A B : Prop} [Decidable P] (h : P) (h1 : A) : if decide P = true then A else B := by rw [if_pos (decide_eq_true h)]; exact h1
theorem c_no {P A B : Prop} [Decidable P] (h : ¬ P) (h1 : B) : if decide P = true then A else B := by rw [if_neg (by rw [decide_eq_false h]; exact Bool.false_ne_true)]; exact h1
theorem c_yesN {P A B : Prop} [Decidable P] (h : ¬ P) (h1 : A) : if (!decide P) = true then A else B := by rw [if_pos (by rw [decide_eq_false h]; rfl)]; exact h1
theorem c_noN {P A B : Prop} [Decidable P] (h : P) (h1 : B) : if (!decide P) = true then A else B := by rw [if_neg (by rw [decide_eq_true h]; exact Bool.false_ne_true)]; exact h1
/-! ### a def that can be called -/
structure Df (K : PySem.W.Frag) (mg : Str → Option Value) (x : Str) (st : Stmt) (f : Addr) (fd : FuncData) (ps : List Str) : Prop where
  fn : Fun K x x st f fd
  mgf : mg x = some (.ref f)
  bi : Binds K fd ps []
/-- a def of the text by its promise: it lets no exception out -/
structure Cl (P : Program) (w : World) (K : PySem.W.Frag) (mg : Str → Option Value) (base : Heap) (k : Nat) (x : Str) (sp : Sp) : Prop where
  ex : ∃ (f : Addr) (fd : FuncData) (ps : List Str), FnOk P w K mg base CX0 k f fd ps sp ∧ mg x = some (.ref f) ∧ PySem.W.keepIn K (.ref f) = true ∧ Binds K fd ps []
section
variable {P : Program} {w : World} {K : PySem.W.Frag} {mg : Str → Option Value} {base : Heap}
theorem Df.ok {x : Str} {st : Stmt} {f : Addr} {fd : FuncData} {ps N : List Str} {k : Nat} {sp : Sp} (F : Df K mg x st f fd ps) (S : FnScope N ps (defScope st)) (len : ∀ vs H Q E, sp vs H Q E → vs.length = ps.length)
    (hbody : ∀ (cdv : Value) (A : Around) (outer : List Env) (s : Shared) (H : Hp) (vs : List V) (Q : VK) (E : XK), Room k (A.deeper (envOfC x (defScope st) s.heap.objs.size f cdv)) → sp vs H Q E →
      ∃ t, PSs (cxOf CX0 P w K mg base N x (defScope st) f cdv A outer s H E).nox (defBody st) t ∧ t { nx := fun _ H' => Q .non H', rt := Q } (start N vs) H) : FnOk P w K mg base CX0 (k + 1) f fd ps sp :=
  F.fn.ok S len hbody
theorem Df.cl {x : Str} {st : Stmt} {f : Addr} {fd : FuncData} {ps : List Str} {k : Nat} {sp : Sp} (F : Df K mg x st f fd ps) (o : FnOk P w K mg base CX0 k f fd ps sp) : Cl P w K mg base k x sp :=
  ⟨f, fd, ps, o, F.mgf, F.fn.kp, F.bi⟩
variable {X : Cx}
theorem pe_cl {x : Str} {sp : Sp} {j k : Nat} {e : Expr} {es : List Expr} {t : TA} {p pos : Pos} (c : Cl X.prog X.w X.K X.mg X.base k x sp) (hr : Room j X.A) (hk : k ≤ j) (hg : Gl X x) (ha : PA X (e :: es) t)
    (hdb : (x == ("__debug__" : Str)) = false := by decide) (he : starEach (e :: es) X.env = (false, eval e X.env) :: starEach es X.env := by rfl) (hpl : (backTo pos (starEach es X.env)).any (·.1) = false := by rfl) :
    PE X (.Call (.Name x p) (e :: es) [] pos) (tCall sp [] E0 t) := by
  obtain ⟨f, fd, ps, F, hm, kp, b⟩ := c.ex
  exact pe_call F (hr.mono hk) hg hm kp b .nil pass0 ha hdb he hpl
theorem pe_cl0 {x : Str} {sp : Sp} {j k : Nat} {p pos : Pos} (c : Cl X.prog X.w X.K X.mg X.base k x sp) (hr : Room j X.A) (hk : k ≤ j) (hg : Gl X x) (hdb : (x == ("__debug__" : Str)) = false := by decide) :
    PE X (.Call (.Name x p) [] [] pos) (tCall sp [] E0 tNil) := by
  obtain ⟨f, fd, ps, F, hm, kp, b⟩ := c.ex
  exact pe_call0 F (hr.mono hk) hg hm kp b .nil pass0 hdb
/-- a constant of the module's top -/
def Cn (mg : Str → Option Value) (x : Str) (v : V) : Prop := ∃ u, mg x = some u ∧ RelV v u
theorem pe_cn {x : Str} {v : V} {pos : Pos} (hg : Gl X x) (h : Cn X.mg x v) (hd : (x == ("__debug__" : Str)) = false := by decide) : PE X (.Name x pos) (tC v) := by
  obtain ⟨u, hm, r⟩ := h
  exact pe_glob hg hm r hd
section
variable {K : PySem.W.Frag} {T : String} {name : Str} {id : String} {r : V → List V → Hp → VK → Prop} {o e : Expr} {es : List Expr} {apos cpos pos : Pos} {to ta : TE} {t : TA}
theorem pe_bm0K (hK : X.K = K) (pa : PlainAttrs T) (slot : Slot T name id) (hty : typeOf (.builtin id) = pure (.type "method_descriptor")) (hm : MtR X id r) (ho : PE X o to)
    (hbase : attributeBase o name X.env (eval o X.env) = eval o X.env := by rfl) (hline : (apos.endLine == cpos.line) = true := by rfl) : PE X (.Call (.Attribute o name apos) [] [] cpos) (tBM0 K T r to) := by
  subst hK; exact pe_bm0 pa slot hty hm ho hbase hline
theorem pe_bmK (hK : X.K = K) (pa : PlainAttrs T) (slot : Slot T name id) (hty : typeOf (.builtin id) = pure (.type "method_descriptor")) (hm : MtR X id r) (ho : PE X o to) (ha : PA X (e :: es) t)
    (hbase : attributeBase o name X.env (eval o X.env) = eval o X.env := by rfl)
    (hfew : ((backTo cpos (starEach (e :: es) X.env)).all (fun x => !x.1) && (backToKw cpos (keywordEach [] X.env)).all (fun x => x.1.isSome)
      && decide ((e :: es).length + ([] : List Keyword).length + (if ([] : List Keyword).isEmpty then 0 else 1) < 30)) = true := by rfl)
    (hline : (apos.endLine == cpos.line) = true := by rfl) (hs : starEach (e :: es) X.env = (false, eval e X.env) :: starEach es X.env := by rfl) (hplain : (backTo cpos (starEach es X.env)).any (·.1) = false := by rfl) :
    PE X (.Call (.Attribute o name apos) (e :: es) [] cpos) (tBM K T r to t) := by
  subst hK; exact pe_bm pa slot hty hm ho ha hbase hfew hline hs hplain
theorem pe_fldK (hK : X.K = K) {f : Str} (he : PE X e ta) (hb : attributeBase e f X.env (eval e X.env) = eval e X.env) : PE X (.Attribute e f pos) (tFld K ta f) := by
  subst hK; exact pe_fld he hb
theorem pg_tupK (hK : X.K = K) {es : List Expr} {k : Nat} {t : TGs} {n : Nat} (hc : X.calm = true) (h : PGs X es t)
    (hn : (assignEach es X.env).length = n := by rfl) (hst : (assignEach es X.env).findIdx? (·.1) = none := by rfl) : PG X (.Tuple es k pos) (gTup K n t) := by
  subst hK; exact pg_tup hc h hn hst
end
theorem get_list : L2.PGet X (rIxL X.K) := by
  intro pins s σ H x y v u Q I rx ry h
  obtain ⟨p, xs, i, z, rfl, rfl, hq, he, q⟩ := h
  cases rx
  obtain ⟨t, rfl⟩ := ry
  obtain ⟨its, r, pl, hz⟩ := I.list hq
  obtain ⟨j, h1, h2, h3, h4, h5⟩ := atI_get he
  obtain ⟨w, ew, rw'⟩ := r.get h2
  have hl := r.length
  have hn := line63
  have fin : EP X pins σ Q w s := ⟨z, H, I, rw', q⟩
  by_cases h0 : 0 ≤ i
  · have hj : i.toNat = j := by
      rw [seqIndex_of h0 h5] at h1
      exact Option.some.inj h1
    exact wpAny_getItem_list pl.isList h0 (by omega) (by rw [hj]; simpa using ew) fin
  · have hj : (i + (its.toArray.size : Int)).toNat = j := by
      rw [seqIndex_neg (by omega) h4] at h1
      rw [List.size_toArray, ← hl]
      exact Option.some.inj h1
    exact wpAny_getItem_list_neg pl.isList (by omega) (by rw [List.size_toArray] <;> omega) (by omega) (by rw [hj]; simpa using ew) fin
end
theorem perm_erase {α : Type} : ∀ (l : List α) (i : Nat) (h : i < l.length), (l[i] :: l.eraseIdx i).Perm l
  | x :: r, 0, _ => List.Perm.refl _
  | x :: r, i + 1, h => (List.Perm.swap x (r[i]'(Nat.lt_of_succ_lt_succ h)) (r.eraseIdx i)).trans ((perm_erase r i (Nat.lt_of_succ_lt_succ h)).cons x)
theorem at_lt {α : Type} {xs : List α} {i : Int} (h0 : 0 ≤ i) (h : i < xs.length) : ∃ v, atI xs i = some v ∧ v ∈ xs ∧ xs[i.toNat]? = some v := by
  have hl : i.toNat < xs.length := by omega
  refine ⟨xs[i.toNat], ?_, List.getElem_mem hl, List.getElem?_eq_getElem hl⟩
  have := atI_nat (xs := xs) (j := i.toNat) (v := xs[i.toNat]) (List.getElem?_eq_getElem hl)
  rw [Int.toNat_of_nonneg h0] at this
  exact this
theorem ixN_of {n : Nat} {i : Int} (h0 : 0 ≤ i) (h : i < n) : ixN n i = some i.toNat := by
  unfold ixN
  rw [if_pos h0, if_pos h]
end Jp

namespace Law
open PySem PySem.Spec PyProof.Rows L2 Jp
/-! ### the walk's small steps -/
local macro_rules | `(tactic| wtm_at "jset") => `(tactic| (first | (simp only [wipe, List.map_cons, List.map_nil, List.set_cons_zero, List.set_cons_succ]; done) | (simp only [wipe, List.map_cons, List.map_nil, List.set_cons_zero, List.set_cons_succ]; exact rfl) | exact rfl))
local macro_rules | `(tactic| wtm_at "jw1") => `(tactic| first
  | ((with_reducible refine' i_var ?h ?_); (case h => exact rfl))
  | with_reducible refine' i_c ?_ | with_reducible refine' i_op ?_ | with_reducible refine' i_seq ?_ | with_reducible refine' i_asg ?_
  | ((with_reducible refine' i_gNameE ?e ?_); (case e => wtm_at "jset"))
  | with_reducible refine' i_ret ?_ | with_reducible refine' i_test ?_ | with_reducible refine' i_isb ?_
  | with_reducible refine' i_cons ?_ | with_reducible refine' i_nil ?_ | with_reducible refine' i_call ?_ | with_reducible refine' i_cb ?_
  | with_reducible refine' i_rI0 ?_ | ((with_reducible refine' i_rI ?c ?_); (case c => wtm_at "jside")) | with_reducible refine' i_rU ?_
  | with_reducible refine' i_eqI ?_ | with_reducible refine' i_neI ?_ | with_reducible refine' i_eqB ?_ | with_reducible refine' i_neB ?_ | with_reducible refine' i_eqS ?_ | with_reducible refine' i_neS ?_
  | with_reducible refine' i_isN ?_ | with_reducible refine' i_notN ?_
  | with_reducible refine' i_un ?_ | with_reducible refine' i_drop ?_ | with_reducible refine' i_retN ?_ | with_reducible refine' i_next ?_
  | ((with_reducible refine' i_ixL ?h ?e ?_); (case h => wtm_at "jsq"); (case e => wtm_at "jat"))
  | ((with_reducible refine' i_ixT ?h ?e ?_); (case h => wtm_at "jsq"); (case e => wtm_at "jat"))
  | ((with_reducible refine' i_ix1 (i_ixL ?h ?e ?_)); (case h => wtm_at "jsq"); (case e => wtm_at "jat"))
  | ((with_reducible refine' i_ix2 (i_ixT ?h ?e ?_)); (case h => wtm_at "jsq"); (case e => wtm_at "jat"))
  | with_reducible refine' i_gSub ?_
  | ((with_reducible refine' i_setL ?h ?e ?_); (case h => wtm_at "jhp"); (case e => wtm_at "jixn"))
  | ((with_reducible refine' i_gTup ?h ?e ?_); (case h => wtm_at "jsq"); (case e => rfl)) | with_reducible refine' i_gCons ?_ | with_reducible refine' i_gNil ?_
  | with_reducible refine' i_int ?_ | with_reducible refine' i_intB ?_ | with_reducible refine' i_abs ?_ | with_reducible refine' i_max2 ?_ | with_reducible refine' i_min2 ?_
  | ((with_reducible refine' i_lenL ?h ?_); (case h => wtm_at "jsq")) | ((with_reducible refine' i_lenT ?h ?_); (case h => wtm_at "jsq"))
  | ((with_reducible refine' i_tupL ?h ?_); (case h => wtm_at "jsq")) | ((with_reducible refine' i_lstL ?h ?_); (case h => wtm_at "jsq")) | ((with_reducible refine' i_lstT ?h ?_); (case h => wtm_at "jsq")) | ((with_reducible refine' i_tupT ?h ?_); (case h => wtm_at "jsq"))
  | ((with_reducible refine' i_new ?h ?_); (case h => wtm_at "jlen"))
  | with_reducible refine' i_tup ?_ | with_reducible refine' i_lst ?_ | with_reducible refine' i_if ?_ | with_reducible refine' i_andV ?_ | with_reducible refine' i_orV ?_ | with_reducible refine' i_notV ?_ | with_reducible refine' i_B ?_
  | with_reducible refine' i_and ?_ | with_reducible refine' i_or ?_ | with_reducible refine' i_not ?_ | with_reducible refine' i_break ?_ | with_reducible refine' i_cont ?_
  | ((with_reducible refine' i_augE ?h ?_); (case h => exact rfl)) | with_reducible refine' i_augS ?_ | with_reducible refine' i_ipI ?_
  | with_reducible refine' i_for ?_ | with_reducible refine' i_iList ?_ | with_reducible refine' i_iTup ?_ | ((with_reducible refine' i_isL ?h ?_); (case h => wtm_at "jsq")) | ((with_reducible refine' i_isT ?h ?_); (case h => wtm_at "jsq"))
  | with_reducible refine' i_rng1 ?_ | with_reducible refine' i_rng2 ?_
  | ((with_reducible refine' i_isR1 ?h1 ?h2 ?_); (case h1 => wtm_at "jside"); (case h2 => wtm_at "jside"))
  | ((with_reducible refine' i_isR2 ?h1 ?h2 ?h3 ?h4 ?_); (case h1 => wtm_at "jside"); (case h2 => wtm_at "jside"); (case h3 => wtm_at "jside"); (case h4 => wtm_at "jside"))
  | ((with_reducible refine' i_lc ?e ?_); (case e => wtm_at "jset"))
  | with_reducible refine' i_yes ?_ | with_reducible refine' i_slT ?_ | with_reducible refine' i_slL ?_ | with_reducible refine' i_noPart ?_ | with_reducible refine' i_part ?_ | with_reducible refine' i_isI ?_
  | with_reducible refine' i_bm ?_ | with_reducible refine' i_bm0 ?_ | ((with_reducible refine' i_tyL ?h ?_); (case h => wtm_at "jsq"))
  | ((with_reducible refine' i_app ?h ?e ?_); (case h => wtm_at "jhp"); (case e => wtm_at "jsmall"))
  | with_reducible refine' i_chain ?_ | ((with_reducible refine' i_cat ?h1 ?h2 ?e ?_); (case h1 => wtm_at "jhp"); (case h2 => wtm_at "jhp"); (case e => wtm_at "jlen"))
  | with_reducible refine iteT ?_ | with_reducible refine iteF ?_ | with_reducible refine' c_nt ?_ | with_reducible refine' c_nf ?_)
local macro_rules | `(tactic| wtm_at "js") => `(tactic| repeat (wtm_at "jw1"))
local macro_rules | `(tactic| wtm_at "jw") => `(tactic| repeat (first | wtm_at "jw1" | with_reducible refine' i_ifS ?_))
local macro_rules | `(tactic| wtm_at "jlen") => `(tactic| first | decide | (simp [sizeLine]; done) | omega)
/- a condition of an operation -/
local macro_rules | `(tactic| wtm_at "jside") => `(tactic| first | with_reducible assumption | omega | decide | (simp only [List.length_map]; omega) | (exact Or.inl (by decide)) | (exact Or.inr (by decide)) | (refine ⟨?_, ?_⟩ <;> omega) | (exact Or.inl (by constructor <;> omega)) | (exact Or.inr (by constructor <;> omega)) | (refine ⟨by decide, by decide, by decide⟩))
/- H p = some o -/
local macro_rules | `(tactic| wtm_at "jhp") => `(tactic| first | assumption | with_reducible exact upd_same | ((with_reducible refine' Eq.trans (upd_ne ?hne) ?hgo); (case hne => wtm_at "jne"); (case hgo => wtm_at "jhp")))
local macro_rules | `(tactic| wtm_at "jne") => `(tactic| first | assumption | (refine Ne.symm ?_; assumption) | (refine ne_of_none (by assumption) (by assumption)) | (refine (ne_of_none (by assumption) (by assumption)).symm))
local macro_rules | `(tactic| wtm_at "jsq") => `(tactic| first | assumption | ((with_reducible refine' SqL.of ?hh); (case hh => wtm_at "jhp")) | ((with_reducible refine' SqT.of ?hh); (case hh => wtm_at "jhp")) | ((with_reducible refine' Same.seq (same_new ?hn) ?hh); (case hn => assumption); (case hh => wtm_at "jsq")) | ((with_reducible refine' Same.tup (same_new ?hn) ?hh); (case hn => assumption); (case hh => wtm_at "jsq")))
/- the item at a place -/
local macro_rules | `(tactic| wtm_at "jat") => `(tactic| first | exact rfl | assumption)
local macro_rules | `(tactic| wtm_at "jixn") => `(tactic| first | exact rfl | assumption)
local macro_rules | `(tactic| wtm_at "jsmall") => `(tactic| first | assumption | exact small1000 (by first | assumption | omega | (simp; done) | (simp; omega)))

def top (i : Nat) : Stmt := PySem.Challenge.pw_judgedplay_k78_bounds.main.body.getD i (.Pass ⟨0, 0, 0, 0⟩)
abbrev s__law_begin : Stmt := top 10
abbrev N__law_begin : List Str := ["script", "cell"]
theorem sc__law_begin : FnScope N__law_begin ["script"] (defScope s__law_begin) := ⟨rfl, rfl, rfl, by decide +kernel, rfl, by decide +kernel, by decide +kernel⟩
abbrev s__law_draw : Stmt := top 11
abbrev N__law_draw : List Str := ["d", "many", "found", "size", "cell"]
theorem sc__law_draw : FnScope N__law_draw ["d", "many"] (defScope s__law_draw) := ⟨rfl, rfl, rfl, by decide +kernel, rfl, by decide +kernel, by decide +kernel⟩
abbrev s__law_pick : Stmt := top 12
abbrev N__law_pick : List Str := ["d", "row"]
theorem sc__law_pick : FnScope N__law_pick ["d", "row"] (defScope s__law_pick) := ⟨rfl, rfl, rfl, by decide +kernel, rfl, by decide +kernel, by decide +kernel⟩
abbrev s__law_latest : Stmt := top 14
abbrev N__law_latest : List Str := ["late", "lost", "found", "number", "delay"]
theorem sc__law_latest : FnScope N__law_latest ["late", "lost"] (defScope s__law_latest) := ⟨rfl, rfl, rfl, by decide +kernel, rfl, by decide +kernel, by decide +kernel⟩
abbrev s__law_is_int : Stmt := top 13
abbrev N__law_is_int : List Str := ["thing"]
theorem sc__law_is_int : FnScope N__law_is_int ["thing"] (defScope s__law_is_int) := ⟨rfl, rfl, rfl, by decide +kernel, rfl, by decide +kernel, by decide +kernel⟩
abbrev s__law_is_just : Stmt := top 16
abbrev N__law_is_just : List Str := ["told", "due"]
theorem sc__law_is_just : FnScope N__law_is_just ["told", "due"] (defScope s__law_is_just) := ⟨rfl, rfl, rfl, by decide +kernel, rfl, by decide +kernel, by decide +kernel⟩
abbrev s_wait : Stmt := top 2
abbrev N_wait : List Str := ["d", "l"]
theorem sc_wait : FnScope N_wait ["d", "l"] (defScope s_wait) := ⟨rfl, rfl, rfl, by decide +kernel, rfl, by decide +kernel, by decide +kernel⟩
abbrev s_frames_of : Stmt := top 4
abbrev N_frames_of : List Str := ["ticks", "d", "l"]
theorem sc_frames_of : FnScope N_frames_of ["ticks", "d", "l"] (defScope s_frames_of) := ⟨rfl, rfl, rfl, by decide +kernel, rfl, by decide +kernel, by decide +kernel⟩
abbrev s_hold : Stmt := top 3
abbrev N_hold : List Str := ["d", "l"]
theorem sc_hold : FnScope N_hold ["d", "l"] (defScope s_hold) := ⟨rfl, rfl, rfl, by decide +kernel, rfl, by decide +kernel, by decide +kernel⟩
abbrev s__law_span : Stmt := top 15
abbrev N__law_span : List Str := ["low", "high", "tick"]
theorem sc__law_span : FnScope N__law_span ["low", "high"] (defScope s__law_span) := ⟨rfl, rfl, rfl, by decide +kernel, rfl, by decide +kernel, by decide +kernel⟩
abbrev s_lateness : Stmt := top 1
abbrev N_lateness : List Str := ["d", "l"]
theorem sc_lateness : FnScope N_lateness ["d", "l"] (defScope s_lateness) := ⟨rfl, rfl, rfl, by decide +kernel, rfl, by decide +kernel, by decide +kernel⟩
abbrev s__law_constants_hold : Stmt := top 18
abbrev N__law_constants_hold : List Str := ["late", "lost", "ticks", "reach", "waiting"]
theorem sc__law_constants_hold : FnScope N__law_constants_hold ["late", "lost", "ticks"] (defScope s__law_constants_hold) := ⟨rfl, rfl, rfl, by decide +kernel, rfl, by decide +kernel, by decide +kernel⟩
abbrev s_most_marks : Stmt := top 8
abbrev N_most_marks : List Str := ["d", "l"]
theorem sc_most_marks : FnScope N_most_marks ["d", "l"] (defScope s_most_marks) := ⟨rfl, rfl, rfl, by decide +kernel, rfl, by decide +kernel, by decide +kernel⟩
abbrev s_most_again : Stmt := top 5
abbrev N_most_again : List Str := ["d", "l", "lag", "falls"]
theorem sc_most_again : FnScope N_most_again ["d", "l", "lag", "falls"] (defScope s_most_again) := ⟨rfl, rfl, rfl, by decide +kernel, rfl, by decide +kernel, by decide +kernel⟩
abbrev s_most_words : Stmt := top 7
abbrev N_most_words : List Str := ["seats", "d", "l", "lag"]
theorem sc_most_words : FnScope N_most_words ["seats", "d", "l", "lag"] (defScope s_most_words) := ⟨rfl, rfl, rfl, by decide +kernel, rfl, by decide +kernel, by decide +kernel⟩
abbrev s__law_budgets_hold : Stmt := top 19
abbrev N__law_budgets_hold : List Str := ["late", "lost", "lag", "falls", "seats", "reach", "waiting", "frame", "first", "words", "seat"]
theorem sc__law_budgets_hold : FnScope N__law_budgets_hold ["late", "lost", "lag", "falls", "seats"] (defScope s__law_budgets_hold) := ⟨rfl, rfl, rfl, by decide +kernel, rfl, by decide +kernel, by decide +kernel⟩
abbrev s__law_least_by_trying : Stmt := top 17
abbrev N__law_least_by_trying : List Str := ["reach", "most", "lag"]
theorem sc__law_least_by_trying : FnScope N__law_least_by_trying ["reach", "most"] (defScope s__law_least_by_trying) := ⟨rfl, rfl, rfl, by decide +kernel, rfl, by decide +kernel, by decide +kernel⟩
abbrev s_least_lag : Stmt := top 6
abbrev N_least_lag : List Str := ["d", "l", "most"]
theorem sc_least_lag : FnScope N_least_lag ["d", "l", "most"] (defScope s_least_lag) := ⟨rfl, rfl, rfl, by decide +kernel, rfl, by decide +kernel, by decide +kernel⟩
abbrev s__law_least_holds : Stmt := top 20
abbrev N__law_least_holds : List Str := ["late", "lost", "most", "due"]
theorem sc__law_least_holds : FnScope N__law_least_holds ["late", "lost", "most"] (defScope s__law_least_holds) := ⟨rfl, rfl, rfl, by decide +kernel, rfl, by decide +kernel, by decide +kernel⟩
abbrev s_law : Stmt := top 21
abbrev N_law : List Str := ["script", "d", "turn", "late", "lost"]
theorem sc_law : FnScope N_law ["script"] (defScope s_law) := ⟨rfl, rfl, rfl, by decide +kernel, rfl, by decide +kernel, by decide +kernel⟩
/-- what the text's top has: built-ins that are still so, constants -/
structure Txt (mg : Str → Option Value) : Prop where
  b_int : mg "int" = none
  b_len : mg "len" = none
  b_abs : mg "abs" = none
  b_range : mg "range" = none
  b_max : mg "max" = none
  b_isinstance : mg "isinstance" = none
  b_bool : mg "bool" = none
/-! ### the draws -/
/-- a row of draws stands at p, its cells at a -/
def DrawAt (H : Hp) (p a : Addr) : Prop := ∃ (ns : List Int) (pos pend seed : Int), H p = some (.lst [.ref a, .int pos, .int pend, .int seed]) ∧ H a = some (.lst (ns.map V.int)) ∧ a ≠ p ∧ 0 ≤ pos
theorem DrawAt.same {H H' : Hp} {p a : Addr} (d : DrawAt H p a) (s : Same H H') : DrawAt H' p a := by
  obtain ⟨ns, pos, pend, seed, h1, h2, h3, h4⟩ := d
  exact ⟨ns, pos, pend, seed, s _ _ h1, s _ _ h2, h3, h4⟩
/-- behind draws: the row stands, all else is as it was -/
structure Drew (p a : Addr) (H H' : Hp) : Prop where
  at_ : DrawAt H' p a
  kp : Kp p H H'
theorem Drew.trans {p a : Addr} {H H1 H2 : Hp} (x : Drew p a H H1) (y : Drew p a H1 H2) : Drew p a H H2 := ⟨y.at_, x.kp.trans y.kp⟩
theorem Drew.new {p a q : Addr} {H H1 : Hp} {o : HO} (x : Drew p a H H1) (h : H1 q = none) : Drew p a H (upd H1 q o) := ⟨x.at_.same (same_new h), x.kp.trans (.of (same_new h))⟩
theorem Drew.same {p a : Addr} {H H1 H2 : Hp} (x : Drew p a H H1) (s : Same H1 H2) : Drew p a H H2 := ⟨x.at_.same s, x.kp.trans (.of s)⟩
theorem DrawAt.drew {p a : Addr} {H : Hp} (d : DrawAt H p a) : Drew p a H H := ⟨d, Kp.refl⟩
theorem DrawAt.some {H : Hp} {p a : Addr} (d : DrawAt H p a) : ∃ xs, H p = some (.lst xs) := by
  obtain ⟨ns, pos, pend, seed, h1, _⟩ := d
  exact ⟨_, h1⟩
theorem DrawAt.ne_none {H : Hp} {p a q : Addr} (d : DrawAt H p a) (h : H q = none) : q ≠ p := by
  obtain ⟨xs, e⟩ := d.some
  exact (ne_of_none e h).symm
theorem DrawAt.ne_noneA {H : Hp} {p a q : Addr} (d : DrawAt H p a) (h : H q = none) : q ≠ a := by
  obtain ⟨ns, pos, pend, seed, _, h1, _⟩ := d
  exact (ne_of_none h1 h).symm
theorem Drew.free {p a q : Addr} {H H' : Hp} (w : Drew p a H H') (h : H' q = none) : H q = none := by
  cases e : H q with
  | none => rfl
  | some o =>
    by_cases hq : q = p
    · obtain ⟨xs, e'⟩ := w.at_.some
      rw [hq, e'] at h; cases h
    · rw [w.kp _ _ e hq] at h; cases h
/-- a thing of our own, made behind H, is written -/
theorem Drew.put {p a q : Addr} {H H1 : Hp} {o : HO} (x : Drew p a H H1) (d : DrawAt H p a) (h : H q = none) : Drew p a H (upd H1 q o) := by
  have n1 := d.ne_none h
  have n2 := d.ne_noneA h
  obtain ⟨ns, pos, pend, seed, h1, h2, h3, h4⟩ := x.at_
  refine ⟨⟨ns, pos, pend, seed, by rw [upd_ne n1.symm]; exact h1, by rw [upd_ne n2.symm]; exact h2, h3, h4⟩, fun b u hb hne => ?_⟩
  rw [upd_ne (ne_of_none hb h)]
  exact x.kp _ _ hb hne
theorem Drew.tps {p a : Addr} {H H' : Hp} (w : Drew p a H H') (d : DrawAt H p a) : Tps H H' := by
  obtain ⟨xs, e⟩ := d.some
  exact w.kp.tps e
def sp__law_begin (K : PySem.W.Frag) : Sp := fun vs H Q _ => ∃ (a : Addr) (ns : List Int), vs = [.ref a] ∧ SqL K H a (ns.map V.int) ∧ ns.length ≤ 63 ∧
  ∀ (p c : Addr) (H' : Hp), Same H H' → H p = none → H c = none → DrawAt H' p c → Q (.ref p) H'
theorem ok__law_begin {P : Program} {w : World} {K : PySem.W.Frag} {mg : Str → Option Value} {base : Heap} {f : Addr} {fd : FuncData} (F : Df K mg "_law_begin" s__law_begin f fd ["script"]) (T : Txt mg) : FnOk P w K mg base CX0 1 f fd ["script"] (sp__law_begin K) := by
  refine F.ok sc__law_begin (fun vs H Q E h => ?_) (fun cdv A outer s H vs Q E hr h => ?_)
  · obtain ⟨a, ns, rfl, _⟩ := h
    rfl
  · obtain ⟨a, ns, rfl, hS, hl, k⟩ := h
    refine ⟨_, (pss_one (ps_ret (pe_lst (pa_cons (pe_lc (own := [("cell", 1)]) (g := gName 1) (tt := tYes) rfl sc__law_begin.nd (pi_list (pv 0)) (blkOk_by (own := [("cell", 1)]) (N := N__law_begin) (sc := defScope s__law_begin) (by decide +kernel)) (fun _ _ _ _ _ => (pg_name (i := 1) sc__law_begin.nd rfl (Or.inl rfl))) (fun _ _ _ _ _ => pts_nil) (fun _ _ _ _ _ => (pe_callTy (T := "int") c_int (by rfl) T.b_int (by decide +kernel) (pa_cons (pv 1) pa_nil)))) (pa_cons pe_int (pa_cons pe_int (pa_cons pe_int pa_nil))))))), ?_⟩
    try dsimp only [cxOf, Cx.nox, Cx.wish]
    refine st_of (σ' := [some _, none]) rfl ?_
    wtm_at "jw"
    intro D hD
    refine l_list (xs := ns.map V.int) (fun i H1 => Same H H1 ∧ H1 D = some (.lst ((ns.take i).map V.int))) ⟨same_new hD, upd_same⟩ (fun i H1 _ h => h.1.seq hS) (fun i x H1 hi h => ?_) (fun H1 h => ?_)
    · obtain ⟨s1, h1⟩ := h
      rw [List.getElem?_map] at hi
      cases e : ns[i]? with
      | none => rw [e] at hi; cases hi
      | some z =>
        rw [e] at hi
        cases hi
        have hlt : i < ns.length := (List.getElem?_eq_some_iff.mp e).1
        wtm_at "jw"
        refine ⟨rfl, ?_⟩
        wtm_at "jw"
        refine ⟨_, h1, small1000 (by rw [List.length_map, List.length_take]; omega), ?_, ?_⟩
        · intro b o hb
          have hne : b ≠ D := ne_of_none hb hD
          rw [upd_ne hne]
          exact s1 _ _ hb
        · rw [upd_same, List.take_add_one, e, List.map_append]
          rfl
    · obtain ⟨s1, h1⟩ := h
      rw [List.length_map, List.take_length] at h1
      wtm_at "jw"
      intro p hp
      have hne : D ≠ p := ne_of_none h1 hp
      refine k p D _ (fun b o hb => ?_) (s1.free hp) hD ⟨ns, 0, 0, 11, upd_same, by rw [upd_ne hne]; exact h1, hne, by decide⟩
      rw [upd_ne (ne_of_none (s1 _ _ hb) hp)]
      exact s1 _ _ hb
def sp__law_draw (K : PySem.W.Frag) : Sp := fun vs H Q _ => ∃ (p a : Addr) (many : Int), vs = [.ref p, .int many] ∧ DrawAt H p a ∧ 0 < many ∧ many < 1073741824 ∧
  ∀ (r : Int) (H' : Hp), 0 ≤ r → r < many → Drew p a H H' → Q (.int r) H'
theorem ok__law_draw {P : Program} {w : World} {K : PySem.W.Frag} {mg : Str → Option Value} {base : Heap} {f : Addr} {fd : FuncData} (F : Df K mg "_law_draw" s__law_draw f fd ["d", "many"]) (T : Txt mg) : FnOk P w K mg base CX0 1 f fd ["d", "many"] (sp__law_draw K) := by
  refine F.ok sc__law_draw (fun vs H Q E h => ?_) (fun cdv A outer s H vs Q E hr h => ?_)
  · obtain ⟨p, a, m, rfl, _⟩ := h
    rfl
  · obtain ⟨p, a, m, rfl, ⟨ns, pos, pend, seed, hp, ha, nap, h0⟩, hm0, hm1, k⟩ := h
    have fin : ∀ (z : Int) (pos' pend' seed' : Int) (H' : Hp), 0 ≤ pos' → H' p = some (.lst [.ref a, .int pos', .int pend', .int seed']) → Kp p H H' → Q (.int (z % m)) H' := fun z pos' pend' seed' H' hp' h1 h2 =>
      k _ _ (Int.emod_nonneg _ (by omega)) (Int.emod_lt_of_pos _ hm0) ⟨⟨ns, pos', pend', seed', h1, h2 _ _ ha nap, nap, hp'⟩, h2⟩
    refine ⟨_, (pss_cons (ps_if (pt_cmpR op_gt (pe_ix (r := rIxL K) ix_list (pv 0) pe_int (fun _ _ => rfl)) pe_int (nomark _)) (pss_cons (ps_set (i := 2) sc__law_draw.nd rfl (Or.inl rfl) (pe_ix (r := rIxL K) ix_list (pv 0) pe_int (fun _ _ => rfl)))
      (pss_cons (ps_asg (pe_op op_fdiv (pv 2) (pv 1)) (pg_sub (pv 0) pe_int set_list))
      (pss_one (ps_ret (pe_op op_mod (pe_callTy (T := "int") c_int (by rfl) T.b_int (by decide +kernel) (pa_cons (pv 2) pa_nil)) (pv 1)))))) pss_nil)
      (pss_cons (ps_set (i := 3) sc__law_draw.nd rfl (Or.inl rfl) pe_int)
      (pss_cons (ps_if (pt_cmpR op_lt (pe_ix (r := rIxL K) ix_list (pv 0) pe_int (fun _ _ => rfl)) (pe_callB (id := "len") (r := rLen K) c_len (by rfl) T.b_len (by decide +kernel) (pa_cons (pe_ix (r := rIxL K) ix_list (pv 0) pe_int (fun _ _ => rfl)) pa_nil)) (nomark _)) (pss_cons (ps_set (i := 4) sc__law_draw.nd rfl (Or.inl rfl) (pe_ix (r := rIx K) ix_seq (pe_ix (r := rIxL K) ix_list (pv 0) pe_int (fun _ _ => rfl)) (pe_ix (r := rIxL K) ix_list (pv 0) pe_int (fun _ _ => rfl)) (fun _ _ => rfl)))
      (pss_one (ps_set (i := 3) sc__law_draw.nd rfl (Or.inl rfl) (pe_op op_add (pe_op op_mul pe_int (pe_callB (id := "abs") c_abs (by rfl) T.b_abs (by decide +kernel) (pa_cons (pv 4) pa_nil))) (pe_callTy (T := "int") c_int (by rfl) T.b_int (by decide +kernel) (pa_cons (pe_cmpR op_lt (pv 4) pe_int (nomark _)) pa_nil)))))) pss_nil)
      (pss_cons (ps_augS (pv 0) pe_int get_list pe_int iop_add set_list)
      (pss_cons (ps_if (pt_cmpR op_ge (pv 3) (pe_op op_mul pe_int (pe_op op_pow pe_int pe_int)) (nomark _)) (pss_cons (ps_set (i := 2) sc__law_draw.nd rfl (Or.inl rfl) (pe_op op_mod (pe_callTy (T := "int") c_int (by rfl) T.b_int (by decide +kernel) (pa_cons (pe_op op_fdiv (pv 3) pe_int) pa_nil)) (pe_op op_shl pe_int pe_int)))
      (pss_cons (ps_asg (pe_op op_fdiv (pv 2) (pv 1)) (pg_sub (pv 0) pe_int set_list))
      (pss_one (ps_ret (pe_op op_mod (pe_callTy (T := "int") c_int (by rfl) T.b_int (by decide +kernel) (pa_cons (pv 2) pa_nil)) (pv 1)))))) pss_nil)
      (pss_cons (ps_asg (pe_op op_mod (pe_callTy (T := "int") c_int (by rfl) T.b_int (by decide +kernel) (pa_cons (pe_op op_add (pe_op op_add (pe_op op_add (pe_op op_mul (pe_ix (r := rIxL K) ix_list (pv 0) pe_int (fun _ _ => rfl)) pe_int) (pe_op op_mul (pe_op op_mod (pe_callTy (T := "int") c_int (by rfl) T.b_int (by decide +kernel) (pa_cons (pv 3) pa_nil)) pe_int) pe_int)) (pe_op op_mul (pe_ix (r := rIxL K) ix_list (pv 0) pe_int (fun _ _ => rfl)) pe_int)) pe_int) pa_nil)) pe_int) (pg_sub (pv 0) pe_int set_list))
      (pss_one (ps_ret (pe_op op_mod (pe_callTy (T := "int") c_int (by rfl) T.b_int (by decide +kernel) (pa_cons (pe_op op_fdiv (pe_ix (r := rIxL K) ix_list (pv 0) pe_int (fun _ _ => rfl)) pe_int) pa_nil)) (pv 1)))))))))), ?_⟩
    try dsimp only [cxOf, Cx.nox, Cx.wish]
    refine st_of (σ' := [some _, some _, none, none, none]) rfl ?_
    wtm_at "jw"
    refine c_dec (fun h => ?_) (fun h => ?_)
    · wtm_at "jw"
      exact fin _ _ _ _ _ h0 upd_same Kp.upd
    · wtm_at "jw"
      refine c_dec (fun h1 => ?_) (fun h1 => ?_)
      · obtain ⟨c, hc⟩ : ∃ c : Int, atI (ns.map V.int) pos = some (.int c) := by
          obtain ⟨v, e, hv, _⟩ := at_lt (xs := ns.map V.int) h0 h1
          obtain ⟨z, _, rfl⟩ := List.mem_map.mp hv
          exact ⟨z, e⟩
        wtm_at "jw"
        refine c_dec (fun h2 => ?_) (fun h2 => ?_)
        · wtm_at "jw"
          exact fin _ (pos + 1) _ _ _ (by omega) upd_same (Kp.upd.trans Kp.upd)
        · wtm_at "jw"
          exact fin _ (pos + 1) _ _ _ (by omega) upd_same (Kp.upd.trans Kp.upd)
      · wtm_at "jw"
        refine c_dec (fun h2 => ?_) (fun h2 => ?_)
        · wtm_at "jw"
          exact fin _ (pos + 1) _ _ _ (by omega) upd_same (Kp.upd.trans Kp.upd)
        · wtm_at "jw"
          exact fin _ (pos + 1) _ _ _ (by omega) upd_same (Kp.upd.trans Kp.upd)

def sp__law_pick (K : PySem.W.Frag) : Sp := fun vs H Q _ => ∃ (p a b : Addr) (xs : List V), vs = [.ref p, .ref b] ∧ DrawAt H p a ∧ ((b ≠ p ∧ SqL K H b xs) ∨ SqT K H b xs) ∧ 0 < xs.length ∧ xs.length < 1073741824 ∧
  ∀ (x : V) (H' : Hp), x ∈ xs → Drew p a H H' → Q x H'
theorem ok__law_pick {P : Program} {w : World} {K : PySem.W.Frag} {mg : Str → Option Value} {base : Heap} {f : Addr} {fd : FuncData} (F : Df K mg "_law_pick" s__law_pick f fd ["d", "row"]) (T : Txt mg)
    (c__law_draw : Cl P w K mg base 1 "_law_draw" (sp__law_draw K)) : FnOk P w K mg base CX0 2 f fd ["d", "row"] (sp__law_pick K) := by
  refine F.ok sc__law_pick (fun vs H Q E h => ?_) (fun cdv A outer s H vs Q E hr h => ?_)
  · obtain ⟨p, a, b, xs, rfl, _⟩ := h
    rfl
  · obtain ⟨p, a, b, xs, rfl, hd, hb, hl0, hl1, k⟩ := h
    refine ⟨_, (pss_one (ps_ret (pe_ix (r := rIx K) ix_seq (pv 1) (pe_cl c__law_draw hr (by decide) rfl (pa_cons (pv 0) (pa_cons (pe_callB (id := "len") (r := rLen K) c_len (by rfl) T.b_len (by decide +kernel) (pa_cons (pv 1) pa_nil)) pa_nil))) (fun _ _ => rfl)))), ?_⟩
    try dsimp only [cxOf, Cx.nox, Cx.wish]
    refine st_of (σ' := [some _, some _]) rfl ?_
    rcases hb with ⟨nb, hb⟩ | hb
    all_goals
      wtm_at "jw"
      refine ⟨p, a, _, rfl, hd, by omega, by omega, fun r H' hr0 hr1 w => ?_⟩
      obtain ⟨v, e, hv, _⟩ := at_lt hr0 hr1
    · have hb' := w.kp.seq hb nb
      wtm_at "jw"
      exact k _ _ hv w
    · have hb' := (w.tps hd).sq hb
      wtm_at "jw"
      exact k _ _ hv w

def sp__law_is_int (K : PySem.W.Frag) : Sp := fun vs H Q _ => ∃ (i : Int), vs = [.int i] ∧ Q (.bl true) H
theorem ok__law_is_int {P : Program} {w : World} {K : PySem.W.Frag} {mg : Str → Option Value} {base : Heap} {f : Addr} {fd : FuncData} (F : Df K mg "_law_is_int" s__law_is_int f fd ["thing"]) (T : Txt mg) : FnOk P w K mg base CX0 1 f fd ["thing"] (sp__law_is_int K) := by
  refine F.ok sc__law_is_int (fun vs H Q E h => ?_) (fun cdv A outer s H vs Q E hr h => ?_)
  · obtain ⟨i, rfl, _⟩ := h
    rfl
  · obtain ⟨i, rfl, k⟩ := h
    refine ⟨_, (pss_one (ps_ret (pe_and (pe_callB (id := "isinstance") (r := rIsi K) call_isi (by rfl) T.b_isinstance (by decide +kernel) (pa_cons (pv 0) (pa_cons (pe_bltn (v := .ty "int") (u := Value.type "int") (by rfl) T.b_int (by decide +kernel) rfl) pa_nil))) (pe_one (pe_not (pe_callB (id := "isinstance") (r := rIsi K) call_isi (by rfl) T.b_isinstance (by decide +kernel) (pa_cons (pv 0) (pa_cons (pe_bltn (v := .ty "bool") (u := Value.type "bool") (by rfl) T.b_bool (by decide +kernel) rfl) pa_nil)))))))), ?_⟩
    try dsimp only [cxOf, Cx.nox, Cx.wish]
    refine st_of (σ' := [some _]) rfl ?_
    wtm_at "jw"
    refine i_isi (.base (.int i)) rfl ?_
    wtm_at "jw"
    refine i_isi (.base (.int i)) rfl ?_
    wtm_at "jw"
    exact k

def mx (x : Int) : Int := if x > 0 then x else 0
def sp_lateness (K : PySem.W.Frag) : Sp := fun vs H Q _ => ∃ (d l : Int), vs = [.int d, .int l] ∧ Q (.int (d + l)) H
theorem ok_lateness {P : Program} {w : World} {K : PySem.W.Frag} {mg : Str → Option Value} {base : Heap} {f : Addr} {fd : FuncData} (F : Df K mg "lateness" s_lateness f fd ["d", "l"]) (T : Txt mg) : FnOk P w K mg base CX0 1 f fd ["d", "l"] (sp_lateness K) := by
  refine F.ok sc_lateness (fun vs H Q E h => ?_) (fun cdv A outer s H vs Q E hr h => ?_)
  · obtain ⟨d, l, rfl, _⟩ := h
    rfl
  · obtain ⟨d, l, rfl, q⟩ := h
    refine ⟨_, (pss_one (ps_ret (pe_op op_add (pv 0) (pv 1)))), ?_⟩
    try dsimp only [cxOf, Cx.nox, Cx.wish]
    refine st_of (σ' := [some _, some _]) rfl ?_
    wtm_at "jw"
    exact q
def sp_wait (K : PySem.W.Frag) : Sp := fun vs H Q _ => ∃ (d l : Int), vs = [.int d, .int l] ∧ Q (.int (3 * (d + l) + 2)) H
theorem ok_wait {P : Program} {w : World} {K : PySem.W.Frag} {mg : Str → Option Value} {base : Heap} {f : Addr} {fd : FuncData} (F : Df K mg "wait" s_wait f fd ["d", "l"]) (T : Txt mg) : FnOk P w K mg base CX0 1 f fd ["d", "l"] (sp_wait K) := by
  refine F.ok sc_wait (fun vs H Q E h => ?_) (fun cdv A outer s H vs Q E hr h => ?_)
  · obtain ⟨d, l, rfl, _⟩ := h
    rfl
  · obtain ⟨d, l, rfl, q⟩ := h
    refine ⟨_, (pss_one (ps_ret (pe_op op_add (pe_op op_mul pe_int (pe_op op_add (pv 0) (pv 1))) pe_int))), ?_⟩
    try dsimp only [cxOf, Cx.nox, Cx.wish]
    refine st_of (σ' := [some _, some _]) rfl ?_
    wtm_at "jw"
    exact q
def sp_hold (K : PySem.W.Frag) : Sp := fun vs H Q _ => ∃ (d l : Int), vs = [.int d, .int l] ∧ Q (.int (3 * (d + l) + 2 + 1)) H
theorem ok_hold {P : Program} {w : World} {K : PySem.W.Frag} {mg : Str → Option Value} {base : Heap} {f : Addr} {fd : FuncData} (F : Df K mg "hold" s_hold f fd ["d", "l"]) (T : Txt mg)
    (c_wait : Cl P w K mg base 1 "wait" (sp_wait K)) : FnOk P w K mg base CX0 2 f fd ["d", "l"] (sp_hold K) := by
  refine F.ok sc_hold (fun vs H Q E h => ?_) (fun cdv A outer s H vs Q E hr h => ?_)
  · obtain ⟨d, l, rfl, _⟩ := h
    rfl
  · obtain ⟨d, l, rfl, q⟩ := h
    refine ⟨_, (pss_one (ps_ret (pe_op op_add (pe_cl c_wait hr (by decide) rfl (pa_cons (pv 0) (pa_cons (pv 1) pa_nil))) pe_int))), ?_⟩
    try dsimp only [cxOf, Cx.nox, Cx.wish]
    refine st_of (σ' := [some _, some _]) rfl ?_
    wtm_at "jw"
    refine ⟨d, l, rfl, ?_⟩
    wtm_at "jw"
    exact q
def sp_frames_of (K : PySem.W.Frag) : Sp := fun vs H Q _ => ∃ (t d l : Int), vs = [.int t, .int d, .int l] ∧ Q (.int (t + (3 * (d + l) + 2) + 1)) H
theorem ok_frames_of {P : Program} {w : World} {K : PySem.W.Frag} {mg : Str → Option Value} {base : Heap} {f : Addr} {fd : FuncData} (F : Df K mg "frames_of" s_frames_of f fd ["ticks", "d", "l"]) (T : Txt mg)
    (c_wait : Cl P w K mg base 1 "wait" (sp_wait K)) : FnOk P w K mg base CX0 2 f fd ["ticks", "d", "l"] (sp_frames_of K) := by
  refine F.ok sc_frames_of (fun vs H Q E h => ?_) (fun cdv A outer s H vs Q E hr h => ?_)
  · obtain ⟨t, d, l, rfl, _⟩ := h
    rfl
  · obtain ⟨t, d, l, rfl, q⟩ := h
    refine ⟨_, (pss_one (ps_ret (pe_op op_add (pe_op op_add (pv 0) (pe_cl c_wait hr (by decide) rfl (pa_cons (pv 1) (pa_cons (pv 2) pa_nil)))) pe_int))), ?_⟩
    try dsimp only [cxOf, Cx.nox, Cx.wish]
    refine st_of (σ' := [some _, some _, some _]) rfl ?_
    wtm_at "jw"
    refine ⟨d, l, rfl, ?_⟩
    wtm_at "jw"
    exact q
def sp_most_again (K : PySem.W.Frag) : Sp := fun vs H Q _ => ∃ (d l lag falls : Int), vs = [.int d, .int l, .int lag, .int falls] ∧ Q (.int (if falls = 0 then mx (d + l - lag) else mx (3 * (d + l) + 2 - lag))) H
theorem ok_most_again {P : Program} {w : World} {K : PySem.W.Frag} {mg : Str → Option Value} {base : Heap} {f : Addr} {fd : FuncData} (F : Df K mg "most_again" s_most_again f fd ["d", "l", "lag", "falls"]) (T : Txt mg)
    (c_wait : Cl P w K mg base 1 "wait" (sp_wait K)) : FnOk P w K mg base CX0 2 f fd ["d", "l", "lag", "falls"] (sp_most_again K) := by
  refine F.ok sc_most_again (fun vs H Q E h => ?_) (fun cdv A outer s H vs Q E hr h => ?_)
  · obtain ⟨d, l, lag, falls, rfl, _⟩ := h
    rfl
  · obtain ⟨d, l, lag, falls, rfl, q⟩ := h
    refine ⟨_, (pss_cons (ps_if (pt_cmpR op_eq (pv 3) pe_int (nomark _)) (pss_one (ps_ret (pe_callB (id := "max") (c_max2 rfl) (by rfl) T.b_max (by decide +kernel) (pa_cons pe_int (pa_cons (pe_op op_sub (pe_op op_add (pv 0) (pv 1)) (pv 2)) pa_nil))))) pss_nil)
      (pss_one (ps_ret (pe_callB (id := "max") (c_max2 rfl) (by rfl) T.b_max (by decide +kernel) (pa_cons pe_int (pa_cons (pe_op op_sub (pe_cl c_wait hr (by decide) rfl (pa_cons (pv 0) (pa_cons (pv 1) pa_nil))) (pv 2)) pa_nil)))))), ?_⟩
    try dsimp only [cxOf, Cx.nox, Cx.wish]
    refine st_of (σ' := [some _, some _, some _, some _]) rfl ?_
    wtm_at "jw"
    refine c_dec (fun h => ?_) (fun h => ?_)
    · rw [if_pos h] at q
      wtm_at "jw"
      exact q
    · rw [if_neg h] at q
      wtm_at "jw"
      refine ⟨d, l, rfl, ?_⟩
      wtm_at "jw"
      exact q
def sp_least_lag (K : PySem.W.Frag) : Sp := fun vs H Q _ => ∃ (d l most : Int), vs = [.int d, .int l, .int most] ∧ Q (.int (mx (d + l - most))) H
theorem ok_least_lag {P : Program} {w : World} {K : PySem.W.Frag} {mg : Str → Option Value} {base : Heap} {f : Addr} {fd : FuncData} (F : Df K mg "least_lag" s_least_lag f fd ["d", "l", "most"]) (T : Txt mg) : FnOk P w K mg base CX0 1 f fd ["d", "l", "most"] (sp_least_lag K) := by
  refine F.ok sc_least_lag (fun vs H Q E h => ?_) (fun cdv A outer s H vs Q E hr h => ?_)
  · obtain ⟨d, l, most, rfl, _⟩ := h
    rfl
  · obtain ⟨d, l, most, rfl, q⟩ := h
    refine ⟨_, (pss_one (ps_ret (pe_callB (id := "max") (c_max2 rfl) (by rfl) T.b_max (by decide +kernel) (pa_cons pe_int (pa_cons (pe_op op_sub (pe_op op_add (pv 0) (pv 1)) (pv 2)) pa_nil))))), ?_⟩
    try dsimp only [cxOf, Cx.nox, Cx.wish]
    refine st_of (σ' := [some _, some _, some _]) rfl ?_
    wtm_at "jw"
    exact q
def sp_most_words (K : PySem.W.Frag) : Sp := fun vs H Q _ => ∃ (s d l lag : Int), vs = [.int s, .int d, .int l, .int lag] ∧ 0 ≤ s ∧ s ≤ 4 ∧ Q (.int (s * (3 * (d + l) + 2 + lag + 1))) H
theorem ok_most_words {P : Program} {w : World} {K : PySem.W.Frag} {mg : Str → Option Value} {base : Heap} {f : Addr} {fd : FuncData} (F : Df K mg "most_words" s_most_words f fd ["seats", "d", "l", "lag"]) (T : Txt mg)
    (c_wait : Cl P w K mg base 1 "wait" (sp_wait K)) : FnOk P w K mg base CX0 2 f fd ["seats", "d", "l", "lag"] (sp_most_words K) := by
  refine F.ok sc_most_words (fun vs H Q E h => ?_) (fun cdv A outer s H vs Q E hr h => ?_)
  · obtain ⟨s, d, l, lag, rfl, _⟩ := h
    rfl
  · obtain ⟨s, d, l, lag, rfl, s0, s1, q⟩ := h
    refine ⟨_, (pss_one (ps_ret (pe_op op_mul (pv 0) (pe_op op_add (pe_op op_add (pe_cl c_wait hr (by decide) rfl (pa_cons (pv 1) (pa_cons (pv 2) pa_nil))) (pv 3)) pe_int)))), ?_⟩
    try dsimp only [cxOf, Cx.nox, Cx.wish]
    refine st_of (σ' := [some _, some _, some _, some _]) rfl ?_
    wtm_at "jw"
    refine ⟨d, l, rfl, ?_⟩
    wtm_at "jw"
    exact q
def sp_most_marks (K : PySem.W.Frag) : Sp := fun vs H Q _ => ∃ (d l : Int), vs = [.int d, .int l] ∧ Q (.int (2 * (3 * (d + l) + 2) + 1)) H
theorem ok_most_marks {P : Program} {w : World} {K : PySem.W.Frag} {mg : Str → Option Value} {base : Heap} {f : Addr} {fd : FuncData} (F : Df K mg "most_marks" s_most_marks f fd ["d", "l"]) (T : Txt mg)
    (c_wait : Cl P w K mg base 1 "wait" (sp_wait K)) : FnOk P w K mg base CX0 2 f fd ["d", "l"] (sp_most_marks K) := by
  refine F.ok sc_most_marks (fun vs H Q E h => ?_) (fun cdv A outer s H vs Q E hr h => ?_)
  · obtain ⟨d, l, rfl, _⟩ := h
    rfl
  · obtain ⟨d, l, rfl, q⟩ := h
    refine ⟨_, (pss_one (ps_ret (pe_op op_add (pe_op op_mul pe_int (pe_cl c_wait hr (by decide) rfl (pa_cons (pv 0) (pa_cons (pv 1) pa_nil)))) pe_int))), ?_⟩
    try dsimp only [cxOf, Cx.nox, Cx.wish]
    refine st_of (σ' := [some _, some _]) rfl ?_
    wtm_at "jw"
    refine ⟨d, l, rfl, ?_⟩
    wtm_at "jw"
    exact q
/-! ### the law's own -/
def lat0 (i : Nat) (late : Int) : Int := if i = 0 then 0 else (i : Int) - 1 + late
def sp__law_latest (K : PySem.W.Frag) : Sp := fun vs H Q _ => ∃ (d l : Int), vs = [.int d, .int l] ∧ 0 ≤ d ∧ d ≤ 3 ∧ 0 ≤ l ∧ l ≤ 3 ∧ Q (.int (d + l)) H
theorem ok__law_latest {P : Program} {w : World} {K : PySem.W.Frag} {mg : Str → Option Value} {base : Heap} {f : Addr} {fd : FuncData} (F : Df K mg "_law_latest" s__law_latest f fd ["late", "lost"]) (T : Txt mg) : FnOk P w K mg base CX0 1 f fd ["late", "lost"] (sp__law_latest K) := by
  refine F.ok sc__law_latest (fun vs H Q E h => ?_) (fun cdv A outer s H vs Q E hr h => ?_)
  · obtain ⟨d, l, rfl, _⟩ := h
    rfl
  · obtain ⟨d, l, rfl, d0, d1, l0, l1, q⟩ := h
    refine ⟨_, (pss_cons (ps_set (i := 2) sc__law_latest.nd rfl (Or.inl rfl) pe_int)
      (pss_cons (ps_for PassesOwn.never rfl (pi_range1 rfl T.b_range (pa_cons (pe_op op_add (pv 1) pe_int) pa_nil)) (pg_name (i := 3) sc__law_latest.nd rfl (Or.inl rfl)) (pss_one (ps_for PassesOwn.never rfl (pi_range1 rfl T.b_range (pa_cons (pe_op op_add (pv 0) pe_int) pa_nil)) (pg_name (i := 4) sc__law_latest.nd rfl (Or.inl rfl)) (pss_one (ps_set (i := 2) sc__law_latest.nd rfl (Or.inl rfl) (pe_callB (id := "max") (c_max2 rfl) (by rfl) T.b_max (by decide +kernel) (pa_cons (pv 2) (pa_cons (pe_op op_add (pv 3) (pv 4)) pa_nil))))))))
      (pss_one (ps_ret (pv 2))))), ?_⟩
    try dsimp only [cxOf, Cx.nox, Cx.wish]
    refine st_of (σ' := [some _, some _, none, none, none]) rfl ?_
    wtm_at "jw"
    refine f_range (fun i σ H' => H' = H ∧ ∃ (v1 v2 : Option V), σ = [some (.int d), some (.int l), some (.int (lat0 i d)), v1, v2]) ⟨rfl, none, none, rfl⟩ (fun i σ H' hi h => ?_) (fun σ H' h => ?_)
    · obtain ⟨rfl, v1, v2, rfl⟩ := h
      wtm_at "jw"
      refine f_range (fun j σ H2 => H2 = H' ∧ ∃ (v2 : Option V), σ = [some (.int d), some (.int l), some (.int (if j = 0 then lat0 i d else max (lat0 i d) ((i : Int) + j - 1))), some (.int (0 + (i : Int))), v2]) ⟨rfl, v2, rfl⟩ (fun j σ H' hj h => ?_) (fun σ H' h => ?_)
      · obtain ⟨rfl, v2, rfl⟩ := h
        wtm_at "jw"
        refine ⟨rfl, some (.int (0 + (j : Int))), ?_⟩
        have e : (if (0 + (i : Int)) + (0 + (j : Int)) > (if j = 0 then lat0 i d else max (lat0 i d) ((i : Int) + j - 1)) then (0 + (i : Int)) + (0 + (j : Int)) else (if j = 0 then lat0 i d else max (lat0 i d) ((i : Int) + j - 1))) = (if j + 1 = 0 then lat0 i d else max (lat0 i d) ((i : Int) + (j + 1 : Nat) - 1)) := by
          unfold lat0
          split <;> split <;> (try split) <;> (try split) <;> omega
        rw [e]
      · obtain ⟨rfl, v2, rfl⟩ := h
        refine ⟨rfl, some (.int (0 + (i : Int))), v2, ?_⟩
        have e : (if (d + 1).toNat = 0 then lat0 i d else max (lat0 i d) ((i : Int) + ((d + 1).toNat : Nat) - 1)) = lat0 (i + 1) d := by
          unfold lat0
          split <;> (try split) <;> (try split) <;> omega
        rw [e]
    · obtain ⟨rfl, v1, v2, rfl⟩ := h
      wtm_at "jw"
      rw [show lat0 (l + 1).toNat d = d + l by unfold lat0; split <;> omega]
      exact q
def sp__law_span (K : PySem.W.Frag) : Sp := fun vs H Q _ => ∃ (l h : Int), vs = [.int l, .int h] ∧ -1000 ≤ l ∧ l ≤ 1000 ∧ -1000 ≤ h ∧ h ≤ 1000 ∧ ∀ H', Same H H' → Q (.int (mx (h - l))) H'
theorem ok__law_span {P : Program} {w : World} {K : PySem.W.Frag} {mg : Str → Option Value} {base : Heap} {f : Addr} {fd : FuncData} (F : Df K mg "_law_span" s__law_span f fd ["low", "high"]) (T : Txt mg) : FnOk P w K mg base CX0 1 f fd ["low", "high"] (sp__law_span K) := by
  refine F.ok sc__law_span (fun vs H Q E h => ?_) (fun cdv A outer s H vs Q E hr h => ?_)
  · obtain ⟨d, l, rfl, _⟩ := h
    rfl
  · obtain ⟨l, u, rfl, l0, l1, u0, u1, q⟩ := h
    refine ⟨_, (pss_one (ps_ret (pe_callB (id := "len") (r := rLen K) c_len (by rfl) T.b_len (by decide +kernel) (pa_cons (pe_lc (own := [("tick", 2)]) (g := gName 2) (tt := tYes) rfl sc__law_span.nd (pi_range2 rfl T.b_range (pa_cons (pv 0) (pa_cons (pv 1) pa_nil))) (blkOk_by (own := [("tick", 2)]) (N := N__law_span) (sc := defScope s__law_span) (by decide +kernel)) (fun _ _ _ _ _ => (pg_name (i := 2) sc__law_span.nd rfl (Or.inl rfl))) (fun _ _ _ _ _ => pts_nil) (fun _ _ _ _ _ => (pv 2))) pa_nil)))), ?_⟩
    try dsimp only [cxOf, Cx.nox, Cx.wish]
    refine st_of (σ' := [some _, some _, none]) rfl ?_
    wtm_at "jw"
    intro D hD
    refine l_rangeP (fun i => V.int (l + i)) hD (by omega) (fun i H' R hi s hR => ?_) (fun H' s hD' => ?_)
    · wtm_at "jw"
      refine ⟨rfl, ?_⟩
      wtm_at "jw"
      exact hR
    · wtm_at "jw"
      rw [List.length_map, List.length_range, show (((u - l).toNat : Nat) : Int) = mx (u - l) by unfold mx; split <;> omega]
      exact q _ s
def sp__law_is_just (K : PySem.W.Frag) : Sp := fun vs H Q _ => ∃ (x y : Int), vs = [.int x, .int y] ∧ x = y ∧ Q (.bl true) H
theorem ok__law_is_just {P : Program} {w : World} {K : PySem.W.Frag} {mg : Str → Option Value} {base : Heap} {f : Addr} {fd : FuncData} (F : Df K mg "_law_is_just" s__law_is_just f fd ["told", "due"]) (T : Txt mg)
    (c__law_is_int : Cl P w K mg base 1 "_law_is_int" (sp__law_is_int K)) : FnOk P w K mg base CX0 2 f fd ["told", "due"] (sp__law_is_just K) := by
  refine F.ok sc__law_is_just (fun vs H Q E h => ?_) (fun cdv A outer s H vs Q E hr h => ?_)
  · obtain ⟨x, y, rfl, _⟩ := h
    rfl
  · obtain ⟨x, y, rfl, e, q⟩ := h
    refine ⟨_, (pss_one (ps_ret (pe_and (pe_cl c__law_is_int hr (by decide) rfl (pa_cons (pv 0) pa_nil)) (pe_one (pe_cmpR op_eq (pv 0) (pv 1) (nomark _)))))), ?_⟩
    try dsimp only [cxOf, Cx.nox, Cx.wish]
    refine st_of (σ' := [some _, some _]) rfl ?_
    wtm_at "jw"
    refine ⟨x, rfl, ?_⟩
    wtm_at "jw"
    rw [decide_eq_true e]
    exact q
def sp__law_least_by_trying (K : PySem.W.Frag) : Sp := fun vs H Q _ => ∃ (r m : Int), vs = [.int r, .int m] ∧ 0 ≤ r ∧ r ≤ 6 ∧ 0 ≤ m ∧ ∀ H', Same H H' → Q (.int (mx (r - m))) H'
theorem ok__law_least_by_trying {P : Program} {w : World} {K : PySem.W.Frag} {mg : Str → Option Value} {base : Heap} {f : Addr} {fd : FuncData} (F : Df K mg "_law_least_by_trying" s__law_least_by_trying f fd ["reach", "most"]) (T : Txt mg)
    (c__law_span : Cl P w K mg base 1 "_law_span" (sp__law_span K)) : FnOk P w K mg base CX0 2 f fd ["reach", "most"] (sp__law_least_by_trying K) := by
  refine F.ok sc__law_least_by_trying (fun vs H Q E h => ?_) (fun cdv A outer s H vs Q E hr h => ?_)
  · obtain ⟨x, y, rfl, _⟩ := h
    rfl
  · obtain ⟨r, m, rfl, r0, r1, m0, q⟩ := h
    refine ⟨_, (pss_cons (ps_for PassesOwn.never rfl (pi_range1 rfl T.b_range (pa_cons (pe_op op_add (pv 0) pe_int) pa_nil)) (pg_name (i := 2) sc__law_least_by_trying.nd rfl (Or.inl rfl)) (pss_one (ps_if (pt_cmpR op_le (pe_cl c__law_span hr (by decide) rfl (pa_cons (pe_op op_sub (pv 2) (pv 0)) (pa_cons pe_int pa_nil))) (pv 1) (nomark _)) (pss_one (ps_ret (pv 2))) pss_nil)))
      (pss_one (ps_ret (pv 0)))), ?_⟩
    try dsimp only [cxOf, Cx.nox, Cx.wish]
    refine st_of (σ' := [some _, some _, none]) rfl ?_
    wtm_at "jw"
    refine f_range (fun i σ H' => Same H H' ∧ (i : Int) ≤ mx (r - m) ∧ ∃ (v1 : Option V), σ = [some (.int r), some (.int m), v1]) ⟨Same.refl _, by unfold mx; split <;> omega, none, rfl⟩ (fun i σ H' hi h => ?_) (fun σ H' h => ?_)
    · obtain ⟨s, hi2, v1, rfl⟩ := h
      wtm_at "jw"
      refine ⟨_, _, rfl, by omega, by omega, by omega, by omega, fun H2 s2 => ?_⟩
      wtm_at "jw"
      refine c_dec (fun h => ?_) (fun h => ?_)
      · wtm_at "jw"
        rw [show 0 + (i : Int) = mx (r - m) by unfold mx at *; split at h <;> split at hi2 <;> split <;> omega]
        exact q _ (s.trans s2)
      · wtm_at "jw"
        refine ⟨s.trans s2, ?_, _, rfl⟩
        unfold mx at *
        split at h <;> split at hi2 <;> split <;> omega
    · obtain ⟨s, hi2, v1, rfl⟩ := h
      unfold mx at hi2
      split at hi2 <;> omega
def sp__law_constants_hold (K : PySem.W.Frag) : Sp := fun vs H Q _ => ∃ (d l t : Int), vs = [.int d, .int l, .int t] ∧ 0 ≤ d ∧ d ≤ 3 ∧ 0 ≤ l ∧ l ≤ 3 ∧ 0 < t ∧ t ≤ 24 ∧ ∀ H', Same H H' → Q (.bl true) H'
theorem ok__law_constants_hold {P : Program} {w : World} {K : PySem.W.Frag} {mg : Str → Option Value} {base : Heap} {f : Addr} {fd : FuncData} (F : Df K mg "_law_constants_hold" s__law_constants_hold f fd ["late", "lost", "ticks"]) (T : Txt mg)
    (c__law_latest : Cl P w K mg base 1 "_law_latest" (sp__law_latest K))
    (c__law_is_just : Cl P w K mg base 2 "_law_is_just" (sp__law_is_just K))
    (c_frames_of : Cl P w K mg base 2 "frames_of" (sp_frames_of K))
    (c_hold : Cl P w K mg base 2 "hold" (sp_hold K))
    (c__law_span : Cl P w K mg base 1 "_law_span" (sp__law_span K))
    (c_lateness : Cl P w K mg base 1 "lateness" (sp_lateness K))
    (c_wait : Cl P w K mg base 1 "wait" (sp_wait K)) : FnOk P w K mg base CX0 3 f fd ["late", "lost", "ticks"] (sp__law_constants_hold K) := by
  refine F.ok sc__law_constants_hold (fun vs H Q E h => ?_) (fun cdv A outer s H vs Q E hr h => ?_)
  · obtain ⟨d, l, t, rfl, _⟩ := h
    rfl
  · obtain ⟨d, l, t, rfl, d0, d1, l0, l1, t0, t1, q⟩ := h
    refine ⟨_, (pss_cons (ps_set (i := 3) sc__law_constants_hold.nd rfl (Or.inl rfl) (pe_cl c__law_latest hr (by decide) rfl (pa_cons (pv 0) (pa_cons (pv 1) pa_nil))))
      (pss_cons (ps_set (i := 4) sc__law_constants_hold.nd rfl (Or.inl rfl) (pe_op op_add (pe_op op_add (pe_op op_add (pv 3) (pv 3)) (pv 3)) pe_int))
      (pss_cons (ps_if (PW.pt (pw_or (pt_not (pt_val (pe_cl c__law_is_just hr (by decide) rfl (pa_cons (pe_cl c_lateness hr (by decide) rfl (pa_cons (pv 0) (pa_cons (pv 1) pa_nil))) (pa_cons (pv 3) pa_nil))))) (pw_or1 (pt_not (pt_val (pe_cl c__law_is_just hr (by decide) rfl (pa_cons (pe_cl c_wait hr (by decide) rfl (pa_cons (pv 0) (pa_cons (pv 1) pa_nil))) (pa_cons (pv 4) pa_nil)))))))) (pss_one (ps_ret pe_bl)) pss_nil)
      (pss_cons (ps_if (pt_not (pt_val (pe_cl c__law_is_just hr (by decide) rfl (pa_cons (pe_cl c_hold hr (by decide) rfl (pa_cons (pv 0) (pa_cons (pv 1) pa_nil))) (pa_cons (pe_cl c__law_span hr (by decide) rfl (pa_cons pe_int (pa_cons (pe_op op_add (pv 4) pe_int) pa_nil))) pa_nil))))) (pss_one (ps_ret pe_bl)) pss_nil)
      (pss_one (ps_ret (pe_cl c__law_is_just hr (by decide) rfl (pa_cons (pe_cl c_frames_of hr (by decide) rfl (pa_cons (pv 2) (pa_cons (pv 0) (pa_cons (pv 1) pa_nil)))) (pa_cons (pe_op op_add (pe_cl c__law_span hr (by decide) rfl (pa_cons pe_int (pa_cons (pv 2) pa_nil))) (pe_cl c__law_span hr (by decide) rfl (pa_cons pe_int (pa_cons (pe_op op_add (pv 4) pe_int) pa_nil)))) pa_nil))))))))), ?_⟩
    try dsimp only [cxOf, Cx.nox, Cx.wish]
    refine st_of (σ' := [some _, some _, some _, none, none]) rfl ?_
    wtm_at "jw"
    refine ⟨d, l, rfl, d0, d1, l0, l1, ?_⟩
    wtm_at "jw"
    refine ⟨d, l, rfl, ?_⟩
    wtm_at "jw"
    refine ⟨_, _, rfl, rfl, ?_⟩
    wtm_at "jw"
    refine ⟨d, l, rfl, ?_⟩
    wtm_at "jw"
    refine ⟨_, _, rfl, by omega, ?_⟩
    wtm_at "jw"
    refine ⟨d, l, rfl, ?_⟩
    wtm_at "jw"
    refine ⟨_, _, rfl, by omega, by omega, by omega, by omega, fun H1 s1 => ?_⟩
    wtm_at "jw"
    refine ⟨_, _, rfl, by unfold mx; split <;> omega, ?_⟩
    wtm_at "jw"
    refine ⟨t, d, l, rfl, ?_⟩
    wtm_at "jw"
    refine ⟨_, _, rfl, by omega, by omega, by omega, by omega, fun H2 s2 => ?_⟩
    wtm_at "jw"
    refine ⟨_, _, rfl, by omega, by omega, by omega, by omega, fun H3 s3 => ?_⟩
    wtm_at "jw"
    refine ⟨_, _, rfl, by unfold mx; split <;> split <;> omega, ?_⟩
    exact q _ ((s1.trans s2).trans s3)
def sp__law_budgets_hold (K : PySem.W.Frag) : Sp := fun vs H Q _ => ∃ (d l lag falls seats : Int), vs = [.int d, .int l, .int lag, .int falls, .int seats] ∧ 0 ≤ d ∧ d ≤ 3 ∧ 0 ≤ l ∧ l ≤ 3 ∧ 0 ≤ lag ∧ lag ≤ 3 ∧ 0 ≤ falls ∧ falls ≤ 2 ∧ 0 < seats ∧ seats ≤ 4 ∧ ∀ H', Same H H' → Q (.bl true) H'
theorem ok__law_budgets_hold {P : Program} {w : World} {K : PySem.W.Frag} {mg : Str → Option Value} {base : Heap} {f : Addr} {fd : FuncData} (F : Df K mg "_law_budgets_hold" s__law_budgets_hold f fd ["late", "lost", "lag", "falls", "seats"]) (T : Txt mg)
    (c__law_latest : Cl P w K mg base 1 "_law_latest" (sp__law_latest K))
    (c__law_is_just : Cl P w K mg base 2 "_law_is_just" (sp__law_is_just K))
    (c_most_marks : Cl P w K mg base 2 "most_marks" (sp_most_marks K))
    (c__law_span : Cl P w K mg base 1 "_law_span" (sp__law_span K))
    (c_most_again : Cl P w K mg base 2 "most_again" (sp_most_again K))
    (c_most_words : Cl P w K mg base 2 "most_words" (sp_most_words K)) : FnOk P w K mg base CX0 3 f fd ["late", "lost", "lag", "falls", "seats"] (sp__law_budgets_hold K) := by
  refine F.ok sc__law_budgets_hold (fun vs H Q E h => ?_) (fun cdv A outer s H vs Q E hr h => ?_)
  · obtain ⟨d, l, lag, falls, seats, rfl, _⟩ := h
    rfl
  · obtain ⟨d, l, lag, falls, seats, rfl, d0, d1, l0, l1, g0, g1, f0, f1, s0, s1, q⟩ := h
    refine ⟨_, (pss_cons (ps_set (i := 5) sc__law_budgets_hold.nd rfl (Or.inl rfl) (pe_cl c__law_latest hr (by decide) rfl (pa_cons (pv 0) (pa_cons (pv 1) pa_nil))))
      (pss_cons (ps_set (i := 6) sc__law_budgets_hold.nd rfl (Or.inl rfl) (pe_op op_add (pe_op op_add (pe_op op_add (pv 5) (pv 5)) (pv 5)) pe_int))
      (pss_cons (ps_set (i := 7) sc__law_budgets_hold.nd rfl (Or.inl rfl) pe_int)
      (pss_cons (ps_set (i := 8) sc__law_budgets_hold.nd rfl (Or.inl rfl) (pe_op op_sub (pe_op op_add (pv 7) (pv 2)) (pv 5)))
      (pss_cons (ps_if (pt_cmpR op_gt (pv 3) pe_int (nomark _)) (pss_one (ps_set (i := 8) sc__law_budgets_hold.nd rfl (Or.inl rfl) (pe_op op_sub (pe_op op_add (pv 7) (pv 2)) (pv 6)))) pss_nil)
      (pss_cons (ps_if (pt_not (pt_val (pe_cl c__law_is_just hr (by decide) rfl (pa_cons (pe_cl c_most_again hr (by decide) rfl (pa_cons (pv 0) (pa_cons (pv 1) (pa_cons (pv 2) (pa_cons (pv 3) pa_nil))))) (pa_cons (pe_cl c__law_span hr (by decide) rfl (pa_cons (pv 8) (pa_cons (pv 7) pa_nil))) pa_nil))))) (pss_one (ps_ret pe_bl)) pss_nil)
      (pss_cons (ps_set (i := 9) sc__law_budgets_hold.nd rfl (Or.inl rfl) pe_int)
      (pss_cons (ps_for PassesOwn.never rfl (pi_range1 rfl T.b_range (pa_cons (pv 4) pa_nil)) (pg_name (i := 10) sc__law_budgets_hold.nd rfl (Or.inl rfl)) (pss_one (ps_set (i := 9) sc__law_budgets_hold.nd rfl (Or.inl rfl) (pe_op op_add (pv 9) (pe_cl c__law_span hr (by decide) rfl (pa_cons (pe_op op_sub (pv 7) (pv 6)) (pa_cons (pe_op op_add (pe_op op_add (pv 7) (pv 2)) pe_int) pa_nil)))))))
      (pss_cons (ps_if (pt_not (pt_val (pe_cl c__law_is_just hr (by decide) rfl (pa_cons (pe_cl c_most_words hr (by decide) rfl (pa_cons (pv 4) (pa_cons (pv 0) (pa_cons (pv 1) (pa_cons (pv 2) pa_nil))))) (pa_cons (pv 9) pa_nil))))) (pss_one (ps_ret pe_bl)) pss_nil)
      (pss_one (ps_ret (pe_cl c__law_is_just hr (by decide) rfl (pa_cons (pe_cl c_most_marks hr (by decide) rfl (pa_cons (pv 0) (pa_cons (pv 1) pa_nil))) (pa_cons (pe_cl c__law_span hr (by decide) rfl (pa_cons (pe_op op_sub (pv 7) (pe_op op_mul pe_int (pv 6))) (pa_cons (pe_op op_add (pv 7) pe_int) pa_nil))) pa_nil)))))))))))))), ?_⟩
    try dsimp only [cxOf, Cx.nox, Cx.wish]
    refine st_of (σ' := [some _, some _, some _, some _, some _, none, none, none, none, none, none]) rfl ?_
    wtm_at "jw"
    refine ⟨d, l, rfl, d0, d1, l0, l1, ?_⟩
    wtm_at "js"
    refine i_ifC (fun σ H' => ∃ first : Int, σ = [some (.int d), some (.int l), some (.int lag), some (.int falls), some (.int seats), some (.int (d + l)), some (.int (d + l + (d + l) + (d + l) + 2)), some (.int 100), some (.int first), none, none] ∧ H' = H ∧ first = (if falls = 0 then 100 + lag - (d + l) else 100 + lag - (d + l + (d + l) + (d + l) + 2))) ?_ ?_
    · rintro σ' H' ⟨first, rfl, rfl, hf⟩
      wtm_at "jw"
      refine ⟨d, l, lag, falls, rfl, ?_⟩
      wtm_at "jw"
      refine ⟨_, _, rfl, ?_, ?_, by omega, by omega, fun H2 s2 => ?_⟩
      · split at hf <;> omega
      · split at hf <;> omega
      wtm_at "jw"
      refine ⟨_, _, rfl, ?_, ?_⟩
      · unfold mx
        split at hf <;> split <;> (try split) <;> (try split) <;> omega
      wtm_at "jw"
      refine f_range (fun i σ H' => Same H2 H' ∧ ∃ (v1 : Option V), σ = [some (.int d), some (.int l), some (.int lag), some (.int falls), some (.int seats), some (.int (d + l)), some (.int (d + l + (d + l) + (d + l) + 2)), some (.int 100), some (.int first), some (.int ((i : Int) * (3 * (d + l) + 2 + lag + 1))), v1]) ⟨Same.refl _, none, by rw [show ((0 : Nat) : Int) * (3 * (d + l) + 2 + lag + 1) = 0 from Int.zero_mul _]⟩ (fun i σ H' hi h => ?_) (fun σ H' h => ?_)
      · obtain ⟨s, v1, rfl⟩ := h
        wtm_at "jw"
        refine ⟨_, _, rfl, by omega, by omega, by omega, by omega, fun H3 s3 => ?_⟩
        wtm_at "jw"
        refine ⟨s.trans s3, some (.int (0 + (i : Int))), ?_⟩
        rw [show (i : Int) * (3 * (d + l) + 2 + lag + 1) + mx (100 + lag + 1 - (100 - (d + l + (d + l) + (d + l) + 2))) = ((i + 1 : Nat) : Int) * (3 * (d + l) + 2 + lag + 1) by
          rw [Int.natCast_add, Int.add_mul, Int.natCast_one, Int.one_mul]
          unfold mx
          split <;> omega]
      · obtain ⟨s, v1, rfl⟩ := h
        wtm_at "jw"
        refine ⟨seats, d, l, lag, rfl, by omega, by omega, ?_⟩
        wtm_at "jw"
        refine ⟨_, _, rfl, by rw [Int.toNat_of_nonneg (by omega)], ?_⟩
        wtm_at "jw"
        refine ⟨d, l, rfl, ?_⟩
        wtm_at "jw"
        refine ⟨_, _, rfl, by omega, by omega, by omega, by omega, fun H4 s4 => ?_⟩
        wtm_at "jw"
        refine ⟨_, _, rfl, by unfold mx; split <;> omega, ?_⟩
        exact q _ ((s2.trans s).trans s4)
    · intro N hN
      wtm_at "jw"
      refine c_dec (fun h => ?_) (fun h => ?_)
      · wtm_at "jw"
        exact hN _ _ ⟨_, rfl, rfl, by rw [if_neg (by omega)]⟩
      · wtm_at "jw"
        exact hN _ _ ⟨_, rfl, rfl, by rw [if_pos (by omega)]⟩
def sp__law_least_holds (K : PySem.W.Frag) : Sp := fun vs H Q _ => ∃ (d l m : Int), vs = [.int d, .int l, .int m] ∧ 0 ≤ d ∧ d ≤ 3 ∧ 0 ≤ l ∧ l ≤ 3 ∧ 0 ≤ m ∧ ∀ H', Same H H' → Q (.bl true) H'
theorem ok__law_least_holds {P : Program} {w : World} {K : PySem.W.Frag} {mg : Str → Option Value} {base : Heap} {f : Addr} {fd : FuncData} (F : Df K mg "_law_least_holds" s__law_least_holds f fd ["late", "lost", "most"]) (T : Txt mg)
    (c__law_least_by_trying : Cl P w K mg base 2 "_law_least_by_trying" (sp__law_least_by_trying K))
    (c__law_latest : Cl P w K mg base 1 "_law_latest" (sp__law_latest K))
    (c__law_is_just : Cl P w K mg base 2 "_law_is_just" (sp__law_is_just K))
    (c_least_lag : Cl P w K mg base 1 "least_lag" (sp_least_lag K))
    (c_most_again : Cl P w K mg base 2 "most_again" (sp_most_again K)) : FnOk P w K mg base CX0 3 f fd ["late", "lost", "most"] (sp__law_least_holds K) := by
  refine F.ok sc__law_least_holds (fun vs H Q E h => ?_) (fun cdv A outer s H vs Q E hr h => ?_)
  · obtain ⟨d, l, m, rfl, _⟩ := h
    rfl
  · obtain ⟨d, l, m, rfl, d0, d1, l0, l1, m0, q⟩ := h
    refine ⟨_, (pss_cons (ps_set (i := 3) sc__law_least_holds.nd rfl (Or.inl rfl) (pe_cl c__law_least_by_trying hr (by decide) rfl (pa_cons (pe_cl c__law_latest hr (by decide) rfl (pa_cons (pv 0) (pa_cons (pv 1) pa_nil))) (pa_cons (pv 2) pa_nil))))
      (pss_cons (ps_if (pt_not (pt_val (pe_cl c__law_is_just hr (by decide) rfl (pa_cons (pe_cl c_least_lag hr (by decide) rfl (pa_cons (pv 0) (pa_cons (pv 1) (pa_cons (pv 2) pa_nil)))) (pa_cons (pv 3) pa_nil))))) (pss_one (ps_ret pe_bl)) pss_nil)
      (pss_cons (ps_if (PW.pt (pw_and (pt_cmpR op_le (pv 3) pe_int (nomark _)) (pw_and1 (pt_cmpR op_gt (pe_cl c_most_again hr (by decide) rfl (pa_cons (pv 0) (pa_cons (pv 1) (pa_cons (pv 3) (pa_cons pe_int pa_nil))))) (pv 2) (nomark _))))) (pss_one (ps_ret pe_bl)) pss_nil)
      (pss_one (ps_ret (pe_or (pe_cmpR op_eq (pv 3) pe_int (nomark _)) (pe_or (pe_cmpR op_gt (pv 3) pe_int (nomark _)) (pe_one (pe_cmpR op_gt (pe_cl c_most_again hr (by decide) rfl (pa_cons (pv 0) (pa_cons (pv 1) (pa_cons (pe_op op_sub (pv 3) pe_int) (pa_cons pe_int pa_nil))))) (pv 2) (nomark _)))))))))), ?_⟩
    try dsimp only [cxOf, Cx.nox, Cx.wish]
    refine st_of (σ' := [some _, some _, some _, none]) rfl ?_
    wtm_at "jw"
    refine ⟨d, l, rfl, d0, d1, l0, l1, ?_⟩
    wtm_at "jw"
    refine ⟨_, _, rfl, by omega, by omega, m0, fun H1 s1 => ?_⟩
    wtm_at "jw"
    refine ⟨d, l, m, rfl, ?_⟩
    wtm_at "jw"
    refine ⟨_, _, rfl, rfl, ?_⟩
    have fin : ∀ (N : VK), N (.bl true) H1 → ∀ b : Bool, b = true → N (.bl b) H1 := fun N h b e => e ▸ h
    wtm_at "jw"
    refine c_dec (fun h => ?_) (fun h => ?_)
    · wtm_at "jw"
      refine ⟨d, l, _, 0, rfl, ?_⟩
      wtm_at "jw"
      refine c_no (by rw [if_pos rfl]; unfold mx; split <;> split <;> omega) ?_
      wtm_at "jw"
      refine c_dec (fun h2 => ?_) (fun h2 => ?_)
      · wtm_at "jw"
        exact q _ s1
      · wtm_at "jw"
        refine c_no (by omega) ?_
        wtm_at "jw"
        refine ⟨d, l, _, 0, rfl, ?_⟩
        wtm_at "jw"
        rw [decide_eq_true]
        · exact q _ s1
        · rw [if_pos rfl]
          unfold mx at *
          split at h2 <;> split <;> omega
    · wtm_at "jw"
      refine c_no (by unfold mx at *; split at h <;> omega) ?_
      wtm_at "jw"
      refine c_dec (fun h2 => ?_) (fun h2 => ?_)
      · wtm_at "jw"
        exact q _ s1
      · wtm_at "jw"
        refine ⟨d, l, _, 0, rfl, ?_⟩
        wtm_at "jw"
        rw [decide_eq_true]
        · exact q _ s1
        · rw [if_pos rfl]
          unfold mx at *
          split at h2 <;> split <;> omega
def sp_law (K : PySem.W.Frag) : Sp := fun vs H Q _ => ∃ (a : Addr) (ns : List Int), vs = [.ref a] ∧ SqL K H a (ns.map V.int) ∧ ns.length ≤ 63 ∧ ∀ H', Q (.bl true) H'
theorem small_of {x : V} {m : Int} : x ∈ [V.int 0, V.int 1, V.int 2, V.int 3, V.int 0, V.int 3] → ∃ n : Int, x = .int n ∧ 0 ≤ n ∧ n ≤ 3 := by
  intro hm
  simp only [List.mem_cons, List.not_mem_nil, or_false] at hm
  rcases hm with h | h | h | h | h | h <;> exact ⟨_, h, by omega, by omega⟩
theorem ok_law {P : Program} {w : World} {K : PySem.W.Frag} {mg : Str → Option Value} {base : Heap} {f : Addr} {fd : FuncData} (F : Df K mg "law" s_law f fd ["script"]) (T : Txt mg)
    (c__law_begin : Cl P w K mg base 1 "_law_begin" (sp__law_begin K))
    (c__law_pick : Cl P w K mg base 2 "_law_pick" (sp__law_pick K))
    (c__law_constants_hold : Cl P w K mg base 3 "_law_constants_hold" (sp__law_constants_hold K))
    (c__law_budgets_hold : Cl P w K mg base 3 "_law_budgets_hold" (sp__law_budgets_hold K))
    (c__law_least_holds : Cl P w K mg base 3 "_law_least_holds" (sp__law_least_holds K))
    (c__law_draw : Cl P w K mg base 1 "_law_draw" (sp__law_draw K)) : FnOk P w K mg base CX0 4 f fd ["script"] (sp_law K) := by
  refine F.ok sc_law (fun vs H Q E h => ?_) (fun cdv A outer s H vs Q E hr h => ?_)
  · obtain ⟨a, ns, rfl, _⟩ := h
    rfl
  · obtain ⟨a, ns, rfl, hs, hl, k⟩ := h
    refine ⟨_, (pss_cons (ps_set (i := 1) sc_law.nd rfl (Or.inl rfl) (pe_cl c__law_begin hr (by decide) rfl (pa_cons (pv 0) pa_nil)))
      (pss_cons (ps_for PassesOwn.never rfl (pi_range1 rfl T.b_range (pa_cons pe_int pa_nil)) (pg_name (i := 2) sc_law.nd rfl (Or.inl rfl)) (pss_cons (ps_set (i := 3) sc_law.nd rfl (Or.inl rfl) (pe_cl c__law_pick hr (by decide) rfl (pa_cons (pv 1) (pa_cons (pe_lst (pa_cons pe_int (pa_cons pe_int (pa_cons pe_int (pa_cons pe_int (pa_cons pe_int (pa_cons pe_int pa_nil))))))) pa_nil))))
      (pss_cons (ps_set (i := 4) sc_law.nd rfl (Or.inl rfl) (pe_cl c__law_pick hr (by decide) rfl (pa_cons (pv 1) (pa_cons (pe_lst (pa_cons pe_int (pa_cons pe_int (pa_cons pe_int (pa_cons pe_int (pa_cons pe_int (pa_cons pe_int pa_nil))))))) pa_nil))))
      (pss_cons (ps_if (pt_not (pt_val (pe_cl c__law_constants_hold hr (by decide) rfl (pa_cons (pv 3) (pa_cons (pv 4) (pa_cons (pe_op op_add pe_int (pe_cl c__law_draw hr (by decide) rfl (pa_cons (pv 1) (pa_cons pe_int pa_nil)))) pa_nil)))))) (pss_one (ps_ret pe_bl)) pss_nil)
      (pss_cons (ps_if (pt_not (pt_val (pe_cl c__law_budgets_hold hr (by decide) rfl (pa_cons (pv 3) (pa_cons (pv 4) (pa_cons (pe_cl c__law_draw hr (by decide) rfl (pa_cons (pv 1) (pa_cons pe_int pa_nil))) (pa_cons (pe_cl c__law_draw hr (by decide) rfl (pa_cons (pv 1) (pa_cons pe_int pa_nil))) (pa_cons (pe_op op_add pe_int (pe_cl c__law_draw hr (by decide) rfl (pa_cons (pv 1) (pa_cons pe_int pa_nil)))) pa_nil)))))))) (pss_one (ps_ret pe_bl)) pss_nil)
      (pss_one (ps_if (pt_not (pt_val (pe_cl c__law_least_holds hr (by decide) rfl (pa_cons (pv 3) (pa_cons (pv 4) (pa_cons (pe_cl c__law_pick hr (by decide) rfl (pa_cons (pv 1) (pa_cons (pe_lst (pa_cons pe_int (pa_cons pe_int (pa_cons pe_int (pa_cons pe_int (pa_cons pe_int (pa_cons pe_int (pa_cons pe_int (pa_cons pe_int (pa_cons pe_int pa_nil)))))))))) pa_nil))) pa_nil)))))) (pss_one (ps_ret pe_bl)) pss_nil)))))))
      (pss_one (ps_ret pe_bl)))), ?_⟩
    try dsimp only [cxOf, Cx.nox, Cx.wish]
    refine st_of (σ' := [some _, none, none, none, none]) rfl ?_
    wtm_at "js"
    refine ⟨a, ns, rfl, hs, hl, fun p c H1 s1 p0 c0 dr => ?_⟩
    wtm_at "js"
    refine f_range (fun i σ H' => ∃ (v1 v2 v3 : Option V), σ = [some (.ref a), some (.ref p), v1, v2, v3] ∧ DrawAt H' p c) ⟨none, none, none, rfl, dr⟩ (fun i σ H' hi h => ?_) (fun σ H' h => ?_)
    · obtain ⟨v1, v2, v3, rfl, d1⟩ := h
      wtm_at "js"
      intro e1 he1
      have d2 := d1.same (same_new (o := .lst [V.int 0, V.int 1, V.int 2, V.int 3, V.int 0, V.int 3]) he1)
      wtm_at "js"
      refine ⟨p, c, e1, _, rfl, d2, .inl ⟨d1.ne_none he1, SqL.of upd_same⟩, by simp, by simp, fun x H2 hx w2 => ?_⟩
      obtain ⟨late, rfl, a0, a1⟩ := small_of (m := 0) hx
      wtm_at "js"
      intro e2 he2
      have d3 := w2.at_.same (same_new (o := .lst [V.int 0, V.int 1, V.int 2, V.int 3, V.int 0, V.int 3]) he2)
      wtm_at "js"
      refine ⟨p, c, e2, _, rfl, d3, .inl ⟨w2.at_.ne_none he2, SqL.of upd_same⟩, by simp, by simp, fun x H3 hx w3 => ?_⟩
      obtain ⟨lost, rfl, b0, b1⟩ := small_of (m := 0) hx
      wtm_at "jw"
      refine ⟨p, c, _, rfl, w3.at_, by decide, by decide, fun r1 H4 r10 r11 w4 => ?_⟩
      wtm_at "jw"
      refine ⟨late, lost, _, rfl, a0, a1, b0, b1, by omega, by omega, fun H5 s5 => ?_⟩
      have d5 := w4.at_.same s5
      wtm_at "jw"
      refine ⟨p, c, _, rfl, d5, by decide, by decide, fun r2 H6 r20 r21 w6 => ?_⟩
      wtm_at "jw"
      refine ⟨p, c, _, rfl, w6.at_, by decide, by decide, fun r3 H7 r30 r31 w7 => ?_⟩
      wtm_at "jw"
      refine ⟨p, c, _, rfl, w7.at_, by decide, by decide, fun r4 H8 r40 r41 w8 => ?_⟩
      wtm_at "jw"
      refine ⟨late, lost, _, _, _, rfl, a0, a1, b0, b1, by omega, by omega, by omega, by omega, by omega, by omega, fun H9 s9 => ?_⟩
      have d9 := w8.at_.same s9
      wtm_at "jw"
      intro e3 he3
      have d10 := d9.same (same_new (o := .lst [V.int 0, V.int 1, V.int 2, V.int 3, V.int 4, V.int 5, V.int 6, V.int 7, V.int 24]) he3)
      wtm_at "jw"
      refine ⟨p, c, e3, _, rfl, d10, .inl ⟨d9.ne_none he3, SqL.of upd_same⟩, by simp, by simp, fun x HA hx wA => ?_⟩
      obtain ⟨most, rfl, m0⟩ : ∃ n : Int, x = .int n ∧ 0 ≤ n := by
        simp only [List.mem_cons, List.not_mem_nil, or_false] at hx
        rcases hx with h | h | h | h | h | h | h | h | h <;> exact ⟨_, h, by omega⟩
      wtm_at "jw"
      refine ⟨late, lost, most, rfl, a0, a1, b0, b1, m0, fun HB sB => ?_⟩
      wtm_at "jw"
      exact ⟨_, _, _, rfl, wA.at_.same sB⟩
    · obtain ⟨v1, v2, v3, rfl, d1⟩ := h
      wtm_at "js"
      exact k _
theorem law_hands {K : PySem.W.Frag} {H : Hp} (a : Addr) (ns : List Int) (hl : ns.length ≤ 63) (hb : ∀ z ∈ ns, Builtin.Int.intBits z ≤ 1048576) (hS : SqL K H a (ns.map V.int)) :
    sp_law K [.ref a] H (fun v _ => v = .bl true) fun _ _ _ => False := ⟨a, ns, rfl, hS, hl, fun _ => rfl⟩
theorem all_mk {l : PySem.W.OpenLaw} {w : World} {K : PySem.W.Frag} {h : Heap} {mg : Str → Option Value} {fa : Addr} (X : K.In h) (G : h.Ns mainGlobals mg) (hfa : mg "law" = some (.ref fa))
    {f__law_begin : Addr} {od__law_begin an__law_begin : Option Addr} {sl__law_begin : Array (Option Value)} {oc__law_begin kV__law_begin dc__law_begin pm__law_begin cd__law_begin ct__law_begin : Value}
    {f__law_draw : Addr} {od__law_draw an__law_draw : Option Addr} {sl__law_draw : Array (Option Value)} {oc__law_draw kV__law_draw dc__law_draw pm__law_draw cd__law_draw ct__law_draw : Value}
    {f__law_pick : Addr} {od__law_pick an__law_pick : Option Addr} {sl__law_pick : Array (Option Value)} {oc__law_pick kV__law_pick dc__law_pick pm__law_pick cd__law_pick ct__law_pick : Value}
    {f__law_latest : Addr} {od__law_latest an__law_latest : Option Addr} {sl__law_latest : Array (Option Value)} {oc__law_latest kV__law_latest dc__law_latest pm__law_latest cd__law_latest ct__law_latest : Value}
    {f__law_is_int : Addr} {od__law_is_int an__law_is_int : Option Addr} {sl__law_is_int : Array (Option Value)} {oc__law_is_int kV__law_is_int dc__law_is_int pm__law_is_int cd__law_is_int ct__law_is_int : Value}
    {f__law_is_just : Addr} {od__law_is_just an__law_is_just : Option Addr} {sl__law_is_just : Array (Option Value)} {oc__law_is_just kV__law_is_just dc__law_is_just pm__law_is_just cd__law_is_just ct__law_is_just : Value}
    {f_wait : Addr} {od_wait an_wait : Option Addr} {sl_wait : Array (Option Value)} {oc_wait kV_wait dc_wait pm_wait cd_wait ct_wait : Value}
    {f_frames_of : Addr} {od_frames_of an_frames_of : Option Addr} {sl_frames_of : Array (Option Value)} {oc_frames_of kV_frames_of dc_frames_of pm_frames_of cd_frames_of ct_frames_of : Value}
    {f_hold : Addr} {od_hold an_hold : Option Addr} {sl_hold : Array (Option Value)} {oc_hold kV_hold dc_hold pm_hold cd_hold ct_hold : Value}
    {f__law_span : Addr} {od__law_span an__law_span : Option Addr} {sl__law_span : Array (Option Value)} {oc__law_span kV__law_span dc__law_span pm__law_span cd__law_span ct__law_span : Value}
    {f_lateness : Addr} {od_lateness an_lateness : Option Addr} {sl_lateness : Array (Option Value)} {oc_lateness kV_lateness dc_lateness pm_lateness cd_lateness ct_lateness : Value}
    {f__law_constants_hold : Addr} {od__law_constants_hold an__law_constants_hold : Option Addr} {sl__law_constants_hold : Array (Option Value)} {oc__law_constants_hold kV__law_constants_hold dc__law_constants_hold pm__law_constants_hold cd__law_constants_hold ct__law_constants_hold : Value}
    {f_most_marks : Addr} {od_most_marks an_most_marks : Option Addr} {sl_most_marks : Array (Option Value)} {oc_most_marks kV_most_marks dc_most_marks pm_most_marks cd_most_marks ct_most_marks : Value}
    {f_most_again : Addr} {od_most_again an_most_again : Option Addr} {sl_most_again : Array (Option Value)} {oc_most_again kV_most_again dc_most_again pm_most_again cd_most_again ct_most_again : Value}
    {f_most_words : Addr} {od_most_words an_most_words : Option Addr} {sl_most_words : Array (Option Value)} {oc_most_words kV_most_words dc_most_words pm_most_words cd_most_words ct_most_words : Value}
    {f__law_budgets_hold : Addr} {od__law_budgets_hold an__law_budgets_hold : Option Addr} {sl__law_budgets_hold : Array (Option Value)} {oc__law_budgets_hold kV__law_budgets_hold dc__law_budgets_hold pm__law_budgets_hold cd__law_budgets_hold ct__law_budgets_hold : Value}
    {f__law_least_by_trying : Addr} {od__law_least_by_trying an__law_least_by_trying : Option Addr} {sl__law_least_by_trying : Array (Option Value)} {oc__law_least_by_trying kV__law_least_by_trying dc__law_least_by_trying pm__law_least_by_trying cd__law_least_by_trying ct__law_least_by_trying : Value}
    {f_least_lag : Addr} {od_least_lag an_least_lag : Option Addr} {sl_least_lag : Array (Option Value)} {oc_least_lag kV_least_lag dc_least_lag pm_least_lag cd_least_lag ct_least_lag : Value}
    {f__law_least_holds : Addr} {od__law_least_holds an__law_least_holds : Option Addr} {sl__law_least_holds : Array (Option Value)} {oc__law_least_holds kV__law_least_holds dc__law_least_holds pm__law_least_holds cd__law_least_holds ct__law_least_holds : Value}
    {f_law : Addr} {od_law an_law : Option Addr} {sl_law : Array (Option Value)} {oc_law kV_law dc_law pm_law cd_law ct_law : Value}
    (a__law_begin : PySem.W.nsIn K mainGlobals "_law_begin" = some (some (.ref f__law_begin))) (l__law_begin : K.lookup f__law_begin = some ⟨oc__law_begin, od__law_begin, .func (PySem.W.fnOf "_law_begin" "_law_begin" (defArgs s__law_begin) (defBody s__law_begin) (defScope s__law_begin) .none kV__law_begin dc__law_begin pm__law_begin an__law_begin cd__law_begin ct__law_begin), sl__law_begin⟩) (c__law_begin : PySem.W.codeIn K cd__law_begin "_law_begin" = true) (k__law_begin : PySem.W.keepIn K (.ref f__law_begin) = true)
    (a__law_draw : PySem.W.nsIn K mainGlobals "_law_draw" = some (some (.ref f__law_draw))) (l__law_draw : K.lookup f__law_draw = some ⟨oc__law_draw, od__law_draw, .func (PySem.W.fnOf "_law_draw" "_law_draw" (defArgs s__law_draw) (defBody s__law_draw) (defScope s__law_draw) .none kV__law_draw dc__law_draw pm__law_draw an__law_draw cd__law_draw ct__law_draw), sl__law_draw⟩) (c__law_draw : PySem.W.codeIn K cd__law_draw "_law_draw" = true) (k__law_draw : PySem.W.keepIn K (.ref f__law_draw) = true)
    (a__law_pick : PySem.W.nsIn K mainGlobals "_law_pick" = some (some (.ref f__law_pick))) (l__law_pick : K.lookup f__law_pick = some ⟨oc__law_pick, od__law_pick, .func (PySem.W.fnOf "_law_pick" "_law_pick" (defArgs s__law_pick) (defBody s__law_pick) (defScope s__law_pick) .none kV__law_pick dc__law_pick pm__law_pick an__law_pick cd__law_pick ct__law_pick), sl__law_pick⟩) (c__law_pick : PySem.W.codeIn K cd__law_pick "_law_pick" = true) (k__law_pick : PySem.W.keepIn K (.ref f__law_pick) = true)
    (a__law_latest : PySem.W.nsIn K mainGlobals "_law_latest" = some (some (.ref f__law_latest))) (l__law_latest : K.lookup f__law_latest = some ⟨oc__law_latest, od__law_latest, .func (PySem.W.fnOf "_law_latest" "_law_latest" (defArgs s__law_latest) (defBody s__law_latest) (defScope s__law_latest) .none kV__law_latest dc__law_latest pm__law_latest an__law_latest cd__law_latest ct__law_latest), sl__law_latest⟩) (c__law_latest : PySem.W.codeIn K cd__law_latest "_law_latest" = true) (k__law_latest : PySem.W.keepIn K (.ref f__law_latest) = true)
    (a__law_is_int : PySem.W.nsIn K mainGlobals "_law_is_int" = some (some (.ref f__law_is_int))) (l__law_is_int : K.lookup f__law_is_int = some ⟨oc__law_is_int, od__law_is_int, .func (PySem.W.fnOf "_law_is_int" "_law_is_int" (defArgs s__law_is_int) (defBody s__law_is_int) (defScope s__law_is_int) .none kV__law_is_int dc__law_is_int pm__law_is_int an__law_is_int cd__law_is_int ct__law_is_int), sl__law_is_int⟩) (c__law_is_int : PySem.W.codeIn K cd__law_is_int "_law_is_int" = true) (k__law_is_int : PySem.W.keepIn K (.ref f__law_is_int) = true)
    (a__law_is_just : PySem.W.nsIn K mainGlobals "_law_is_just" = some (some (.ref f__law_is_just))) (l__law_is_just : K.lookup f__law_is_just = some ⟨oc__law_is_just, od__law_is_just, .func (PySem.W.fnOf "_law_is_just" "_law_is_just" (defArgs s__law_is_just) (defBody s__law_is_just) (defScope s__law_is_just) .none kV__law_is_just dc__law_is_just pm__law_is_just an__law_is_just cd__law_is_just ct__law_is_just), sl__law_is_just⟩) (c__law_is_just : PySem.W.codeIn K cd__law_is_just "_law_is_just" = true) (k__law_is_just : PySem.W.keepIn K (.ref f__law_is_just) = true)
    (a_wait : PySem.W.nsIn K mainGlobals "wait" = some (some (.ref f_wait))) (l_wait : K.lookup f_wait = some ⟨oc_wait, od_wait, .func (PySem.W.fnOf "wait" "wait" (defArgs s_wait) (defBody s_wait) (defScope s_wait) .none kV_wait dc_wait pm_wait an_wait cd_wait ct_wait), sl_wait⟩) (c_wait : PySem.W.codeIn K cd_wait "wait" = true) (k_wait : PySem.W.keepIn K (.ref f_wait) = true)
    (a_frames_of : PySem.W.nsIn K mainGlobals "frames_of" = some (some (.ref f_frames_of))) (l_frames_of : K.lookup f_frames_of = some ⟨oc_frames_of, od_frames_of, .func (PySem.W.fnOf "frames_of" "frames_of" (defArgs s_frames_of) (defBody s_frames_of) (defScope s_frames_of) .none kV_frames_of dc_frames_of pm_frames_of an_frames_of cd_frames_of ct_frames_of), sl_frames_of⟩) (c_frames_of : PySem.W.codeIn K cd_frames_of "frames_of" = true) (k_frames_of : PySem.W.keepIn K (.ref f_frames_of) = true)
    (a_hold : PySem.W.nsIn K mainGlobals "hold" = some (some (.ref f_hold))) (l_hold : K.lookup f_hold = some ⟨oc_hold, od_hold, .func (PySem.W.fnOf "hold" "hold" (defArgs s_hold) (defBody s_hold) (defScope s_hold) .none kV_hold dc_hold pm_hold an_hold cd_hold ct_hold), sl_hold⟩) (c_hold : PySem.W.codeIn K cd_hold "hold" = true) (k_hold : PySem.W.keepIn K (.ref f_hold) = true)
    (a__law_span : PySem.W.nsIn K mainGlobals "_law_span" = some (some (.ref f__law_span))) (l__law_span : K.lookup f__law_span = some ⟨oc__law_span, od__law_span, .func (PySem.W.fnOf "_law_span" "_law_span" (defArgs s__law_span) (defBody s__law_span) (defScope s__law_span) .none kV__law_span dc__law_span pm__law_span an__law_span cd__law_span ct__law_span), sl__law_span⟩) (c__law_span : PySem.W.codeIn K cd__law_span "_law_span" = true) (k__law_span : PySem.W.keepIn K (.ref f__law_span) = true)
    (a_lateness : PySem.W.nsIn K mainGlobals "lateness" = some (some (.ref f_lateness))) (l_lateness : K.lookup f_lateness = some ⟨oc_lateness, od_lateness, .func (PySem.W.fnOf "lateness" "lateness" (defArgs s_lateness) (defBody s_lateness) (defScope s_lateness) .none kV_lateness dc_lateness pm_lateness an_lateness cd_lateness ct_lateness), sl_lateness⟩) (c_lateness : PySem.W.codeIn K cd_lateness "lateness" = true) (k_lateness : PySem.W.keepIn K (.ref f_lateness) = true)
    (a__law_constants_hold : PySem.W.nsIn K mainGlobals "_law_constants_hold" = some (some (.ref f__law_constants_hold))) (l__law_constants_hold : K.lookup f__law_constants_hold = some ⟨oc__law_constants_hold, od__law_constants_hold, .func (PySem.W.fnOf "_law_constants_hold" "_law_constants_hold" (defArgs s__law_constants_hold) (defBody s__law_constants_hold) (defScope s__law_constants_hold) .none kV__law_constants_hold dc__law_constants_hold pm__law_constants_hold an__law_constants_hold cd__law_constants_hold ct__law_constants_hold), sl__law_constants_hold⟩) (c__law_constants_hold : PySem.W.codeIn K cd__law_constants_hold "_law_constants_hold" = true) (k__law_constants_hold : PySem.W.keepIn K (.ref f__law_constants_hold) = true)
    (a_most_marks : PySem.W.nsIn K mainGlobals "most_marks" = some (some (.ref f_most_marks))) (l_most_marks : K.lookup f_most_marks = some ⟨oc_most_marks, od_most_marks, .func (PySem.W.fnOf "most_marks" "most_marks" (defArgs s_most_marks) (defBody s_most_marks) (defScope s_most_marks) .none kV_most_marks dc_most_marks pm_most_marks an_most_marks cd_most_marks ct_most_marks), sl_most_marks⟩) (c_most_marks : PySem.W.codeIn K cd_most_marks "most_marks" = true) (k_most_marks : PySem.W.keepIn K (.ref f_most_marks) = true)
    (a_most_again : PySem.W.nsIn K mainGlobals "most_again" = some (some (.ref f_most_again))) (l_most_again : K.lookup f_most_again = some ⟨oc_most_again, od_most_again, .func (PySem.W.fnOf "most_again" "most_again" (defArgs s_most_again) (defBody s_most_again) (defScope s_most_again) .none kV_most_again dc_most_again pm_most_again an_most_again cd_most_again ct_most_again), sl_most_again⟩) (c_most_again : PySem.W.codeIn K cd_most_again "most_again" = true) (k_most_again : PySem.W.keepIn K (.ref f_most_again) = true)
    (a_most_words : PySem.W.nsIn K mainGlobals "most_words" = some (some (.ref f_most_words))) (l_most_words : K.lookup f_most_words = some ⟨oc_most_words, od_most_words, .func (PySem.W.fnOf "most_words" "most_words" (defArgs s_most_words) (defBody s_most_words) (defScope s_most_words) .none kV_most_words dc_most_words pm_most_words an_most_words cd_most_words ct_most_words), sl_most_words⟩) (c_most_words : PySem.W.codeIn K cd_most_words "most_words" = true) (k_most_words : PySem.W.keepIn K (.ref f_most_words) = true)
    (a__law_budgets_hold : PySem.W.nsIn K mainGlobals "_law_budgets_hold" = some (some (.ref f__law_budgets_hold))) (l__law_budgets_hold : K.lookup f__law_budgets_hold = some ⟨oc__law_budgets_hold, od__law_budgets_hold, .func (PySem.W.fnOf "_law_budgets_hold" "_law_budgets_hold" (defArgs s__law_budgets_hold) (defBody s__law_budgets_hold) (defScope s__law_budgets_hold) .none kV__law_budgets_hold dc__law_budgets_hold pm__law_budgets_hold an__law_budgets_hold cd__law_budgets_hold ct__law_budgets_hold), sl__law_budgets_hold⟩) (c__law_budgets_hold : PySem.W.codeIn K cd__law_budgets_hold "_law_budgets_hold" = true) (k__law_budgets_hold : PySem.W.keepIn K (.ref f__law_budgets_hold) = true)
    (a__law_least_by_trying : PySem.W.nsIn K mainGlobals "_law_least_by_trying" = some (some (.ref f__law_least_by_trying))) (l__law_least_by_trying : K.lookup f__law_least_by_trying = some ⟨oc__law_least_by_trying, od__law_least_by_trying, .func (PySem.W.fnOf "_law_least_by_trying" "_law_least_by_trying" (defArgs s__law_least_by_trying) (defBody s__law_least_by_trying) (defScope s__law_least_by_trying) .none kV__law_least_by_trying dc__law_least_by_trying pm__law_least_by_trying an__law_least_by_trying cd__law_least_by_trying ct__law_least_by_trying), sl__law_least_by_trying⟩) (c__law_least_by_trying : PySem.W.codeIn K cd__law_least_by_trying "_law_least_by_trying" = true) (k__law_least_by_trying : PySem.W.keepIn K (.ref f__law_least_by_trying) = true)
    (a_least_lag : PySem.W.nsIn K mainGlobals "least_lag" = some (some (.ref f_least_lag))) (l_least_lag : K.lookup f_least_lag = some ⟨oc_least_lag, od_least_lag, .func (PySem.W.fnOf "least_lag" "least_lag" (defArgs s_least_lag) (defBody s_least_lag) (defScope s_least_lag) .none kV_least_lag dc_least_lag pm_least_lag an_least_lag cd_least_lag ct_least_lag), sl_least_lag⟩) (c_least_lag : PySem.W.codeIn K cd_least_lag "least_lag" = true) (k_least_lag : PySem.W.keepIn K (.ref f_least_lag) = true)
    (a__law_least_holds : PySem.W.nsIn K mainGlobals "_law_least_holds" = some (some (.ref f__law_least_holds))) (l__law_least_holds : K.lookup f__law_least_holds = some ⟨oc__law_least_holds, od__law_least_holds, .func (PySem.W.fnOf "_law_least_holds" "_law_least_holds" (defArgs s__law_least_holds) (defBody s__law_least_holds) (defScope s__law_least_holds) .none kV__law_least_holds dc__law_least_holds pm__law_least_holds an__law_least_holds cd__law_least_holds ct__law_least_holds), sl__law_least_holds⟩) (c__law_least_holds : PySem.W.codeIn K cd__law_least_holds "_law_least_holds" = true) (k__law_least_holds : PySem.W.keepIn K (.ref f__law_least_holds) = true)
    (a_law : PySem.W.nsIn K mainGlobals "law" = some (some (.ref f_law))) (l_law : K.lookup f_law = some ⟨oc_law, od_law, .func (PySem.W.fnOf "law" "law" (defArgs s_law) (defBody s_law) (defScope s_law) .none kV_law dc_law pm_law an_law cd_law ct_law), sl_law⟩) (c_law : PySem.W.codeIn K cd_law "law" = true) (k_law : PySem.W.keepIn K (.ref f_law) = true)
    (z_int : PySem.W.nsIn K mainGlobals "int" = some none)
    (z_len : PySem.W.nsIn K mainGlobals "len" = some none)
    (z_abs : PySem.W.nsIn K mainGlobals "abs" = some none)
    (z_range : PySem.W.nsIn K mainGlobals "range" = some none)
    (z_max : PySem.W.nsIn K mainGlobals "max" = some none)
    (z_isinstance : PySem.W.nsIn K mainGlobals "isinstance" = some none)
    (z_bool : PySem.W.nsIn K mainGlobals "bool" = some none)
    : ∃ fd : FuncData, (∀ (s : Shared) (v : Value), BindsTo s fd ⟨[v], []⟩ [("script", v)]) ∧ ∀ base : Heap, K.In base → base.Ns mainGlobals mg → FnOk l.prog w K mg base CX0 4 fa fd ["script"] (sp_law K) := by
  have e := hfa.symm.trans (PySem.W.mg_of X G a_law)
  cases e
  have T : Txt mg := ⟨PySem.W.mg_none_of X G z_int, PySem.W.mg_none_of X G z_len, PySem.W.mg_none_of X G z_abs, PySem.W.mg_none_of X G z_range, PySem.W.mg_none_of X G z_max, PySem.W.mg_none_of X G z_isinstance, PySem.W.mg_none_of X G z_bool⟩
  have F__law_begin := fun_mk (st := s__law_begin) l__law_begin c__law_begin k__law_begin
  have D__law_begin : Df K mg "_law_begin" s__law_begin f__law_begin _ ["script"] := ⟨F__law_begin, PySem.W.mg_of X G a__law_begin, F__law_begin.binds (ps := ["script"]) fun _ _ _ _ _ _ us hl => match us, hl with | [_], _ => rfl⟩
  have F__law_draw := fun_mk (st := s__law_draw) l__law_draw c__law_draw k__law_draw
  have D__law_draw : Df K mg "_law_draw" s__law_draw f__law_draw _ ["d", "many"] := ⟨F__law_draw, PySem.W.mg_of X G a__law_draw, F__law_draw.binds (ps := ["d", "many"]) fun _ _ _ _ _ _ us hl => match us, hl with | [_, _], _ => rfl⟩
  have F__law_pick := fun_mk (st := s__law_pick) l__law_pick c__law_pick k__law_pick
  have D__law_pick : Df K mg "_law_pick" s__law_pick f__law_pick _ ["d", "row"] := ⟨F__law_pick, PySem.W.mg_of X G a__law_pick, F__law_pick.binds (ps := ["d", "row"]) fun _ _ _ _ _ _ us hl => match us, hl with | [_, _], _ => rfl⟩
  have F__law_latest := fun_mk (st := s__law_latest) l__law_latest c__law_latest k__law_latest
  have D__law_latest : Df K mg "_law_latest" s__law_latest f__law_latest _ ["late", "lost"] := ⟨F__law_latest, PySem.W.mg_of X G a__law_latest, F__law_latest.binds (ps := ["late", "lost"]) fun _ _ _ _ _ _ us hl => match us, hl with | [_, _], _ => rfl⟩
  have F__law_is_int := fun_mk (st := s__law_is_int) l__law_is_int c__law_is_int k__law_is_int
  have D__law_is_int : Df K mg "_law_is_int" s__law_is_int f__law_is_int _ ["thing"] := ⟨F__law_is_int, PySem.W.mg_of X G a__law_is_int, F__law_is_int.binds (ps := ["thing"]) fun _ _ _ _ _ _ us hl => match us, hl with | [_], _ => rfl⟩
  have F__law_is_just := fun_mk (st := s__law_is_just) l__law_is_just c__law_is_just k__law_is_just
  have D__law_is_just : Df K mg "_law_is_just" s__law_is_just f__law_is_just _ ["told", "due"] := ⟨F__law_is_just, PySem.W.mg_of X G a__law_is_just, F__law_is_just.binds (ps := ["told", "due"]) fun _ _ _ _ _ _ us hl => match us, hl with | [_, _], _ => rfl⟩
  have F_wait := fun_mk (st := s_wait) l_wait c_wait k_wait
  have D_wait : Df K mg "wait" s_wait f_wait _ ["d", "l"] := ⟨F_wait, PySem.W.mg_of X G a_wait, F_wait.binds (ps := ["d", "l"]) fun _ _ _ _ _ _ us hl => match us, hl with | [_, _], _ => rfl⟩
  have F_frames_of := fun_mk (st := s_frames_of) l_frames_of c_frames_of k_frames_of
  have D_frames_of : Df K mg "frames_of" s_frames_of f_frames_of _ ["ticks", "d", "l"] := ⟨F_frames_of, PySem.W.mg_of X G a_frames_of, F_frames_of.binds (ps := ["ticks", "d", "l"]) fun _ _ _ _ _ _ us hl => match us, hl with | [_, _, _], _ => rfl⟩
  have F_hold := fun_mk (st := s_hold) l_hold c_hold k_hold
  have D_hold : Df K mg "hold" s_hold f_hold _ ["d", "l"] := ⟨F_hold, PySem.W.mg_of X G a_hold, F_hold.binds (ps := ["d", "l"]) fun _ _ _ _ _ _ us hl => match us, hl with | [_, _], _ => rfl⟩
  have F__law_span := fun_mk (st := s__law_span) l__law_span c__law_span k__law_span
  have D__law_span : Df K mg "_law_span" s__law_span f__law_span _ ["low", "high"] := ⟨F__law_span, PySem.W.mg_of X G a__law_span, F__law_span.binds (ps := ["low", "high"]) fun _ _ _ _ _ _ us hl => match us, hl with | [_, _], _ => rfl⟩
  have F_lateness := fun_mk (st := s_lateness) l_lateness c_lateness k_lateness
  have D_lateness : Df K mg "lateness" s_lateness f_lateness _ ["d", "l"] := ⟨F_lateness, PySem.W.mg_of X G a_lateness, F_lateness.binds (ps := ["d", "l"]) fun _ _ _ _ _ _ us hl => match us, hl with | [_, _], _ => rfl⟩
  have F__law_constants_hold := fun_mk (st := s__law_constants_hold) l__law_constants_hold c__law_constants_hold k__law_constants_hold
  have D__law_constants_hold : Df K mg "_law_constants_hold" s__law_constants_hold f__law_constants_hold _ ["late", "lost", "ticks"] := ⟨F__law_constants_hold, PySem.W.mg_of X G a__law_constants_hold, F__law_constants_hold.binds (ps := ["late", "lost", "ticks"]) fun _ _ _ _ _ _ us hl => match us, hl with | [_, _, _], _ => rfl⟩
  have F_most_marks := fun_mk (st := s_most_marks) l_most_marks c_most_marks k_most_marks
  have D_most_marks : Df K mg "most_marks" s_most_marks f_most_marks _ ["d", "l"] := ⟨F_most_marks, PySem.W.mg_of X G a_most_marks, F_most_marks.binds (ps := ["d", "l"]) fun _ _ _ _ _ _ us hl => match us, hl with | [_, _], _ => rfl⟩
  have F_most_again := fun_mk (st := s_most_again) l_most_again c_most_again k_most_again
  have D_most_again : Df K mg "most_again" s_most_again f_most_again _ ["d", "l", "lag", "falls"] := ⟨F_most_again, PySem.W.mg_of X G a_most_again, F_most_again.binds (ps := ["d", "l", "lag", "falls"]) fun _ _ _ _ _ _ us hl => match us, hl with | [_, _, _, _], _ => rfl⟩
  have F_most_words := fun_mk (st := s_most_words) l_most_words c_most_words k_most_words
  have D_most_words : Df K mg "most_words" s_most_words f_most_words _ ["seats", "d", "l", "lag"] := ⟨F_most_words, PySem.W.mg_of X G a_most_words, F_most_words.binds (ps := ["seats", "d", "l", "lag"]) fun _ _ _ _ _ _ us hl => match us, hl with | [_, _, _, _], _ => rfl⟩
  have F__law_budgets_hold := fun_mk (st := s__law_budgets_hold) l__law_budgets_hold c__law_budgets_hold k__law_budgets_hold
  have D__law_budgets_hold : Df K mg "_law_budgets_hold" s__law_budgets_hold f__law_budgets_hold _ ["late", "lost", "lag", "falls", "seats"] := ⟨F__law_budgets_hold, PySem.W.mg_of X G a__law_budgets_hold, F__law_budgets_hold.binds (ps := ["late", "lost", "lag", "falls", "seats"]) fun _ _ _ _ _ _ us hl => match us, hl with | [_, _, _, _, _], _ => rfl⟩
  have F__law_least_by_trying := fun_mk (st := s__law_least_by_trying) l__law_least_by_trying c__law_least_by_trying k__law_least_by_trying
  have D__law_least_by_trying : Df K mg "_law_least_by_trying" s__law_least_by_trying f__law_least_by_trying _ ["reach", "most"] := ⟨F__law_least_by_trying, PySem.W.mg_of X G a__law_least_by_trying, F__law_least_by_trying.binds (ps := ["reach", "most"]) fun _ _ _ _ _ _ us hl => match us, hl with | [_, _], _ => rfl⟩
  have F_least_lag := fun_mk (st := s_least_lag) l_least_lag c_least_lag k_least_lag
  have D_least_lag : Df K mg "least_lag" s_least_lag f_least_lag _ ["d", "l", "most"] := ⟨F_least_lag, PySem.W.mg_of X G a_least_lag, F_least_lag.binds (ps := ["d", "l", "most"]) fun _ _ _ _ _ _ us hl => match us, hl with | [_, _, _], _ => rfl⟩
  have F__law_least_holds := fun_mk (st := s__law_least_holds) l__law_least_holds c__law_least_holds k__law_least_holds
  have D__law_least_holds : Df K mg "_law_least_holds" s__law_least_holds f__law_least_holds _ ["late", "lost", "most"] := ⟨F__law_least_holds, PySem.W.mg_of X G a__law_least_holds, F__law_least_holds.binds (ps := ["late", "lost", "most"]) fun _ _ _ _ _ _ us hl => match us, hl with | [_, _, _], _ => rfl⟩
  have F_law := fun_mk (st := s_law) l_law c_law k_law
  have D_law : Df K mg "law" s_law _ _ ["script"] := ⟨F_law, PySem.W.mg_of X G a_law, F_law.binds (ps := ["script"]) fun _ _ _ _ _ _ us hl => match us, hl with | [_], _ => rfl⟩
  refine ⟨PySem.W.fnOf "law" "law" (defArgs s_law) (defBody s_law) (defScope s_law) .none kV_law dc_law pm_law an_law cd_law ct_law, fun s v => .of_eq rfl, fun base _ _ => ?_⟩
  have C__law_begin : Cl l.prog w K mg base 1 "_law_begin" (sp__law_begin K) := D__law_begin.cl (ok__law_begin D__law_begin T )
  have C__law_draw : Cl l.prog w K mg base 1 "_law_draw" (sp__law_draw K) := D__law_draw.cl (ok__law_draw D__law_draw T )
  have C__law_pick : Cl l.prog w K mg base 2 "_law_pick" (sp__law_pick K) := D__law_pick.cl (ok__law_pick D__law_pick T C__law_draw)
  have C__law_latest : Cl l.prog w K mg base 1 "_law_latest" (sp__law_latest K) := D__law_latest.cl (ok__law_latest D__law_latest T )
  have C__law_is_int : Cl l.prog w K mg base 1 "_law_is_int" (sp__law_is_int K) := D__law_is_int.cl (ok__law_is_int D__law_is_int T )
  have C__law_is_just : Cl l.prog w K mg base 2 "_law_is_just" (sp__law_is_just K) := D__law_is_just.cl (ok__law_is_just D__law_is_just T C__law_is_int)
  have C_wait : Cl l.prog w K mg base 1 "wait" (sp_wait K) := D_wait.cl (ok_wait D_wait T )
  have C_frames_of : Cl l.prog w K mg base 2 "frames_of" (sp_frames_of K) := D_frames_of.cl (ok_frames_of D_frames_of T C_wait)
  have C_hold : Cl l.prog w K mg base 2 "hold" (sp_hold K) := D_hold.cl (ok_hold D_hold T C_wait)
  have C__law_span : Cl l.prog w K mg base 1 "_law_span" (sp__law_span K) := D__law_span.cl (ok__law_span D__law_span T )
  have C_lateness : Cl l.prog w K mg base 1 "lateness" (sp_lateness K) := D_lateness.cl (ok_lateness D_lateness T )
  have C__law_constants_hold : Cl l.prog w K mg base 3 "_law_constants_hold" (sp__law_constants_hold K) := D__law_constants_hold.cl (ok__law_constants_hold D__law_constants_hold T C__law_latest C__law_is_just C_frames_of C_hold C__law_span C_lateness C_wait)
  have C_most_marks : Cl l.prog w K mg base 2 "most_marks" (sp_most_marks K) := D_most_marks.cl (ok_most_marks D_most_marks T C_wait)
  have C_most_again : Cl l.prog w K mg base 2 "most_again" (sp_most_again K) := D_most_again.cl (ok_most_again D_most_again T C_wait)
  have C_most_words : Cl l.prog w K mg base 2 "most_words" (sp_most_words K) := D_most_words.cl (ok_most_words D_most_words T C_wait)
  have C__law_budgets_hold : Cl l.prog w K mg base 3 "_law_budgets_hold" (sp__law_budgets_hold K) := D__law_budgets_hold.cl (ok__law_budgets_hold D__law_budgets_hold T C__law_latest C__law_is_just C_most_marks C__law_span C_most_again C_most_words)
  have C__law_least_by_trying : Cl l.prog w K mg base 2 "_law_least_by_trying" (sp__law_least_by_trying K) := D__law_least_by_trying.cl (ok__law_least_by_trying D__law_least_by_trying T C__law_span)
  have C_least_lag : Cl l.prog w K mg base 1 "least_lag" (sp_least_lag K) := D_least_lag.cl (ok_least_lag D_least_lag T )
  have C__law_least_holds : Cl l.prog w K mg base 3 "_law_least_holds" (sp__law_least_holds K) := D__law_least_holds.cl (ok__law_least_holds D__law_least_holds T C__law_least_by_trying C__law_latest C__law_is_just C_least_lag C_most_again)
  exact ok_law D_law T C__law_begin C__law_pick C__law_constants_hold C__law_budgets_hold C__law_least_holds C__law_draw
theorem walk {l : PySem.W.OpenLaw} {q : Program} {loose : List Str} {XP : (Str → Option Value) → Heap → Prop} {YP : World → Heap → Prop} {d : DefRec} {K : Params → PySem.W.Frag} (hn : l.most = some 63) (hdf : d.params.defaults = [])
    (hY : ∀ (w : World) (h : Heap), YP w h → (K w.params).In h)
    (F : ∀ (w : World) (mg : Str → Option Value) (fa : Addr) (h : Heap), (K w.params).In h → h.Ns mainGlobals mg → mg d.name = some (.ref fa) →
      ∃ fd : FuncData, (∀ (s : Shared) (u : Value), BindsTo s fd ⟨[u], []⟩ [("script", u)]) ∧ ∀ base : Heap, (K w.params).In base → base.Ns mainGlobals mg → FnOk l.prog w (K w.params) mg base CX0 4 fa fd ["script"] (sp_law (K w.params))) :
    PySem.W.WalkO q loose XP YP l.row.toRowW d [] (fun f vs => PySem.call f vs) :=
  L2.walk_ofB (n := 63) (k := 4) (x := "script") (CX := fun _ => CX0) (sp := fun w => sp_law (K w.params)) hn (by decide) hdf ⟨rfl, by decide, by decide⟩ hY F (fun _ _ a ns hl hb _ hS => law_hands a ns hl hb hS) fun _ _ _ _ _ z => z
end Law
open PySem PySem.W PyProof.Rows in
set_option maxRecDepth 100000 in
set_option maxHeartbeats 0 in
theorem PySem.Challenge.cw_judgedplay_k78_bounds_holds : PySem.Challenge.rw_judgedplay_k78_bounds.Holds := by
  w_on; o_law; k_head; (case hw => w_witness2)
  k_fill
  refine Law.walk (l := PySem.Challenge.rw_judgedplay_k78_bounds) rfl rfl (fun w h Y => PySem.W.kIn_of Y) ?F
  case F =>
    intro w mg fa h KX G hmg
    refine' Law.all_mk KX G hmg ?a__law_begin ?l__law_begin ?c__law_begin ?k__law_begin ?a__law_draw ?l__law_draw ?c__law_draw ?k__law_draw ?a__law_pick ?l__law_pick ?c__law_pick ?k__law_pick ?a__law_latest ?l__law_latest ?c__law_latest ?k__law_latest ?a__law_is_int ?l__law_is_int ?c__law_is_int ?k__law_is_int ?a__law_is_just ?l__law_is_just ?c__law_is_just ?k__law_is_just ?a_wait ?l_wait ?c_wait ?k_wait ?a_frames_of ?l_frames_of ?c_frames_of ?k_frames_of ?a_hold ?l_hold ?c_hold ?k_hold ?a__law_span ?l__law_span ?c__law_span ?k__law_span ?a_lateness ?l_lateness ?c_lateness ?k_lateness ?a__law_constants_hold ?l__law_constants_hold ?c__law_constants_hold ?k__law_constants_hold ?a_most_marks ?l_most_marks ?c_most_marks ?k_most_marks ?a_most_again ?l_most_again ?c_most_again ?k_most_again ?a_most_words ?l_most_words ?c_most_words ?k_most_words ?a__law_budgets_hold ?l__law_budgets_hold ?c__law_budgets_hold ?k__law_budgets_hold ?a__law_least_by_trying ?l__law_least_by_trying ?c__law_least_by_trying ?k__law_least_by_trying ?a_least_lag ?l_least_lag ?c_least_lag ?k_least_lag ?a__law_least_holds ?l__law_least_holds ?c__law_least_holds ?k__law_least_holds ?a_law ?l_law ?c_law ?k_law ?z_int ?z_len ?z_abs ?z_range ?z_max ?z_isinstance ?z_bool
    (case a__law_begin => k_is)
    (case l__law_begin => k_is)
    (case c__law_begin => k_is)
    (case k__law_begin => k_is)
    (case a__law_draw => k_is)
    (case l__law_draw => k_is)
    (case c__law_draw => k_is)
    (case k__law_draw => k_is)
    (case a__law_pick => k_is)
    (case l__law_pick => k_is)
    (case c__law_pick => k_is)
    (case k__law_pick => k_is)
    (case a__law_latest => k_is)
    (case l__law_latest => k_is)
    (case c__law_latest => k_is)
    (case k__law_latest => k_is)
    (case a__law_is_int => k_is)
    (case l__law_is_int => k_is)
    (case c__law_is_int => k_is)
    (case k__law_is_int => k_is)
    (case a__law_is_just => k_is)
    (case l__law_is_just => k_is)
    (case c__law_is_just => k_is)
    (case k__law_is_just => k_is)
    (case a_wait => k_is)
    (case l_wait => k_is)
    (case c_wait => k_is)
    (case k_wait => k_is)
    (case a_frames_of => k_is)
    (case l_frames_of => k_is)
    (case c_frames_of => k_is)
    (case k_frames_of => k_is)
    (case a_hold => k_is)
    (case l_hold => k_is)
    (case c_hold => k_is)
    (case k_hold => k_is)
    (case a__law_span => k_is)
    (case l__law_span => k_is)
    (case c__law_span => k_is)
    (case k__law_span => k_is)
    (case a_lateness => k_is)
    (case l_lateness => k_is)
    (case c_lateness => k_is)
    (case k_lateness => k_is)
    (case a__law_constants_hold => k_is)
    (case l__law_constants_hold => k_is)
    (case c__law_constants_hold => k_is)
    (case k__law_constants_hold => k_is)
    (case a_most_marks => k_is)
    (case l_most_marks => k_is)
    (case c_most_marks => k_is)
    (case k_most_marks => k_is)
    (case a_most_again => k_is)
    (case l_most_again => k_is)
    (case c_most_again => k_is)
    (case k_most_again => k_is)
    (case a_most_words => k_is)
    (case l_most_words => k_is)
    (case c_most_words => k_is)
    (case k_most_words => k_is)
    (case a__law_budgets_hold => k_is)
    (case l__law_budgets_hold => k_is)
    (case c__law_budgets_hold => k_is)
    (case k__law_budgets_hold => k_is)
    (case a__law_least_by_trying => k_is)
    (case l__law_least_by_trying => k_is)
    (case c__law_least_by_trying => k_is)
    (case k__law_least_by_trying => k_is)
    (case a_least_lag => k_is)
    (case l_least_lag => k_is)
    (case c_least_lag => k_is)
    (case k_least_lag => k_is)
    (case a__law_least_holds => k_is)
    (case l__law_least_holds => k_is)
    (case c__law_least_holds => k_is)
    (case k__law_least_holds => k_is)
    (case a_law => k_is)
    (case l_law => k_is)
    (case c_law => k_is)
    (case k_law => k_is)
    (case z_int => k_is)
    (case z_len => k_is)
    (case z_abs => k_is)
    (case z_range => k_is)
    (case z_max => k_is)
    (case z_isinstance => k_is)
    (case z_bool => k_is)
#print axioms PySem.Challenge.cw_judgedplay_k78_bounds_holds
