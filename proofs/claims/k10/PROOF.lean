import PyProof.Rows.All
import Wide.All
import OpenK.AllK
import Wide.FinOn
import HandS.ForMost
import HandS.IsInst
import HandS.Zip
import HandS.TupAny
import HandS.Flow
import HandS.Style
import HandS.Codes
import HandS.Steps
import HandS.Wide
import HandS.Walk
import HandS.Star
import HandS.FStr
import HandS.ExcCtx
import HandS.ExcField
import HandS.HotCalls
import HandS.ExcInit
import HandS.Lambda
import HandS.EndTab
import HandS.WordsExc
import KE.GoesMore
import KE.KDflt
import PySem.Challenge.RW_rubgrove_k10_texts_of_shapes
set_option Elab.async false
set_option linter.all false
set_option maxRecDepth 100000
set_option maxHeartbeats 4000000
namespace Rg
open PySem L2

/-! ### calls of own defs -/
structure Cal (P : Program) (w : World) (K : PySem.W.Frag) (mg : Str → Option Value) (base : Heap) (k : Nat) (x : Str) (sp : Sp) : Prop where
  ex : ∃ (f : Addr) (fd : FuncData) (ps : List Str), FnOk P w K mg base CX0 k f fd ps sp ∧ mg x = some (.ref f) ∧ PySem.W.keepIn K (.ref f) = true ∧ Binds K fd ps []
structure CalK (P : Program) (w : World) (K : PySem.W.Frag) (mg : Str → Option Value) (base : Heap) (k : Nat) (x : Str) (ks : List Str) (gV : List V → List V → List V) (sp : Sp) : Prop where
  ex : ∃ (f : Addr) (fd : FuncData) (ps : List Str) (g : List Value → List Value → List Value), FnOk P w K mg base CX0 k f fd ps sp ∧ mg x = some (.ref f) ∧ PySem.W.keepIn K (.ref f) = true ∧ KBinds K fd ps ks g gV
def tCC (sp : Sp) (t : TA) : TE := fun σ H Q => t σ H fun vs H1 => sp vs H1 Q E0
def tCK (sp : Sp) (gV : List V → List V → List V) (t tk : TA) : TE := fun σ H Q => t σ H fun vs H1 => tk σ H1 fun zs H2 => sp (gV vs zs) H2 Q E0
section
variable {X : Cx} {k j : Nat} {x : Str} {sp : Sp} {p pos : Pos} {e : Expr} {es : List Expr} {t tk : TA} {ks : List Str} {gV : List V → List V → List V} {kws : List Keyword}
theorem pe_c (c : Cal X.prog X.w X.K X.mg X.base k x sp) (hr : Room j X.A) (hk : k ≤ j) (hg : Gl X x) (ha : PA X (e :: es) t) (hdb : (x == ("__debug__" : Str)) = false := by decide)
    (he : starEach (e :: es) X.env = (false, eval e X.env) :: starEach es X.env := by rfl) (hpl : (backTo pos (starEach es X.env)).any (·.1) = false := by rfl) : PE X (.Call (.Name x p) (e :: es) [] pos) (tCC sp t) := by
  obtain ⟨f, fd, ps, F, hm, hkp, hb⟩ := c.ex
  refine ⟨fun pins s σ H Q I h => ?_⟩
  refine (pe_call (dvs := []) (ds := []) F (hr.mono hk) hg hm hkp hb .nil pass0 ha hdb he hpl).run pins s σ H Q I ?_
  have e0 : (fun (vs : List V) (H1 : Hp) => sp (vs ++ []) H1 Q E0) = fun vs H1 => sp vs H1 Q E0 := by
    funext vs H1
    rw [List.append_nil]
  show t σ H (fun vs H1 => sp (vs ++ []) H1 Q E0)
  rw [e0]
  exact h
theorem pe_c0 (c : Cal X.prog X.w X.K X.mg X.base k x sp) (hr : Room j X.A) (hk : k ≤ j) (hg : Gl X x) (hdb : (x == ("__debug__" : Str)) = false := by decide) : PE X (.Call (.Name x p) [] [] pos) (tCC sp tNil) := by
  obtain ⟨f, fd, ps, F, hm, hkp, hb⟩ := c.ex
  refine ⟨fun pins s σ H Q I h => ?_⟩
  exact (pe_call0 (dvs := []) (ds := []) F (hr.mono hk) hg hm hkp hb .nil pass0 hdb).run pins s σ H Q I h
theorem pe_cK (c : CalK X.prog X.w X.K X.mg X.base k x ks gV sp) (hr : Room j X.A) (hk : k ≤ j) (hg : Gl X x) (ha : PA X (e :: es) t) (hkw : PK X kws tk) (hall : (backToKw pos (keywordEach kws X.env)).all (·.1.isSome) = true := by rfl) (hks : (backToKw pos (keywordEach kws X.env)).filterMap (·.1) = ks := by rfl)
    (hdb : (x == ("__debug__" : Str)) = false := by decide) (he : starEach (e :: es) X.env = (false, eval e X.env) :: starEach es X.env := by rfl)
    (hpl : ((backTo pos (starEach (e :: es) X.env)).any (·.1) || (backToKw pos (keywordEach kws X.env)).any (·.1.isNone)) = false := by rfl) : PE X (.Call (.Name x p) (e :: es) kws pos) (tCK sp gV t tk) := by
  obtain ⟨f, fd, ps, g, F, hm, hkp, hb⟩ := c.ex
  refine ⟨fun pins s σ H Q I h => ?_⟩
  exact (pe_callK F (hr.mono hk) hg hm hkp hb pass0 ha hkw hall hks hdb he hpl).run pins s σ H Q I h
theorem pe_cK0 (c : CalK X.prog X.w X.K X.mg X.base k x ks gV sp) (hr : Room j X.A) (hk : k ≤ j) (hg : Gl X x) (hkw : PK X kws tk) (hall : (backToKw pos (keywordEach kws X.env)).all (·.1.isSome) = true := by rfl) (hks : (backToKw pos (keywordEach kws X.env)).filterMap (·.1) = ks := by rfl)
    (hdb : (x == ("__debug__" : Str)) = false := by decide)
    (hpl : ((backTo pos (starEach [] X.env)).any (·.1) || (backToKw pos (keywordEach kws X.env)).any (·.1.isNone)) = false := by rfl) : PE X (.Call (.Name x p) [] kws pos) (tCK sp gV tNil tk) := by
  obtain ⟨f, fd, ps, g, F, hm, hkp, hb⟩ := c.ex
  refine ⟨fun pins s σ H Q I h => ?_⟩
  refine wpAny_Call_Name_kw (ld_glob I hg hm ?_ hdb)
  refine PySem.W.callWith_KW0 (h₀ := X.base) I.ok.mod.kin hkp hall ?_ hpl
  refine thn (hkw.run pos pins s σ H _ I h) fun ws s2 ⟨zs, H2, I2, rz, q2⟩ => ⟨I2.kIn, ?_⟩
  rw [hks]
  exact run_fnk (us := []) (vs := []) F (hr.mono hk) hb pass0 I2 .nil rz q2
theorem pe_gc {v : V} (hg : Gl X x) (h : ∃ u, X.mg x = some u ∧ RelV v u) (hd : (x == ("__debug__" : Str)) = false := by decide) : PE X (.Name x pos) (tC v) := by
  obtain ⟨u, hm, r⟩ := h
  exact pe_glob hg hm r hd
end

/-! ### operators for several kinds of values -/
def rMulS : R2 := fun x y H Q => ∃ (z : Str) (n : Int), x = .str z ∧ y = .int n ∧ z.length ≤ 1000 ∧ 0 ≤ n ∧ n ≤ 1000 ∧ Q (.str (Txt.mul z n)) H
theorem mulOk {z : Str} {n : Int} (h1 : z.length ≤ 1000) (h2 : 0 ≤ n) (h3 : n ≤ 1000) : MulOk z n := by
  refine ⟨?_, fun hn _ h => ?_, fun hn _ => ?_⟩
  · rw [decide_eq_false (by omega), decide_eq_false (by omega)]
    rfl
  · have h5 : (z.length : Int) * n ≤ 1000 * 1000 := by
      have a := Int.mul_le_mul (show (z.length : Int) ≤ 1000 by omega) h3 h2 (by omega)
      exact a
    have h6 : (z.length : Int) ≤ (2 ^ 63 - 1) / n := by
      rw [Int.le_ediv_iff_mul_le (by omega)]
      omega
    omega
  · have h5 : z.length * n.toNat ≤ 1000 * 1000 := Nat.mul_le_mul h1 (by omega)
    show decide (z.length * n.toNat > sizeLine) = false
    rw [decide_eq_false (by rw [sizeLine_eq]; omega)]
section
variable {X : Cx} {k : Nat}
theorem op_mulS : OpR X (binaryOp .Mult) rMulS := by
  intro pins s σ H x y v u Q I rx ry h
  obtain ⟨z, n, rfl, rfl, h1, h2, h3, q⟩ := h
  obtain ⟨t, rfl⟩ := rx
  obtain ⟨t', rfl⟩ := ry
  exact SB.mul (mulOk h1 h2 h3) fun t' k => ⟨.str _, H, I.tok _, ⟨_, rfl⟩, q⟩
def rMulX : R2 := fun x y H Q => rI CMul (fun i j => .int (i * j)) x y H Q ∨ rMulS x y H Q
theorem op_mulX : OpR X (binaryOp .Mult) rMulX := OpR.or op_mul op_mulS
def rAddS : R2 := fun x y H Q => ∃ i j, x = .str i ∧ y = .str j ∧ i.length + j.length ≤ sizeLine ∧ Q (.str (i ++ j)) H
def rAddX (K : PySem.W.Frag) : R2 := fun x y H Q => rI0 (fun i j => .int (i + j)) x y H Q ∨ rAddS x y H Q ∨ rCat x y H Q ∨ rCatA K x y H Q
theorem op_addX (K : PySem.W.Frag) (hK : X.K = K := by rfl) : OpR X (binaryOp .Add) (rAddX K) := by subst hK; exact OpR.or op_add (OpR.or op_add_str (OpR.or op_cat op_catA))
def rEqX (K : PySem.W.Frag) : R2 := fun x y H Q => rEq x y H Q ∨ rEqD K x y H Q
theorem op_eqX (K : PySem.W.Frag) (hr : Room k X.A) (hK : X.K = K := by rfl) : OpR X (compareOp .Eq) (rEqX K) := by subst hK; exact OpR.or op_eq (op_eqD hr.units)
def rNeX (K : PySem.W.Frag) : R2 := fun x y H Q => rNe x y H Q ∨ rNeD K x y H Q
theorem op_neX (K : PySem.W.Frag) (hr : Room k X.A) (hK : X.K = K := by rfl) : OpR X (compareOp .NotEq) (rNeX K) := by subst hK; exact OpR.or op_ne (op_neD hr.units)
def rInX (K : PySem.W.Frag) : R2 := fun x y H Q => rInS x y H Q ∨ rIn K false x y H Q
theorem op_inX (K : PySem.W.Frag) (hK : X.K = K := by rfl) : OpR X (compareOp .In) (rInX K) := by subst hK; exact OpR.or op_inS op_in_seq
def rNinX (K : PySem.W.Frag) : R2 := fun x y H Q => rNotInS x y H Q ∨ rIn K true x y H Q
theorem op_ninX (K : PySem.W.Frag) (hK : X.K = K := by rfl) : OpR X (compareOp .NotIn) (rNinX K) := by subst hK; exact OpR.or op_notInS op_notIn_seq
def rSlX (K : PySem.W.Frag) : V → Option Int → Option Int → Hp → VK → Prop := fun x lo hi H Q => rSlL K x lo hi H Q ∨ rSlS x lo hi H Q ∨ rSlA K x lo hi H Q
theorem sl_X (K : PySem.W.Frag) (hK : X.K = K := by rfl) : SlR X (rSlX K) := by subst hK; exact SlR.or sl_list (SlR.or sl_str sl_tupA)
theorem ix_X (K : PySem.W.Frag) (hK : X.K = K := by rfl) : IxR X (rIx K) := by subst hK; exact ix_seq
def rLenX (K : PySem.W.Frag) : List V → Hp → VK → Prop := fun xs H Q => ∃ x n, xs = [x] ∧ LenV K x H n ∧ Q (.int n) H
theorem call_lenX (K : PySem.W.Frag) (hK : X.K = K := by rfl) : CallR X (.builtin "len") (rLenX K) := by subst hK; exact call_len
def rLeStr : R2 := fun x y H Q => ∃ i j, x = .str i ∧ y = .str j ∧ Q (.bl (!decide (j.cps.toList < i.cps.toList))) H
def rLeX : R2 := fun x y H Q => rI0 (fun i j => .bl (decide (i ≤ j))) x y H Q ∨ rLeStr x y H Q
theorem op_leX : OpR X (compareOp .LtE) rLeX := OpR.or op_le op_le_str
def rListOf (K : PySem.W.Frag) : List V → Hp → VK → Prop := fun xs H Q => ∃ p ys, xs = [.ref p] ∧ (SqL K H p ys ∨ SqT K H p ys) ∧ ∀ l, H l = none → Q (.ref l) (upd H l (.lst ys))
theorem cr_list (K : PySem.W.Frag) (hK : X.K = K := by rfl) : CallR X (.type "list") (rListOf K) := by subst hK; exact call_list_of
def rTupOf (K : PySem.W.Frag) : List V → Hp → VK → Prop := fun xs H Q => ∃ p ys, xs = [.ref p] ∧ ((SqL K H p ys ∧ ∀ l, H l = none → Q (.ref l) (upd H l (.tup ys))) ∨ (SqT K H p ys ∧ Q (.ref p) H))
theorem cr_tuple (K : PySem.W.Frag) (hK : X.K = K := by rfl) : CallR X (.type "tuple") (rTupOf K) := by subst hK; exact call_tuple_of
theorem cr_allX (K : PySem.W.Frag) (hc : X.calm = true) (hK : X.K = K := by rfl) : CallR X (.builtin "all") (rAll K) := by subst hK; exact cr_all hc
theorem cr_anyX (K : PySem.W.Frag) (hc : X.calm = true) (hK : X.K = K := by rfl) : CallR X (.builtin "any") (rAny K) := by subst hK; exact cr_any hc
theorem cr_sumX (K : PySem.W.Frag) (hc : X.calm = true) (hK : X.K = K := by rfl) : CallR X (.builtin "sum") (rSum K) := by subst hK; exact cr_sum hc
theorem cr_sortedX (K : PySem.W.Frag) (hK : X.K = K := by rfl) : CallR X (.builtin "sorted") (rSortedS K) := by subst hK; exact cr_sortedS
theorem cr_isi (K : PySem.W.Frag) (hK : X.K = K := by rfl) : CallR X (.builtin "isinstance") (rIsi K) := by subst hK; exact call_isi
theorem cr_isiT (K : PySem.W.Frag) (hK : X.K = K := by rfl) : CallR X (.builtin "isinstance") (rIsiT K) := by subst hK; exact call_isiT
theorem pi_listX (K : PySem.W.Frag) {tg l : Expr} {tl : TE} (hl : PE X l tl) (hK : X.K = K := by rfl) : PI X tg l (iList K tl) := by subst hK; exact pi_list hl
theorem pi_zipX (K : PySem.W.Frag) {tg e : Expr} {ta : TA} (h : PI X tg e (RZ.iZipA X.K ta)) (hK : X.K = K := by rfl) : PI X tg e (RZ.iZipA K ta) := by subst hK; exact h
theorem pi_tupX (K : PySem.W.Frag) {tg l : Expr} {tl : TE} (hl : PE X l tl) (hK : X.K = K := by rfl) : PI X tg l (iTup K tl) := by subst hK; exact pi_tup hl
theorem pg_tupX (K : PySem.W.Frag) {es : List Expr} {kk : Nat} {pos : Pos} {n : Nat} {t : TGs} (h : PG X (.Tuple es kk pos) (gTup X.K n t)) (hK : X.K = K := by rfl) : PG X (.Tuple es kk pos) (gTup K n t) := by subst hK; exact h
theorem pe_bmX (K : PySem.W.Frag) {e : Expr} {T : String} {r : V → List V → Hp → VK → Prop} {to : TE} {t : TA} (h : PE X e (tBM X.K T r to t)) (hK : X.K = K := by rfl) : PE X e (tBM K T r to t) := by subst hK; exact h
theorem pe_bm0X (K : PySem.W.Frag) {e : Expr} {T : String} {r : V → List V → Hp → VK → Prop} {to : TE} (h : PE X e (tBM0 X.K T r to)) (hK : X.K = K := by rfl) : PE X e (tBM0 K T r to) := by subst hK; exact h
theorem pe_fldX (K : PySem.W.Frag) {e : Expr} {f : Str} {ta : TE} (h : PE X e (tFld X.K ta f)) (hK : X.K = K := by rfl) : PE X e (tFld K ta f) := by subst hK; exact h
def rIntX : List V → Hp → VK → Prop := fun xs H Q => (∃ i, xs = [.int i] ∧ Q (.int i) H) ∨ ∃ k, xs = [.bl k] ∧ Q (.int (if k then 1 else 0)) H
theorem cr_int : CallR X (.type "int") rIntX := call_int1
def rIsNn : R2 := fun x y H Q => y = .non ∧ Q (.bl (decide (x = .non))) H
theorem op_isNn : OpR X (compareOp .Is) rIsNn := op_isN
def rNotNn : R2 := fun x y H Q => y = .non ∧ Q (.bl (!decide (x = .non))) H
theorem op_notNn : OpR X (compareOp .IsNot) rNotNn := op_notN
def rJoin (K : PySem.W.Frag) : V → List V → Hp → VK → Prop := fun x xs H Q => ∃ a p, ∃ ys : List Str, x = .str a ∧ xs = [.ref p] ∧ (SqL K H p (ys.map V.str) ∨ SqT K H p (ys.map V.str)) ∧ (ys.map (·.length)).sum + ys.length * a.length ≤ 16777216 ∧ Q (.str (Txt.join a ys)) H
theorem pe_joinX (K : PySem.W.Frag) {o e : Expr} {to te : TE} {apos pos : Pos} (ho : PE X o to) (he : PE X e te) (hK : X.K = K := by rfl) (hs : starEach [e] X.env = [(false, eval e X.env)] := by rfl) (hbase : attributeBase o "join" X.env (eval o X.env) = eval o X.env := by rfl) (hline : (apos.endLine == pos.line) = true := by rfl) :
    PE X (.Call (.Attribute o "join" apos) [e] [] pos) (tM1 (rJoin K) to te) := by subst hK; exact pe_join ho he hs hbase hline
end

/-! ### the readings, a step each -/
section
variable {K : PySem.W.Frag} {σ : St} {H : Hp} {Q : VK} {QT : Bool → Hp → Prop} {QA : List V → Hp → Prop} {QO : Option Int → Hp → Prop} {QS : St → Hp → Prop} {D : Ends}
variable {te ta tb tc : TE} {tt tu : TT} {t u : TS} {aa ab : TA} {g : TG} {gs : TGs} {r r' : R2} {v x y z : V} {i j n m : Int} {b c : Bool} {vs ws : List V} {a p q : Addr} {xs ys : List V} {s1 s2 : Str} {wi : TI} {to tp : TO}
theorem var {k : Nat} (h : σ[k]? = some (some v)) (q : Q v H) : tVar k σ H Q := ⟨v, h, q⟩
theorem cst (q : Q v H) : tC v σ H Q := q
theorem op (q : ta σ H fun x H1 => tb σ H1 fun y H2 => r x y H2 Q) : tOp r ta tb σ H Q := q
theorem un {f : V → Hp → VK → Prop} (q : ta σ H fun x H1 => f x H1 Q) : tUn f ta σ H Q := q
theorem chain (q : ta σ H fun x H1 => tb σ H1 fun y H2 => r x y H2 fun z H3 => ∃ k, z = .bl k ∧ (if k = true then tc σ H3 fun w' H4 => r' y w' H4 Q else Q (.bl false) H3)) : tChain r r' ta tb tc σ H Q := q
theorem exbl {P : Bool → Prop} (q : P b) : ∃ k, V.bl b = .bl k ∧ P k := ⟨b, rfl, q⟩
theorem iI0 {f : Int → Int → V} (q : Q (f i j) H) : rI0 f (.int i) (.int j) H Q := ⟨i, j, rfl, rfl, q⟩
theorem iI {C : Int → Int → Prop} {f : Int → Int → V} (h : C i j) (q : Q (f i j) H) : rI C f (.int i) (.int j) H Q := ⟨i, j, rfl, rfl, h, q⟩
theorem iU {f : Int → V} (q : Q (f i) H) : rU f (.int i) H Q := ⟨i, rfl, q⟩
theorem eqI (q : Q (.bl (decide (i = j))) H) : rEqX K (.int i) (.int j) H Q := .inl ⟨rfl, by rw [show decide (V.int i = V.int j) = decide (i = j) from decide_eq_decide.mpr ⟨V.int.inj, congrArg _⟩]; exact q⟩
theorem neI (q : Q (.bl (!decide (i = j))) H) : rNeX K (.int i) (.int j) H Q := .inl ⟨rfl, by rw [show decide (V.int i = V.int j) = decide (i = j) from decide_eq_decide.mpr ⟨V.int.inj, congrArg _⟩]; exact q⟩
theorem eqStr (q : Q (.bl (decide (s1 = s2))) H) : rEqX K (.str s1) (.str s2) H Q := .inl ⟨rfl, by rw [show decide (V.str s1 = V.str s2) = decide (s1 = s2) from decide_eq_decide.mpr ⟨V.str.inj, congrArg _⟩]; exact q⟩
theorem neStr (q : Q (.bl (!decide (s1 = s2))) H) : rNeX K (.str s1) (.str s2) H Q := .inl ⟨rfl, by rw [show decide (V.str s1 = V.str s2) = decide (s1 = s2) from decide_eq_decide.mpr ⟨V.str.inj, congrArg _⟩]; exact q⟩
theorem eqB (q : Q (.bl (decide (b = c))) H) : rEqX K (.bl b) (.bl c) H Q := .inl ⟨rfl, by rw [show decide (V.bl b = V.bl c) = decide (b = c) from decide_eq_decide.mpr ⟨V.bl.inj, congrArg _⟩]; exact q⟩
theorem neB (q : Q (.bl (!decide (b = c))) H) : rNeX K (.bl b) (.bl c) H Q := .inl ⟨rfl, by rw [show decide (V.bl b = V.bl c) = decide (b = c) from decide_eq_decide.mpr ⟨V.bl.inj, congrArg _⟩]; exact q⟩
theorem cut (Mid : St → Hp → Prop) (q : t { nx := Mid, rt := D.rt, bk := D.bk, ct := D.ct } σ H) (k : ∀ σ' H', Mid σ' H' → u D σ' H') : C8.tCut t u D σ H := ⟨Mid, q, k⟩
theorem iteD {A B : Prop} {p : Prop} [Decidable p] (h1 : p → A) (h2 : ¬ p → B) : if decide p = true then A else B := ite2 (fun h => h1 (of_decide_eq_true h)) (fun h => h2 fun z => h (decide_eq_true z))
theorem iteN {A B : Prop} {p : Prop} [Decidable p] (h1 : ¬ p → A) (h2 : p → B) : if (!decide p) = true then A else B := by
  by_cases h : p
  · rw [decide_eq_true h]
    exact iteF (h2 h)
  · rw [decide_eq_false h]
    exact iteT (h1 h)
theorem eqS (h : scal x y = true) (q : Q (.bl (decide (x = y))) H) : rEqX K x y H Q := .inl ⟨h, q⟩
theorem neS (h : scal x y = true) (q : Q (.bl (!decide (x = y))) H) : rNeX K x y H Q := .inl ⟨h, q⟩
theorem eqDd {d e : PyData} (h1 : Dp K H x d) (h2 : Dp K H y e) (s1 : SeqAt.shaped d = true) (s2 : SeqAt.shaped e = true) (q : Q (.bl (PyData.eqv d e)) H) : rEqX K x y H Q := .inr ⟨d, e, h1, h2, s1, s2, q⟩
theorem neDd {d e : PyData} (h1 : Dp K H x d) (h2 : Dp K H y e) (s1 : SeqAt.shaped d = true) (s2 : SeqAt.shaped e = true) (q : Q (.bl (!PyData.eqv d e)) H) : rNeX K x y H Q := .inr ⟨d, e, h1, h2, s1, s2, q⟩
theorem addI (q : Q (.int (i + j)) H) : rAddX K (.int i) (.int j) H Q := .inl ⟨i, j, rfl, rfl, q⟩
theorem addS (h : s1.length + s2.length ≤ sizeLine) (q : Q (.str (s1 ++ s2)) H) : rAddX K (.str s1) (.str s2) H Q := .inr (.inl ⟨s1, s2, rfl, rfl, h, q⟩)
theorem addL (h1 : H a = some (.lst xs)) (h2 : H p = some (.lst ys)) (h : xs.length + ys.length ≤ sizeLine) (q : ∀ l, H l = none → Q (.ref l) (upd H l (.lst (xs ++ ys)))) : rAddX K (.ref a) (.ref p) H Q := .inr (.inr (.inl ⟨a, p, xs, ys, rfl, rfl, h1, h2, h, q⟩))
theorem mulI (h : CMul i j) (q : Q (.int (i * j)) H) : rMulX (.int i) (.int j) H Q := .inl ⟨i, j, rfl, rfl, h, q⟩
theorem mulS (h1 : s1.length ≤ 1000) (h2 : 0 ≤ n) (h3 : n ≤ 1000) (q : Q (.str (Txt.mul s1 n)) H) : rMulX (.str s1) (.int n) H Q := .inr ⟨s1, n, rfl, rfl, h1, h2, h3, q⟩
theorem leI (q : Q (.bl (decide (i ≤ j))) H) : rLeX (.int i) (.int j) H Q := .inl ⟨i, j, rfl, rfl, q⟩
theorem leS (q : Q (.bl (!decide (s2.cps.toList < s1.cps.toList))) H) : rLeX (.str s1) (.str s2) H Q := .inr ⟨s1, s2, rfl, rfl, q⟩
theorem inS {k : Nat} (q : Q (.bl (decide (k ∈ s2.cps.toList))) H) : rInX K (.str ⟨#[k]⟩) (.str s2) H Q := .inl ⟨k, s2, rfl, rfl, q⟩
theorem ninS {k : Nat} (q : Q (.bl (!decide (k ∈ s2.cps.toList))) H) : rNinX K (.str ⟨#[k]⟩) (.str s2) H Q := .inl ⟨k, s2, rfl, rfl, q⟩
theorem inSeq (h : SqL K H p xs ∨ SqT K H p xs) (h1 : flatV x = true) (h2 : xs.all flatV = true) (q : Q (.bl (inV x xs)) H) : rInX K x (.ref p) H Q := .inr ⟨p, xs, rfl, h, h1, h2, q⟩
theorem ninSeq (h : SqL K H p xs ∨ SqT K H p xs) (h1 : flatV x = true) (h2 : xs.all flatV = true) (q : Q (.bl (!inV x xs)) H) : rNinX K x (.ref p) H Q := .inr ⟨p, xs, rfl, h, h1, h2, q⟩
theorem isN_int (q : Q (.bl false) H) : rIsNn (.int i) .non H Q := ⟨rfl, q⟩
theorem notN_int (q : Q (.bl true) H) : rNotNn (.int i) .non H Q := ⟨rfl, q⟩
theorem isN_str (q : Q (.bl false) H) : rIsNn (.str s1) .non H Q := ⟨rfl, q⟩
theorem notN_str (q : Q (.bl true) H) : rNotNn (.str s1) .non H Q := ⟨rfl, q⟩
theorem isN_bl (q : Q (.bl false) H) : rIsNn (.bl b) .non H Q := ⟨rfl, q⟩
theorem notN_bl (q : Q (.bl true) H) : rNotNn (.bl b) .non H Q := ⟨rfl, q⟩
theorem isN_ref (q : Q (.bl false) H) : rIsNn (.ref a) .non H Q := ⟨rfl, q⟩
theorem notN_ref (q : Q (.bl true) H) : rNotNn (.ref a) .non H Q := ⟨rfl, q⟩
theorem isN_non (q : Q (.bl true) H) : rIsNn .non .non H Q := ⟨rfl, q⟩
theorem notN_non (q : Q (.bl false) H) : rNotNn .non .non H Q := ⟨rfl, q⟩
theorem eqB_truetrue (q : Q (.bl true) H) : rEqX K (.bl true) (.bl true) H Q := .inl ⟨rfl, q⟩
theorem neB_truetrue (q : Q (.bl false) H) : rNeX K (.bl true) (.bl true) H Q := .inl ⟨rfl, q⟩
theorem eqB_truefalse (q : Q (.bl false) H) : rEqX K (.bl true) (.bl false) H Q := .inl ⟨rfl, q⟩
theorem neB_truefalse (q : Q (.bl true) H) : rNeX K (.bl true) (.bl false) H Q := .inl ⟨rfl, q⟩
theorem eqB_falsetrue (q : Q (.bl false) H) : rEqX K (.bl false) (.bl true) H Q := .inl ⟨rfl, q⟩
theorem neB_falsetrue (q : Q (.bl true) H) : rNeX K (.bl false) (.bl true) H Q := .inl ⟨rfl, q⟩
theorem eqB_falsefalse (q : Q (.bl true) H) : rEqX K (.bl false) (.bl false) H Q := .inl ⟨rfl, q⟩
theorem neB_falsefalse (q : Q (.bl false) H) : rNeX K (.bl false) (.bl false) H Q := .inl ⟨rfl, q⟩
theorem isN (q : Q (.bl (decide (x = .non))) H) : rIsNn x .non H Q := ⟨rfl, q⟩
theorem notN (q : Q (.bl (!decide (x = .non))) H) : rNotNn x .non H Q := ⟨rfl, q⟩
theorem ixL (h : SqL K H p xs) (h1 : atI xs i = some v) (q : Q v H) : rIx K (.ref p) (.int i) H Q := .inl ⟨p, xs, i, v, rfl, rfl, h, h1, q⟩
theorem ixT (h : SqT K H p xs) (h1 : atI xs i = some v) (q : Q v H) : rIx K (.ref p) (.int i) H Q := .inr (.inl ⟨p, xs, i, v, rfl, rfl, h, h1, q⟩)
theorem ixS {k : Nat} (h : s1.length ≤ sizeLine) (h1 : atI s1.cps.toList i = some k) (q : Q (.str ⟨#[k]⟩) H) : rIx K (.str s1) (.int i) H Q := .inr (.inr ⟨s1, i, k, rfl, rfl, h, h1, q⟩)
theorem slS {lo hi : Option Int} (h : s1.length ≤ sizeLine) (q : Q (.str (cutS s1 lo hi)) H) : rSlX K (.str s1) lo hi H Q := .inr (.inl ⟨s1, rfl, h, q⟩)
theorem slL {lo hi : Option Int} (h : SqL K H a xs) (q : ∀ l, H l = none → Q (.ref l) (upd H l (.lst (cutV xs lo hi)))) : rSlX K (.ref a) lo hi H Q := .inl ⟨a, xs, rfl, h, q⟩
theorem slT {lo hi : Option Int} (h : SqT K H a xs) (q1 : HT.sIx xs.length 0 lo = 0 ∧ HT.sIx xs.length xs.length hi = xs.length → Q (.ref a) H) (q2 : ¬ (HT.sIx xs.length 0 lo = 0 ∧ HT.sIx xs.length xs.length hi = xs.length) → ∀ l, H l = none → Q (.ref l) (upd H l (.tup (cutV xs lo hi)))) :
    rSlX K (.ref a) lo hi H Q := .inr (.inr ⟨a, xs, rfl, h, q1, q2⟩)
theorem sl {f : V → Option Int → Option Int → Hp → VK → Prop} (q : te σ H fun x H1 => to σ H1 fun l H2 => tp σ H2 fun u H3 => f x l u H3 Q) : tSl f te to tp σ H Q := q
theorem noPart (q : QO none H) : tNoPart σ H QO := q
theorem part (q : te σ H fun x H1 => ∃ i, x = .int i ∧ QO (some i) H1) : tPart te σ H QO := q
theorem exint {P : Int → Prop} (q : P i) : ∃ k, V.int i = .int k ∧ P k := ⟨i, rfl, q⟩
theorem test (q : te σ H fun x H' => ∃ k, x = .bl k ∧ QT k H') : tTest te σ H QT := q
theorem tb_ (q : te σ H fun x H' => ∃ k, x = .bl k ∧ QT k H') : tB te σ H QT := q
theorem tand (q : tt σ H fun c H1 => if c = true then tu σ H1 QT else QT false H1) : tAnd tt tu σ H QT := q
theorem tor (q : tt σ H fun c H1 => if c = true then QT true H1 else tu σ H1 QT) : tOr tt tu σ H QT := q
theorem tnot (q : tt σ H fun c H1 => QT (!c) H1) : tNot tt σ H QT := q
theorem andV (q : ta σ H fun x H1 => ∃ c, x = .bl c ∧ if c = true then tb σ H1 Q else Q (.bl false) H1) : tAndV ta tb σ H Q := q
theorem orV (q : ta σ H fun x H1 => ∃ c, x = .bl c ∧ if c = true then Q (.bl true) H1 else tb σ H1 Q) : tOrV ta tb σ H Q := q
theorem notV (q : ta σ H fun x H1 => ∃ c, x = .bl c ∧ Q (.bl (!c)) H1) : tNotV ta σ H Q := q
theorem ife (q : tt σ H fun c H1 => if c = true then ta σ H1 Q else tb σ H1 Q) : tIf tt ta tb σ H Q := q
theorem seq (q : t { nx := u D, rt := D.rt, bk := D.bk, ct := D.ct } σ H) : tSeq t u D σ H := q
theorem nxt (q : D.nx σ H) : tNext D σ H := q
theorem brk (q : D.bk σ H) : tBreak D σ H := q
theorem cnt (q : D.ct σ H) : tCont D σ H := q
theorem drp (q : te σ H fun _ H1 => D.nx σ H1) : tDrop te D σ H := q
theorem ret (q : te σ H D.rt) : tRet te D σ H := q
theorem retN (q : D.rt .non H) : tRetN D σ H := q
theorem ifS (q : tt σ H fun b H1 => if b = true then t D σ H1 else u D σ H1) : tIfS tt t u D σ H := q
theorem asg (q : te σ H fun x H1 => g x σ H1 D.nx) : tAsg te g D σ H := q
theorem gname {k : Nat} (q : QS (σ.set k (some v)) H) : gName k v σ H QS := q
theorem par {k l : Nat} (q : aa σ H fun vs H1 => ∃ v w, vs = [v, w] ∧ D.nx ((σ.set k (some v)).set l (some w)) H1) : tPar k l aa D σ H := q
theorem expair {P : V → V → Prop} (q : P x y) : ∃ v w, [x, y] = [v, w] ∧ P v w := ⟨x, y, rfl, q⟩
theorem gsub {f : TSet} (q : ta σ H fun o H1 => tb σ H1 fun i H2 => f o i v H2 fun H3 => QS σ H3) : gSub ta tb f v σ H QS := q
theorem setL {k : Nat} {QH : Hp → Prop} (h : H p = some (.lst xs)) (h1 : ixN xs.length i = some k) (q : QH (upd H p (.lst (xs.set k v)))) : rSetL (.ref p) (.int i) v H QH := ⟨p, xs, i, k, rfl, rfl, h, h1, q⟩
theorem gtup {k : Nat} (h : SqT K H a xs) (h1 : xs.length = k) (q : gs xs σ H QS) : gTup K k gs (.ref a) σ H QS := ⟨a, xs, rfl, h, h1, q⟩
theorem gcons (q : g v σ H fun σ' H' => gs vs σ' H' QS) : gCons g gs (v :: vs) σ H QS := ⟨v, vs, rfl, q⟩
theorem gnil (q : QS σ H) : gNil [] σ H QS := ⟨rfl, q⟩
theorem anil (q : QA [] H) : tNil σ H QA := q
theorem acons (q : te σ H fun x H1 => aa σ H1 fun xs H2 => QA (x :: xs) H2) : tCons te aa σ H QA := q
theorem callC {sp : Sp} (q : aa σ H fun vs H1 => sp vs H1 Q E0) : tCC sp aa σ H Q := q
theorem callK {sp : Sp} {gV : List V → List V → List V} (q : aa σ H fun vs H1 => ab σ H1 fun zs H2 => sp (gV vs zs) H2 Q E0) : tCK sp gV aa ab σ H Q := q
theorem callB {f : List V → Hp → VK → Prop} (q : aa σ H fun vs H1 => f vs H1 Q) : tCB f aa σ H Q := q
theorem lenS (h : s1.length ≤ sizeLine) (q : Q (.int s1.length) H) : rLenX K [.str s1] H Q := ⟨.str s1, s1.length, rfl, ⟨h, rfl⟩, q⟩
theorem lenL (h : SqL K H p xs) (q : Q (.int xs.length) H) : rLenX K [.ref p] H Q := ⟨.ref p, xs.length, rfl, .inl ⟨xs, h, rfl⟩, q⟩
theorem lenT (h : SqT K H p xs) (q : Q (.int xs.length) H) : rLenX K [.ref p] H Q := ⟨.ref p, xs.length, rfl, .inr ⟨xs, h, rfl⟩, q⟩
theorem intI (q : Q (.int i) H) : rIntX [.int i] H Q := .inl ⟨i, rfl, q⟩
theorem listL (h : SqL K H p xs) (q : ∀ l, H l = none → Q (.ref l) (upd H l (.lst xs))) : rListOf K [.ref p] H Q := ⟨p, xs, rfl, .inl h, q⟩
theorem listT (h : SqT K H p xs) (q : ∀ l, H l = none → Q (.ref l) (upd H l (.lst xs))) : rListOf K [.ref p] H Q := ⟨p, xs, rfl, .inr h, q⟩
theorem tupL (h : SqL K H p xs) (q : ∀ l, H l = none → Q (.ref l) (upd H l (.tup xs))) : rTupOf K [.ref p] H Q := ⟨p, xs, rfl, .inl ⟨h, q⟩⟩
theorem all_ {bs : List Bool} (h : SqL K H p (bs.map V.bl)) (q : Q (.bl (bs.all id)) H) : rAll K [.ref p] H Q := ⟨p, bs, rfl, h, q⟩
theorem any_ {bs : List Bool} (h : SqL K H p (bs.map V.bl)) (q : Q (.bl (bs.any id)) H) : rAny K [.ref p] H Q := ⟨p, bs, rfl, h, q⟩
theorem isi {T : String} {tv : Value} (h : TyX K H x tv) (h1 : PySem.W.kitOne K tv (.type T) = some b) (q : Q (.bl b) H) : rIsi K [x, .ty T] H Q := ⟨x, .ty T, tv, .type T, b, rfl, .ty T, h, h1, q⟩
theorem isiT {tv : Value} {us : List Value} (hT : H p = some (.tup vs)) (hP : Paired ClsV vs us) (h : TyX K H x tv) (h1 : PySem.W.kitAny K tv us = some b) (q : Q (.bl b) H) : rIsiT K [x, .ref p] H Q := ⟨x, p, vs, tv, us, b, rfl, hT, hP, h, h1, q⟩
theorem lst_ (q : aa σ H fun xs H1 => xs.length ≤ sizeLine ∧ ∀ p, H1 p = none → Q (.ref p) (upd H1 p (.lst xs))) : tLst aa σ H Q := q
theorem tup_ (q : aa σ H fun xs H1 => xs.length ≤ sizeLine ∧ ∀ p, H1 p = none → Q (.ref p) (upd H1 p (.tup xs))) : tTup aa σ H Q := q
theorem m1 {f : V → List V → Hp → VK → Prop} (q : ta σ H fun x H1 => (∃ a, x = .str a) ∧ te σ H1 fun y H2 => f x [y] H2 Q) : tM1 f ta te σ H Q := q
theorem isStr {P : Prop} (q : P) : (∃ a, V.str s1 = .str a) ∧ P := ⟨⟨s1, rfl⟩, q⟩
theorem joinL {zs : List Str} (h : SqL K H p (zs.map V.str)) (h1 : (zs.map (·.length)).sum + zs.length * s1.length ≤ 16777216) (q : Q (.str (Txt.join s1 zs)) H) : rJoin K (.str s1) [.ref p] H Q := ⟨s1, p, zs, rfl, rfl, .inl h, h1, q⟩
theorem for_ (q : wi σ H fun J H1 => ∃ W : Nat → Nat → St → Hp → Prop, (∃ m, W 0 m σ H1) ∧ ∀ i m σ H, W i m σ H →
      (J.stop i H ∧ D.nx σ H) ∨ (J.go i H ∧ ∃ N : St → Hp → Prop, (∀ σ' H', N σ' H' → ∃ m', m' < m ∧ W (i + 1) m' σ' H') ∧ ∀ x H', J.yld i H x H' → g x σ H' fun σ2 H2 => t { nx := N, rt := D.rt, bk := D.nx, ct := N } σ2 H2)) : tFor wi g t D σ H := q
theorem bm {T : String} {f : V → List V → Hp → VK → Prop} (q : ta σ H fun x H1 => tyV K T x H1 ∧ aa σ H1 fun xs H2 => f x xs H2 Q) : tBM K T f ta aa σ H Q := q
theorem bm0 {T : String} {f : V → List V → Hp → VK → Prop} (q : ta σ H fun x H1 => tyV K T x H1 ∧ f x [] H1 Q) : tBM0 K T f ta σ H Q := q
theorem mkNx {A B C : St → Hp → Prop} {R : VK} (q : A σ H) : Ends.nx ⟨A, R, B, C⟩ σ H := q
theorem mkRt {A B C : St → Hp → Prop} {R : VK} (q : R v H) : Ends.rt ⟨A, R, B, C⟩ v H := q
theorem mkBk {A B C : St → Hp → Prop} {R : VK} (q : B σ H) : Ends.bk ⟨A, R, B, C⟩ σ H := q
theorem mkCt {A B C : St → Hp → Prop} {R : VK} (q : C σ H) : Ends.ct ⟨A, R, B, C⟩ σ H := q
theorem ilist (h : ∃ xs, SqL K H a xs) {R : It → Hp → Prop} (q : R (Itl K a) H) : (fun (x : V) (H1 : Hp) => ∃ a, x = .ref a ∧ (∃ xs, SqL K H1 a xs) ∧ R (Itl K a) H1) (.ref a) H := ⟨a, rfl, h, q⟩
theorem il {R : It → Hp → Prop} (q : te σ H fun x H1 => ∃ a, x = .ref a ∧ (∃ xs, SqL K H1 a xs) ∧ R (Itl K a) H1) : iList K te σ H R := q
theorem exl {R : Addr → Prop} (h : ∃ xs, SqL K H a xs) (q : R a) : ∃ b, V.ref a = .ref b ∧ (∃ xs, SqL K H b xs) ∧ R b := ⟨a, rfl, h, q⟩
theorem ir1 {R : It → Hp → Prop} (q : aa σ H fun vs H1 => ∃ j : Int, vs = [.int j] ∧ -(2 ^ 62) ≤ j ∧ j < 2 ^ 62 ∧ R (Itr 0 j.toNat) H1) : iRng1 aa σ H R := q
theorem exr1 {R : Int → Prop} (h1 : -(2 ^ 62) ≤ i) (h2 : i < 2 ^ 62) (q : R i) : ∃ j : Int, [V.int i] = [.int j] ∧ -(2 ^ 62) ≤ j ∧ j < 2 ^ 62 ∧ R j := ⟨i, rfl, h1, h2, q⟩
theorem is_ {R : It → Hp → Prop} (q : te σ H fun v H1 => ∃ x, v = .str x ∧ R (Its x) H1) : iStr te σ H R := q
theorem exstr {R : Str → Prop} (q : R s1) : ∃ x, V.str s1 = .str x ∧ R x := ⟨s1, rfl, q⟩
end

/-! ### kinds -/
theorem kB_NoneType_str : kitB "NoneType" "str" = some false := by decide +kernel
theorem kB_NoneType_bool : kitB "NoneType" "bool" = some false := by decide +kernel
theorem kB_NoneType_int : kitB "NoneType" "int" = some false := by decide +kernel
theorem kB_NoneType_dict : kitB "NoneType" "dict" = some false := by decide +kernel
theorem kB_NoneType_tuple : kitB "NoneType" "tuple" = some false := by decide +kernel
theorem kB_NoneType_list : kitB "NoneType" "list" = some false := by decide +kernel
theorem kB_bool_str : kitB "bool" "str" = some false := by decide +kernel
theorem kB_bool_bool : kitB "bool" "bool" = some true := by decide +kernel
theorem kB_bool_int : kitB "bool" "int" = some true := by decide +kernel
theorem kB_bool_dict : kitB "bool" "dict" = some false := by decide +kernel
theorem kB_bool_tuple : kitB "bool" "tuple" = some false := by decide +kernel
theorem kB_bool_list : kitB "bool" "list" = some false := by decide +kernel
theorem kB_int_str : kitB "int" "str" = some false := by decide +kernel
theorem kB_int_bool : kitB "int" "bool" = some false := by decide +kernel
theorem kB_int_int : kitB "int" "int" = some true := by decide +kernel
theorem kB_int_dict : kitB "int" "dict" = some false := by decide +kernel
theorem kB_int_tuple : kitB "int" "tuple" = some false := by decide +kernel
theorem kB_int_list : kitB "int" "list" = some false := by decide +kernel
theorem kB_str_str : kitB "str" "str" = some true := by decide +kernel
theorem kB_str_bool : kitB "str" "bool" = some false := by decide +kernel
theorem kB_str_int : kitB "str" "int" = some false := by decide +kernel
theorem kB_str_dict : kitB "str" "dict" = some false := by decide +kernel
theorem kB_str_tuple : kitB "str" "tuple" = some false := by decide +kernel
theorem kB_str_list : kitB "str" "list" = some false := by decide +kernel
theorem kB_list_str : kitB "list" "str" = some false := by decide +kernel
theorem kB_list_bool : kitB "list" "bool" = some false := by decide +kernel
theorem kB_list_int : kitB "list" "int" = some false := by decide +kernel
theorem kB_list_dict : kitB "list" "dict" = some false := by decide +kernel
theorem kB_list_tuple : kitB "list" "tuple" = some false := by decide +kernel
theorem kB_list_list : kitB "list" "list" = some true := by decide +kernel
theorem kB_tuple_str : kitB "tuple" "str" = some false := by decide +kernel
theorem kB_tuple_bool : kitB "tuple" "bool" = some false := by decide +kernel
theorem kB_tuple_int : kitB "tuple" "int" = some false := by decide +kernel
theorem kB_tuple_dict : kitB "tuple" "dict" = some false := by decide +kernel
theorem kB_tuple_tuple : kitB "tuple" "tuple" = some true := by decide +kernel
theorem kB_tuple_list : kitB "tuple" "list" = some false := by decide +kernel
theorem kB_dict_str : kitB "dict" "str" = some false := by decide +kernel
theorem kB_dict_bool : kitB "dict" "bool" = some false := by decide +kernel
theorem kB_dict_int : kitB "dict" "int" = some false := by decide +kernel
theorem kB_dict_dict : kitB "dict" "dict" = some true := by decide +kernel
theorem kB_dict_tuple : kitB "dict" "tuple" = some false := by decide +kernel
theorem kB_dict_list : kitB "dict" "list" = some false := by decide +kernel
theorem kitAny2 {K : PySem.W.Frag} {a b c : String} {r s : Bool} (h1 : kitB a b = some r) (h2 : kitB a c = some s) : PySem.W.kitAny K (.type a) [.type b, .type c] = some (r || s) := by
  refine kitAny_cons (kit_ty h1) (fun e => ?_) (fun e => ?_)
  · refine kitAny_cons (kit_ty h2) (fun e2 => ?_) (fun e2 => ?_)
    · rw [e, e2]
      rfl
    · rw [e, e2]
      rfl
  · rw [e]
    rfl
theorem cls2 (b c : String) : Paired ClsV [V.ty b, V.ty c] [.type b, .type c] := .cons (.ty b) (.cons (.ty c) .nil)
theorem tyx_L {K : PySem.W.Frag} {H : Hp} {a : Addr} {xs : List V} (h : SqL K H a xs) : TyX K H (.ref a) (.type "list") := by
  rcases h with (h | ⟨o, h⟩) | ⟨o, its, n, h, c, _⟩
  · exact .base (.lst h)
  · exact .base (.frz h)
  · exact .kList h c
theorem tyx_T {K : PySem.W.Frag} {H : Hp} {a : Addr} {xs : List V} (h : SqT K H a xs) : TyX K H (.ref a) (.type "tuple") := by
  rcases h with (h | ⟨o, h⟩) | ⟨o, its, n, h, c, _⟩
  · exact .base (.tup h)
  · exact .fTuple h
  · exact .kTuple h c
/-- zip over two tuples -/
theorem walk_zipT {K : PySem.W.Frag} {a b : Addr} {xs ys : List V} {n : Nat} (hn : n = min xs.length ys.length) : Walk (RZ.ItzT K a b) n (fun H => SqT K H a xs ∧ SqT K H b ys) (YPair (fun i => xs[i]?) (fun i => ys[i]?)) := by
  subst hn
  refine ⟨fun i H hi g => ?_, fun H g => ⟨xs, ys, g.1, g.2, by omega⟩, fun i H x H' hi g y => ?_⟩
  · have h1 : i < xs.length := by omega
    have h2 : i < ys.length := by omega
    exact ⟨xs, ys, xs[i], ys[i], g.1, g.2, List.getElem?_eq_getElem h1, List.getElem?_eq_getElem h2⟩
  · obtain ⟨T, x1, y1, e1, n1, e2, f1, f2⟩ := y
    exact ⟨T, x1, y1, e1, n1, e2, f1 xs g.1, f2 ys g.2⟩

/-! ### heaps -/
theorem same_upd {H : Hp} {p : Addr} {o : HO} (h : H p = none) : Same H (upd H p o) := fun b x e => by
  rw [upd_ne (ne_of_none e h)]
  exact e
/-- all that was tracked but what stands at b is as it was -/
def But (b : Addr) (H H' : Hp) : Prop := ∀ c o, H c = some o → c ≠ b → H' c = some o
theorem But.refl (b : Addr) (H : Hp) : But b H H := fun _ _ h _ => h
theorem But.trans {b : Addr} {H H1 H2 : Hp} (a : But b H H1) (c : But b H1 H2) : But b H H2 := fun d o h n => c d o (a d o h n) n
theorem But.of_same {b : Addr} {H H' : Hp} (s : Same H H') : But b H H' := fun c o h _ => s c o h
theorem But.upd {b : Addr} {H : Hp} {o : HO} : But b H (upd H b o) := fun c x h n => by rw [upd_ne n]; exact h
theorem But.new {b p : Addr} {H : Hp} {o : HO} (h : H p = none) : But b H (L2.upd H p o) := But.of_same (same_upd h)
theorem But.mutNew {b p : Addr} {H H' : Hp} {o : HO} (h : But b H H') (n : H p = none) : But b H (L2.upd H' p o) := fun c x e nc => by
  rw [upd_ne (ne_of_none e n)]
  exact h c x e nc
theorem But.free {b p : Addr} {H H' : Hp} (s : But b H H') (hb : ∃ o, H' b = some o) (n : H' p = none) : H p = none := by
  cases e : H p with
  | none => rfl
  | some o =>
    by_cases h : p = b
    · obtain ⟨u, hu⟩ := hb
      rw [h, hu] at n
      cases n
    · rw [s p o e h] at n
      cases n
theorem SqL.but {K : PySem.W.Frag} {b a : Addr} {H H' : Hp} {xs : List V} (s : But b H H') (n : a ≠ b) (h : SqL K H a xs) : SqL K H' a xs := by
  rcases h with (h | ⟨o, h⟩) | h
  · exact .inl (.inl (s _ _ h n))
  · exact .inl (.inr ⟨o, s _ _ h n⟩)
  · exact .inr h
theorem Same.seqT {K : PySem.W.Frag} {H H' : Hp} {a : Addr} {xs : List V} (e : Same H H') (h : SqT K H a xs) : SqT K H' a xs := by
  rcases h with (h | ⟨o, h⟩) | h
  · exact .inl (.inl (e _ _ h))
  · exact .inl (.inr ⟨o, e _ _ h⟩)
  · exact .inr h
theorem lc {σ : St} {H : Hp} {Q : VK} {wi : TI} {g : TG} {tt : TT} {te : TE} {vs : List Nat}
    (q : wi σ H fun J H1 => ∀ D, H1 D = none → ∃ W : Nat → Nat → Hp → Prop, (∃ m, W 0 m (upd H1 D (.lst []))) ∧ ∀ i m H, W i m H →
  (J.stop i H ∧ Q (.ref D) H) ∨ (J.go i H ∧ ∃ Nx : Hp → Prop, (∀ H', Nx H' → ∃ m', m' < m ∧ W (i + 1) m' H') ∧ ∀ x H', J.yld i H x H' → g x (wipe σ vs) H' fun σ2 H2 => wipe σ2 vs = wipe σ vs ∧ tt σ2 H2 fun b H3 =>
    if b = true then te σ2 H3 fun y H4 => ∃ acc, H4 D = some (.lst acc) ∧ acc.length < sizeLine ∧ Nx (upd H4 D (.lst (acc ++ [y]))) else Nx H3)) : tLc wi g tt te vs σ H Q := q
theorem disp {σ : St} {H : Hp} {Q : VK} {trs : List (TE × TE)} (q : ∀ p, H p = none → tPairs trs σ (upd H p (.dK [])) fun ps H2 => H2 p = some (.dK []) ∧ ∃ kvs : List (Key × V), ps = kvs.map (fun kv => (kV kv.1, kv.2)) ∧ kvs.length ≤ 15 ∧ Q (.ref p) (upd H2 p (.dK (mergeK [] kvs)))) : tDisp trs σ H Q := q
theorem pnil {σ : St} {H : Hp} {k : List (V × V) → Hp → Prop} (q : k [] H) : tPairs [] σ H k := q
theorem pcons {σ : St} {H : Hp} {k : List (V × V) → Hp → Prop} {tk tv : TE} {r : List (TE × TE)} (q : tk σ H fun x H1 => tv σ H1 fun y H2 => tPairs r σ H2 fun ps H3 => k ((x, y) :: ps) H3) : tPairs ((tk, tv) :: r) σ H k := q
theorem dget2 {σ : St} {H : Hp} {Q : VK} {td ty tx : TE} (q : td σ H fun x H1 => ∃ a, x = .ref a ∧ IsD H1 a ∧ ty σ H1 fun y H2 => tx σ H2 fun z H3 => ∃ o, DGet H3 a y o ∧ Q (o.getD z) H3) : tDGet2 td ty tx σ H Q := q
theorem iz {K : PySem.W.Frag} {σ : St} {H : Hp} {aa : TA} {R : It → Hp → Prop} (q : aa σ H fun vs H1 => ∃ a b xs ys, vs = [.ref a, .ref b] ∧ ((SqL K H1 a xs ∧ SqL K H1 b ys ∧ R (Itz K a b) H1) ∨ (SqT K H1 a xs ∧ SqT K H1 b ys ∧ R (RZ.ItzT K a b) H1))) : RZ.iZipA K aa σ H R := q
theorem tyes {σ : St} {H : Hp} {QT : Bool → Hp → Prop} (q : QT true H) : tYes σ H QT := q
theorem cxK {CX : CXT} {P : Program} {w : World} {K : PySem.W.Frag} {mg : Str → Option Value} {base : Heap} {N : List Str} {qual : Str} {sc : Scope} {f : Addr} {cd : Value} {A : Around} {outer : List Env} {s : Shared} {H : Hp} {E : XK} :
    (cxOf CX P w K mg base N qual sc f cd A outer s H E).nox.K = K := rfl
theorem cxKx {CX : CXT} {P : Program} {w : World} {K : PySem.W.Frag} {mg : Str → Option Value} {base : Heap} {N : List Str} {qual : Str} {sc : Scope} {f : Addr} {cd : Value} {A : Around} {outer : List Env} {s : Shared} {H : Hp} {E : XK} :
    (cxOf CX P w K mg base N qual sc f cd A outer s H E).K = K := rfl
theorem map_at {α : Type} {g : α → V} {l : List α} {i : Nat} {y : V} (h : (l.map g)[i]? = some y) : ∃ u, l[i]? = some u ∧ y = g u := by
  rw [List.getElem?_map] at h
  cases e : l[i]? with
  | none =>
    rw [e] at h
    cases h
  | some u =>
    rw [e] at h
    exact ⟨u, rfl, (Option.some.inj h).symm⟩
theorem cut_map (ns : List Int) (lo hi : Option Int) : ∃ ms : List Int, cutV (ns.map V.int) lo hi = ms.map V.int ∧ ms.length ≤ ns.length := by
  refine ⟨(ns.drop (HT.sIx (ns.map V.int).length 0 lo)).take (HT.sIx (ns.map V.int).length (ns.map V.int).length hi - HT.sIx (ns.map V.int).length 0 lo), ?_, ?_⟩
  · unfold cutV
    rw [List.map_take, List.map_drop]
  · rw [List.length_take, List.length_drop]
    omega
theorem un0 {H : Hp} {a b : Addr} {o : HO} (e : upd H a o b = none) : H b = none := by
  by_cases h : b = a
  · rw [h, upd_same] at e
    cases e
  · rw [upd_ne h] at e
    exact e
theorem upd2 {H : Hp} {a b : Addr} {o x : HO} (h : b ≠ a) (e : H b = some x) : upd H a o b = some x := by
  rw [upd_ne h]
  exact e
/-! ### texts -/
theorem cut_to (l : List Nat) {k : Int} (h : 0 ≤ k) : cutS (SX.S l) none (some k) = SX.S (l.take k.toNat) := by
  rw [C8.cutS_slice]
  exact SX.slice_to h
theorem cut_from (l : List Nat) {k : Int} (h : 0 ≤ k) : cutS (SX.S l) (some k) none = SX.S (l.drop k.toNat) := by
  rw [C8.cutS_slice]
  exact SX.slice_from h
theorem join_signs : ∀ cs : List Nat, TL.joinL [] (cs.map fun c => [c]) = cs
  | [] => rfl
  | [c] => rfl
  | c :: d :: r => by
    have ih := join_signs (d :: r)
    show [c] ++ ([] ++ TL.joinL [] ((d :: r).map fun c => [c])) = c :: d :: r
    rw [ih]
    rfl
theorem join_sg (cs : List Nat) : Txt.join (SX.S []) (cs.map fun c => (⟨#[c]⟩ : Str)) = SX.S cs := by
  have e : (cs.map fun c => (⟨#[c]⟩ : Str)) = (cs.map fun c => [c]).map SX.S := by
    rw [List.map_map]
    rfl
  rw [e, SX.join_S, join_signs]
theorem S_len0 : (SX.S []).length = 0 := rfl
theorem empty_S : Str.ofString "" = SX.S [] := by decide +kernel
theorem len_sg : ∀ cs : List Nat, ((cs.map fun c => (⟨#[c]⟩ : Str)).map (·.length)).sum = cs.length
  | [] => rfl
  | c :: r => by
    rw [List.map_cons, List.map_cons, List.sum_cons, len_sg r, List.length_cons]
    show 1 + r.length = r.length + 1
    omega
/-! ### [p(sign) for sign in text] -/
theorem lc_signs {l : List Nat} {p : Nat → Bool} {k : Nat} {te : TE} {vs : List Nat} {σ : St} {H1 : Hp} {D : Addr} {Qd : Hp → Prop}
    (hte : ∀ (c : Nat) (H' : Hp) (Q' : VK), c ∈ l → Q' (.bl (p c)) H' → te ((wipe σ vs).set k (some (.str ⟨#[c]⟩))) H' Q') (hw : ∀ v, wipe ((wipe σ vs).set k v) vs = wipe σ vs) (hl : l.length ≤ 100000)
    (hd : Qd (upd H1 D (.lst ((l.map p).map V.bl)))) :
    ∃ W : Nat → Nat → Hp → Prop, (∃ m, W 0 m (upd H1 D (.lst []))) ∧ ∀ i m H, W i m H →
      ((Its (SX.S l)).stop i H ∧ Qd H) ∨ ((Its (SX.S l)).go i H ∧ ∃ Nx : Hp → Prop, (∀ H', Nx H' → ∃ m', m' < m ∧ W (i + 1) m' H') ∧ ∀ x H', (Its (SX.S l)).yld i H x H' → gName k x (wipe σ vs) H' fun σ2 H2 => wipe σ2 vs = wipe σ vs ∧ tYes σ2 H2 fun b H3 =>
        if b = true then te σ2 H3 fun y H4 => ∃ acc, H4 D = some (.lst acc) ∧ acc.length < sizeLine ∧ Nx (upd H4 D (.lst (acc ++ [y]))) else Nx H3) := by
  have hz : (SX.S l).cps.size = l.length := by simp [SX.S]
  refine lc_it (walk_str (z := SX.S l)) (fun i H' => H' = upd H1 D (.lst (((l.take i).map p).map V.bl))) rfl (fun _ _ _ _ => trivial) ?_ ?_
  · rintro i x H H' hi rfl ⟨rfl, c, hc, rfl⟩
    have hc2 : l[i]? = some c := by
      have e : (SX.S l).cps[i]? = l[i]? := by simp [SX.S]
      rw [← e]
      exact hc
    have hm : c ∈ l := List.mem_of_getElem? hc2
    refine ⟨hw _, ?_⟩
    with_reducible refine Rg.tyes ?_
    with_reducible refine iteT ?_
    refine hte c _ _ hm ⟨_, upd_same, ?_, ?_⟩
    · rw [List.length_map, List.length_map, List.length_take, sizeLine_eq]
      omega
    · rw [upd_upd, List.take_add_one, hc2, List.map_append, List.map_append]
      rfl
  · rintro H rfl
    rw [hz, List.take_length]
    exact hd
theorem sgn_lt (a b : Nat) : decide (([a] : List Nat) < [b]) = decide (a < b) := by
  refine decide_eq_decide.mpr ⟨fun h => ?_, fun h => ?_⟩
  · cases h with
    | rel h => exact h
    | cons h => cases h
  · exact List.Lex.rel h
theorem sg_eq (a b : Nat) : decide ((⟨#[a]⟩ : Str) = ⟨#[b]⟩) = decide (a = b) := by
  refine decide_eq_decide.mpr ⟨fun h => ?_, fun h => by rw [h]⟩
  have e : ([a] : List Nat) = [b] := congrArg (fun x : Str => x.cps.toList) h
  injection e
theorem str_S (z : Str) : z = SX.S z.cps.toList := (SX.S_tl z).symm
theorem fold_rep (c : Nat) : ∀ (k : Nat) (acc : Array Nat), ((List.replicate k #[c]).foldl (· ++ ·) acc).toList = acc.toList ++ List.replicate k c
  | 0, acc => by simp
  | k + 1, acc => by
    rw [List.replicate_succ, List.foldl_cons, fold_rep c k, List.replicate_succ]
    simp
theorem mul_S (c : Nat) {n : Int} (h : 0 ≤ n) : Txt.mul (SX.S [c]) n = SX.S (List.replicate n.toNat c) := by
  unfold Txt.mul
  by_cases h1 : n < 1
  · rw [if_pos h1]
    have e : n = 0 := by omega
    subst e
    rfl
  · rw [if_neg h1]
    by_cases h2 : n = 1
    · subst h2
      rfl
    · rw [if_neg (by
        have : (SX.S [c]).length = 1 := rfl
        rw [this]
        simp [h2])]
      refine TL.ext_tl ?_
      have e := fold_rep c n.toNat #[]
      exact e
end Rg

set_option Elab.async false
set_option linter.all false
set_option maxRecDepth 100000
set_option maxHeartbeats 4000000
/-! ### t[::-1] of a tuple -/
namespace Rv
open PySem PyProof.Rows
section
variable {pr : Program} {wd : World} {B : Around} {Er : Value → Shared → Prop} {z : Shared}
theorem back_places (n : Nat) : Builtin.Slice.slicePlaces ((n : Int) - 1) (-1) (-1) = n := by
  simp only [Builtin.Slice.slicePlaces, show ¬ ((-1 : Int) > 0) by omega, show (-(-1 : Int)) = 1 by omega, Int.ediv_one, if_false]
  split <;> omega
theorem back_pick (l : List Value) : ∀ k, k ≤ l.length → ((List.range k).filterMap fun (m : Nat) => l.toArray[((l.length : Int) - 1 + (m : Int) * (-1)).toNat]?) = l.reverse.take k
  | 0, _ => by simp
  | k + 1, hk => by
    have hl : ((l.length : Int) - 1 + (k : Int) * (-1)).toNat = l.length - 1 - k := by omega
    have e : l.reverse[k]? = l.toArray[l.length - 1 - k]? := by
      rw [List.getElem?_reverse (by omega)]
      simp
    rw [List.range_succ, List.filterMap_append, back_pick l k (by omega), List.take_add_one, e, List.filterMap_cons, hl]
    cases l.toArray[l.length - 1 - k]? <;> rfl
theorem its_fields {sl : Addr} {u v x : Value} {Q : Value × Value × Value → Shared → Prop} (hs : z.heap.IsSliceOf sl u v x) (h : Q (u, v, x) z) : wpAny (model pr wd) B (Builtin.Slice.sliceFields (.ref sl)) Q Er z := by
  obtain ⟨o, g, _, e⟩ := hs
  exact wpAny_bind (wpAny_field g e (x := u) rfl (wpAny_bind (wpAny_field g e (x := v) rfl (wpAny_bind (wpAny_field g e (x := x) rfl (wpAny_pure h))))))
theorem back_applied {sl : Addr} {vk : Value} {n : Nat} {Q : Int × Int × Nat → Shared → Prop} (hs : z.heap.IsSliceOf sl .none .none vk) (pk : IsPart vk (some (-1))) (h : Q ((n : Int) - 1, -1, n) z) :
    wpAny (model pr wd) B (Builtin.Slice.sliceApplied (.ref sl) (pure (n : Int))) Q Er z := by
  have fin : wpAny (model pr wd) B (pure ((n : Int) - 1, (-1 : Int), Builtin.Slice.slicePlaces ((n : Int) - 1) (-1) (-1))) Q Er z := by
    rw [back_places]
    exact wpAny_pure h
  have parts : wpAny (model pr wd) B (Builtin.Slice.slicePartIndex vk) (fun c s' => c = some (-1) ∧ s' = z) Er z := HT.slicePart_ pk ⟨rfl, rfl⟩
  refine wpAny_bind (its_fields hs (wpAny_bind (wpAny_mono parts (fun c s' hc => ?_) fun _ _ e => e)))
  obtain ⟨rfl, rfl⟩ := hc
  exact wpAny_bind (slicePart_none (wpAny_bind (slicePart_none (wpAny_bind (wpAny_pure fin)))))
/-- what tuple.__getitem__ answers -/
theorem back_body {t sl : Addr} {l : List Value} {vk : Value} {R : Fin → Shared → Prop} (ht : IsTup z.heap t l.toArray) (hs : z.heap.IsSliceOf sl .none .none vk) (pk : IsPart vk (some (-1))) (hl : l.length ≤ sizeLine)
    (h : R (.done (.ret (.ref z.heap.objs.size))) { z with heap := z.heap.push { cls := .type "tuple", data := .seq l.reverse.toArray } }) : wpAny (model pr wd) B (Builtin.«tuple.__getitem__» ⟨[.ref t, .ref sl], []⟩) R Er z := by
  have hT : z.TypeIs (.ref sl) "slice" := hs.elim fun o k => ⟨o, k.1, k.2.1⟩
  have size : sizeOk (.seq l.reverse.toArray) := show l.reverse.toArray.size ≤ sizeLine by simpa using hl
  have pick : ((List.range l.toArray.size).filterMap fun (k : Nat) => l.toArray[((l.toArray.size : Int) - 1 + (k : Int) * (-1)).toNat]?).toArray = l.reverse.toArray := by
    rw [List.size_toArray, back_pick l l.length (Nat.le_refl _), List.take_of_length_le (Nat.le_of_eq List.length_reverse)]
  have step : (((l.toArray.size : Int) - 1 == 0 && (-1 : Int) == 1 && l.toArray.size == l.toArray.size) : Bool) = false := by
    rw [show ((-1 : Int) == 1) = false from rfl, Bool.and_false, Bool.false_and]
  refine wpAny_bind (m := Builtin.Tuple.tupleItemsOf (.ref t)) (tupleItemsOf_ ht (wpAny_bind (wpAny_typeOf hT ?_)))
  rw [if_pos (show (Value.type "slice" == Value.type "slice") = true from rfl)]
  refine wpAny_bind (back_applied (n := l.toArray.size) hs pk ?_)
  show wpAny (model pr wd) B (if ((l.toArray.size : Int) - 1 == 0 && (-1 : Int) == 1 && l.toArray.size == l.toArray.size) = true then _ else _) R Er z
  rw [step, if_neg Bool.false_ne_true, pick]
  first
    | exact wpAny_bind (m := Builtin.Tuple.tupleExact l.reverse.toArray) (wpAny_newObj_type (wpAny_pure h) size)
    | exact wpAny_bind (m := Builtin.Tuple.tupleExact l.reverse.toArray) (wpAny_newObj_type (wpAny_bind (wpAny_pure (wpAny_pure h))) size)
    | exact wpAny_bind (wpAny_bind (m := Builtin.Tuple.tupleExact l.reverse.toArray) (wpAny_newObj_type (wpAny_pure (wpAny_pure h)) size))
    | exact wpAny_bind (wpAny_bind (m := Builtin.Tuple.tupleExact l.reverse.toArray) (wpAny_newObj_type (wpAny_pure h) size))
theorem back_item {t sl : Addr} {l : List Value} {vk : Value} {Q : Value → Shared → Prop} (ht : IsTup z.heap t l.toArray) (hs : z.heap.IsSliceOf sl .none .none vk) (pk : IsPart vk (some (-1))) (hl : l.length ≤ sizeLine)
    (h : Q (.ref z.heap.objs.size) { z with heap := z.heap.push { cls := .type "tuple", data := .seq l.reverse.toArray } }) : wpAny (model pr wd) B (getItem (.ref t) (.ref sl)) Q Er z := by
  have road : wpAny (model pr wd) B (call (.builtin "tuple.__getitem__") [.ref t, .ref sl]) Q Er z := wpAny_call_entry PyProof.Rows.slot_tuple_getitem ht.typeIs entry_tuple_getitem (back_body ht hs pk hl ⟨_, rfl, h⟩) (args_tuple_getitem _ _)
  have found : wpAny (model pr wd) B (callSpecial? (.ref t) "__getitem__" [.ref sl]) (fun o s' => ∃ v, o = some v ∧ Q v s') Er z := wpAny_callSpecial?_slot ht.typeIs PyProof.Rows.slot_tuple_getitem (wpAny_mono road (fun v s' q => ⟨v, rfl, q⟩) fun _ _ e => e)
  unfold getItem
  first
    | refine wpAny_holding (wpAny_bind (wpAny_pure (wpAny_bind (wpAny_sequenceKey ht.typeIs (by decide) (wpAny_bind (wpAny_mono found (fun o s' q => ?_) fun _ _ e => e))))))
    | refine wpAny_bind (wpAny_pure (wpAny_bind (wpAny_sequenceKey ht.typeIs (by decide) (wpAny_bind (wpAny_mono found (fun o s' q => ?_) fun _ _ e => e)))))
    | refine wpAny_holding (wpAny_bind (wpAny_sequenceKey ht.typeIs (by decide) (wpAny_bind (wpAny_mono found (fun o s' q => ?_) fun _ _ e => e))))
    | refine wpAny_bind (wpAny_sequenceKey ht.typeIs (by decide) (wpAny_bind (wpAny_mono found (fun o s' q => ?_) fun _ _ e => e)))
  obtain ⟨v, rfl, q⟩ := q
  first
    | exact wpAny_pure q
    | exact wpAny_bind (wpAny_pure q)
end
end Rv
namespace Rg
open PySem L2 PySem.Spec PyProof.Rows
def tRevT (K : PySem.W.Frag) (te : TE) : TE := fun σ H Q => te σ H fun x H1 => ∃ a xs, x = .ref a ∧ SqT K H1 a xs ∧ ∀ p, H1 p = none → Q (.ref p) (upd H1 p (.tup xs.reverse))
section
variable {X : Cx}
theorem pe_revLX (K : PySem.W.Frag) {e : Expr} {te : TE} {k : Nat} {p1 p2 p3 pos : Pos} (he : PE X e te) (hK : X.K = K := by rfl) : PE X (.Subscript e (.Slice none none (some (.UnaryOp .USub (.Constant (.int 1) k p1) p2)) p3) pos) (tRevL K te) := by
  subst hK
  exact pe_revL he
/-- the slice object of «::-1» -/
theorem sl_back {pins : List (Addr × Obj)} {z : Shared} {σ : L2.St} {H : Hp} {R : Value → Shared → Prop} {k : Nat} {p1 p2 p3 : Pos} (I : Inv X pins σ H z)
    (h : ∀ vk z1, Inv X pins σ H z1 → IsPart vk (some (-1)) → R (.ref z1.heap.objs.size) { z1 with heap := z1.heap.push { cls := .type "slice", data := .fields #[.none, .none, vk] } }) :
    wpAny (model X.prog X.w) X.A (eval (.Slice none none (some (.UnaryOp .USub (.Constant (.int 1) k p1) p2)) p3) X.env) R X.xe z := by
  have st : PO X (some (.UnaryOp .USub (.Constant (.int 1) k p1) p2)) (tPart (tUn (rU fun i => .int (-i)) (tC (.int 1)))) := po_some (pe_un un_neg pe_int)
  have go := st.run pins z σ H (fun o H' => o = some (-1) ∧ H' = H) I ⟨1, rfl, -1, rfl, rfl, rfl⟩
  refine wpAny_Slice ?_
  rw [evalPart_none]
  refine wpAny_pure (wpAny_pure (thn go fun vk z1 hv => ?_))
  obtain ⟨o, H1, J, pk, eo, eh⟩ := hv
  subst eo eh
  exact h vk z1 J pk
theorem pe_revT (K : PySem.W.Frag) {e : Expr} {te : TE} {k : Nat} {p1 p2 p3 pos : Pos} (he : PE X e te) (hK : X.K = K := by rfl) : PE X (.Subscript e (.Slice none none (some (.UnaryOp .USub (.Constant (.int 1) k p1) p2)) p3) pos) (tRevT K te) := by
  subst hK
  constructor
  intro pins z σ H Q I hq
  refine Subscript_ (thn (he.run pins z σ H _ I hq) fun v z1 hv => ?_)
  obtain ⟨y, H1, J, ry, a, xs, rfl, hx, q⟩ := hv
  cases ry
  refine sl_back J fun vk z2 J2 pk => ?_
  have J3 : Inv X pins σ H1 { z2 with heap := z2.heap.push { cls := .type "slice", data := .fields #[.none, .none, vk] } } := J2.kept (t' := z2.toks) fun _ _ g => Heap.get?_push_of_some _ g
  obtain ⟨its, r, ht, hz⟩ := J3.tuple hx
  have hn : its.length ≤ sizeLine := r.length ▸ hz
  have made : ObjOk X.prog X.w (upd H1 (z2.heap.push { cls := .type "slice", data := .fields #[.none, .none, vk] }).objs.size (.tup xs.reverse)) ((z2.heap.push { cls := .type "slice", data := .fields #[.none, .none, vk] }).push { cls := .type "tuple", data := .seq its.reverse.toArray }) (z2.heap.push { cls := .type "slice", data := .fields #[.none, .none, vk] }).objs.size (.tup xs.reverse) :=
    ⟨by rw [List.length_reverse]; exact hz, _, r.reverse, IsTup.new _ _⟩
  have J4 := J3.laid (t' := z2.toks) (o := .tup xs.reverse) (fun _ _ g => Heap.get?_push_of_some _ g) (Nat.le_refl _) made
  exact tail_any (ops := [.ref a, .ref z2.heap.objs.size]) ht.typeIs (PyProof.Rows.slot_tuple_getitem.lookup) (Rv.back_item ht (Heap.IsSliceOf.new _ _ _ vk) pk hn ⟨.ref _, _, J4, rfl, q _ (J3.hok.fresh (Nat.le_refl _))⟩) (by with_unfolding_all rfl)
theorem revL {K : PySem.W.Frag} {te : TE} {σ : L2.St} {H : Hp} {Q : VK} (q : te σ H fun x H1 => ∃ a xs, x = .ref a ∧ SqL K H1 a xs ∧ ∀ p, H1 p = none → Q (.ref p) (upd H1 p (.lst xs.reverse))) : tRevL K te σ H Q := q
theorem revT {K : PySem.W.Frag} {te : TE} {σ : L2.St} {H : Hp} {Q : VK} (q : te σ H fun x H1 => ∃ a xs, x = .ref a ∧ SqT K H1 a xs ∧ ∀ p, H1 p = none → Q (.ref p) (upd H1 p (.tup xs.reverse))) : tRevT K te σ H Q := q
/-- x += y: ints, texts, lists -/
def ipX : TIp := fun x y H Q => (∃ i j, x = .int i ∧ y = .int j ∧ Q (.int (i + j)) H) ∨ (∃ i j, x = .str i ∧ y = .str j ∧ i.length + j.length ≤ sizeLine ∧ Q (.str (i ++ j)) H) ∨ rExt2 x y H Q
theorem ip_X : PIp X .Add ipX := by
  intro pins s σ H x y v u Q I r1 r2 h
  rcases h with h | h | h
  · exact ip_add pins s σ H x y v u Q I r1 r2 h
  · exact iop_add_str pins s σ H x y v u Q I r1 r2 h
  · exact iop_ext pins s σ H x y v u Q I r1 r2 h
theorem aug {i : Nat} {te : TE} {D : Ends} {σ : L2.St} {H : Hp} {x : V} (h : σ[i]? = some (some x)) (q : te σ H fun y H1 => ipX x y H1 fun z H2 => D.nx (σ.set i (some z)) H2) : tAug i te ipX D σ H := ⟨x, h, q⟩
theorem ipI2 {i j : Int} {H : Hp} {Q : VK} (q : Q (.int (i + j)) H) : ipX (.int i) (.int j) H Q := .inl ⟨i, j, rfl, rfl, q⟩
theorem ipS2 {i j : Str} {H : Hp} {Q : VK} (h : i.length + j.length ≤ sizeLine) (q : Q (.str (i ++ j)) H) : ipX (.str i) (.str j) H Q := .inr (.inl ⟨i, j, rfl, rfl, h, q⟩)
theorem ipL2 {l b : Addr} {xs zs : List V} {H : Hp} {Q : VK} (h : H l = some (.lst xs)) (h2 : H b = some (.lst zs)) (h3 : xs.length + zs.length ≤ sizeLine) (q : Q (.ref l) (upd H l (.lst (xs ++ zs)))) : ipX (.ref l) (.ref b) H Q := .inr (.inr ⟨l, b, xs, zs, rfl, rfl, h, h2, h3, q⟩)
theorem pa_starX (K : PySem.W.Frag) {e : Expr} {es : List Expr} {te : TE} {t : TA} {p : Pos} (he : PE X e te) (hr : PA X es t) (hK : X.K = K := by rfl) (hs : starEach (.Starred e p :: es) X.env = (true, eval e X.env) :: starEach es X.env := by rfl) : PA X (.Starred e p :: es) (StX.tStar K te t) := by
  subst hK
  exact StX.pa_star he hr hs
theorem star {K : PySem.W.Frag} {te : TE} {t : TA} {σ : L2.St} {H : Hp} {Q : List V → Hp → Prop} (q : te σ H fun x H1 => ∃ p xs, x = V.ref p ∧ (SqT K H1 p xs ∨ SqL K H1 p xs) ∧ t σ H1 fun ys H2 => Q (xs ++ ys) H2) : StX.tStar K te t σ H Q := q
theorem iT {K : PySem.W.Frag} {tl : TE} {σ : L2.St} {H : Hp} {R : It → Hp → Prop} (q : tl σ H fun x H1 => ∃ a, x = .ref a ∧ (∃ xs, SqT K H1 a xs) ∧ R (Itt K a) H1) : iTup K tl σ H R := q
theorem toV {v : V} {H : Hp} {Q : VK} {g : VK → Prop} (h : Q v H) (k : ∀ Q' : VK, Q' v H → g Q') : g Q := k Q h
theorem toH {v : V} {H : Hp} {Q : VK} {g : VK → Prop} (h : ∀ H', Same H H' → Q v H') (k : ∀ Q' : VK, (∀ H', Same H H' → Q' v H') → g Q') : g Q := k Q h
theorem S_emp (l : List Nat) : decide (SX.S l = Str.ofString "") = decide (l = []) := by
  rw [empty_S]
  refine decide_eq_decide.mpr ⟨fun h => ?_, fun h => by rw [h]⟩
  have e : (SX.S l).cps.toList = (SX.S []).cps.toList := by rw [h]
  simpa [SX.S] using e
theorem jc {t : TE} {ts : List TE} {acc : Str} {σ : L2.St} {H : Hp} {Q : Str → Hp → Prop} (q : t σ H fun x H1 => ∃ y : Str, x = .str y ∧ (acc ++ y).length ≤ sizeLine ∧ tJs ts (acc ++ y) σ H1 Q) : tJs (t :: ts) acc σ H Q := q
theorem jn {acc : Str} {σ : L2.St} {H : Hp} {Q : Str → Hp → Prop} (q : Q acc H) : tJs [] acc σ H Q := q
theorem jX {ts : List TE} {σ : L2.St} {H : Hp} {Q : VK} (q : tJs ts Str.empty σ H fun out H1 => Q (.str out) H1) : (fun (σ : L2.St) (H : Hp) (Q : VK) => tJs ts Str.empty σ H fun out H1 => Q (.str out) H1) σ H Q := q
theorem fm {te : TE} {σ : L2.St} {H : Hp} {Q : VK} (q : te σ H fun x H1 => (∃ y : Str, x = .str y ∧ y.length ≤ sizeLine ∧ Q (.str y) H1) ∨ ∃ i : Int, x = .int i ∧ i.natAbs.log2 < 1920 ∧ Q (.str (toString i)) H1) : tFmt te σ H Q := q
theorem cut_m1 (xs : List V) : cutV xs none (some (-1)) = xs.dropLast := by
  unfold cutV
  rw [List.dropLast_eq_take]
  show ((xs.drop 0).take (HT.sIx xs.length xs.length (some (-1)) - 0)) = _
  rw [List.drop_zero, Nat.sub_zero]
  congr 1
  unfold HT.sIx
  simp
  omega
theorem iteNt {A B : Prop} (h : B) : if (!true) = true then A else B := iteF h
theorem iteNf {A B : Prop} (h : A) : if (!false) = true then A else B := iteT h
theorem par3 {i j l : Nat} {aa : TA} {D : Ends} {σ : L2.St} {H : Hp} (q : aa σ H fun vs H1 => ∃ u v w, vs = [u, v, w] ∧ D.nx (((σ.set i (some u)).set j (some v)).set l (some w)) H1) : tPar3 i j l aa D σ H := q
theorem extrip {u v w : V} {R : V → V → V → Prop} (q : R u v w) : ∃ a b c, [u, v, w] = [a, b, c] ∧ R a b c := ⟨u, v, w, rfl, q⟩
theorem app {l : Addr} {xs : List V} {y : V} {H : Hp} {Q : VK} (h : H l = some (.lst xs)) (hz : xs.length < sizeLine) (q : Q .non (upd H l (.lst (xs ++ [y])))) : rAppend (.ref l) [y] H Q := ⟨l, xs, y, rfl, rfl, h, hz, q⟩
theorem popL {l : Addr} {xs : List V} {y : V} {H : Hp} {Q : VK} (h : H l = some (.lst (xs ++ [y]))) (q : Q y (upd H l (.lst xs))) : rPop (.ref l) [] H Q := by
  refine ⟨l, _, y, rfl, rfl, h, by simp, ?_⟩
  rw [List.dropLast_concat]
  exact q
theorem tyvL {K : PySem.W.Frag} {l : Addr} {xs : List V} {H : Hp} (h : H l = some (.lst xs)) : tyV K "list" (.ref l) H := .inl ⟨rfl, _, SqL.of h⟩
theorem same_mut {H H' : Hp} {x : Addr} {o : HO} (s : Same H H') (n : H x = none) : Same H (L2.upd H' x o) := fun c u e => by
  rw [upd_ne (ne_of_none e n)]
  exact s c u e
theorem atI_last {xs : List V} {y : V} : atI (xs ++ [y]) (-1) = some y := by
  have e : (xs ++ [y]).length = xs.length + 1 := by simp
  have h : ixN (xs.length + 1) (-1) = some xs.length := by
    unfold ixN
    simp
    try omega
  unfold atI
  rw [e, h]
  simp
end
end Rg

set_option Elab.async false
set_option linter.all false
set_option maxRecDepth 100000
set_option maxHeartbeats 4000000
/-! ### defs that an except suite calls with its exception -/
namespace Rg
open PySem PySem.Spec PyProof.Rows L2 HotX
/-- a promise that may speak of the handled exception: its address, class, dict -/
abbrev SpE := Addr → Value → Option Addr → Sp
structure FnE (P : Program) (w : World) (K : PySem.W.Frag) (mg : Str → Option Value) (base : Heap) (CX : CXT) (k : Nat) (f : Addr) (fd : FuncData) (ps : List Str) (sp : SpE) : Prop where
  many : ∀ {a : Addr} {c : Value} {d : Option Addr} {vs : List V} {H : Hp} {Q : VK} {E : XK}, sp a c d vs H Q E → vs.length = ps.length
  goes : ∀ {A : Around} {outer : List Env} {z : Shared} {H : Hp} {args : Args} {us : List Value} {vs : List V} {Q : VK} {E : XK} {p : Addr × Obj} {c : Value} {d : Option Addr},
    Zc c d p.2 → (∃ ws, p.2.data = .fields ws) → L2H.RoomH k A → L2H.PinOk outer H z p → Env0 P w K mg base A outer z H → BindsTo z fd args (ps.zip us) → Vals vs us → sp p.1 c d vs H Q E → codeAny (model P w) A (.call (.ref f) args) (CR CX outer P w H z Q E) z
section
variable {CX : CXT} {P : Program} {w : World} {K : PySem.W.Frag} {mg : Str → Option Value} {base : Heap} {k : Nat} {f : Addr}
/-- THE RULE for such a def: its body, run with the exception pinned -/
theorem FnE.of {x qual : Str} {params : Arguments} {body : List Stmt} {scope : Scope} {dV kV doc pm cdv ct oc : Value} {an od : Option Addr} {osl : Array (Option Value)} {N ps : List Str} {sp : SpE}
    (known : K.lookup f = some ⟨oc, od, .func (PySem.W.fnOf x qual params body scope dV kV doc pm an cdv ct), osl⟩) (code : PySem.W.codeIn K cdv qual = true) (S : FnScope N ps scope)
    (many : ∀ {a : Addr} {c : Value} {d : Option Addr} {vs : List V} {H : Hp} {Q : VK} {E : XK}, sp a c d vs H Q E → vs.length = ps.length)
    (runs : ∀ {A : Around} {outer : List Env} {z : Shared} {H : Hp} {vs : List V} {Q : VK} {E : XK} {p : Addr × Obj} {c : Value} {d : Option Addr}, Zc c d p.2 → (∃ ws, p.2.data = .fields ws) → L2H.RoomH k (A.deeper (envOfC qual scope z.heap.objs.size f cdv)) → sp p.1 c d vs H Q E →
      ∃ t, PSs (L2H.cxH CX P w K mg base N qual scope f cdv A outer z H E p) body t ∧ t { nx := fun _ H' => Q .non H', rt := Q } (L2.start N vs) H) :
    FnE P w K mg base CX (k + 1) f (PySem.W.fnOf x qual params body scope dV kV doc pm an cdv ct) ps sp where
  many := many
  goes := by
    intro A outer z H args us vs Q E p c d hz data room pin e0 binds rel promise
    have kept : ∀ b o, base.get? b = some o → z.heap.get? b = some o := fun b o g => (e0.bs b o g).1
    have inZ : K.In z.heap := e0.mod.kin.keeps kept
    have plain : ∀ y ∈ ps.zip us, scope.names.lookup y.1 = some .local ∨ (scope.names.lookup y.1 = some .cell ∧ ((cellsFrom (z.heap.objs.size + 1) scope.names []).lookup y.1).isSome = true) := by
      rintro ⟨n, u⟩ hy
      exact (S.par n (List.of_mem_zip hy).1).imp id fun c => ⟨c, PySem.W.cellsFrom_some _ _ _ (.inl c)⟩
    refine codeAny_call_function room.depth (inZ _ _ known) rfl S.co S.gen rfl (PySem.W.codeRec_of inZ code) (binds _ _ _ _ (wpAny_newFunctionEnv_cells S.kind plain fun env he z1 begun => ?_))
    cases he
    obtain ⟨t, ht, now⟩ := runs hz data (room.deeper _) promise
    have I := L2H.inv_startH (CX := CX) (E := E) (cd := cdv) S pin e0 (many promise) rel begun
    refine ⟨(e0.mod.nolimit.keeps kept).keeps begun.toInCall.keep, codeAny_func (wpAny_mono (ht.run [] z1 _ H _ I now) (fun way z2 done => ?_) fun _ _ out => out)⟩
    cases way with
    | ret u => exact done.elim fun v h => h.elim fun _ h => h.elim fun H2 h => ⟨v, H2, h.1.os, h.1.bare, h.1.base, h.1.hok, h.2.1, h.2.2⟩
    | next => exact done.elim fun _ h => h.elim fun H2 h => ⟨.non, H2, h.1.os, h.1.bare, h.1.base, h.1.hok, rfl, h.2⟩
    | brk => exact (done.elim fun _ h => h.elim fun _ h => h.2 : False).elim
    | cont => exact (done.elim fun _ h => h.elim fun _ h => h.2 : False).elim
end
section
variable {X : Cx} {CX : CXT} {k : Nat} {f : Addr} {fd : FuncData} {ps : List Str} {sp : SpE} {E : L2.St → XK} {x : Str} {pn pos : Pos} {e : Expr} {es : List Expr} {t : TA} {p : Addr × Obj} {c : Value} {d : Option Addr}
def tCE (sp : SpE) (a : Addr) (c : Value) (d : Option Addr) (E : L2.St → XK) (t : TA) : TE := fun σ H Q => t σ H fun vs H1 => sp a c d vs H1 Q (E σ)
/-- g(e, ..) where p's exception is handled -/
theorem pe_callE (F : FnE X.prog X.w X.K X.mg X.base CX k f fd ps sp) (room : L2H.RoomH k X.A) (hz : Zc c d p.2) (data : ∃ ws, p.2.data = .fields ws) (here : p ∈ X.pn) (hg : Gl X x) (hm : X.mg x = some (.ref f)) (hk : PySem.W.keepIn X.K (.ref f) = true) (hb : Binds X.K fd ps []) (out : ∀ σ, PassesAt CX X σ (E σ))
    (ha : PA X (e :: es) t) (nod : (x == ("__debug__" : Str)) = false := by decide) (each : starEach (e :: es) X.env = (false, eval e X.env) :: starEach es X.env := by rfl) (nostar : (backTo pos (starEach es X.env)).any (·.1) = false := by rfl) :
    PE X (.Call (.Name x pn) (e :: es) [] pos) (tCE sp p.1 c d E t) := by
  constructor
  intro pins z σ H Q I h
  have args := ha.run pos pins z σ H _ I h
  refine wpAny_Call_Name_kw (ld_glob I hg hm (PySem.W.callWith_K (h₀ := X.base) I.ok.mod.kin hk (thn args fun us z1 got => ?_) each nostar) nod)
  obtain ⟨vs, H1, J, rel, promise⟩ := got
  have lens : us.length = ps.length := rel.length ▸ F.many promise
  have bind : BindsTo z1 fd ⟨us, []⟩ (ps.zip us) := by
    have b := hb z1 us J.kIn (by rw [List.append_nil, lens])
    rwa [List.append_nil] at b
  obtain ⟨g1, g2, g3, g4, g5⟩ := J.pin p (List.mem_append_left _ here)
  have pin : L2H.PinOk X.stack H1 z1 p := ⟨g1, g2, fun m => (List.mem_cons.mp (J.stkSub p.1 m)).elim g3 g4, g5⟩
  refine ⟨J.kIn, wpAny_call (codeAny_mono (F.goes hz data room pin J.env0 bind rel promise) fun way z2 done => ?_)⟩
  match way, done with
  | .error er, done => exact out σ pins H1 z1 er z2 J done
  | .ok (.ret u), done => exact J.after done
/-- e.f, e the pinned exception -/
def tXfE (K : PySem.W.Frag) (a : Addr) (cls : Value) (d : Option Addr) (f : Str) (te : TE) : TE := fun σ H Q => te σ H fun x H1 => x = .ref a ∧ ∃ (C dd : Addr) (fs : List (Str × V)) (v : V), cls = .ref C ∧ d = some dd ∧ XfC K C ∧ PySem.W.findIn K (.ref C) f = some none ∧ H1 dd = some (.xd fs) ∧ fs.lookup f = some v ∧ Q v H1
theorem pe_xfE {te : TE} {n : Str} (hz : Zc c d p.2) (data : ∃ vs, p.2.data = .fields vs) (here : p ∈ X.pn) (he : PE X e te) (plain : attributeBase e n X.env (eval e X.env) = eval e X.env := by rfl) : PE X (.Attribute e n pos) (tXfE X.K p.1 c d n te) := by
  constructor
  intro pins z σ H Q I h
  refine attr_of plain (thn (he.run pins z σ H _ I h) fun u z1 got => ?_)
  obtain ⟨y, H1, J, ry, rfl, C, dd, fs, v, rfl, rfl, T, none_, hd, hv, q⟩ := got
  cases (show u = Value.ref p.1 from ry)
  have stands := (J.pin p (List.mem_append_left _ here)).1
  obtain ⟨m, ns, rel⟩ := (show ObjOk X.prog X.w H1 z1.heap dd (.xd fs) from J.hok dd _ hd)
  obtain ⟨od, ho, look⟩ := lookIn_ns ns
  obtain ⟨u, hu, ru⟩ := RelO.some_of (v := v) (o := m n) (hv ▸ rel n)
  obtain ⟨vs, hvs⟩ := data
  have inst : PySem.W.InstAt z1.heap p.1 p.2 C (some od) := ⟨stands, hz.1, (by unfold PySem.W.notCls; rw [hvs] <;> rfl), (by rw [hz.2]; exact ho)⟩
  exact HandSPX.exc_get J.kIn inst T.ga T.gg T.exC (PySem.W.findObj_own T.hdC none_ rfl (by rw [look, hu])) (handed_of ru) ⟨v, H1, J.tok _, ru, q⟩
end
end Rg
namespace Rg
open PySem L2
theorem op_eqU {X : Cx} (K : PySem.W.Frag) (hu : X.A.units + 64 < cLine) (hK : X.K = K := by rfl) : OpR X (compareOp .Eq) (rEqX K) := by
  subst hK
  exact OpR.or op_eq (op_eqD hu)
theorem xfI {K : PySem.W.Frag} {C dd a : Addr} {fs : List (Str × V)} {f : Str} {v : V} {σ : L2.St} {H : Hp} {Q : VK} {i : Nat} (hT : XfC K C) (hn : PySem.W.findIn K (.ref C) f = some none) (hd : H dd = some (.xd fs)) (hl : fs.lookup f = some v) (hs : σ[i]? = some (some (.ref a))) (q : Q v H) :
    tXfE K a (.ref C) (some dd) f (tVar i) σ H Q := ⟨_, hs, rfl, C, dd, fs, v, rfl, rfl, hT, hn, hd, hl, q⟩
end Rg
/-! ### try: .. except (x, y, z) as n: .. -/
namespace Rg
open PySem PySem.Spec PyProof.Rows L2
theorem flies_on {B h h2 : Heap} {l : List Env} {a : Addr} {Z : Obj → Prop} (kept : ∀ b o, h.get? b = some o → h2.get? b = some o) : HandSPX.FlyingZ B l a Z h → HandSPX.FlyingZ B l a Z h2
  | ⟨st, nb, fr, oe, vs, T, oT, ts, g, z, dt, r⟩ => ⟨fun b o e => kept b o (st b o e), nb, fr.of_keeps fun b o e _ => ⟨o, kept b o e, rfl⟩, oe, vs, T, oT, ts, kept _ _ g, z, dt, r.1, r.2.1, r.2.2.1, kept _ _ r.2.2.2.1, r.2.2.2.2⟩
/-- what such a clause wishes of an exception that flies out of the body; slot i is n's -/
def wAs3 (K : PySem.W.Frag) (c1 c2 c3 : Value) (i : Nat) (ts : Addr → Value → Option Addr → TS) (out : WX) (D : Ends) : WX := fun cls d σ H => ∃ b, PySem.W.exmAny K cls [c1, c2, c3] = some b ∧
  (b = false → out cls d σ H) ∧ (b = true → i < σ.length → ∀ a, H a = none → ts a cls d { nx := fun σ2 H2 => D.nx (σ2.set i none) H2, rt := D.rt, bk := fun σ2 H2 => D.bk (σ2.set i none) H2, ct := fun σ2 H2 => D.ct (σ2.set i none) H2 } (σ.set i (some (.ref a))) H)
section
variable {X : Cx} {x1 x2 x3 n : Str} {c1 c2 c3 : Value} {i kt : Nat} {b₀ : Stmt} {body suite : List Stmt} {q1 q2 q3 qt qh pos : Pos} {tb : WX → TS} {ts : Addr → Value → Option Addr → TS} {out : WX}
theorem ld_name {pins : List (Addr × Obj)} {z : Shared} {σ : L2.St} {H : Hp} {x : Str} {c : Value} {np : Pos} {Q Er : Value → Shared → Prop} (I : Inv X pins σ H z) (N : Names X x c) (h : Q c z) : wpAny (model X.prog X.w) X.A (eval (.Name x np) X.env) Q Er z :=
  N.2.2.elim (fun m => ld_glob I N.1 m h N.2.1) fun m => ld_blt I N.1 m.1 m.2.1 h m.2.2 N.2.1
/-- the clause's own tuple -/
theorem ld_three {pins : List (Addr × Obj)} {z : Shared} {σ : L2.St} {H : Hp} {Q Er : Value → Shared → Prop} (I : Inv X pins σ H z) (N1 : Names X x1 c1) (N2 : Names X x2 c2) (N3 : Names X x3 c3)
    (h : Q (.ref z.heap.objs.size) { z with heap := z.heap.push { cls := .type "tuple", data := .seq [c1, c2, c3].toArray } }) : wpAny (model X.prog X.w) X.A (eval (.Tuple [.Name x1 q1, .Name x2 q2, .Name x3 q3] kt qt) X.env) Q Er z := by
  have three : ([c1, c2, c3] : List Value).length ≤ sizeLine := by
    rw [sizeLine_eq]
    show 3 ≤ 16777216
    decide
  exact wpAny_Tuple_spliced (Calls.spliced_cons (ld_name I N1 (Calls.spliced_cons (ld_name I N2 (Calls.spliced_cons (ld_name I N3 (Calls.spliced_nil ⟨three, h⟩)))))))
/-- the suite has run: its name is unbound -/
theorem suite_done {pins : List (Addr × Obj)} {a : Addr} {oe : Obj} {D : Ends} {way : Flow} {z : Shared} (ok : X.Ok) (hN : X.N.Nodup) (hi : X.N[i]? = some n) (hln : X.env.kindOf n = some .local)
    (h : SP (X.suite a ((a, oe) :: (X.pn ++ pins))) [] { nx := fun σ2 H2 => D.nx (σ2.set i none) H2, rt := D.rt, bk := fun σ2 H2 => D.bk (σ2.set i none) H2, ct := fun σ2 H2 => D.ct (σ2.set i none) H2 } way z) :
    wpAny (model X.prog X.w) X.A (do bindName X.env n .none; unbindBehindTheSuite X.env n qh) (fun _ z2 => SP X pins D way z2) X.xe z := by
  have gone : ∀ {σ2 : L2.St} {H2 : Hp} {R : Shared → Prop}, Inv (X.suite a ((a, oe) :: (X.pn ++ pins))) [] σ2 H2 z → (∀ z2, Inv X pins (σ2.set i none) H2 z2 → R z2) → wpAny (model X.prog X.w) X.A (do bindName X.env n .none; unbindBehindTheSuite X.env n qh) (fun _ z2 => R z2) X.xe z :=
    fun J r => gone_ok (J.unsuite ok) hN hi hln r
  match way, h with
  | .ret _, ⟨v, _, _, J, r, q⟩ => exact gone J fun _ J2 => ⟨v, _, _, J2, r, q⟩
  | .next, ⟨_, _, J, q⟩ => exact gone J fun _ J2 => ⟨_, _, J2, q⟩
  | .brk, ⟨_, _, J, q⟩ => exact gone J fun _ J2 => ⟨_, _, J2, q⟩
  | .cont, ⟨_, _, J, q⟩ => exact gone J fun _ J2 => ⟨_, _, J2, q⟩
theorem ps_try_as3 (frames : X.stack = X.env :: X.outer) (lives : X.env.frame = some X.env.locals) (hN : X.N.Nodup) (hi : X.N[i]? = some n) (hln : X.env.kindOf n = some .local) (N1 : Names X x1 c1) (N2 : Names X x2 c2) (N3 : Names X x3 c3) (tk : Takes X out)
    (runs : ∀ (W : WX) (pn : List (Addr × Obj)) (xe : Value → Shared → Prop), Takes (X.tr pn xe) W → PassesOwn (model X.prog X.w) X.A X.env xe → PSs (X.tr pn xe) body (tb W))
    (held : ∀ (a : Addr) (oe : Obj) (cls : Value) (d : Option Addr) (pn : List (Addr × Obj)), Zc cls d oe → (∃ vs, oe.data = .fields vs) → PSs (X.suite a ((a, oe) :: pn)) (b₀ :: suite) (ts a cls d)) :
    PS X (.Try body [.ExceptHandler (some (.Tuple [.Name x1 q1, .Name x2 q2, .Name x3 q3] kt qt)) (some n) (b₀ :: suite) qh] [] [] pos) (fun D σ H => tb (wAs3 X.K c1 c2 c3 i ts out D) D σ H) := by
  constructor
  intro pins z σ H D I h
  have ok := I.ok
  have ours : X.A.frames = some (X.env :: X.outer) := frames ▸ ok.frames
  have takes : Takes (X.tr (X.pn ++ pins) fun e z1 => wpAny (model X.prog X.w) X.A (noteFrame e X.env) (fun _ z2 => wpAny (model X.prog X.w) X.A (setFlight e none) (fun _ z3 =>
      wpAny (model X.prog X.w) X.A (handleBy e X.env [.ExceptHandler (some (.Tuple [.Name x1 q1, .Name x2 q2, .Name x3 q3] kt qt)) (some n) (b₀ :: suite) qh]) (SP X pins D) X.xe z3) X.xe z2) X.xe z1) (wAs3 X.K c1 c2 c3 i ts out D) := by
    rintro _ z1 ⟨a, B, z0, pins0, σ1, H1, cls, d, rfl, J0, base_, slots, sky, na, os, bare, b, hb, no, yes⟩
    have J : Inv X pins σ1 H1 z0 := J0.ofTry ok
    rw [← show X.stack = X.env :: X.outer from frames] at ours
    refine Sky.land Zc.steady (frames ▸ ours) lives (frames ▸ sky) fun h2 flies up2 => ?_
    have J2 : Inv X pins σ1 H1 { z1 with heap := h2 } := J.landed base_ flies.1 (slots.trans up2) os bare
    have apart : ∀ {hh : Heap}, HandSPX.FlyingZ B (X.env :: X.outer) a (Zc cls d) hh → a ∉ frs (X.env :: X.outer) := fun fl m => by
      obtain ⟨oe, vs, g, _, dt⟩ := fl.there
      obtain ⟨_, o, g2, no_⟩ := fl.2.2.1.mem m
      cases g.symm.trans g2
      exact no_ vs dt
    have nL : a ≠ X.env.locals := fun e => apart flies (List.mem_filterMap.mpr ⟨X.env, List.mem_cons_self, lives.trans (congrArg some e.symm)⟩)
    have nF : a ∉ X.fs := fun m => by
      obtain ⟨e, he, q⟩ := List.mem_filterMap.mp m
      exact apart flies (List.mem_filterMap.mpr ⟨e, List.mem_cons_of_mem _ he, q⟩)
    obtain ⟨oe, vs, stands, hz, dt⟩ := flies.there
    -- the clause's test
    have push : ∀ b o, h2.get? b = some o → (h2.push { cls := .type "tuple", data := .seq [c1, c2, c3].toArray }).get? b = some o := fun _ _ g => Heap.get?_push_of_some _ g
    have flies3 := flies_on push flies
    have up3 := slots.trans (up2.trans (Heap.UpToSlots.of_keeps push))
    have J3 : Inv X pins σ1 H1 { z1 with heap := h2.push { cls := .type "tuple", data := .seq [c1, c2, c3].toArray } } := J.landed base_ flies3.1 up3 os bare
    have kind : PySem.W.Looks (model X.prog X.w) (h2.push { cls := .type "tuple", data := .seq [c1, c2, c3].toArray }) (typeOf (.ref a)) cls := fun _ _ _ _ k q => wpAny_typeOf_ref (k _ _ (push _ _ stands)) (by rw [hz.1]; exact q)
    have asked := PySem.W.exm_tup3 (M := model X.prog X.w) J3.kIn kind (Heap.get?_push_size h2 rfl) hb
    refine wpAny_handleBy_cons (codeAny_handlers_test ?_) (fun q => by cases q)
    refine ld_three (X := X.suite a ((a, oe) :: (X.pn ++ pins))) (J2.suite stands dt na nL nF) N1 N2 N3 ?_
    refine asked.here ?_
    cases b with
    | false =>
      show wpAny _ X.A (handleBy (.ref a) X.env []) _ _ _
      refine wpAny_handleBy_nil ?_
      have on : wpAny (model X.prog X.w) X.A (setFlight (.ref a) X.env.frame) (fun _ z4 => wpAny (model X.prog X.w) X.A (throw (.ref a) : Sem Flow) (SP X pins D) X.xe z4) X.xe { z1 with heap := h2.push { cls := .type "tuple", data := .seq [c1, c2, c3].toArray } } := by
        rw [lives]
        exact HandSPX.setFlight_upZ flies3 fun h4 hh4 up4 => wpAny_throw (tk _ _ ⟨a, B, z0, pins, σ1, H1, cls, d, rfl, J, base_, up3.trans up4, .inr (.inr (frames ▸ hh4)), na, os, bare, no rfl⟩)
      obtain ⟨_, _, _, o5, v5, T, _, _, g5, _, d5, f5, _⟩ := id flies3
      unfold PySem.passOn
      refine wpAny_bind (wpAny_field g5 d5 f5 ?_)
      rw [if_neg (show ¬ ((Value.ref T == Value.none) = true) from fun q => by cases q)]
      first
        | exact wpAny_bind on
        | exact wpAny_bind (wpAny_pure (wpAny_bind on))
    | true =>
      refine codeAny_handlers_suite_as (HandSPX.lands_againZ flies3 fun h4 flies4 up4 => ?_)
      obtain ⟨o4, v4, g4, z4, d4⟩ := flies4.there
      have J4 : Inv X pins σ1 H1 { z1 with heap := h4 } := J.landed base_ flies4.1 (up3.trans up4) os bare
      refine store_ok (X := X.suite a ((a, o4) :: (X.pn ++ pins))) (v := .ref a) (J4.suite g4 d4 na nL nF) hN hi (.inl hln) rfl (fun z5 J5 => ?_) (.inr hln)
      exact wpAny_mono ((held a o4 cls d (X.pn ++ pins) z4 ⟨_, d4⟩).run [] z5 _ H1 _ J5 (yes rfl (by rw [J4.len]; exact (List.getElem?_eq_some_iff.mp hi).1) a na)) (fun way z6 done => suite_done ok hN hi hln done) fun _ _ never => never.elim
  refine wpAny_Try_except (wpAny_mono ((runs _ _ _ takes PassesOwn.looking).run [] z σ H D (I.toTry _) h) (fun way z1 done => ?_) fun _ _ e => e)
  match way, done with
  | .next, ⟨_, _, J, q⟩ => exact wpAny_execs_nil ⟨_, _, J.ofTry ok, q⟩
  | .ret _, ⟨v, _, _, J, r, q⟩ => exact ⟨v, _, _, J.ofTry ok, r, q⟩
  | .brk, ⟨_, _, J, q⟩ => exact ⟨_, _, J.ofTry ok, q⟩
  | .cont, ⟨_, _, J, q⟩ => exact ⟨_, _, J.ofTry ok, q⟩
end
end Rg

set_option Elab.async false
set_option linter.all false
set_option maxRecDepth 100000
set_option maxHeartbeats 4000000
/-! ### for i, x in enumerate(a tuple) -/
namespace EnT
open PySem PySem.Spec PyProof.Rows L2
abbrev itO (t : Addr) : Obj := { cls := .type "tuple_iterator", data := .fields #[.ref t, .int 0 0] }
abbrev enO (j : Addr) : Obj := { cls := .type "enumerate", data := .fields #[.none, .bool false, .ref j, rawInt 0, .none, .none] }
abbrev enH (h : Heap) (t : Addr) : Heap := (h.push (itO t)).push (enO h.objs.size)
theorem born (t : Addr) (items : Array Value) :
    Meets (Builtin.«enumerate.__new__» ⟨[.type "enumerate", .ref t], []⟩) (fun _ R z => z.heap.IsTuple t items ∧ R (.ok (.ret (.ref (z.heap.push (itO t)).objs.size))) { z with heap := enH z.heap t }) := by
  refine .of_wp fun prog w A R z hz => ?_
  obtain ⟨hh, gg, dd, tt, oo⟩ := z
  have below := sub_enumerate
  have begun : ∀ {A1 : Around} {E1 Q1 : Value → Shared → Prop}, Q1 (.ref hh.objs.size) ⟨hh.push (itO t), gg, dd, tt, oo⟩ → wpAny (model prog w) A1 (pyIter (.ref t)) Q1 E1 ⟨hh, gg, dd, tt, oo⟩ :=
    fun q1 => wpAny_pyIter_tuple (s := ⟨hh, gg, dd, tt, oo⟩) hz.1 q1
  wp_walk using begun
  refine wpAny_stack_any fun below_ => wpAny_pure ?_
  split
  · rename_i c _ _ _ _ _
    cases (c == Value.type "enumerate") <;> (wp_walk using begun) <;> exact ⟨_, rfl, hz.2⟩
  · wp_walk using begun
    exact ⟨_, rfl, hz.2⟩
theorem makes {prog : Program} {w : World} {B : Around} {Er : Value → Shared → Prop} {z : Shared} {t : Addr} {items : Array Value} {Q : Value → Shared → Prop} (ht : z.heap.IsTuple t items)
    (q : IsEnum (enH z.heap t) (z.heap.objs.size + 1) z.heap.objs.size 0 .none → (enH z.heap t).IsTupleIter z.heap.objs.size t 0 → (∀ b o, z.heap.get? b = some o → (enH z.heap t).get? b = some o) → Q (.ref (z.heap.objs.size + 1)) { z with heap := enH z.heap t }) :
    wpAny (model prog w) B (call (.type "enumerate") [.ref t]) Q Er z := by
  have size1 : (z.heap.push (itO t)).objs.size = z.heap.objs.size + 1 := Heap.size_push ..
  have isE : IsEnum (enH z.heap t) (z.heap.objs.size + 1) z.heap.objs.size 0 .none := by
    have e := Heap.get?_push_size (z.heap.push (itO t)) (o := enO z.heap.objs.size) rfl
    rw [size1] at e
    exact e
  refine callType_new F.called_enumerate (by decide) (F.typeCall_enumerate_1 _) (F.newCall_enumerate_1 _) (fun ob => F.args_object_init_2 ob _) F.entry_enumerate_new (born t items) ⟨ht, ?_⟩
  show _ ∧ _
  rw [size1]
  exact ⟨⟨_, isE, rfl⟩, q isE ⟨_, Heap.get?_push_of_some _ (Heap.get?_push_size _ rfl), rfl, rfl⟩ fun b o g => Heap.get?_push_of_some _ (Heap.get?_push_of_some _ g)⟩
/-- what such a walk gives: new pairs -/
def Iet (K : PySem.W.Frag) (a : Addr) : It where
  go := fun i H => ∃ (xs : List V) (x : V), SqT K H a xs ∧ xs[i]? = some x
  yld := fun i H v H' => ∃ T x, v = .ref T ∧ H T = none ∧ H' = upd H T (.tup [.int (i : Nat), x]) ∧ ∀ xs, SqT K H a xs → xs[i]? = some x
  stop := fun i H => ∃ xs : List V, SqT K H a xs ∧ xs.length ≤ i
theorem apart {h : Heap} {a e it : Addr} {items : Array Value} {i : Nat} {j : Int} {old : Value} (ht : h.IsTuple a items) (hi : h.IsTupleIter it a i) (he : IsEnum h e it j old) : a ≠ it ∧ e ≠ a := by
  obtain ⟨o, g, c, n, d⟩ := ht
  refine ⟨fun z => ?_, fun z => ?_⟩
  · obtain ⟨o2, g2, c2, d2⟩ := hi
    rw [← z, g] at g2
    obtain rfl := Option.some.inj g2
    rw [d] at d2
    cases d2
  · have g2 : h.get? e = _ := he
    rw [z, g] at g2
    obtain rfl := Option.some.inj g2
    cases d
theorem turns {P : Program} {w : World} {K : PySem.W.Frag} {elts : List Expr} {kk : Nat} {tp : Pos} (a e it : Addr) :
    Turn P w K (.Tuple elts kk tp) (Iet K a) [e, it] e (fun i h => (∃ old, IsEnum h e it ((i : Nat) : Int) old) ∧ h.IsTupleIter it a i ∧ e ≠ it) where
  mem := List.mem_cons_self
  obj := fun i h st b hb => by
    obtain ⟨⟨old, he⟩, ⟨o, g, _, d⟩, _⟩ := st
    rcases List.mem_cons.mp hb with rfl | hb
    · exact ⟨_, he, fun v z => nomatch z⟩
    · rw [List.mem_singleton.mp hb]
      refine ⟨o, g, fun v z => ?_⟩
      rw [d] at z
      cases z
  keep := fun i h h' st kp => by
    obtain ⟨⟨old, he⟩, hi, ne⟩ := st
    exact ⟨⟨old, kp e List.mem_cons_self _ he⟩, hi.at fun o g => kp it (by simp) o g, ne⟩
  item := by
    intro X eP eW eK calm i pins z σ H Er I free st more
    subst eP eW eK
    obtain ⟨⟨old, he⟩, hi, ne⟩ := st
    obtain ⟨xs, x, seq, hx⟩ := more
    obtain ⟨its, rel, tup, _⟩ := I.tuple seq
    obtain ⟨u, hu, ru⟩ := rel.get hx
    have ht : z.heap.IsTuple a its.toArray := tup
    obtain ⟨n1, n2⟩ := apart ht hi he
    have lt : i < its.toArray.size := by
      obtain ⟨lt, _⟩ := List.getElem?_eq_some_iff.mp hu
      simpa using lt
    have le : e < z.heap.objs.size := Heap.lt_size he
    have li : it < z.heap.objs.size := by
      obtain ⟨_, g, _⟩ := hi
      exact Heap.lt_size g
    refine wpAny_pyNext_enum_itemD (Draws.tuple (prog := X.prog) (w := X.w) (A := X.A.in1) (I.ok.hd calm) it a n1 its.toArray) he ⟨hi, ht⟩ lt ne (by simp [ne, n2]) fun v h1 tk1 hv out hi1 mk _ kp => ?_
    obtain rfl : u = v := Option.some.inj ((by simpa using hu : its.toArray[i]? = some u).symm.trans hv)
    refine ⟨_, rfl, wpAny_letOwnedTupleGo_enum (s := { z with heap := h1, toks := tk1 + 1 }) out fun h2 isE same => ?_⟩
    have mk2 := (same.2 z.heap.objs.size (Nat.ne_of_gt le)).trans mk
    have ok2 : ObjOk X.prog X.w (upd H z.heap.objs.size (.tup [.int (i : Nat), x])) h2 z.heap.objs.size (.tup [.int (i : Nat), x]) := ⟨(by decide : 2 ≤ sizeLine), [.int i tk1, u], .cons ⟨_, rfl⟩ (.cons ru .nil), ⟨_, mk2, rfl, _, rfl⟩⟩
    have J := I.turnedNew (t' := tk1 + 1) (ch := [e, it]) (h' := h2) (fun b o nb g => (same.2 b fun c => nb (c ▸ List.mem_cons_self)).trans (kp b o (fun c => nb (c ▸ List.mem_cons_self)) (fun c => nb (by simp [c])) g)) free (Nat.le_refl _) ok2
    refine ⟨_, _, J, show RelV (.ref z.heap.objs.size) _ from rfl, ⟨_, x, rfl, I.hok.fresh (Nat.le_refl _), rfl, fun ys hy => (I.tuple_inj hy seq) ▸ hx⟩, ⟨⟨u, ?_⟩, hi1.1.at fun o g => (same.2 it ne.symm).trans g, ne⟩, fun b hb => ?_⟩
    · rw [show ((i + 1 : Nat) : Int) = (i : Int) + 1 from Int.natCast_succ i]
      exact isE
    · have lb : b < z.heap.objs.size := (List.mem_cons.mp hb).elim (fun c => c ▸ le) fun hb => List.mem_singleton.mp hb ▸ li
      rw [upd_ne (Nat.ne_of_lt lb)]
      exact (free b hb).1
  done := by
    intro X eP eW eK calm i pins z σ H Er I free st over
    subst eP eW eK
    obtain ⟨⟨old, he⟩, hi, ne⟩ := st
    obtain ⟨xs, seq, hx⟩ := over
    obtain ⟨its, rel, tup, _⟩ := I.tuple seq
    have ht : z.heap.IsTuple a its.toArray := tup
    obtain ⟨n1, n2⟩ := apart ht hi he
    have len := rel.length
    obtain ⟨f0, f1, f2, f3, f4, f5⟩ := free it (by simp)
    have big : its.toArray[i]? = none := by
      simp only [List.getElem?_toArray, List.getElem?_eq_none_iff]
      omega
    have ends : ∀ (z2 : Shared) (Q2 : Value → Shared → Prop) (E2 : Value → Shared → Prop), z2.heap.IsTupleIter it a i ∧ z2.heap.IsTuple a its.toArray → (∀ h' e2, Heap.ExtBut it z2.heap h' → (∃ o, h'.get? e2 = some o ∧ o.cls = .type "StopIteration") → E2 (.ref e2) { z2 with heap := h' }) →
        wpAny (model X.prog X.w) X.A.in1 (Builtin.SmallTypes.nextOf (.ref it)) Q2 E2 z2 := fun z2 Q2 E2 st2 hE => wpAny_nextOf_tuple_end (I.ok.hd calm) st2.1 st2.2 big hE
    refine wpAny_pyNext_enum_endD (n := i) (P := fun _ _ => True) (St := fun j h => j = i ∧ h.IsTupleIter it a i ∧ h.IsTuple a its.toArray) (fp := [it, a]) ⟨?_, ?_, ?_, ?_⟩ he ⟨rfl, hi, ht⟩ fun h' same => ⟨rfl, I.turned (t' := z.toks) (fun b o nb g => same b o nb g) f0 f1 f3 f4 f5⟩
    · exact fun j h st2 => st2.2.1.elim fun o g => ⟨o, g.1⟩
    · exact fun j h h' st2 kp => ⟨st2.1, st2.2.1.at fun o g => kp it (by simp) o g, st2.2.2.at fun o g => kp a (by simp) o g⟩
    · exact fun j z2 Q2 E2 lt st2 _ => absurd lt (by rw [st2.1]; exact Nat.lt_irrefl _)
    · exact fun z2 Q2 E2 st2 hE => ends z2 Q2 E2 st2.2 hE
  self := fun A i z Q E st h => st.1.elim fun _ he => wpAny_pyIter_enum he h
end EnT
namespace Rg
open PySem L2 PySem.Spec PyProof.Rows
/-- enumerate of a list or of a tuple -/
def iEnX (K : PySem.W.Frag) (ta : TA) : TI := fun σ H R => ta σ H fun vs H1 => ∃ a xs, vs = [.ref a] ∧ ((SqL K H1 a xs ∧ R (Ite K a) H1) ∨ (SqT K H1 a xs ∧ R (EnT.Iet K a) H1))
theorem pi_enX {X : Cx} (K : PySem.W.Frag) {e : Expr} {ta : TA} {p pos tp : Pos} {elts : List Expr} {kk : Nat} (hg : Gl X "enumerate") (hm : X.mg "enumerate" = none) (ha : PA X [e] ta) (hK : X.K = K := by rfl) (hs : starEach [e] X.env = [(false, eval e X.env)] := by rfl) :
    PI X (.Tuple elts kk tp) (.Call (.Name "enumerate" p) [e] [] pos) (iEnX K ta) := by
  subst hK
  have old := fun (ta' : TA) (ha' : PA X [e] ta') => pi_enum (p := p) (pos := pos) (tpos := tp) (elts := elts) (kk := kk) hg hm ha' hs
  constructor
  intro pins z σ H R I h
  refine Call_ (ld_blt I hg hm boot_enumerate (PyProof.Rows.callWith_type1 (thn (ha.run pos pins z σ H _ I h) fun us z1 got => ?_) hs rfl))
  obtain ⟨vs, H1, I1, rel, a, xs, rfl, q⟩ := got
  match us, rel with
  | [_], .cons r .nil =>
  cases r
  rcases q with ⟨seq, q⟩ | ⟨seq, q⟩
  · obtain ⟨its, rv, lst, _⟩ := I1.list seq
    refine call_enumerate_list lst.isList fun h' isE isI size kp => wpAny_pyIter_enum isE ?_
    have J : Inv X pins σ H1 { z1 with heap := h' } := I1.kept (t' := z1.toks) kp
    refine ⟨_, _, _, _, H1, rfl, J, turn_enum a (z1.heap.objs.size + 1) z1.heap.objs.size, ⟨⟨.none, isE⟩, isI, Nat.succ_ne_self _⟩, fun b hb => ?_, q⟩
    have big : z1.heap.objs.size ≤ b := (List.mem_cons.mp hb).elim (fun c => c ▸ Nat.le_succ _) fun hb => List.mem_singleton.mp hb ▸ Nat.le_refl _
    exact I1.fpOk big (I1.hok.fresh big)
  · obtain ⟨its, rv, tup, _⟩ := I1.tuple seq
    refine EnT.makes (items := its.toArray) (show z1.heap.IsTuple a its.toArray from tup) fun isE isI kp => wpAny_pyIter_enum isE ?_
    have J : Inv X pins σ H1 { z1 with heap := EnT.enH z1.heap a } := I1.kept (t' := z1.toks) kp
    refine ⟨_, _, _, _, H1, rfl, J, EnT.turns a (z1.heap.objs.size + 1) z1.heap.objs.size, ⟨⟨.none, isE⟩, isI, Nat.succ_ne_self _⟩, fun b hb => ?_, q⟩
    have big : z1.heap.objs.size ≤ b := (List.mem_cons.mp hb).elim (fun c => c ▸ Nat.le_succ _) fun hb => List.mem_singleton.mp hb ▸ Nat.le_refl _
    exact I1.fpOk big (I1.hok.fresh big)
theorem walk_enT {K : PySem.W.Frag} {a : Addr} {xs : List V} : Walk (EnT.Iet K a) xs.length (fun H => SqT K H a xs) (YPair (fun i => some (.int (i : Nat))) (fun i => xs[i]?)) where
  goes := fun i H hi g => ⟨xs, xs[i], g, List.getElem?_eq_getElem hi⟩
  stops := fun H g => ⟨xs, g, Nat.le_refl _⟩
  yields := fun i H v H' hi g y => by
    obtain ⟨T, x, e1, e2, e3, e4⟩ := y
    exact ⟨T, .int (i : Nat), x, e1, e2, e3, rfl, e4 xs g⟩
theorem ie {K : PySem.W.Frag} {σ : L2.St} {H : Hp} {aa : TA} {R : It → Hp → Prop} (q : aa σ H fun vs H1 => ∃ a xs, vs = [.ref a] ∧ ((SqL K H1 a xs ∧ R (Ite K a) H1) ∨ (SqT K H1 a xs ∧ R (EnT.Iet K a) H1))) : iEnX K aa σ H R := q
/-! ### defs that may raise -/
structure CalR (P : Program) (w : World) (K : PySem.W.Frag) (mg : Str → Option Value) (base : Heap) (k : Nat) (x : Str) (sp : Sp) : Prop where
  ex : ∃ (f : Addr) (fd : FuncData) (ps : List Str), FnOk P w K mg base (L2.CX P w) k f fd ps sp ∧ mg x = some (.ref f) ∧ PySem.W.keepIn K (.ref f) = true ∧ Binds K fd ps []
structure CalRK (P : Program) (w : World) (K : PySem.W.Frag) (mg : Str → Option Value) (base : Heap) (k : Nat) (x : Str) (ks : List Str) (gV : List V → List V → List V) (sp : Sp) : Prop where
  ex : ∃ (f : Addr) (fd : FuncData) (ps : List Str) (g : List Value → List Value → List Value), FnOk P w K mg base (L2.CX P w) k f fd ps sp ∧ mg x = some (.ref f) ∧ PySem.W.keepIn K (.ref f) = true ∧ KBinds K fd ps ks g gV
def tCR (sp : Sp) (W : WX) (t : TA) : TE := fun σ H Q => t σ H fun vs H1 => sp vs H1 Q fun cls d H2 => W cls d σ H2
def tCRK (sp : Sp) (gV : List V → List V → List V) (E : XK) (tk : TA) : TE := fun σ H Q => tk σ H fun zs H1 => sp (gV [] zs) H1 Q E
section
variable {X : Cx} {k j : Nat} {x : Str} {sp : Sp} {p pos : Pos} {e : Expr} {es : List Expr} {t tk : TA} {ks : List Str} {gV : List V → List V → List V} {kws : List Keyword} {W : WX} {E : XK}
theorem pe_cR (tk : Takes X W) (c : CalR X.prog X.w X.K X.mg X.base k x sp) (hr : Room j X.A) (hk : k ≤ j) (hg : Gl X x) (ha : PA X (e :: es) t) (hdb : (x == ("__debug__" : Str)) = false := by decide)
    (he : starEach (e :: es) X.env = (false, eval e X.env) :: starEach es X.env := by rfl) (hpl : (backTo pos (starEach es X.env)).any (·.1) = false := by rfl) : PE X (.Call (.Name x p) (e :: es) [] pos) (tCR sp W t) := by
  obtain ⟨f, fd, ps, F, hm, hkp, hb⟩ := c.ex
  exact pe_callS (E := WE W) F (hr.mono hk) hg hm hkp hb (fun σ => passAt tk σ) ha hdb he hpl
theorem pe_cRK (hx : Passes (L2.CX X.prog X.w) X E) (c : CalRK X.prog X.w X.K X.mg X.base k x ks gV sp) (hr : Room j X.A) (hk : k ≤ j) (hg : Gl X x) (hkw : PK X kws tk) (hall : (backToKw pos (keywordEach kws X.env)).all (·.1.isSome) = true := by rfl) (hks : (backToKw pos (keywordEach kws X.env)).filterMap (·.1) = ks := by rfl)
    (hdb : (x == ("__debug__" : Str)) = false := by decide)
    (hpl : ((backTo pos (starEach [] X.env)).any (·.1) || (backToKw pos (keywordEach kws X.env)).any (·.1.isNone)) = false := by rfl) : PE X (.Call (.Name x p) [] kws pos) (tCRK sp gV E tk) := by
  obtain ⟨f, fd, ps, g, F, hm, hkp, hb⟩ := c.ex
  constructor
  intro pins z σ H Q I h
  refine wpAny_Call_Name_kw (ld_glob I hg hm ?_ hdb)
  refine PySem.W.callWith_KW0 (h₀ := X.base) I.ok.mod.kin hkp hall ?_ hpl
  refine thn (hkw.run pos pins z σ H _ I h) fun ws z2 got => ?_
  obtain ⟨zs, H2, I2, rz, q2⟩ := got
  refine ⟨I2.kIn, ?_⟩
  rw [hks]
  exact run_fnk (us := []) (vs := []) F (hr.mono hk) hb hx I2 .nil rz q2
end
/-! ### raise C(..), C an own class over ValueError with its own __init__ -/
/-- what is known of such a class -/
structure ErrC (P : Program) (w : World) (K : PySem.W.Frag) (mg : Str → Option Value) (base : Heap) (x : Str) (C : Addr) (n : Nat) (sp : Sp) : Prop where
  T : OexC K C
  gC : mg x = some (.ref C)
  i : ∃ (fI : Addr) (fd : FuncData) (ps : List Str), PySem.W.findIn K (.ref C) "__init__" = some (some (.ref fI)) ∧ PySem.W.typeIn K (.ref fI) = some (.type "function") ∧ FnOk P w K mg base CX0 1 fI fd ps sp ∧ Binds K fd ps []
theorem pass00 {X : Cx} : Passes CX0 X (fun _ _ _ => False) := fun _ _ _ _ _ _ _ h => h.elim
def tRaise (C : Addr) (sp : Sp) (E : XK) (ta : TA) : TS := fun _ σ H => tMkO C sp [] ta σ H E
section
variable {X : Cx} {x : Str} {C : Addr} {n j : Nat} {sp : Sp} {p pos pos2 : Pos} {e : Expr} {es : List Expr} {ta : TA} {E : XK}
theorem ps_rz (hc : X.calm = true) (tk : Takes X fun cls d _ H => E cls d H) (c : ErrC X.prog X.w X.K X.mg X.base x C n sp) (hr : Room j X.A) (hj : 2 ≤ j) (hg : Gl X x) (ha : PA X (e :: es) ta)
    (hdb : (x == ("__debug__" : Str)) = false := by decide) (he : starEach (e :: es) X.env = (false, eval e X.env) :: starEach es X.env := by rfl) (hpl : (backTo pos (starEach es X.env)).any (·.1) = false := by rfl) :
    PS X (.Raise (some (.Call (.Name x p) (e :: es) [] pos)) none pos2) (tRaise C sp E ta) := by
  obtain ⟨fI, fd, ps, iC, tI, F, hb⟩ := c.i
  exact ps_raise hc tk (pmk_oex (dvs := []) (ds := []) c.T iC tI F (hr.mono hj) hb .nil pass00 hg c.gC ha hdb he hpl)
end
theorem rz {C : Addr} {sp : Sp} {E : XK} {ta : TA} {D : Ends} {σ : L2.St} {H : Hp} (q : ta σ H fun vs H1 => vs.length ≤ 1000 ∧ ∀ a, H1 a = none → sp (.ref a :: vs) (upd H1 a (exo a C none))
    (fun v H2 => v = .non ∧ ∃ (d : Addr) (fs : List (Str × V)), H2 a = some (exo a C (some d)) ∧ H2 d = some (exd d fs) ∧ H1 d = none ∧ E (.ref C) (some d) (upd (del H2 a) d (.xd fs))) (fun _ _ _ => False)) : tRaise C sp E ta D σ H := by
  show ta σ H _
  simp only [List.append_nil]
  exact q
/-- __init__(self, v): self.code = code; self.f = v -/
def spIni (K : PySem.W.Frag) (code fld : Str) : Sp := fun vs H Q _ => ∃ (a C : Addr) (v : V), vs = [.ref a, v] ∧ OexC K C ∧ PySem.W.findIn K (.ref C) "code" = some none ∧ PySem.W.findIn K (.ref C) fld = some none ∧ H a = some (exo a C none) ∧
  ∀ d H', H d = none → d ≠ a → H' a = some (exo a C (some d)) → H' d = some (exd d [(fld, v), (("code" : Str), V.str code)]) → (∀ b o, H b = some o → b ≠ a → H' b = some o) → Q .non H'
theorem ost {K : PySem.W.Frag} {f : Str} {to te : TE} {D : Ends} {σ : L2.St} {H : Hp} (q : te σ H fun y H1 => to σ H1 fun x H2 => ∃ a C : Addr, x = .ref a ∧ OexC K C ∧ PySem.W.findIn K (.ref C) f = some none ∧
  ((H2 a = some (exo a C none) ∧ ∀ dx, H2 dx = none → dx ≠ a → D.nx σ (upd (upd H2 dx (exd dx [(f, y)])) a (exo a C (some dx)))) ∨
    ∃ (dx : Addr) (fs : List (Str × V)), H2 a = some (exo a C (some dx)) ∧ H2 dx = some (exd dx fs) ∧ fs.length ≤ 900 ∧ D.nx σ (upd H2 dx (exd dx ((f, y) :: fs))))) : tOst K f to te D σ H := q
section
variable {P : Program} {w : World} {K : PySem.W.Frag} {mg : Str → Option Value} {base : Heap}
theorem ok_ini {qual code fld : Str} {st : Stmt} {f : Addr} {fd : FuncData} (F : Fun K "__init__" qual st f fd) (S : FnScope ["self", fld] ["self", fld] (defScope st))
    (hb : ∀ (cdv : Value) (A : Around) (outer : List Env) (s : Shared) (H : Hp) (E : XK), PSs (cxOf CX0 P w K mg base ["self", fld] qual (defScope st) f cdv A outer s H E).nox (defBody st) (tSeq (tOst K "code" (tVar 0) (tC (.str code))) (tOst K fld (tVar 0) (tVar 1)))) :
    FnOk P w K mg base CX0 1 f fd ["self", fld] (spIni K code fld) := by
  refine F.ok S (fun vs H Q E h => ?_) (fun cdv A outer s H vs Q E hr h => ?_)
  · obtain ⟨a, C, v, rfl, _⟩ := h
    rfl
  · obtain ⟨a, C, v, rfl, T, n1, n2, ha, q⟩ := h
    refine ⟨_, hb cdv A outer s H E, ?_⟩
    refine ⟨.ref a, rfl, a, C, rfl, T, n1, .inl ⟨ha, fun dx nd ne => ?_⟩⟩
    refine ⟨v, rfl, .ref a, rfl, a, C, rfl, T, n2, .inr ⟨dx, [(("code" : Str), V.str code)], upd_same, ?_, Nat.le_of_ble_eq_true rfl, ?_⟩⟩
    · rw [upd_ne ne, upd_same]
    · refine q dx _ nd ne ?_ upd_same fun b o hbo nba => ?_
      · rw [upd_ne ne.symm, upd_same]
      · rw [upd_ne (ne_of_none hbo nd), upd_ne nba, upd_ne (ne_of_none hbo nd)]
        exact hbo
end
end Rg
/-! ### the end where the law makes lambdas: its table of code objects -/
namespace Rg
open PySem PySem.Spec PyProof.Rows L2
theorem tabIn_mk {K : PySem.W.Frag} {x : Str} {f c P : Addr} {o1 o2 o3 : Option Addr} {v1 v2 : Value} {fd : FuncData} {vs : Array Value} {s1 s2 : Array (Option Value)} (a : PySem.W.nsIn K mainGlobals x = some (some (.ref f))) (l : K.lookup f = some ⟨v1, o1, .func fd, s1⟩) (hc : fd.code = .ref c)
    (lc : K.lookup c = some ⟨v2, o2, .fields vs, s2⟩) (e : vs[11]? = some (.ref P)) : PySem.W.tabIn K x = some (c, P) := by
  unfold PySem.W.tabIn
  simp only [a, l, hc, lc, e]
theorem noTab {K : PySem.W.Frag} {h : Heap} {P : Addr} {ps : Array Value} (X : K.In h) (nt : PySem.W.noTabs K = true) (hP : h.get? P = some { cls := .none, data := .fields ps }) : K.lookup P = none := by
  cases e : K.lookup P with
  | none => rfl
  | some o =>
    have e2 := X P o e
    rw [hP] at e2
    obtain rfl := Option.some.inj e2
    exact absurd (List.all_eq_true.mp nt _ (PySem.W.mem_of_lookupK e)) Bool.false_ne_true
theorem walk_tab {l : PySem.W.OpenLaw} {n k : Nat} {q : Program} {loose : List Str} {XP : (Str → Option Value) → Heap → Prop} {YP : World → Heap → Prop} {d : DefRec} {K : Params → PySem.W.Frag} {x : Str} {sp : World → Addr → Sp}
    (hn : l.most = some n) (hn2 : n ≤ sizeLine) (hdf : d.params.defaults = []) (room : Room k callerA) (hY : ∀ (w : World) (h : Heap), YP w h → (K w.params).In h) (law : d.name = "law") (found : (recsOf q).find? (fun e => e.name == ("law" : Str)) = some d)
    (F : ∀ (w : World) (mg : Str → Option Value) (fa : Addr) (h : Heap), (K w.params).In h → h.Ns mainGlobals mg → mg "law" = some (.ref fa) →
      ∃ (fd : FuncData) (c P : Addr), PySem.W.tabIn (K w.params) "law" = some (c, P) ∧ PySem.W.noTabs (K w.params) = true ∧ (∀ (s : Shared) (u : Value), BindsTo s fd ⟨[u], []⟩ [(x, u)]) ∧
        ∀ base : Heap, (K w.params).In base → base.Ns mainGlobals mg → LamX.TabB base mg c P → FnOk l.prog w (K w.params) mg base CX0 k fa fd [x] (sp w P))
    (S : ∀ (w : World) (H : Hp) (P a : Addr) (ns : List Int), ns.length ≤ n → H P = some (.tbl #[]) → SqL (K w.params) H a (ns.map V.int) → sp w P [.ref a] H (fun v _ => v = .bl true) fun _ _ _ => False) :
    PySem.W.WalkO q loose XP YP l.row.toRowW d [] (fun f vs => PySem.call f vs) := by
  refine Att.attach_callB hn hdf fun w z0 z mg mb fa o pm cd doc a vs ns ground Y ho hd hcd hmg hobj hints hlen hbits hg => ?_
  have KX := hY w _ Y
  rw [law] at hmg
  obtain ⟨fd, c, P, tab, nt, bind, prom⟩ := F w mg fa _ KX ground.T.g hmg
  obtain ⟨code, obj⟩ := PySem.W.tab_of ground.T KX found tab
  exact LamX.law_callTs (cs := [(c, P)]) KX ground.T.g ground.T.b ground.T.builtins ground.T.nolimit hg (fun p hp => List.mem_singleton.mp hp ▸ obj) (fun p hp => List.mem_singleton.mp hp ▸ noTab KX nt obj) (fun p hp => List.mem_singleton.mp hp ▸ code) ground.T.bmain hobj hints
    (Nat.le_trans hlen hn2) room (fun base h1 h2 h3 => prom base h1 h2 (h3 (c, P) (List.mem_singleton.mpr rfl))) bind (fun H hH hS => S w H P a ns hlen (hH (c, P) (List.mem_singleton.mpr rfl)) hS) fun _ _ _ z => z
/-! which clause an error meets -/
theorem exm1 {K : PySem.W.Frag} {cls : Value} {c : Addr} {b : Bool} (h1 : PySem.W.subIn K (.ref c) (.type "BaseException") = some true) (h2 : PySem.W.isClsIn K c = true) (h3 : PySem.W.typeIn K (.ref c) = some (.type "type")) (h4 : PySem.W.subIn K cls (.ref c) = some b) :
    PySem.W.exmOne K cls (.ref c) = some b := by
  have e1 : (PySem.W.subIn K (.ref c) (.type "BaseException") == some true) = true := by rw [h1]; rfl
  have e2 : ((PySem.W.clsIn K c).isSome && PySem.W.typeIn K (.ref c) == some (.type "type")) = true := by
    rw [show (PySem.W.clsIn K c).isSome = true from h2, h3]
    rfl
  unfold PySem.W.exmOne
  rw [if_pos e1]
  show (if _ = true then _ else _) = _
  rw [if_pos e2]
  exact h4
theorem exm3 {K : PySem.W.Frag} {cls c1 c2 c3 : Value} {b1 b2 b3 : Bool} (h1 : PySem.W.exmOne K cls c1 = some b1) (h2 : PySem.W.exmOne K cls c2 = some b2) (h3 : PySem.W.exmOne K cls c3 = some b3) : PySem.W.exmAny K cls [c1, c2, c3] = some (b1 || (b2 || (b3 || false))) := by
  simp only [PySem.W.exmAny, h1, h2, h3]
theorem Tabs.but {T : List (Addr × Str)} {H H' : Hp} {b : Addr} {l : List V} (t : LamX.Tabs T H) (s : But b H H') (hb : H b = some (.lst l)) : LamX.Tabs T H' := by
  intro p hp
  obtain ⟨ps, h1, h2, h3⟩ := t p hp
  refine ⟨ps, s _ _ h1 (fun z => by rw [z, hb] at h1; cases h1), h2, fun pos cv hc => ?_⟩
  obtain ⟨c, e1, e2⟩ := h3 pos cv hc
  refine ⟨c, e1, s _ _ e2 fun z => ?_⟩
  rw [z, hb] at e2
  have e3 : HO.ext _ = HO.lst l := (Option.some.inj e2).symm
  cases e3
end Rg
namespace Rg
open PySem L2
theorem addT {K : PySem.W.Frag} {a p : Addr} {xs ys : List V} {H : Hp} {Q : VK} (h1 : H a = some (.tup xs)) (h2 : H p = some (.tup ys)) (h : xs.length + ys.length ≤ sizeLine) (q : ∀ r H', Same H H' → H' r = some (.tup (xs ++ ys)) → Q (.ref r) H') : rAddX K (.ref a) (.ref p) H Q := by
  refine .inr (.inr (.inr ⟨a, p, xs, ys, rfl, rfl, SqT.of h1, SqT.of h2, h, fun e => ?_, fun _ e => ?_, fun _ _ r n => q r _ (same_upd n) upd_same⟩))
  · exact q p H (Same.refl H) (by rw [e]; exact h2)
  · exact q a H (Same.refl H) (by rw [e, List.append_nil]; exact h1)
theorem cut_all {xs : List V} {lo hi : Option Int} (h : HT.sIx xs.length 0 lo = 0 ∧ HT.sIx xs.length xs.length hi = xs.length) : cutV xs lo hi = xs := by
  unfold cutV
  rw [h.1, h.2, List.drop_zero, Nat.sub_zero, List.take_length]
theorem slTX {K : PySem.W.Frag} {a : Addr} {xs : List V} {lo hi : Option Int} {H : Hp} {Q : VK} (h : H a = some (.tup xs)) (q : ∀ r H', Same H H' → H' r = some (.tup (cutV xs lo hi)) → Q (.ref r) H') : rSlX K (.ref a) lo hi H Q :=
  slT (SqT.of h) (fun e => q a H (Same.refl H) (by rw [cut_all e]; exact h)) fun _ r n => q r _ (same_upd n) upd_same
theorem cutV_take {xs : List V} {i : Nat} (h : i ≤ xs.length) : cutV xs none (some (i : Int)) = xs.take i := by
  unfold cutV
  show ((xs.drop 0).take (HT.sIx xs.length xs.length (some (i : Int)) - 0)) = _
  rw [List.drop_zero, Nat.sub_zero]
  congr 1
  unfold HT.sIx
  simp
  rw [if_neg (show ¬ ((i : Int) < 0) by omega)]
  omega
theorem cutV_drop {xs : List V} {i : Nat} (h : i ≤ xs.length) : cutV xs (some (i : Int)) none = xs.drop i := by
  unfold cutV
  have e : HT.sIx xs.length 0 (some (i : Int)) = i := by
    unfold HT.sIx
    simp
    rw [if_neg (show ¬ ((i : Int) < 0) by omega)]
    omega
  show ((xs.drop (HT.sIx xs.length 0 (some (i : Int)))).take (xs.length - HT.sIx xs.length 0 (some (i : Int)))) = _
  rw [e]
  exact List.take_of_length_le (by rw [List.length_drop]; exact Nat.le_refl _)
end Rg
namespace Rg
open PySem L2
theorem crR {sp : Sp} {W : WX} {t : TA} {σ : L2.St} {H : Hp} {Q : VK} (q : t σ H fun vs H1 => sp vs H1 Q fun cls d H2 => W cls d σ H2) : tCR sp W t σ H Q := q
theorem crK {sp : Sp} {gV : List V → List V → List V} {E : XK} {tk : TA} {σ : L2.St} {H : Hp} {Q : VK} (q : tk σ H fun zs H1 => sp (gV [] zs) H1 Q E) : tCRK sp gV E tk σ H Q := q
end Rg

set_option Elab.async false
set_option linter.all false
set_option maxRecDepth 100000
set_option maxHeartbeats 4000000
/-! ### lambdas as values: lists of lambda: e and lambda x=i: e, handed to a def that calls them -/
namespace LamV
open PySem PySem.Spec PyProof.Rows L2 LamX
/-- a lambda value: its text, the closure, its code object, the tuple of its defaults -/
structure LK where
  qual : Str
  params : Arguments
  body : Expr
  scope : Scope
  clo : List (Str × Addr)
  code : Addr
  dflt : Option Addr
/-- the value of its defaults -/
def dvOf : Option Addr → Value
  | none => .none
  | some t => .ref t
def LamO (f : Addr) (F : LK) : HO := .ext fun h => ∃ doc pm ctv : Value, h.get? f = some (PySem.W.kdv_obj "<lambda>" F.qual F.params (.expr F.body) F.scope F.clo (dvOf F.dflt) doc pm F.code ctv)
theorem lamO_ok {P : Program} {w : World} {H : Hp} {h : Heap} {f : Addr} {F : LK} {doc pm ctv : Value} (g : h.get? f = some (PySem.W.kdv_obj "<lambda>" F.qual F.params (.expr F.body) F.scope F.clo (dvOf F.dflt) doc pm F.code ctv)) : ObjOk P w H h f (LamO f F) :=
  ⟨⟨doc, pm, ctv, g⟩, ⟨_, g⟩, fun _ _ ⟨doc, pm, ctv, g⟩ k => ⟨doc, pm, ctv, k _ g⟩⟩
theorem lamO_tbl {f : Addr} {F : LK} (ps : Array Value) : LamO f F ≠ .tbl ps := fun z => by
  unfold LamO at z
  cases z
/-- the names of a lambda: captured ones, globals, and parameters that no slot of the maker bears -/
structure LamN (N : List Str) (sc scope : Scope) (ps : List Str) : Prop where
  kind : scope.kind = .function
  co : scope.isCoroutine = false
  gen : scope.isGenerator = false
  cell : ∀ y ∈ scope.names, y.2 ≠ .cell
  own : ∀ y ∈ scope.names, y.2 = .local → y.1 ∉ N
  free : ∀ y ∈ scope.names, y.2 = .free → sc.names.lookup y.1 = some .cell ∨ sc.names.lookup y.1 = some .free
  par : ∀ p ∈ ps, scope.names.lookup p = some .local
def lamNB (N : List Str) (sc scope : Scope) (ps : List Str) : Bool :=
  decide (scope.kind = .function) && (!scope.isCoroutine && (!scope.isGenerator && (scope.names.all (fun y => !decide (y.2 = .cell) && ((!decide (y.2 = .local) || !decide (y.1 ∈ N)) && (!decide (y.2 = .free) || (decide (sc.names.lookup y.1 = some .cell) || decide (sc.names.lookup y.1 = some .free))))) &&
    ps.all fun p => decide (scope.names.lookup p = some .local))))
theorem lamN_by {N : List Str} {sc scope : Scope} {ps : List Str} (h : lamNB N sc scope ps = true) : LamN N sc scope ps := by
  unfold lamNB at h
  simp only [Bool.and_eq_true, Bool.or_eq_true, Bool.not_eq_true', decide_eq_true_eq, decide_eq_false_iff_not, List.all_eq_true] at h
  obtain ⟨h1, h2, h3, h4, h5⟩ := h
  exact ⟨h1, h2, h3, fun y m => (h4 y m).1, fun y m e => (h4 y m).2.1.resolve_left fun z => z e, fun y m e => (h4 y m).2.2.resolve_left fun z => z e, h5⟩
section
variable {X : Cx} {pins : List (Addr × Obj)} {σ : L2.St} {H HZ : Hp} {s s1 : Shared}
theorem LamN.has {scope : Scope} {ps : List Str} (L : LamN X.N X.env.scope scope ps) (ok : X.Ok) (y : Str × NameKind) (m : y ∈ scope.names) (e : y.2 = .free) : ∃ c, X.env.cells.lookup y.1 = some c :=
  (L.free y m e).elim (fun k => ok.has _ (.inl k)) fun k => ok.has _ (.inr k)
/-- the tail of the making: the function's object -/
theorem tail_ok {T : List (Addr × Str)} {c P : Addr} {params : Arguments} {body : Expr} {scope : Scope} {pos : Pos} {E : Value → Shared → Prop} {Q : Value → Shared → Prop} {d : Option Addr} (I : Inv X pins σ H s) (TB : TabB X.base X.mg c P) (hcode : X.env.code = .ref c)
    (mem : (P, X.env.qual ++ "<lambda>") ∈ T) (one : ∀ p ∈ T, p.1 = P → p.2 = X.env.qual ++ "<lambda>") (hT : Tabs T H) (free : ∀ y ∈ scope.names, y.2 = .free → ∃ c, X.env.cells.lookup y.1 = some c)
    (h : ∀ (f c' : Addr) (H1 : Hp) (z : Shared), Inv X pins σ H1 z → ExtN H H1 → Tabs T H1 → H f = none → H1 c' = some (CodeO c' (X.env.qual ++ "<lambda>")) → H1 f = some (LamO f ⟨X.env.qual ++ "<lambda>", params, body, scope, cloFrom X.env.cells scope.names [], c', d⟩) → Q (.ref f) z) :
    wpAny (model X.prog X.w) X.A (makeTail "<lambda>" (X.env.qual ++ "<lambda>") params (.expr body) scope X.env (dvOf d) .none none pos pos.line) Q E s := by
  obtain ⟨ps, hP, trip, all⟩ := hT _ mem
  have bP : s.heap.BuiltinsAt X.mg P := TB.bm.keeps I.bk
  have tabP : s.heap.get? P = some { cls := .none, data := .fields ps } := I.hok P _ hP
  cases found : codeAmong pos ps.toList with
  | none =>
    refine PySem.W.kdv_makeTail (mg := X.mg) (c := c) (P := P) (ps := ps) (closure_ok free) I.ok.glob (I.mod.glob.keeps I.bk) hcode (TB.code.keeps I.bk) tabP trip found TB.gP bP fun c' ctv doc h' tk same big less rec_ grown => ?_
    obtain ⟨c2, oc, vs, t, e2, goc, dat, nam⟩ := rec_
    cases e2
    have fresh : H c' = none := I.hok.fresh big
    have sizes : s.heap.objs.size ≤ h'.objs.size := Nat.le_trans big (Nat.le_of_lt less)
    have J := inv_table (t' := tk) (q := X.env.qual ++ "<lambda>") (more := #[rawInt pos.line, rawInt pos.col, .ref c']) (h' := h') I hP (fun b o nb g => same b o nb g) grown big ⟨oc, vs, t, goc, dat, nam⟩
    have nPc : P ≠ c' := ne_of_none hP fresh
    have grow : ExtN H (upd (upd H P (.tbl (ps ++ #[rawInt pos.line, rawInt pos.col, .ref c']))) c' (CodeO c' (X.env.qual ++ "<lambda>"))) := fun b o g notab => by
      rw [upd_ne (ne_of_none g fresh), upd_ne fun z => notab ps (Option.some.inj (g.symm.trans (by rw [z]; exact hP)))]
      exact g
    have atC : upd (upd H P (.tbl (ps ++ #[rawInt pos.line, rawInt pos.col, .ref c']))) c' (CodeO c' (X.env.qual ++ "<lambda>")) c' = some (CodeO c' (X.env.qual ++ "<lambda>")) := upd_same
    have atP : upd (upd H P (.tbl (ps ++ #[rawInt pos.line, rawInt pos.col, .ref c']))) c' (CodeO c' (X.env.qual ++ "<lambda>")) P = some (.tbl (ps ++ #[rawInt pos.line, rawInt pos.col, .ref c'])) := by
      rw [upd_ne nPc, upd_same]
    have others : ∀ b, b ≠ P → b ≠ c' → upd (upd H P (.tbl (ps ++ #[rawInt pos.line, rawInt pos.col, .ref c']))) c' (CodeO c' (X.env.qual ++ "<lambda>")) b = H b := fun b n1 n2 => by rw [upd_ne n2, upd_ne n1]
    have freeF : H h'.objs.size = none := I.hok.fresh sizes
    have freeF2 := J.hok.fresh (Nat.le_refl h'.objs.size)
    generalize upd (upd H P (.tbl (ps ++ #[rawInt pos.line, rawInt pos.col, .ref c']))) c' (CodeO c' (X.env.qual ++ "<lambda>")) = H1 at J grow atC atP others freeF2
    have gF : (h'.push (PySem.W.kdv_obj "<lambda>" (X.env.qual ++ "<lambda>") params (.expr body) scope (cloFrom X.env.cells scope.names []) (dvOf d) doc ((X.mg "__name__").getD .none) c' ctv)).get? h'.objs.size = some _ := Heap.get?_push_size _ rfl
    have J2 := J.laid (t' := tk) (a := h'.objs.size) (o := LamO h'.objs.size ⟨X.env.qual ++ "<lambda>", params, body, scope, cloFrom X.env.cells scope.names [], c', d⟩) (fun b o g => Heap.get?_push_of_some _ g) (Nat.le_refl _) (lamO_ok gF)
    have sm := Rg.same_upd (o := LamO h'.objs.size ⟨X.env.qual ++ "<lambda>", params, body, scope, cloFrom X.env.cells scope.names [], c', d⟩) freeF2
    refine h h'.objs.size c' _ _ J2 (grow.trans (ExtN.of sm)) (fun p hp => ?_) freeF (sm _ _ atC) upd_same
    by_cases hb : p.1 = P
    · rw [one p hp hb, hb]
      refine TabS.ext ⟨_, atP, ?_, fun p' cv hc => ?_⟩ sm
      · rw [show (ps ++ #[rawInt pos.line, rawInt pos.col, Value.ref c']).toList = ps.toList ++ [rawInt pos.line, rawInt pos.col, .ref c'] by simp]
        exact PySem.TriplesOk_snoc _ _ _ _ trip
      · rw [show (ps ++ #[rawInt pos.line, rawInt pos.col, Value.ref c']).toList = ps.toList ++ [rawInt pos.line, rawInt pos.col, .ref c'] by simp] at hc
        rcases among_app _ trip hc with z | z
        · obtain ⟨c0, e1, e2⟩ := all p' cv z
          exact ⟨c0, e1, grow _ _ e2 codeO_ne⟩
        · exact ⟨c', z, atC⟩
    · obtain ⟨ps', a1, a2, a3⟩ := hT p hp
      refine TabS.ext ⟨ps', by rw [others _ hb (ne_of_none a1 fresh)]; exact a1, a2, fun p' cv hc => ?_⟩ sm
      obtain ⟨c0, e1, e2⟩ := a3 p' cv hc
      exact ⟨c0, e1, grow _ _ e2 codeO_ne⟩
  | some cv =>
    obtain ⟨c', rfl, atC⟩ := all pos cv found
    refine PySem.W.kdv_makeTailHit (mg := X.mg) (c := c) (P := P) (ps := ps) (closure_ok free) I.ok.glob (I.mod.glob.keeps I.bk) hcode (TB.code.keeps I.bk) tabP trip found bP fun ctv doc h' tk same sizes => ?_
    have J : Inv X pins σ H { s with heap := h', toks := tk } := I.kept same
    have freeF := J.hok.fresh (Nat.le_refl h'.objs.size)
    have gF : (h'.push (PySem.W.kdv_obj "<lambda>" (X.env.qual ++ "<lambda>") params (.expr body) scope (cloFrom X.env.cells scope.names []) (dvOf d) doc ((X.mg "__name__").getD .none) c' ctv)).get? h'.objs.size = some _ := Heap.get?_push_size _ rfl
    have J2 := J.laid (t' := tk) (a := h'.objs.size) (o := LamO h'.objs.size ⟨X.env.qual ++ "<lambda>", params, body, scope, cloFrom X.env.cells scope.names [], c', d⟩) (fun b o g => Heap.get?_push_of_some _ g) (Nat.le_refl _) (lamO_ok gF)
    have sm := Rg.same_upd (o := LamO h'.objs.size ⟨X.env.qual ++ "<lambda>", params, body, scope, cloFrom X.env.cells scope.names [], c', d⟩) freeF
    exact h h'.objs.size c' _ _ J2 (ExtN.of sm) (hT.ext sm) freeF (sm _ _ atC) upd_same
end
section
variable {X : Cx} {pins : List (Addr × Obj)} {σ : L2.St} {H HZ : Hp} {s s1 : Shared}
/-- the lambda's frame is laid: its body's context -/
theorem begun {A : Around} {outer : List Env} {E : XK} {scope : Scope} {ps : List Str} {f c' : Addr} {g : Heap} {tk : Nat} {m : Str → Option Value} (I : Inv X pins σ H s) (L : LamN X.N X.env.scope scope ps) (e0 : Env0 X.prog X.w X.K X.mg X.base A outer s1 HZ) (calm : A.handled = none)
    (since : Un (frs X.stack) [] H HZ s.heap s1.heap) (frame : g.Ns s1.heap.objs.size m) (kept : ∀ b o, s1.heap.get? b = some o → g.get? b = some o) : Inv (lamCx X A outer s1 HZ E scope f c') [] σ HZ { s1 with heap := g, toks := tk } := by
  have back : ∀ {y : Str} {c : Addr}, (cloFrom X.env.cells scope.names []).lookup y = some c → X.env.cells.lookup y = some c := by
    intro y c e
    rcases cloFrom_mem (PySem.mem_of_lookup e) with z | ⟨z1, z2⟩
    · cases z
    · obtain ⟨c1, e1⟩ := L.has I.ok _ z1 rfl
      have e1 : X.env.cells.lookup y = some c1 := e1
      rw [e1] at z2
      rw [show c = c1 from z2]
      exact e1
  have forth : ∀ {y : Str}, scope.names.lookup y = some .free → ∃ c, (cloFrom X.env.cells scope.names []).lookup y = some c := fun {y} e => mem_lookup (cloFrom_has (cells := X.env.cells) (acc := []) (show (y, NameKind.free) ∈ scope.names from PySem.mem_of_lookup e))
  have cells : ∀ {c : Addr} {v : Option Value}, H c = none → s.heap.IsCell c v → g.IsCell c v := by
    rintro c v n ⟨o, g1, d1⟩
    obtain ⟨sl, g2⟩ := since.any g1 n List.not_mem_nil
    exact ⟨_, kept _ _ g2, d1⟩
  have noEx : ∀ b : Addr, b ∉ (lamCx X A outer s1 HZ E scope f c').ex := fun b z => List.not_mem_nil (show b ∈ ([] : List Addr) from z)
  exact {
    ok := {
      mod := e0.mod
      kind := L.kind
      glob := rfl
      blt := rfl
      above := Nat.le_refl _
      inj := fun x y c e1 e2 => I.ok.inj x y c (back e1) (back e2)
      has := fun x hx => by
        have hx : scope.names.lookup x = some .cell ∨ scope.names.lookup x = some .free := hx
        exact hx.elim (fun z => absurd rfl (L.cell _ (PySem.mem_of_lookup z))) forth
      cab := fun _ _ z _ => by cases (show false = true from z)
      hd := fun _ => calm
      frames := Around.frames_deeper e0.frames
      stk := .inr ⟨rfl, rfl⟩
      exf := fun b z => absurd z (noEx b)
      bs := e0.bs
      bsz := e0.bsz
      noex := fun b _ _ => noEx b
      exfs := fun b z => absurd z (noEx b)
      funs := e0.funs
      frf := e0.frf }
    os := rfl
    bare := e0.bare
    base := Un.kept kept
    loc := ⟨m, frame, fun i y v e1 e2 vis => by
      have vis : Vis scope y := vis
      have inN : y ∈ X.N := List.mem_of_getElem? e1
      rcases vis with z | z | z
      · exact absurd inN (L.own _ (PySem.mem_of_lookup z) rfl)
      · exact absurd rfl (L.cell _ (PySem.mem_of_lookup z))
      · obtain ⟨m0, _, look⟩ := I.loc
        have up := L.free _ (PySem.mem_of_lookup z) rfl
        obtain ⟨u, ru, at_⟩ := look i y v e1 e2 (up.elim (fun k => .inr (.inl k)) fun k => .inr (.inr k))
        obtain ⟨c2, e3⟩ := forth z
        refine ⟨u, ru, .inr ⟨.inr z, c2, e3, ?_⟩⟩
        have e4 := back e3
        rcases at_ with ⟨k, _⟩ | ⟨_, c3, e5, cell⟩
        · have k : X.env.scope.names.lookup y = some .local := k
          rcases up with k2 | k2 <;> rw [show X.env.scope.names.lookup y = _ from k2] at k <;> cases k
        · rw [e4] at e5
          cases e5
          exact cells (I.freeC y _ e4) cell⟩
    cell := fun y c e => by
      obtain ⟨v, cell⟩ := I.cell y c (back e)
      exact ⟨v, cells (I.freeC y c (back e)) cell⟩
    free := e0.hok.fresh (Nat.le_refl _)
    freeC := fun y c e => by
      obtain ⟨v, o, g1, _⟩ := I.cell y c (back e)
      exact since.free c o g1 (I.freeC y c (back e)) List.not_mem_nil
    pin := fun q hq => absurd (show q ∈ ([] : List (Addr × Obj)) ++ [] from hq) (by simp)
    hok := e0.hok.kept kept
    len := I.len }
/-- the function data of a lambda value -/
def fdOf (F : LK) (doc pm ctv : Value) : FuncData := PySem.W.kdv_fn "<lambda>" F.qual F.params (.expr F.body) F.scope F.clo (dvOf F.dflt) doc pm (.ref F.code) ctv
/-- how its arguments bind when nothing is passed -/
def BindL (F : LK) (HD : Hp → Prop) : Prop := ∀ (X : Cx) (pins : List (Addr × Obj)) (σ : L2.St) (H : Hp) (s : Shared) (doc pm ctv : Value), Inv X pins σ H s → HD H →
  ∃ binds : List (Str × Value), (∀ y ∈ binds, F.scope.names.lookup y.1 = some .local) ∧ BindsTo s (fdOf F doc pm ctv) ⟨[], []⟩ binds
theorem bindL0 {F : LK} (h : ∀ doc pm ctv : Value, bindArgs (fdOf F doc pm ctv) ⟨[], []⟩ = pure []) : BindL F fun _ => True :=
  fun _ _ _ _ _ doc pm ctv _ _ => ⟨[], fun y m => (absurd m List.not_mem_nil), BindsTo.of_eq (h doc pm ctv)⟩
theorem bindL1 {F : LK} {t : Addr} {i : Int} {x : Str} {k : Option (Array Value) → Sem (List (Str × Value))} (ht : F.dflt = some t) (loc : F.scope.names.lookup x = some .local)
    (h1 : ∀ doc pm ctv : Value, bindArgs (fdOf F doc pm ctv) ⟨[], []⟩ = seqItems? (fdOf F doc pm ctv).defaults >>= k) (h2 : ∀ v : Value, k (some [v].toArray) = pure [(x, v)]) : BindL F fun H => H t = some (.tup [.int i]) := by
  intro X pins σ H s doc pm ctv I hD
  obtain ⟨its, rel, tup, _⟩ := I.tuple (SqT.of hD)
  obtain ⟨v, rfl⟩ : ∃ v, its = [v] := by
    have len := rel.length
    match its, len with
    | [v], _ => exact ⟨v, rfl⟩
  obtain ⟨o, g, _, n, d⟩ := tup
  have hd : (fdOf F doc pm ctv).defaults = .ref t := by
    show dvOf F.dflt = _
    rw [ht]
    rfl
  exact ⟨[(x, v)], fun y m => (by rw [List.mem_singleton.mp m]; exact loc), BindsTo.of_defaults hd g d (h1 doc pm ctv) (h2 v)⟩
/-- x(), in the def that got the lambda value -/
theorem pe_actV {CXg : CXT} {Eg : XK} {Ng : List Str} {qg : Str} {sg : Scope} {g f : Addr} {cdg : Value} {F : LK} {HD : Hp → Prop} {ps : List Str} {k i : Nat} {a : Str} {pn : List (Addr × Obj)} {xe : Value → Shared → Prop} {W : WX} {E : XK} {tb : TE} {p1 p2 : Pos}
    (I : Inv X pins σ H s) (L : LamN X.N X.env.scope F.scope ps) (hq : F.qual = X.env.qual ++ "<lambda>") (hclo : F.clo = cloFrom X.env.cells F.scope.names []) (bind : BindL F HD)
    (tk : Takes ((cxOf CXg X.prog X.w X.K X.mg X.base Ng qg sg g cdg X.A X.stack s H Eg).tr pn xe) W) (out : ∀ cls d σ' H', E cls d H' → W cls d σ' H') (room : Room (k + 1) (X.A.deeper (envOfC qg sg s.heap.objs.size g cdg)))
    (body : ∀ (A : Around) (outer : List Env) (s : Shared) (H : Hp), Room k (A.deeper (lamEnv X F.scope s.heap.objs.size f F.code)) → PE (lamCx X A outer s H E F.scope f F.code) F.body tb)
    (hN : Ng[i]? = some a) (hv : Vis sg a) (hd : (a == ("__debug__" : Str)) = false := by decide) (hcd : (a == ("__classdict__" : Str)) = false := by decide) :
    PE ((cxOf CXg X.prog X.w X.K X.mg X.base Ng qg sg g cdg X.A X.stack s H Eg).tr pn xe) (.Call (.Name a p1) [] [] p2)
      (fun σZ HZ Q => σZ[i]? = some (some (.ref f)) ∧ HZ F.code = some (CodeO F.code F.qual) ∧ HZ f = some (LamO f F) ∧ HD HZ ∧ tb σ HZ Q) := by
  constructor
  intro pinsZ sZ σZ HZ Q IZ h
  obtain ⟨slot, code, lam, dflt, promise⟩ := h
  have name := (pe_var (pos := p1) (i := i) hN hv hd hcd).run pinsZ sZ σZ HZ (fun v H1 => v = .ref f ∧ H1 = HZ) IZ ⟨.ref f, slot, rfl, rfl⟩
  refine wpAny_Call_Name_kw (thn name fun u z got => ?_)
  obtain ⟨v, H1, J, ru, rfl, rfl⟩ := got
  obtain rfl : u = Value.ref f := ru
  have fobj : ObjOk X.prog X.w H1 z.heap f (LamO f F) := J.hok f _ lam
  obtain ⟨⟨doc, pm, ctv, gf⟩, _, _⟩ := fobj
  have cobj : ObjOk X.prog X.w H1 z.heap F.code (CodeO F.code F.qual) := J.hok F.code _ code
  obtain ⟨⟨oc, vs, tq, gc, dc, vc⟩, _, _⟩ := cobj
  obtain ⟨binds, loc, bound⟩ := bind _ _ _ _ _ doc pm ctv J dflt
  refine PySem.W.callWith_F0 ⟨_, _, _, _, gf⟩ ?_
  have since : Un (frs X.stack) [] H H1 s.heap z.heap := J.base
  have runs : codeAny (model X.prog X.w) (X.A.deeper (envOfC qg sg s.heap.objs.size g cdg)) (.call (.ref f) ⟨[], []⟩) (CR (L2.CX X.prog X.w) (envOfC qg sg s.heap.objs.size g cdg :: X.stack) X.prog X.w H1 z Q E) z := by
    refine PySem.W.kla_callFunE room.depth gf rfl L.co L.gen rfl ⟨F.code, oc, vs, tq, rfl, gc, dc, vc⟩ (bound _ _ _ _ ?_)
    refine wpAny_newFunctionEnv L.cell loc (fun h1 frame same => ⟨J.nolimit.fresh _ same, ?_⟩) L.kind
    have kept : ∀ b o, z.heap.get? b = some o → h1.get? b = some o := fun b o e => same.extBut b o (Nat.ne_of_lt (Heap.lt_size e)) (Heap.get?_push_of_some _ e)
    have JL := begun (E := E) (f := f) (c' := F.code) (tk := z.toks + binds.length) I L J.env0 room.hd since frame kept
    rw [hclo, hq]
    refine PySem.W.kla_codeExpr (wpAny_mono ((body _ _ z H1 (room.deeper _)).run [] _ _ H1 Q JL promise) (fun v2 z2 got => ?_) fun _ _ no => no)
    obtain ⟨w2, H2, J2, rv, q⟩ := got
    exact ⟨w2, H2, J2.os, J2.bare, J2.base, J2.hok, rv, q⟩
  have passes : Passes (L2.CX X.prog X.w) ((cxOf CXg X.prog X.w X.K X.mg X.base Ng qg sg g cdg X.A X.stack s H Eg).tr pn xe) E := passes_call tk out
  refine wpAny_call (codeAny_mono runs fun r z2 done => ?_)
  match r, done with
  | .error er, done => exact passes pinsZ σZ H1 z er z2 J done
  | .ok (.ret u2), done => exact J.after done
end
/-! ### lambda: e and lambda x=i: e as values -/
def tLam0 (T : List (Addr × Str)) (q : Str) (mk : Addr → Option Addr → LK) : TE := fun _ H Q => Tabs T H ∧ ∀ (f c' : Addr) (H1 : Hp), ExtN H H1 → Tabs T H1 → H f = none → H1 c' = some (CodeO c' q) → H1 f = some (LamO f (mk c' none)) → Q (.ref f) H1
def tLamD (T : List (Addr × Str)) (q : Str) (mk : Addr → Option Addr → LK) (i : Int) : TE := fun _ H Q => Tabs T H ∧ ∀ (f c' t : Addr) (H1 : Hp), ExtN H H1 → Tabs T H1 → H f = none → H1 c' = some (CodeO c' q) → H1 t = some (.tup [.int i]) → H1 f = some (LamO f (mk c' (some t))) → Q (.ref f) H1
section
variable {X : Cx} {T : List (Addr × Str)} {c P : Addr} {params : Arguments} {body : Expr} {scope : Scope} {pos : Pos} {ps : List Str}
theorem pe_lam0 (TB : TabB X.base X.mg c P) (hcode : X.env.code = .ref c) (mem : (P, X.env.qual ++ "<lambda>") ∈ T) (one : ∀ p ∈ T, p.1 = P → p.2 = X.env.qual ++ "<lambda>") (L : LamN X.N X.env.scope scope ps) (hdef : defaultsOf params X.env = ([], [])) :
    PE X (.Lambda params body scope pos) (tLam0 T (X.env.qual ++ "<lambda>") fun c' d => ⟨X.env.qual ++ "<lambda>", params, body, scope, cloFrom X.env.cells scope.names [], c', d⟩) := by
  constructor
  intro pins z σ H Q I h
  obtain ⟨hT, h⟩ := h
  refine PySem.W.kla_eval hdef ?_
  rw [makeFunction_eq]
  simp only [List.zip_nil_right, List.filterMap_nil, List.isEmpty_nil, if_true, pure_bind]
  exact tail_ok (d := none) I TB hcode mem one hT (L.has I.ok) fun f c' H1 z1 J grow T1 nf hc hf => ⟨.ref f, H1, J, rfl, h f c' H1 grow T1 nf hc hf⟩
theorem pe_lamD {e : Expr} {i : Int} (TB : TabB X.base X.mg c P) (hcode : X.env.code = .ref c) (mem : (P, X.env.qual ++ "<lambda>") ∈ T) (one : ∀ p ∈ T, p.1 = P → p.2 = X.env.qual ++ "<lambda>") (L : LamN X.N X.env.scope scope ps) (hdl : params.defaults = [e]) (hk0 : params.kw_defaults = []) (he : PE X e (tC (.int i))) :
    PE X (.Lambda params body scope pos) (tLamD T (X.env.qual ++ "<lambda>") (fun c' d => ⟨X.env.qual ++ "<lambda>", params, body, scope, cloFrom X.env.cells scope.names [], c', d⟩) i) := by
  constructor
  intro pins z σ H Q I h
  obtain ⟨hT, h⟩ := h
  refine PySem.W.kdv_lam (by rw [hdl]; rfl) hk0 ?_
  rw [hdl]
  refine PySem.W.kdv_all1 (thn (he.run pins z σ H (fun v H1 => v = .int i ∧ H1 = H) I ⟨rfl, rfl⟩) fun u z1 got => ?_)
  obtain ⟨v, H1, J, ru, rfl, rfl⟩ := got
  refine PySem.W.kdv_all0 ?_
  rw [makeFunction_eq]
  simp only [List.zip_nil_right, List.filterMap_nil, List.isEmpty_nil, if_true, pure_bind, List.isEmpty_cons, Bool.false_eq_true, if_false]
  refine wpAny_bind (wpAny_newTextTuple ?_)
  have new : H1 z1.heap.objs.size = none := J.hok.fresh (Nat.le_refl _)
  have J2 := J.laid (t' := z1.toks) (a := z1.heap.objs.size) (o := .tup [V.int i]) (h' := z1.heap.push (PySem.W.kdv_tup [u])) (fun b o g => Heap.get?_push_of_some _ g) (Nat.le_refl _)
    ⟨(by decide : 1 ≤ sizeLine), [u], .cons ru .nil, ⟨_, Heap.get?_push_size _ rfl, rfl, _, rfl⟩⟩
  have sm := Rg.same_upd (o := .tup [V.int i]) new
  refine tail_ok (d := some z1.heap.objs.size) J2 TB hcode mem one (hT.ext sm) (L.has I.ok) fun f c' H2 z2 J3 grow T1 nf hc hf => ⟨.ref f, H2, J3, rfl, h f c' z1.heap.objs.size H2 ((ExtN.of sm).trans grow) T1 (Rg.un0 nf) hc (grow _ _ upd_same fun ps z => by cases z) hf⟩
end
end LamV
/-! ### a written dict of the module's top: d.get(k, x) -/
namespace Rg
open PySem PySem.Spec PyProof.Rows L2
def KTab (K : PySem.W.Frag) (w : World) (a : Addr) (kvs : List (Str × V)) : Prop :=
  ∃ es n, K.lookup a = some ⟨.type "dict", none, .dict es n, #[]⟩ ∧ PySem.W.KeysLit w.params es.toList ∧ (a == sysModules) = false ∧ ∀ z, RelO (kvs.lookup z) (findBy Value.isStrOf es z)
def tKGet (K : PySem.W.Frag) (w : World) (to te tf : TE) : TE := fun σ H Q => to σ H fun x H1 => ∃ a kvs, x = .ref a ∧ KTab K w a kvs ∧ te σ H1 fun y H2 => tf σ H2 fun z H3 => ∃ s, y = .str s ∧ Q ((kvs.lookup s).getD z) H3
theorem relO_getD {o : Option V} {o' : Option Value} {d : V} {r : Value} (h : RelO o o') (hd : RelV d r) : RelV (o.getD d) (o'.getD r) := by
  cases o <;> cases o'
  · exact hd
  · exact h.elim
  · exact h.elim
  · exact h
theorem pe_kget2 {X : Cx} (K : PySem.W.Frag) (w : World) {o e f : Expr} {to te tf : TE} {apos cpos : Pos} (ho : PE X o to) (he : PE X e te) (hf : PE X f tf) (m : M2 X o "get" apos e f cpos) (hK : X.K = K := by rfl) (hw : X.w = w := by rfl) : PE X (.Call (.Attribute o "get" apos) [e, f] [] cpos) (tKGet K w to te tf) := by
  subst hK hw
  constructor
  intro pins z σ H Q I h
  refine wpAny_Call_method m.base m.few m.line PySem.F.plainAttrs_dict PySem.F.slot_dict_get PySem.F.type_dict_get (thn (ho.run pins z σ H _ I h) fun u z1 got => ?_)
  obtain ⟨x, H1, I1, rx, a, kvs, rfl, ⟨es, n, hl, lit, low, rel⟩, q1⟩ := got
  obtain rfl : u = Value.ref a := rx
  have map1 := PySem.W.mapOf_K (prog := X.prog) (w := X.w) I1.kIn hl lit
  refine ⟨map1.typeIs, fun b eb => ?_, ?_⟩
  · cases eb
    exact ⟨_, I1.kIn _ _ hl, rfl⟩
  rw [m.trees]
  refine Calls.callWith_builtin rfl (Calls.evalArgs_plain (Calls.spliced_cons (thn (he.run pins z1 σ H1 _ I1 q1) fun kv z2 got2 => Calls.spliced_cons ?_)))
  obtain ⟨y, H2, I2, ry, q2⟩ := got2
  refine thn (hf.run pins z2 σ H2 _ I2 q2) fun fv z3 got3 => Calls.spliced_nil ?_
  obtain ⟨d, H3, I3, rd, s, rfl, q3⟩ := got3
  obtain ⟨tk, rfl⟩ := (show ∃ tk, kv = Value.str s tk from ry)
  have map3 := PySem.W.mapOf_K (prog := X.prog) (w := X.w) I3.kIn hl lit
  exact call_meetsIn PySem.F.slot_dict_get map3.typeIs PySem.F.entry_dict_get (PySem.F.args_dict_get_3 _ _ _) (meets_dict_get_default (strKind X.prog X.w) a (strKind_is X.prog X.w s tk) low fv) ⟨_, map3, _, H3, I3.tok _, relO_getD (rel s) rd, q3⟩
theorem kget {K : PySem.W.Frag} {w : World} {to te tf : TE} {σ : L2.St} {H : Hp} {Q : VK} (q : to σ H fun x H1 => ∃ a kvs, x = .ref a ∧ KTab K w a kvs ∧ te σ H1 fun y H2 => tf σ H2 fun z H3 => ∃ s, y = .str s ∧ Q ((kvs.lookup s).getD z) H3) : tKGet K w to te tf σ H Q := q
end Rg


namespace Pf
open PySem L2 Rg
local macro_rules | `(tactic| k_extra "hp") => `(tactic| first
  | assumption
  | exact SqL.of (by assumption) | exact SqT.of (by assumption) | exact SqL.of upd_same | exact SqT.of upd_same
  | exact upd_same
  | exact Or.inl (SqL.of (by assumption)) | exact Or.inl (SqL.of upd_same) | exact Or.inl (by assumption) | exact Or.inr (by assumption)
  | exact Or.inr (SqT.of (by assumption)) | exact Or.inr (SqT.of upd_same))
local macro_rules | `(tactic| k_extra "sz") => `(tactic| first | assumption | exact Nat.le_of_ble_eq_true rfl | (simp only [sizeLine_eq]; omega) | (rw [sizeLine_eq]; decide) | omega | decide)
local macro_rules | `(tactic| k_extra "ar") => `(tactic| first | assumption | omega | decide | (exact ⟨by omega, by omega⟩) | (exact Or.inl ⟨by omega, by omega⟩) | (exact Or.inr ⟨by omega, by omega⟩))
local macro_rules | `(tactic| k_extra "ty") => `(tactic| first | assumption | exact .base (.str _) | exact .base (.int _) | exact .base (.bl _) | exact .base .non | exact tyx_L (by assumption) | exact tyx_T (by assumption) | exact .base (.tup (by assumption)) | exact .base (.lst (by assumption)) | exact .base (.tup upd_same) | exact .base (.lst upd_same))
local macro_rules | `(tactic| k_extra "kb") => `(tactic| first | exact kit_ty kB_NoneType_str | exact kit_ty kB_NoneType_bool | exact kit_ty kB_NoneType_int | exact kit_ty kB_NoneType_dict | exact kit_ty kB_NoneType_tuple | exact kit_ty kB_NoneType_list | exact kit_ty kB_bool_str | exact kit_ty kB_bool_bool | exact kit_ty kB_bool_int | exact kit_ty kB_bool_dict | exact kit_ty kB_bool_tuple | exact kit_ty kB_bool_list | exact kit_ty kB_int_str | exact kit_ty kB_int_bool | exact kit_ty kB_int_int | exact kit_ty kB_int_dict | exact kit_ty kB_int_tuple | exact kit_ty kB_int_list | exact kit_ty kB_str_str | exact kit_ty kB_str_bool | exact kit_ty kB_str_int | exact kit_ty kB_str_dict | exact kit_ty kB_str_tuple | exact kit_ty kB_str_list | exact kit_ty kB_list_str | exact kit_ty kB_list_bool | exact kit_ty kB_list_int | exact kit_ty kB_list_dict | exact kit_ty kB_list_tuple | exact kit_ty kB_list_list | exact kit_ty kB_tuple_str | exact kit_ty kB_tuple_bool | exact kit_ty kB_tuple_int | exact kit_ty kB_tuple_dict | exact kit_ty kB_tuple_tuple | exact kit_ty kB_tuple_list | exact kit_ty kB_dict_str | exact kit_ty kB_dict_bool | exact kit_ty kB_dict_int | exact kit_ty kB_dict_dict | exact kit_ty kB_dict_tuple | exact kit_ty kB_dict_list)
local macro_rules | `(tactic| k_extra "r1") => `(tactic| with_reducible first
  | refine Rg.mkNx ?_ | refine Rg.mkRt ?_ | refine Rg.mkCt ?_ | refine Rg.mkBk ?_
  | refine Rg.seq ?_ | refine Rg.asg ?_ | refine Rg.gname ?_ | refine Rg.cst ?_ | refine Rg.op ?_ | refine Rg.un ?_ | refine Rg.chain ?_
  | refine Rg.exbl ?_ | refine Rg.exint ?_ | refine Rg.expair ?_ | refine Rg.exstr ?_
  | refine Rg.eqI ?_ | refine Rg.neI ?_ | refine Rg.eqStr ?_ | refine Rg.neStr ?_ | refine Rg.eqB_truetrue ?_ | refine Rg.neB_truetrue ?_ | refine Rg.eqB_truefalse ?_ | refine Rg.neB_truefalse ?_ | refine Rg.eqB_falsetrue ?_ | refine Rg.neB_falsetrue ?_ | refine Rg.eqB_falsefalse ?_ | refine Rg.neB_falsefalse ?_ | refine Rg.eqB ?_ | refine Rg.neB ?_ | refine Rg.iI0 ?_ | refine Rg.iU ?_ | refine Rg.addI ?_ | refine Rg.leI ?_ | refine Rg.leS ?_ | refine Rg.inS ?_ | refine Rg.ninS ?_ | refine Rg.isN_int ?_ | refine Rg.notN_int ?_ | refine Rg.isN_str ?_ | refine Rg.notN_str ?_ | refine Rg.isN_bl ?_ | refine Rg.notN_bl ?_ | refine Rg.isN_ref ?_ | refine Rg.notN_ref ?_ | refine Rg.isN_non ?_ | refine Rg.notN_non ?_ | refine Rg.isN ?_ | refine Rg.notN ?_
  | refine Rg.sl ?_ | refine Rg.noPart ?_ | refine Rg.part ?_ | refine Rg.test ?_ | refine Rg.tb_ ?_ | refine Rg.tand ?_ | refine Rg.tor ?_ | refine Rg.tnot ?_
  | refine Rg.andV ?_ | refine Rg.orV ?_ | refine Rg.notV ?_ | refine Rg.ife ?_
  | refine Rg.nxt ?_ | refine Rg.brk ?_ | refine Rg.cnt ?_ | refine Rg.drp ?_ | refine Rg.ret ?_ | refine Rg.retN ?_ | refine Rg.ifS ?_ | refine Rg.par ?_ | refine Rg.gsub ?_
  | refine Rg.gcons ?_ | refine Rg.gnil ?_ | refine Rg.anil ?_ | refine Rg.acons ?_ | refine Rg.callC ?_ | refine Rg.callK ?_ | refine Rg.callB ?_ | refine Rg.intI ?_
  | refine Rg.lc ?_ | refine Rg.pnil ?_ | refine Rg.pcons ?_ | refine Rg.dget2 ?_ | refine Rg.tyes ?_ | refine Rg.lst_ ?_ | refine Rg.tup_ ?_ | refine Rg.m1 ?_ | refine Rg.isStr ?_ | refine Rg.for_ ?_ | refine Rg.bm ?_ | refine Rg.bm0 ?_ | refine Rg.il ?_ | refine Rg.ir1 ?_ | refine Rg.is_ ?_ | refine Rg.iz ?_
  | refine Rg.crR ?_ | refine Rg.crK ?_ | refine Rg.ie ?_ | refine Rg.revL ?_ | refine Rg.revT ?_ | refine Rg.star ?_ | refine Rg.iT ?_ | refine Rg.ipI2 ?_ | refine Rg.par3 ?_ | refine Rg.extrip ?_ | refine Rg.fm ?_ | refine Rg.jc ?_ | refine Rg.jn ?_
  | refine iteT ?_ | refine iteF ?_ | refine Rg.iteNt ?_ | refine Rg.iteNf ?_)
local macro_rules | `(tactic| k_extra "r") => `(tactic| first
  | k_extra "r1"
  | ((with_reducible refine' Rg.var ?h ?_); (case h => exact rfl))
  | ((with_reducible refine' Rg.aug ?h ?_); (case h => exact rfl))
  | ((with_reducible refine' Rg.ipS2 ?h ?_); (case h => k_extra "sz"))
  | ((with_reducible refine' Rg.ipL2 ?h ?h2 ?h3 ?_); (case h => k_extra "hp"); (case h2 => k_extra "hp"); (case h3 => k_extra "sz"))
  | ((with_reducible refine' Rg.iI ?h ?_); (case h => k_extra "ar"))
  | ((with_reducible refine' Rg.mulI ?h ?_); (case h => k_extra "ar"))
  | ((with_reducible refine' Rg.eqS ?h ?_); (case h => exact rfl))
  | ((with_reducible refine' Rg.neS ?h ?_); (case h => exact rfl))
  | ((with_reducible refine' Rg.addS ?h ?_); (case h => k_extra "sz"))
  | ((with_reducible refine' Rg.isi ?h ?h1 ?_); (case h => k_extra "ty"); (case h1 => with_reducible k_extra "kb"))
  | ((with_reducible refine' Rg.lenS ?h ?_); (case h => k_extra "sz"))
  | ((with_reducible refine' Rg.lenL ?h ?_); (case h => k_extra "hp"))
  | ((with_reducible refine' Rg.lenT ?h ?_); (case h => k_extra "hp"))
  | ((with_reducible refine' Rg.ixL ?h ?h1 ?_); (case h => k_extra "hp"); (case h1 => exact rfl))
  | ((with_reducible refine' Rg.ixT ?h ?h1 ?_); (case h => k_extra "hp"); (case h1 => exact rfl))
  | ((with_reducible refine' Rg.setL ?h ?h1 ?_); (case h => k_extra "hp"); (case h1 => exact rfl))
  | ((with_reducible refine' Rg.slS ?h ?_); (case h => k_extra "sz"))
  | ((with_reducible refine' Rg.exl ?h ?_); (case h => exact ⟨_, by k_extra "hp"⟩))
  | ((with_reducible refine' Rg.exr1 ?h1 ?h2 ?_); (case h1 => omega); (case h2 => omega))
  | ((with_reducible refine' Rg.gtup ?h ?h1 ?_); (case h => k_extra "hp"); (case h1 => exact rfl)))
local macro_rules | `(tactic| k_extra "rr") => `(tactic| repeat (k_extra "r"))
local macro_rules | `(tactic| k_extra "ri") => `(tactic| repeat ((fail_if_success (with_reducible refine Rg.ife ?_)); k_extra "r"))
local macro_rules | `(tactic| k_extra "rl") => `(tactic| repeat ((fail_if_success (with_reducible refine Rg.lst_ ?_)); k_extra "r"))

def top (i : Nat) : Stmt := PySem.Challenge.pw_rubgrove_k10_texts_of_shapes.main.body.getD i (.Pass ⟨0, 0, 0, 0⟩)
abbrev s_is_word : Stmt := top 9
abbrev s_is_kind : Stmt := top 10
abbrev s_is_shape : Stmt := top 13
abbrev s_shapes_text : Stmt := top 14
abbrev s_read_shapes : Stmt := top 15
abbrev s_law_bag : Stmt := top 17
abbrev s_law_take : Stmt := top 18
abbrev s_law_of : Stmt := top 19
abbrev s_law_words : Stmt := top 20
abbrev s_law_names : Stmt := top 21
abbrev s_law_field : Stmt := top 22
abbrev s_law_why : Stmt := top 23
abbrev s_law_alike : Stmt := top 24
abbrev s_law_shape : Stmt := top 25
abbrev s_law : Stmt := top 26
theorem sc_is_word : FnScope ["value", "most", "sign"] ["value", "most"] (defScope s_is_word) := ⟨rfl, rfl, rfl, by decide +kernel, rfl, by decide +kernel, by decide +kernel⟩
theorem sc_is_kind : FnScope ["value"] ["value"] (defScope s_is_kind) := ⟨rfl, rfl, rfl, by decide +kernel, rfl, by decide +kernel, by decide +kernel⟩
theorem sc_is_shape : FnScope ["value", "kind"] ["value"] (defScope s_is_shape) := ⟨rfl, rfl, rfl, by decide +kernel, rfl, by decide +kernel, by decide +kernel⟩
theorem sc_shapes_text : FnScope ["shapes", "shape"] ["shapes"] (defScope s_shapes_text) := ⟨rfl, rfl, rfl, by decide +kernel, rfl, by decide +kernel, by decide +kernel⟩
theorem sc_read_shapes : FnScope ["text", "found", "at", "shape", "part"] ["text"] (defScope s_read_shapes) := ⟨rfl, rfl, rfl, by decide +kernel, rfl, by decide +kernel, by decide +kernel⟩
theorem sc_law_bag : FnScope ["_law_script", "_law_row", "_law_mark", "_law_cell"] ["_law_script"] (defScope s_law_bag) := ⟨rfl, rfl, rfl, by decide +kernel, rfl, by decide +kernel, by decide +kernel⟩
theorem sc_law_take : FnScope ["_law_bag_z", "_law_many", "_law_cell", "_law_mixed", "_law_found"] ["_law_bag_z", "_law_many"] (defScope s_law_take) := ⟨rfl, rfl, rfl, by decide +kernel, rfl, by decide +kernel, by decide +kernel⟩
theorem sc_law_of : FnScope ["_law_bag_z", "_law_things"] ["_law_bag_z", "_law_things"] (defScope s_law_of) := ⟨rfl, rfl, rfl, by decide +kernel, rfl, by decide +kernel, by decide +kernel⟩
theorem sc_law_words : FnScope ["_law_bag_z", "_law_many", "_law_most", "_law_letters", "_law_stem", "_law_at", "_law_start", "_law_found", "_law_fixed", "_law_k", "_law_word"] ["_law_bag_z", "_law_many", "_law_most"] (defScope s_law_words) := ⟨rfl, rfl, rfl, by decide +kernel, rfl, by decide +kernel, by decide +kernel⟩
theorem sc_law_names : FnScope ["_law_bag_z"] ["_law_bag_z"] (defScope s_law_names) := ⟨rfl, rfl, rfl, by decide +kernel, rfl, by decide +kernel, by decide +kernel⟩
theorem sc_law_field : FnScope ["_law_e"] ["_law_e"] (defScope s_law_field) := ⟨rfl, rfl, rfl, by decide +kernel, rfl, by decide +kernel, by decide +kernel⟩
theorem sc_law_why : FnScope ["_law_ask", "_law_e"] ["_law_ask"] (defScope s_law_why) := ⟨rfl, rfl, rfl, by decide +kernel, rfl, by decide +kernel, by decide +kernel⟩
theorem sc_law_alike : FnScope ["_law_found", "_law_due", "_law_key", "_law_one", "_law_two"] ["_law_found", "_law_due"] (defScope s_law_alike) := ⟨rfl, rfl, rfl, by decide +kernel, rfl, by decide +kernel, by decide +kernel⟩
theorem sc_law_shape : FnScope ["_law_bag_z", "_law_kinds", "_law_word"] ["_law_bag_z", "_law_kinds"] (defScope s_law_shape) := ⟨rfl, rfl, rfl, by decide +kernel, rfl, by decide +kernel, by decide +kernel⟩
theorem sc_law : FnScope ["_law_script", "_law_bag_z", "_law_names_z", "_law_turn", "_law_some", "_law_parts", "_law_text_z", "_law_told", "_law_at", "_law_odd", "_law_late", "_law_asks", "_law_k", "_law_shape_z", "_law_ask"] ["_law_script"] (defScope s_law) := ⟨rfl, rfl, rfl, by decide +kernel, rfl, by decide +kernel, by decide +kernel⟩
abbrev s_ParseError_init : Stmt := inClass (top 2) 0
theorem sc_ParseError_init : FnScope ["self", "at"] ["self", "at"] (defScope s_ParseError_init) := ⟨rfl, rfl, rfl, by decide +kernel, rfl, by decide +kernel, by decide +kernel⟩
/-- what the text's names are -/
structure Txt (mg : Str → Option Value) : Prop where
  len : mg "len" = none
  int : mg "int" = none
  range : mg "range" = none
  isinstance : mg "isinstance" = none
  all : mg "all" = none
  list : mg "list" = none
  tuple : mg "tuple" = none
  str : mg "str" = none
  sorted : mg "sorted" = none
  zip : mg "zip" = none
  enumerate : mg "enumerate" = none
  bool : mg "bool" = none
  dict : mg "dict" = none
  g_SMALL : ∃ u, mg "SMALL" = some u ∧ RelV (.str "abcdefghijklmnopqrstuvwxyz") u
  g_REST : ∃ u, mg "REST" = some u ∧ RelV (.str "rest") u
  g_MOST_LETTERS : ∃ u, mg "MOST_LETTERS" = some u ∧ RelV (.int 6) u
/-! ### the bag -/
def BagAt (H : Hp) (p r : Addr) : Prop := ∃ (ns : List Int) (i c m : Int), H p = some (.lst [.ref r, .int i, .int c, .int m]) ∧ H r = some (.lst (ns.map V.int)) ∧ ns.length ≤ 63 ∧ 0 ≤ i ∧ 0 ≤ c ∧ 0 ≤ m ∧ m < 2147483629
theorem bag_ne {H : Hp} {p r : Addr} {ns : List Int} {i c m : V} (h : H p = some (.lst [.ref r, i, c, m])) (h' : H r = some (.lst (ns.map V.int))) : r ≠ p := by
  rintro rfl
  rw [h] at h'
  have e := Option.some.inj h'
  injection e with e
  cases ns with
  | nil => cases e
  | cons x l =>
    rw [List.map_cons] at e
    cases e
theorem BagAt.ne_none {H : Hp} {b r p : Addr} (h : BagAt H b r) (e : H p = none) : p ≠ b ∧ p ≠ r := by
  obtain ⟨ns, i, c, m, h1, h2, _⟩ := h
  exact ⟨(ne_of_none h1 e).symm, (ne_of_none h2 e).symm⟩
theorem BagAt.ex {H : Hp} {b r : Addr} (h : BagAt H b r) : ∃ o, H b = some o := by
  obtain ⟨ns, i, c, m, h1, h2, _⟩ := h
  exact ⟨_, h1⟩
theorem BagAt.same {H H' : Hp} {b r : Addr} (h : BagAt H b r) (s : Same H H') : BagAt H' b r := by
  obtain ⟨ns, i, c, m, h1, h2, h3⟩ := h
  exact ⟨ns, i, c, m, s _ _ h1, s _ _ h2, h3⟩
theorem BagAt.new {H : Hp} {b r p : Addr} {o : HO} (h : BagAt H b r) (n : H p = none) : BagAt (upd H p o) b r := h.same (same_upd n)
/-- what was not there when the bag stood there may change -/
theorem BagAt.mut {H H1 : Hp} {b r p : Addr} {o : HO} (h : BagAt H b r) (h1 : BagAt H1 b r) (n : H1 p = none) : BagAt (upd H p o) b r := by
  obtain ⟨n1, n2⟩ := h1.ne_none n
  obtain ⟨ns, i, c, m, h1, h2, h3⟩ := h
  exact ⟨ns, i, c, m, by rw [upd_ne n1.symm]; exact h1, by rw [upd_ne n2.symm]; exact h2, h3⟩
def spBag (K : PySem.W.Frag) : Sp := fun vs H Q _ => ∃ (a : Addr) (ns : List Int), vs = [.ref a] ∧ SqL K H a (ns.map V.int) ∧ ns.length ≤ 63 ∧
  ∀ (H' : Hp) (p r : Addr), Same H H' → H p = none → BagAt H' p r → Q (.ref p) H'
def spTake : Sp := fun vs H Q _ => ∃ (b r : Addr) (many : Int), vs = [.ref b, .int many] ∧ BagAt H b r ∧ 1 ≤ many ∧ many < 1073741824 ∧
  ∀ (k : Int) (H' : Hp), But b H H' → BagAt H' b r → 0 ≤ k → k < many → Q (.int k) H'
section
variable {P : Program} {w : World} {K : PySem.W.Frag} {mg : Str → Option Value} {base : Heap} {f : Addr} {fd : FuncData}
theorem ok_law_bag (F : Fun K "_law_bag" "_law_bag" s_law_bag f fd) (T : Txt mg) : FnOk P w K mg base CX0 1 f fd ["_law_script"] (spBag K) := by
  refine F.ok sc_law_bag (fun vs H Q E h => ?_) (fun cdv A outer s H vs Q E hr h => ?_)
  · obtain ⟨a, ns, rfl, _⟩ := h
    rfl
  · obtain ⟨a, ns, rfl, hS, hl, q⟩ := h
    refine ⟨_, (pss_cons (ps_set (i := 1) sc_law_bag.nd rfl (.inl rfl) (pe_callTy (cr_list K) (by rfl) T.list (by decide +kernel) (pa_cons (pe_slice (sl_X K) (pv 0) po_none (po_some pe_int)) pa_nil)))
      (pss_cons (ps_set (i := 2) sc_law_bag.nd rfl (.inl rfl) (pe_op (op_addX K) pe_int (pe_op op_mulX pe_int (pe_callB (call_lenX K) (by rfl) T.len PySem.boot_len (pa_cons (pv 1) pa_nil)))))
      (pss_cons (ps_for PassesOwn.never rfl (pi_listX K (pv 1)) (pg_name (i := 3) sc_law_bag.nd rfl (.inl rfl)) (pss_one (ps_set (i := 2) sc_law_bag.nd rfl (.inl rfl) (pe_op op_mod (pe_callTy cr_int (by rfl) T.int (by decide +kernel) (pa_cons (pe_op (op_addX K) (pe_op (op_addX K) (pe_op op_mulX (pv 2) pe_int) (pe_op op_mod (pe_callTy cr_int (by rfl) T.int (by decide +kernel) (pa_cons (pv 3) pa_nil)) pe_int)) pe_int) pa_nil)) pe_int))))
      (pss_one (ps_ret (pe_lst (pa_cons (pv 1) (pa_cons pe_int (pa_cons pe_int (pa_cons (pv 2) pa_nil)))))))))), ?_⟩
    change (_ : TS) _ [some (V.ref a), none, none, none] _
    k_extra "rr"
    refine slL hS fun l nl => ?_
    obtain ⟨ms, em, hm⟩ := cut_map ns none (some 63)
    rw [em]
    k_extra "rr"
    refine listL (SqL.of upd_same) fun r nr => ?_
    have nrl : l ≠ r := ne_of_none upd_same nr
    have nr0 : H r = none := un0 nr
    k_extra "rr"
    have hm63 : ms.length ≤ 63 := by omega
    have elen : ((ms.map V.int).length : Int) ≤ 63 := by rw [List.length_map]; omega
    have s2 : Same H (upd (upd H l (.lst (ms.map V.int))) r (.lst (ms.map V.int))) := (same_upd nl).trans (same_upd nr)
    refine for_list (K := K) (a := r) (xs := ms.map V.int) (fun i σ H' => ∃ (m : Int) (v : Option V), σ = [some (.ref a), some (.ref r), some (.int m), v] ∧ 0 ≤ m ∧ m < 2147483629 ∧ H' = upd (upd H l (.lst (ms.map V.int))) r (.lst (ms.map V.int)))
      ⟨_, none, rfl, by omega, by omega, rfl⟩ (fun i σ H' _ ⟨_, _, _, _, _, e⟩ => by rw [e]; exact SqL.of upd_same) ?_ ?_
    · rintro i y σ H' hi ⟨m, v, rfl, m0, m1, rfl⟩
      obtain ⟨u, hu, rfl⟩ := map_at hi
      k_extra "rr"
      have h1 := Int.emod_nonneg (m * 45161 + u % 2147483423 + 11) (show (2147483549 : Int) ≠ 0 by decide)
      have h2 := Int.emod_lt_of_pos (m * 45161 + u % 2147483423 + 11) (show (0 : Int) < 2147483549 by decide)
      exact ⟨_, _, rfl, h1, by omega, rfl⟩
    · rintro σ H' ⟨m, v, rfl, m0, m1, rfl⟩
      k_extra "rr"
      refine ⟨by k_extra "sz", fun p np => ?_⟩
      k_extra "rr"
      have nrp : r ≠ p := ne_of_none upd_same np
      refine q _ p r (s2.trans (same_upd np)) (s2.free np) ⟨ms, 0, 0, m, upd_same, upd2 nrp upd_same, hm63, by decide, by decide, m0, m1⟩
end

section
variable {P : Program} {w : World} {K : PySem.W.Frag} {mg : Str → Option Value} {base : Heap} {f : Addr} {fd : FuncData}
theorem ok_law_take (F : Fun K "_law_take" "_law_take" s_law_take f fd) (T : Txt mg) : FnOk P w K mg base CX0 1 f fd ["_law_bag_z", "_law_many"] spTake := by
  refine F.ok sc_law_take (fun vs H Q E h => ?_) (fun cdv A outer s H vs Q E hr h => ?_)
  · obtain ⟨b, r, many, rfl, _⟩ := h
    rfl
  · obtain ⟨b, r, many, rfl, ⟨ns, i, c, m, hb, hn, hl, i0, c0, m0, m1⟩, k1, k2, q⟩ := h
    refine ⟨_, (C8.pss_cut (ps_if (PW.pt (pw_and (pt_cmpR (op_eqX K hr) (pe_ix (ix_X K) (pv 0) pe_int (fun _ _ => rfl)) pe_int (nomark _)) (pw_and1 (pt_cmpR op_lt (pe_ix (ix_X K) (pv 0) pe_int (fun _ _ => rfl)) (pe_callB (call_lenX K) (by rfl) T.len PySem.boot_len (pa_cons (pe_ix (ix_X K) (pv 0) pe_int (fun _ _ => rfl)) pa_nil)) (nomark _))))) (pss_cons (ps_set (i := 2) sc_law_take.nd rfl (.inl rfl) (pe_ix (ix_X K) (pe_ix (ix_X K) (pv 0) pe_int (fun _ _ => rfl)) (pe_ix (ix_X K) (pv 0) pe_int (fun _ _ => rfl)) (fun _ _ => rfl)))
      (pss_cons (ps_asg (pe_op (op_addX K) (pe_ix (ix_X K) (pv 0) pe_int (fun _ _ => rfl)) pe_int) (pg_sub (pv 0) pe_int set_list))
      (pss_one (ps_if (pt_cmpR op_ge (pv 2) (pe_op op_pow pe_int pe_int) (nomark _)) (pss_one (ps_asg (pv 2) (pg_sub (pv 0) pe_int set_list))) (pss_cons (ps_set (i := 3) sc_law_take.nd rfl (.inl rfl) (pe_op (op_addX K) (pe_op op_mulX (pe_ix (ix_X K) (pv 0) pe_int (fun _ _ => rfl)) pe_int) (pe_op op_mod (pe_callTy cr_int (by rfl) T.int (by decide +kernel) (pa_cons (pv 2) pa_nil)) pe_int)))
      (pss_one (ps_asg (pe_op op_mod (pe_callTy cr_int (by rfl) T.int (by decide +kernel) (pa_cons (pe_op (op_addX K) (pv 3) (pe_ix (ix_X K) (pv 0) pe_int (fun _ _ => rfl))) pa_nil)) pe_int) (pg_sub (pv 0) pe_int set_list)))))))) pss_nil)
      (pss_cons (ps_if (pt_cmpR op_gt (pe_ix (ix_X K) (pv 0) pe_int (fun _ _ => rfl)) pe_int (nomark _)) (pss_cons (ps_set (i := 4) sc_law_take.nd rfl (.inl rfl) (pe_op op_mod (pe_callTy cr_int (by rfl) T.int (by decide +kernel) (pa_cons (pe_ix (ix_X K) (pv 0) pe_int (fun _ _ => rfl)) pa_nil)) (pv 1)))
      (pss_cons (ps_asg (pe_op op_fdivN (pe_ix (ix_X K) (pv 0) pe_int (fun _ _ => rfl)) (pv 1)) (pg_sub (pv 0) pe_int set_list))
      (pss_one (ps_ret (pv 4))))) pss_nil)
      (pss_cons (ps_asg (pe_op op_mod (pe_callTy cr_int (by rfl) T.int (by decide +kernel) (pa_cons (pe_op (op_addX K) (pe_op op_mulX (pe_ix (ix_X K) (pv 0) pe_int (fun _ _ => rfl)) pe_int) pe_int) pa_nil)) pe_int) (pg_sub (pv 0) pe_int set_list))
      (pss_one (ps_ret (pe_op op_mod (pe_callTy cr_int (by rfl) T.int (by decide +kernel) (pa_cons (pe_op op_fdivN (pe_op op_mod (pe_callTy cr_int (by rfl) T.int (by decide +kernel) (pa_cons (pe_op op_mulX (pe_ix (ix_X K) (pv 0) pe_int (fun _ _ => rfl)) (pe_ix (ix_X K) (pv 0) pe_int (fun _ _ => rfl))) pa_nil)) pe_int) pe_int) pa_nil)) (pv 1))))))), ?_⟩
    change (_ : TS) _ [some (V.ref b), some (.int many), none, none, none] _
    have nrb := bag_ne hb hn
    refine Rg.cut (fun σ H' => ∃ (i' c' m' : Int) (v2 v3 : Option V), σ = [some (V.ref b), some (.int many), v2, v3, none] ∧ H' b = some (.lst [.ref r, .int i', .int c', .int m']) ∧ But b H H' ∧ 0 ≤ i' ∧ 0 ≤ c' ∧ 0 ≤ m' ∧ m' < 2147483629) ?_ ?_
    · k_extra "rr"
      refine iteD (fun ec => ?_) (fun ec => ?_)
      · k_extra "rr"
        refine iteD (fun ei => ?_) (fun ei => ?_)
        · k_extra "rr"
          have hin : i.toNat < ns.length := by
            rw [List.length_map] at ei
            omega
          refine ixL (SqL.of hn) (v := .int ns[i.toNat]) ?_ ?_
          · exact at_of (j := i.toNat) (by omega) (by rw [List.getElem?_map, List.getElem?_eq_getElem hin]; rfl)
          k_extra "rr"
          refine iteD (fun eb => ?_) (fun eb => ?_)
          · k_extra "rr"
            refine ⟨i + 1, ns[i.toNat], m, some (.int ns[i.toNat]), none, rfl, upd_same, But.trans But.upd But.upd, by omega, ?_, m0, m1⟩
            have e18 : (0 : Int) ≤ 10 ^ Int.toNat 18 := by decide
            omega
          · k_extra "rr"
            have h1 := Int.emod_nonneg (m * 40087 + ns[i.toNat] % 1999999913 + (i + 1)) (show (2147483629 : Int) ≠ 0 by decide)
            have h2 := Int.emod_lt_of_pos (m * 40087 + ns[i.toNat] % 1999999913 + (i + 1)) (show (0 : Int) < 2147483629 by decide)
            exact ⟨i + 1, c, _, some (.int ns[i.toNat]), some (.int (m * 40087 + ns[i.toNat] % 1999999913)), rfl, upd_same, But.trans But.upd But.upd, by omega, c0, h1, h2⟩
        · k_extra "rr"
          exact ⟨i, c, m, none, none, rfl, hb, But.refl _ _, i0, c0, m0, m1⟩
      · k_extra "rr"
        exact ⟨i, c, m, none, none, rfl, hb, But.refl _ _, i0, c0, m0, m1⟩
    · rintro σ H' ⟨i', c', m', v2, v3, rfl, hb', bb, i0', c0', m0', m1'⟩
      have hn' : H' r = some (.lst (ns.map V.int)) := bb _ _ hn nrb
      k_extra "rr"
      refine iteD (fun ec => ?_) (fun ec => ?_)
      · k_extra "rr"
        refine q (c' % many) _ (bb.trans But.upd) ⟨ns, i', c'.fdiv many, m', upd_same, upd2 nrb hn', hl, i0', ?_, m0', m1'⟩ (Int.emod_nonneg _ (by omega)) (Int.emod_lt_of_pos _ (by omega))
        rw [Int.fdiv_eq_ediv_of_nonneg _ (by omega)]
        exact Int.ediv_nonneg c0' (by omega)
      · k_extra "rr"
        have h1 := Int.emod_nonneg (m' * 48271033 + 37) (show (2147483629 : Int) ≠ 0 by decide)
        have h2 := Int.emod_lt_of_pos (m' * 48271033 + 37) (show (0 : Int) < 2147483629 by decide)
        refine q _ _ (bb.trans But.upd) ⟨ns, i', c', _, upd_same, upd2 nrb hn', hl, i0', c0', h1, h2⟩ (Int.emod_nonneg _ (by omega)) (Int.emod_lt_of_pos _ (by omega))
end

/-! ### drawn things -/
def spOf (K : PySem.W.Frag) : Sp := fun vs H Q _ => ∃ (b r : Addr) (x : V), vs = [.ref b, x] ∧ BagAt H b r ∧
  ((∃ z : Str, x = .str z ∧ 0 < z.length ∧ z.length ≤ 1000 ∧ ∀ (c : Nat) (H' : Hp), c ∈ z.cps.toList → But b H H' → BagAt H' b r → Q (.str ⟨#[c]⟩) H') ∨
   (∃ (p : Addr) (xs : List V), x = .ref p ∧ p ≠ b ∧ SqL K H p xs ∧ 0 < xs.length ∧ xs.length ≤ 1000 ∧ ∀ (i : Nat) (v : V) (H' : Hp), xs[i]? = some v → But b H H' → BagAt H' b r → Q v H'))
theorem at_str {z : Str} {k : Int} (h0 : 0 ≤ k) (h1 : k < z.length) : ∃ c, atI z.cps.toList k = some c ∧ c ∈ z.cps.toList := by
  have hl : k.toNat < z.cps.toList.length := by
    have e : z.cps.toList.length = z.length := by simp [Str.length]
    omega
  refine ⟨z.cps.toList[k.toNat], ?_, List.getElem_mem hl⟩
  have e := atI_nat (xs := z.cps.toList) (j := k.toNat) (v := z.cps.toList[k.toNat]) (List.getElem?_eq_getElem hl)
  rw [show ((k.toNat : Nat) : Int) = k by omega] at e
  exact e
theorem at_lst {xs : List V} {k : Int} (h0 : 0 ≤ k) (h1 : k < xs.length) : ∃ v, atI xs k = some v ∧ xs[k.toNat]? = some v := by
  have hl : k.toNat < xs.length := by omega
  refine ⟨xs[k.toNat], ?_, List.getElem?_eq_getElem hl⟩
  have e := atI_nat (xs := xs) (j := k.toNat) (v := xs[k.toNat]) (List.getElem?_eq_getElem hl)
  rw [show ((k.toNat : Nat) : Int) = k by omega] at e
  exact e
section
variable {P : Program} {w : World} {K : PySem.W.Frag} {mg : Str → Option Value} {base : Heap} {f : Addr} {fd : FuncData}
theorem ok_law_of (F : Fun K "_law_of" "_law_of" s_law_of f fd) (T : Txt mg) (c_law_take : Cal P w K mg base 1 "_law_take" spTake) : FnOk P w K mg base CX0 2 f fd ["_law_bag_z", "_law_things"] (spOf K) := by
  refine F.ok sc_law_of (fun vs H Q E h => ?_) (fun cdv A outer s H vs Q E hr h => ?_)
  · obtain ⟨b, r, x, rfl, _⟩ := h
    rfl
  · obtain ⟨b, r, x, rfl, hb, h⟩ := h
    refine ⟨_, (pss_one (ps_ret (pe_ix (ix_X K) (pv 1) (pe_c c_law_take hr (by omega) (by rfl) (pa_cons (pv 0) (pa_cons (pe_callB (call_lenX K) (by rfl) T.len PySem.boot_len (pa_cons (pv 1) pa_nil)) pa_nil))) (fun _ _ => rfl)))), ?_⟩
    rcases h with ⟨z, rfl, z0, z1, q⟩ | ⟨p, xs, rfl, npb, hx, z0, z1, q⟩
    · change (_ : TS) _ [some (V.ref b), some (V.str z)] _
      k_extra "rr"
      refine ⟨b, r, _, rfl, hb, by omega, by omega, fun k H' bb hb' k0 k1 => ?_⟩
      obtain ⟨c, e1, e2⟩ := at_str k0 k1
      exact ixS (by k_extra "sz") e1 (q c H' e2 bb hb')
    · change (_ : TS) _ [some (V.ref b), some (V.ref p)] _
      k_extra "rr"
      refine ⟨b, r, _, rfl, hb, by omega, by omega, fun k H' bb hb' k0 k1 => ?_⟩
      obtain ⟨v, e1, e2⟩ := at_lst k0 k1
      exact ixL (SqL.but bb npb hx) e1 (q _ v H' e2 bb hb')
end
/-! a text of letters -/
def letters : List Nat := [97, 98, 99, 100, 101, 102, 103, 104, 105, 106, 107, 108, 109, 110, 111, 112, 113, 114, 115, 116, 117, 118, 119, 120, 121, 122]
theorem letters_eq : Str.ofString "abcdefghijklmnopqrstuvwxyz" = SX.S letters := by decide +kernel
def fixW (w : Str) : Str := if w = "if" then "iff" else if w = "is" then "iss" else if w = "end" then "en" else if w = "rest" then "res" else w
/-- the k-th of the words that differ at a place -/
def wordAt (st : List Nat) (at_ s0 k : Nat) : List Nat := st.take at_ ++ [letters.getD ((s0 + 5 * k) % 26) 0] ++ st.drop at_
theorem wordAt_len (st : List Nat) (at_ s0 k : Nat) : (wordAt st at_ s0 k).length ≤ st.length + 1 := by
  unfold wordAt
  rw [List.length_append, List.length_append, List.length_take, List.length_drop, List.length_singleton]
  omega
def fixed : List (Key × V) := [(.inr "if", .str "iff"), (.inr "is", .str "iss"), (.inr "end", .str "en"), (.inr "rest", .str "res")]
theorem fixed_merge : mergeK [] fixed = fixed := by decide +kernel
theorem fixed_get (w : Str) : (valV fixed (.inr w : Key)).getD (.str w) = .str (fixW w) := by
  unfold fixed fixW
  by_cases h1 : w = "if"
  · rw [if_pos h1, valV_pos (by rw [h1])]
    rfl
  rw [if_neg h1, valV_neg (fun z => h1 (Sum.inr.inj z).symm)]
  by_cases h2 : w = "is"
  · rw [if_pos h2, valV_pos (by rw [h2])]
    rfl
  rw [if_neg h2, valV_neg (fun z => h2 (Sum.inr.inj z).symm)]
  by_cases h3 : w = "end"
  · rw [if_pos h3, valV_pos (by rw [h3])]
    rfl
  rw [if_neg h3, valV_neg (fun z => h3 (Sum.inr.inj z).symm)]
  by_cases h4 : w = "rest"
  · rw [if_pos h4, valV_pos (by rw [h4])]
    rfl
  rw [if_neg h4, valV_neg (fun z => h4 (Sum.inr.inj z).symm), valV_nil]
  rfl
def Words (many most : Int) (ws : List Str) : Prop := ∃ (st : List Nat) (at_ s0 : Nat), (st.length : Int) < most ∧ (∀ c ∈ st, c ∈ letters) ∧ at_ ≤ st.length ∧ s0 < 26 ∧
  ws = (List.range many.toNat).map fun k => fixW (SX.S (wordAt st at_ s0 k))
def spWords : Sp := fun vs H Q _ => ∃ (b r : Addr) (many most : Int), vs = [.ref b, .int many, .int most] ∧ BagAt H b r ∧ 0 ≤ many ∧ many ≤ 100 ∧ 1 ≤ most ∧ most ≤ 100 ∧
  ∀ (ws : List Str) (p : Addr) (H' : Hp), Words many most ws → But b H H' → BagAt H' b r → H p = none → H' p = some (.lst (ws.map V.str)) → p ≠ b → Q (.ref p) H'
section
variable {P : Program} {w : World} {K : PySem.W.Frag} {mg : Str → Option Value} {base : Heap} {f : Addr} {fd : FuncData}
theorem ok_law_words (F : Fun K "_law_words" "_law_words" s_law_words f fd) (T : Txt mg) (c_law_take : Cal P w K mg base 1 "_law_take" spTake) (c_law_of : Cal P w K mg base 2 "_law_of" (spOf K)) : FnOk P w K mg base CX0 3 f fd ["_law_bag_z", "_law_many", "_law_most"] spWords := by
  refine F.ok sc_law_words (fun vs H Q E h => ?_) (fun cdv A outer s H vs Q E hr h => ?_)
  · obtain ⟨b, r, many, most, rfl, _⟩ := h
    rfl
  · obtain ⟨b, r, many, most, rfl, hb, k0, k1, l0, l1, q⟩ := h
    refine ⟨_, (pss_cons (ps_set (i := 3) sc_law_words.nd rfl (.inr rfl) pe_str)
      (pss_cons (ps_set (i := 4) sc_law_words.nd rfl (.inr rfl) (pe_joinX K pe_str (pe_lc (own := [("_law_k", 9)]) (g := gName 9) (tt := tYes) (by rfl) sc_law_words.nd (pi_range1 (by rfl) T.range (pa_cons (pe_c c_law_take hr (by omega) (by rfl) (pa_cons (pv 0) (pa_cons (pv 2) pa_nil))) pa_nil)) (blkOk_by (own := [("_law_k", 9)]) (N := ["_law_bag_z", "_law_many", "_law_most", "_law_letters", "_law_stem", "_law_at", "_law_start", "_law_found", "_law_fixed", "_law_k", "_law_word"]) (sc := defScope s_law_words) (by decide +kernel)) (fun _ _ _ _ _ => pg_name (i := 9) sc_law_words.nd rfl (Or.inl rfl)) (fun _ _ _ _ _ => pts_nil) (fun _ _ _ _ _ => (pe_c c_law_of hr (by omega) (by rfl) (pa_cons (pv 0) (pa_cons (pv 3) pa_nil)))))))
      (pss_cons (ps_asg (pe_tup (pa_cons (pe_c c_law_take hr (by omega) (by rfl) (pa_cons (pv 0) (pa_cons (pe_op (op_addX K) (pe_callB (call_lenX K) (by rfl) T.len PySem.boot_len (pa_cons (pv 4) pa_nil)) pe_int) pa_nil))) (pa_cons (pe_c c_law_take hr (by omega) (by rfl) (pa_cons (pv 0) (pa_cons pe_int pa_nil))) pa_nil))) (pg_tupX K (pg_tup (n := 2) (by rfl) (pgs_cons (pg_name (i := 5) sc_law_words.nd rfl (.inr rfl)) (pgs_cons (pg_name (i := 6) sc_law_words.nd rfl (.inr rfl)) pgs_nil)))))
      (pss_cons (ps_setLc (i := 7) (own := [("_law_k", 9)]) (g := gName 9) (tt := tYes) (by rfl) sc_law_words.nd rfl rfl (sw_true rfl rfl rfl (by decide +kernel)) (pi_range1 (by rfl) T.range (pa_cons (pv 1) pa_nil)) (blkOk_by (own := [("_law_k", 9)]) (N := ["_law_bag_z", "_law_many", "_law_most", "_law_letters", "_law_stem", "_law_at", "_law_start", "_law_found", "_law_fixed", "_law_k", "_law_word"]) (sc := defScope s_law_words) (by decide +kernel)) (fun _ _ _ _ _ => pg_name (i := 9) sc_law_words.nd rfl (Or.inl rfl)) (fun _ _ _ _ _ => pts_nil) (fun _ _ _ _ _ => (pe_op (op_addX K) (pe_op (op_addX K) (pe_slice (sl_X K) (pv 4) po_none (po_some (pv 5))) (pe_ix (ix_X K) (pv 3) (pe_op op_mod (pe_callTy cr_int (by rfl) T.int (by decide +kernel) (pa_cons (pe_op (op_addX K) (pv 6) (pe_op op_mulX pe_int (pv 9))) pa_nil)) pe_int) (fun _ _ => rfl))) (pe_slice (sl_X K) (pv 4) (po_some (pv 5)) po_none))))
      (pss_cons (ps_set (i := 8) sc_law_words.nd rfl (.inr rfl) (pe_disp (pps_cons pe_str pe_str (pps_cons pe_str pe_str (pps_cons pe_str pe_str (pps_cons pe_str pe_str pps_nil)))) (by rfl) (by rfl) (fun z => by cases z) (by decide)))
      (pss_one (ps_ret (pe_lc (own := [("_law_word", 10)]) (g := gName 10) (tt := tYes) (by rfl) sc_law_words.nd (pi_listX K (pv 7)) (blkOk_by (own := [("_law_word", 10)]) (N := ["_law_bag_z", "_law_many", "_law_most", "_law_letters", "_law_stem", "_law_at", "_law_start", "_law_found", "_law_fixed", "_law_k", "_law_word"]) (sc := defScope s_law_words) (by decide +kernel)) (fun _ _ _ _ _ => pg_name (i := 10) sc_law_words.nd rfl (Or.inl rfl)) (fun _ _ _ _ _ => pts_nil) (fun _ _ _ _ _ => (pe_dget2 (hu_of hr) (pv 8) (pv 10) (pv 10) ⟨rfl, rfl, rfl, rfl⟩)))))))))), ?_⟩
    change (_ : TS) _ [some (V.ref b), some (.int many), some (.int most), none, none, none, none, none, none, none, none] _
    k_extra "rr"
    refine ⟨b, r, _, rfl, hb, l0, by omega, fun n1 H1 bb1 hb1 n10 n11 => ?_⟩
    k_extra "rr"
    intro D nD
    refine lc_range (lo := 0) (n := n1.toNat) (fun i H' => ∃ cs : List Nat, cs.length = i ∧ (∀ c ∈ cs, c ∈ letters) ∧ H' D = some (.lst (cs.map fun c => V.str ⟨#[c]⟩)) ∧ But b H1 H' ∧ BagAt H' b r)
      ⟨[], rfl, (fun _ h => by cases h), upd_same, But.new nD, hb1.new nD⟩ ?_ ?_
    · rintro i H' hi ⟨cs, ec, hc, eD, bb, hb'⟩
      k_extra "rr"
      refine ⟨rfl, ?_⟩
      k_extra "rr"
      refine ⟨b, r, _, rfl, hb', .inl ⟨_, rfl, by decide +kernel, by decide +kernel, fun c H2 hc2 bb2 hb2 => ?_⟩⟩
      obtain ⟨nDb, nDr⟩ := hb1.ne_none nD
      refine ⟨_, bb2 _ _ eD nDb, by rw [List.length_map, sizeLine_eq]; omega, cs ++ [c], by rw [List.length_append, ec]; rfl, fun d hd => ?_, ?_, (bb.trans bb2).mutNew nD, hb2.mut hb1 nD⟩
      · rcases List.mem_append.mp hd with h | h
        · exact hc d h
        · rw [List.mem_singleton.mp h]
          rw [letters_eq] at hc2
          exact hc2
      · rw [upd_same, List.map_append]
        rfl
    · rintro H' ⟨cs, ec, hc, eD, bb, hb'⟩
      have eD' : H' D = some (.lst ((cs.map fun c => (⟨#[c]⟩ : Str)).map V.str)) := by
        rw [List.map_map]
        exact eD
      rw [empty_S]
      refine joinL (SqL.of eD') (by rw [len_sg, S_len0, Nat.mul_zero]; omega) ?_
      rw [join_sg]
      have hs : (SX.S cs).length ≤ sizeLine := by rw [SX.S_len, sizeLine_eq]; omega
      k_extra "rr"
      have hs2 : (((SX.S cs).length : Nat) : Int) = cs.length := by rw [SX.S_len]
      refine ⟨b, r, _, rfl, hb', by omega, by omega, fun n2 H2 bb2 hb2 n20 n21 => ?_⟩
      k_extra "rr"
      refine ⟨b, r, _, rfl, hb2, by omega, by omega, fun n3 H3 bb3 hb3 n30 n31 => ?_⟩
      k_extra "rr"
      refine ⟨by k_extra "sz", fun p np => ?_⟩
      k_extra "rr"
      have hbP := hb3.new (o := .tup [V.int n2, V.int n3]) np
      have bbP : But b H (upd H3 p (.tup [V.int n2, V.int n3])) := ((((bb1.trans bb).trans bb2).trans bb3).trans (But.new np))
      generalize upd H3 p (.tup [V.int n2, V.int n3]) = HP at hbP bbP
      intro L nL
      refine lc_range (lo := 0) (n := many.toNat) (fun i H' => H' = upd HP L (.lst ((List.range i).map fun k => V.str (SX.S (wordAt cs n2.toNat n3.toNat k))))) rfl ?_ ?_
      · rintro i H' hi rfl
        k_extra "rr"
        refine ⟨rfl, ?_⟩
        k_extra "rr"
        rw [cut_to cs n20]
        k_extra "rr"
        have hix : ((n3 + 5 * (0 + (i : Int))) % 26) = (((n3.toNat + 5 * i) % 26 : Nat) : Int) := by omega
        have hlt : (n3.toNat + 5 * i) % 26 < letters.length := Nat.mod_lt _ (by decide)
        refine ixS (k := letters.getD ((n3.toNat + 5 * i) % 26) 0) (by decide +kernel) ?_ ?_
        · rw [hix, letters_eq]
          refine atI_nat ?_
          show letters[(n3.toNat + 5 * i) % 26]? = some (letters.getD ((n3.toNat + 5 * i) % 26) 0)
          rw [List.getElem?_eq_getElem hlt, List.getD_eq_getElem?_getD, List.getElem?_eq_getElem hlt]
          rfl
        have h1 : (SX.S (cs.take n2.toNat)).length + (⟨#[letters.getD ((n3.toNat + 5 * i) % 26) 0]⟩ : Str).length ≤ sizeLine := by
          rw [SX.S_len, List.length_take, sizeLine_eq]
          show _ + 1 ≤ _
          omega
        refine addS h1 ?_
        rw [show (⟨#[letters.getD ((n3.toNat + 5 * i) % 26) 0]⟩ : Str) = SX.S [letters.getD ((n3.toNat + 5 * i) % 26) 0] from rfl, SX.S_cat]
        k_extra "rr"
        rw [cut_from cs n20]
        refine addS ?_ ?_
        · rw [SX.S_len, SX.S_len, List.length_append, List.length_take, List.length_drop, sizeLine_eq]
          show _ + 1 + _ ≤ _
          omega
        rw [SX.S_cat]
        refine ⟨_, upd_same, ?_, ?_⟩
        · rw [List.length_map, List.length_range, sizeLine_eq]
          omega
        · rw [upd_upd, List.range_succ, List.map_append]
          rfl
      · rintro H' rfl
        k_extra "rr"
        refine disp fun d nd => ?_
        k_extra "rr"
        refine ⟨upd_same, fixed, rfl, by decide, ?_⟩
        rw [upd_upd, fixed_merge]
        have nLd : L ≠ d := ne_of_none upd_same nd
        have nd0 := un0 nd
        have eL : (upd (upd HP L (.lst ((List.range many.toNat).map fun k => V.str (SX.S (wordAt cs n2.toNat n3.toNat k))))) d (.dK fixed)) L = some (.lst ((List.range many.toNat).map fun k => V.str (SX.S (wordAt cs n2.toNat n3.toNat k)))) := upd2 nLd upd_same
        have bbL : But b H (upd HP L (.lst ((List.range many.toNat).map fun k => V.str (SX.S (wordAt cs n2.toNat n3.toNat k))))) := bbP.trans (But.new nL)
        have hbL := hbP.new (o := .lst ((List.range many.toNat).map fun k => V.str (SX.S (wordAt cs n2.toNat n3.toNat k)))) nL
        have bbD := bbL.trans (But.new (o := .dK fixed) nd)
        have hbD := hbL.new (o := .dK fixed) nd
        have eD2 : (upd (upd HP L (.lst ((List.range many.toNat).map fun k => V.str (SX.S (wordAt cs n2.toNat n3.toNat k))))) d (.dK fixed)) d = some (.dK fixed) := upd_same
        generalize upd (upd HP L (.lst ((List.range many.toNat).map fun k => V.str (SX.S (wordAt cs n2.toNat n3.toNat k))))) d (.dK fixed) = HD at eL eD2 bbD hbD
        k_extra "rr"
        intro R nR
        have nLR : L ≠ R := ne_of_none eL nR
        have ndR : d ≠ R := ne_of_none eD2 nR
        refine lc_list (K := K) (a := L) (xs := (List.range many.toNat).map fun k => V.str (SX.S (wordAt cs n2.toNat n3.toNat k))) (fun i H' => H' = upd HD R (.lst ((List.range i).map fun k => V.str (fixW (SX.S (wordAt cs n2.toNat n3.toNat k)))))) rfl ?_ ?_ ?_
        · rintro i H' _ rfl
          exact SqL.of (upd2 nLR eL)
        · rintro i x H' hi rfl
          obtain ⟨u, hu, rfl⟩ := map_at hi
          obtain ⟨hlt, rfl⟩ := List.getElem?_eq_some_iff.mp hu
          rw [List.length_range] at hlt
          rw [List.getElem_range]
          k_extra "rr"
          refine ⟨rfl, ?_⟩
          k_extra "rr"
          refine ⟨d, rfl, .inl ⟨fixed, .inl (upd2 ndR eD2)⟩, ?_⟩
          k_extra "rr"
          refine ⟨_, DGet.k (k := .inr _) (upd2 ndR eD2), ?_⟩
          rw [fixed_get]
          refine ⟨_, upd_same, ?_, ?_⟩
          · rw [List.length_map, List.length_range, sizeLine_eq]
            omega
          · rw [upd_upd, List.range_succ, List.map_append]
            rfl
        · rintro H' rfl
          k_extra "rr"
          refine q ((List.range many.toNat).map fun k => fixW (SX.S (wordAt cs n2.toNat n3.toNat k))) R _ ⟨cs, n2.toNat, n3.toNat, by omega, hc, by omega, by omega, rfl⟩ (bbD.trans (But.new nR)) (hbD.new nR) (bbD.free hbD.ex nR) ?_ (hbD.ne_none nR).1
          rw [upd_same, List.length_map, List.length_range, List.map_map]
          rfl
end

theorem letters_get {i : Nat} (h : i < 26) : letters.getD i 0 ∈ letters := by
  rw [List.getD_eq_getElem?_getD, List.getElem?_eq_getElem (show i < letters.length from h)]
  exact List.getElem_mem h
theorem wordAt_ok {st : List Nat} {at_ s0 k : Nat} (h : ∀ c ∈ st, c ∈ letters) : (∀ c ∈ wordAt st at_ s0 k, c ∈ letters) ∧ 1 ≤ (wordAt st at_ s0 k).length ∧ (wordAt st at_ s0 k).length ≤ st.length + 1 := by
  refine ⟨fun c hc => ?_, ?_, wordAt_len st at_ s0 k⟩
  · unfold wordAt at hc
    rcases List.mem_append.mp hc with hc | hc
    · rcases List.mem_append.mp hc with hc | hc
      · exact h c (List.mem_of_mem_take hc)
      · rw [List.mem_singleton.mp hc]
        exact letters_get (Nat.mod_lt _ (by decide))
    · exact h c (List.mem_of_mem_drop hc)
  · unfold wordAt
    rw [List.length_append, List.length_append, List.length_singleton]
    omega
theorem fix_ok {l : List Nat} (h : ∀ c ∈ l, c ∈ letters) (h1 : 1 ≤ l.length) : ∃ m : List Nat, fixW (SX.S l) = SX.S m ∧ (∀ c ∈ m, c ∈ letters) ∧ 1 ≤ m.length ∧ (m.length ≤ l.length ∨ m.length = 3) := by
  unfold fixW
  by_cases h2 : SX.S l = "if"
  · rw [if_pos h2]
    exact ⟨[105, 102, 102], by decide +kernel, by decide, by decide, .inr rfl⟩
  rw [if_neg h2]
  by_cases h3 : SX.S l = "is"
  · rw [if_pos h3]
    exact ⟨[105, 115, 115], by decide +kernel, by decide, by decide, .inr rfl⟩
  rw [if_neg h3]
  by_cases h4 : SX.S l = "end"
  · rw [if_pos h4]
    have e : l = [101, 110, 100] := SX.S_inj (h4.trans (by decide +kernel))
    exact ⟨[101, 110], by decide +kernel, by decide, by decide, .inl (by rw [e]; decide)⟩
  rw [if_neg h4]
  by_cases h5 : SX.S l = "rest"
  · rw [if_pos h5]
    exact ⟨[114, 101, 115], by decide +kernel, by decide, by decide, .inr rfl⟩
  rw [if_neg h5]
  exact ⟨l, rfl, h, h1, .inl (Nat.le_refl _)⟩


/-! ### a text of signs -/
def signsL : List Nat := [32, 33, 35, 36, 38, 39, 40, 41, 42, 43, 44, 45, 46, 47, 58, 59, 60, 61, 62, 63, 64, 91, 93, 94, 95, 123, 124, 125, 126, 48, 49, 56, 57, 65, 77, 90, 97, 109, 122]
theorem signs_eq : Str.ofString " !#$&'()*+,-./:;<=>?\x40[]^_{|}~0189AMZamz" = SX.S signsL := by decide +kernel
def spSign : Sp := fun vs H Q _ => ∃ (b r : Addr) (most : Int), vs = [.ref b, .int most] ∧ BagAt H b r ∧ 0 ≤ most ∧ most ≤ 1000 ∧
  ∀ (l : List Nat) (H' : Hp), (l.length : Int) ≤ most → (∀ c ∈ l, c ∈ signsL) → But b H H' → BagAt H' b r → Q (.str (SX.S l)) H'
section
variable {P : Program} {w : World} {K : PySem.W.Frag} {mg : Str → Option Value} {base : Heap} {f : Addr} {fd : FuncData}
end

/-! ### equal and of the same kinds -/
def sca : V → Bool
  | .non => true
  | .bl _ => true
  | .int _ => true
  | .str _ => true
  | _ => false
/-- equal data of the same kinds, nested below n -/
def Alk (K : PySem.W.Frag) (H : Hp) : Nat → V → V → Prop
  | 0 => fun _ _ => False
  | n + 1 => fun x y => (x = y ∧ sca x = true) ∨ ∃ a b xs ys, x = .ref a ∧ y = .ref b ∧ ((SqL K H a xs ∧ SqL K H b ys) ∨ (SqT K H a xs ∧ SqT K H b ys)) ∧ xs.length = ys.length ∧ xs.length ≤ 100000 ∧
      ∀ (i : Nat) (x y : V), xs[i]? = some x → ys[i]? = some y → Alk K H n x y
theorem Alk.same {K : PySem.W.Frag} {H H' : Hp} (s : Same H H') : ∀ {n : Nat} {x y : V}, Alk K H n x y → Alk K H' n x y
  | 0, _, _, h => h
  | n + 1, x, y, h => by
    rcases h with h | ⟨a, b, xs, ys, rfl, rfl, h, hl, hz, k⟩
    · exact .inl h
    · refine .inr ⟨a, b, xs, ys, rfl, rfl, ?_, hl, hz, fun i x y h1 h2 => Alk.same s (k i x y h1 h2)⟩
      rcases h with ⟨h1, h2⟩ | ⟨h1, h2⟩
      · exact .inl ⟨s.seq h1, s.seq h2⟩
      · exact .inr ⟨Rg.Same.seqT s h1, Rg.Same.seqT s h2⟩
def spAlike (K : PySem.W.Frag) (n : Nat) : Sp := fun vs H Q _ => ∃ (x y : V), vs = [x, y] ∧ Alk K H n x y ∧ ∀ H', Same H H' → Q (.bl true) H'
section
variable {P : Program} {w : World} {K : PySem.W.Frag} {mg : Str → Option Value} {base : Heap} {f : Addr} {fd : FuncData}
theorem ok_law_alike0 (F : Fun K "_law_alike" "_law_alike" s_law_alike f fd) : FnOk P w K mg base CX0 1 f fd ["_law_found", "_law_due"] (spAlike K 0) := by
  refine F.ok sc_law_alike (fun vs H Q E h => ?_) (fun cdv A outer s H vs Q E hr h => ?_)
  · obtain ⟨x, y, rfl, _⟩ := h
    rfl
  · obtain ⟨x, y, rfl, h, _⟩ := h
    exact h.elim
theorem ok_law_alike1 (F : Fun K "_law_alike" "_law_alike" s_law_alike f fd) (T : Txt mg) {n : Nat} (c_law_alike : Cal P w K mg base (n + 1) "_law_alike" (spAlike K n)) : FnOk P w K mg base CX0 (n + 2) f fd ["_law_found", "_law_due"] (spAlike K (n + 1)) := by
  refine F.ok sc_law_alike (fun vs H Q E h => ?_) (fun cdv A outer s H vs Q E hr h => ?_)
  · obtain ⟨x, y, rfl, _⟩ := h
    rfl
  · obtain ⟨x, y, rfl, h, q⟩ := h
    refine ⟨_, (pss_cons (ps_if (PW.pt (pw_or (pt_cmpR op_isNn (pv 1) pe_non (nomark _)) (pw_or1 (pt_cmpR op_isNn (pv 0) pe_non (nomark _))))) (pss_one (ps_ret (pe_and (pe_cmpR op_isNn (pv 1) pe_non (nomark _)) (pe_one (pe_cmpR op_isNn (pv 0) pe_non (nomark _)))))) pss_nil)
      (pss_cons (ps_if (PW.pt (pw_or (pt_val (pe_callB (cr_isi K) (by rfl) T.isinstance (by decide +kernel) (pa_cons (pv 1) (pa_cons (pe_bltn (v := .ty "bool") (by rfl) T.bool (by decide +kernel) rfl) pa_nil)))) (pw_or1 (pt_val (pe_callB (cr_isi K) (by rfl) T.isinstance (by decide +kernel) (pa_cons (pv 0) (pa_cons (pe_bltn (v := .ty "bool") (by rfl) T.bool (by decide +kernel) rfl) pa_nil))))))) (pss_one (ps_ret (pe_and (pe_callB (cr_isi K) (by rfl) T.isinstance (by decide +kernel) (pa_cons (pv 1) (pa_cons (pe_bltn (v := .ty "bool") (by rfl) T.bool (by decide +kernel) rfl) pa_nil))) (pe_and (pe_callB (cr_isi K) (by rfl) T.isinstance (by decide +kernel) (pa_cons (pv 0) (pa_cons (pe_bltn (v := .ty "bool") (by rfl) T.bool (by decide +kernel) rfl) pa_nil))) (pe_one (pe_cmpR (op_eqX K hr) (pv 0) (pv 1) (nomark _))))))) pss_nil)
      (pss_cons (ps_if (pt_val (pe_callB (cr_isiT K) (by rfl) T.isinstance (by decide +kernel) (pa_cons (pv 1) (pa_cons (pe_tup (pa_cons (pe_bltn (v := .ty "int") (by rfl) T.int (by decide +kernel) rfl) (pa_cons (pe_bltn (v := .ty "str") (by rfl) T.str (by decide +kernel) rfl) pa_nil))) pa_nil)))) (pss_one (ps_ret (pe_and (pe_callB (cr_isiT K) (by rfl) T.isinstance (by decide +kernel) (pa_cons (pv 0) (pa_cons (pe_tup (pa_cons (pe_bltn (v := .ty "int") (by rfl) T.int (by decide +kernel) rfl) (pa_cons (pe_bltn (v := .ty "str") (by rfl) T.str (by decide +kernel) rfl) pa_nil))) pa_nil))) (pe_and (pe_cmpR (op_eqX K hr) (pe_callB (cr_isi K) (by rfl) T.isinstance (by decide +kernel) (pa_cons (pv 0) (pa_cons (pe_bltn (v := .ty "int") (by rfl) T.int (by decide +kernel) rfl) pa_nil))) (pe_callB (cr_isi K) (by rfl) T.isinstance (by decide +kernel) (pa_cons (pv 1) (pa_cons (pe_bltn (v := .ty "int") (by rfl) T.int (by decide +kernel) rfl) pa_nil))) (nomark _)) (pe_one (pe_cmpR (op_eqX K hr) (pv 0) (pv 1) (nomark _))))))) pss_nil)
      (pss_cons (ps_if (pt_val (pe_callB (cr_isi K) (by rfl) T.isinstance (by decide +kernel) (pa_cons (pv 1) (pa_cons (pe_bltn (v := .ty "dict") (by rfl) T.dict (by decide +kernel) rfl) pa_nil)))) pss_never pss_nil)
      (pss_cons (ps_if (PW.pt (pw_or (pt_cmpR (op_neX K hr) (pe_callB (cr_isi K) (by rfl) T.isinstance (by decide +kernel) (pa_cons (pv 1) (pa_cons (pe_bltn (v := .ty "tuple") (by rfl) T.tuple (by decide +kernel) rfl) pa_nil))) (pe_callB (cr_isi K) (by rfl) T.isinstance (by decide +kernel) (pa_cons (pv 0) (pa_cons (pe_bltn (v := .ty "tuple") (by rfl) T.tuple (by decide +kernel) rfl) pa_nil))) (nomark _)) (pw_or1 (pt_cmpR (op_neX K hr) (pe_callB (cr_isi K) (by rfl) T.isinstance (by decide +kernel) (pa_cons (pv 1) (pa_cons (pe_bltn (v := .ty "list") (by rfl) T.list (by decide +kernel) rfl) pa_nil))) (pe_callB (cr_isi K) (by rfl) T.isinstance (by decide +kernel) (pa_cons (pv 0) (pa_cons (pe_bltn (v := .ty "list") (by rfl) T.list (by decide +kernel) rfl) pa_nil))) (nomark _))))) (pss_one (ps_ret pe_bl)) pss_nil)
      (pss_one (ps_ret (pe_and (pe_cmpR (op_eqX K hr) (pe_callB (call_lenX K) (by rfl) T.len PySem.boot_len (pa_cons (pv 0) pa_nil)) (pe_callB (call_lenX K) (by rfl) T.len PySem.boot_len (pa_cons (pv 1) pa_nil)) (nomark _)) (pe_one (pe_callB (cr_allX K (by rfl)) (by rfl) T.all (by decide +kernel) (pa_cons (pe_lc (own := [("_law_one", 3), ("_law_two", 4)])  (tt := tYes) (by rfl) sc_law_alike.nd (pi_zipX K (RZ.pi_zipA (by rfl) T.zip (pa_cons (pv 0) (pa_cons (pv 1) pa_nil)))) (blkOk_by (own := [("_law_one", 3), ("_law_two", 4)]) (N := ["_law_found", "_law_due", "_law_key", "_law_one", "_law_two"]) (sc := defScope s_law_alike) (by decide +kernel)) (fun _ _ _ _ _ => pg_tupX K (pg_tup (n := 2) (by rfl) (pgs_cons (pg_name (i := 3) sc_law_alike.nd rfl (Or.inl rfl)) (pgs_cons (pg_name (i := 4) sc_law_alike.nd rfl (Or.inl rfl)) pgs_nil)))) (fun _ _ _ _ _ => pts_nil) (fun _ _ _ _ _ => (pe_c c_law_alike hr (by omega) (by rfl) (pa_cons (pv 3) (pa_cons (pv 4) pa_nil))))) pa_nil))))))))))), ?_⟩
    rcases h with ⟨rfl, hx⟩ | ⟨a, b, xs, ys, rfl, rfl, h, hl, hz, k⟩
    · cases x with
      | non =>
        change (_ : TS) _ [some V.non, some V.non, none, none, none] _
        k_extra "rr"
        exact q H (Same.refl H)
      | bl c =>
        change (_ : TS) _ [some (V.bl c), some (V.bl c), none, none, none] _
        k_extra "rr"
        rw [decide_eq_true rfl]
        exact q H (Same.refl H)
      | int i =>
        change (_ : TS) _ [some (V.int i), some (V.int i), none, none, none] _
        k_extra "rr"
        refine ⟨by k_extra "sz", fun t nt => ?_⟩
        k_extra "rr"
        refine isiT (b := true) upd_same (cls2 _ _) (.base (.int _)) (kitAny2 kB_int_int kB_int_str) ?_
        k_extra "rr"
        refine ⟨by k_extra "sz", fun t2 nt2 => ?_⟩
        k_extra "rr"
        refine isiT (b := true) upd_same (cls2 _ _) (.base (.int _)) (kitAny2 kB_int_int kB_int_str) ?_
        k_extra "rr"
        rw [decide_eq_true rfl]
        exact q _ ((same_upd nt).trans (same_upd nt2))
      | str z =>
        change (_ : TS) _ [some (V.str z), some (V.str z), none, none, none] _
        k_extra "rr"
        refine ⟨by k_extra "sz", fun t nt => ?_⟩
        k_extra "rr"
        refine isiT (b := true) upd_same (cls2 _ _) (.base (.str _)) (kitAny2 kB_str_int kB_str_str) ?_
        k_extra "rr"
        refine ⟨by k_extra "sz", fun t2 nt2 => ?_⟩
        k_extra "rr"
        refine isiT (b := true) upd_same (cls2 _ _) (.base (.str _)) (kitAny2 kB_str_int kB_str_str) ?_
        k_extra "rr"
        rw [decide_eq_true rfl]
        exact q _ ((same_upd nt).trans (same_upd nt2))
      | byt _ => cases hx
      | flt _ => cases hx
      | ref _ => cases hx
      | ty _ => cases hx
    · rcases h with ⟨h1, h2⟩ | ⟨h1, h2⟩
      · change (_ : TS) _ [some (V.ref a), some (V.ref b), none, none, none] _
        have t1 := tyx_L h1
        have t2 := tyx_L h2
        k_extra "rr"
        refine ⟨by k_extra "sz", fun t nt => ?_⟩
        have s1 : Same H (upd H t (.tup [V.ty "int", V.ty "str"])) := same_upd nt
        have h1' := Same.seq s1 h1
        have h2' := Same.seq s1 h2
        have t1' := tyx_L h1'
        have t2' := tyx_L h2'
        k_extra "rr"
        refine isiT (b := false) upd_same (cls2 _ _) t2' (kitAny2 kB_list_int kB_list_str) ?_
        generalize upd H t (.tup [V.ty "int", V.ty "str"]) = H1 at s1 h1' h2' t1' t2'
        k_extra "rr"
        rw [hl, decide_eq_true rfl]
        k_extra "rr"
        refine ⟨a, b, xs, ys, rfl, .inl ⟨h1', h2', fun D nD => ?_⟩⟩
        refine lc_it (walk_zip (K := K) (a := a) (b := b) (xs := xs) (ys := ys) (n := xs.length) (by rw [hl, Nat.min_self])) (fun i H' => H' D = some (.lst ((List.replicate i true).map V.bl)) ∧ Same H1 H')
          ⟨upd_same, same_upd nD⟩ (fun i H' _ p => ⟨Same.seq p.2 h1', Same.seq p.2 h2'⟩) ?_ ?_
        · rintro i x H2 H3 hi ⟨eD, s2⟩ ⟨T, x1, y1, rfl, nT, rfl, e1, e2⟩
          k_extra "rr"
          refine ⟨rfl, ?_⟩
          k_extra "rr"
          have s3 : Same H2 (upd H2 T (.tup [x1, y1])) := same_upd nT
          refine ⟨x1, y1, rfl, ((k i x1 y1 e1 e2).same (s1.trans s2)).same s3, fun H4 s4 => ?_⟩
          refine ⟨_, s4 _ _ (s3 _ _ eD), ?_, ?_, fun c o hc => ?_⟩
          · rw [List.length_map, List.length_replicate]
            rw [sizeLine_eq]
            omega
          · rw [upd_same, List.replicate_succ', List.map_append]
            rfl
          · rw [upd_ne (ne_of_none hc nD)]
            exact s4 _ _ (s3 _ _ (s2 _ _ hc))
        · rintro H2 ⟨eD, s2⟩
          k_extra "rr"
          refine all_ (SqL.of eD) ?_
          rw [show (List.replicate xs.length true).all id = true from List.all_eq_true.mpr fun z hz => List.eq_of_mem_replicate hz]
          exact q H2 (s1.trans s2)
      · change (_ : TS) _ [some (V.ref a), some (V.ref b), none, none, none] _
        have t1 := tyx_T h1
        have t2 := tyx_T h2
        k_extra "rr"
        refine ⟨by k_extra "sz", fun t nt => ?_⟩
        have s1 : Same H (upd H t (.tup [V.ty "int", V.ty "str"])) := same_upd nt
        have h1' := Rg.Same.seqT s1 h1
        have h2' := Rg.Same.seqT s1 h2
        have t1' := tyx_T h1'
        have t2' := tyx_T h2'
        k_extra "rr"
        refine isiT (b := false) upd_same (cls2 _ _) t2' (kitAny2 kB_tuple_int kB_tuple_str) ?_
        generalize upd H t (.tup [V.ty "int", V.ty "str"]) = H1 at s1 h1' h2' t1' t2'
        k_extra "rr"
        rw [hl, decide_eq_true rfl]
        k_extra "rr"
        refine ⟨a, b, xs, ys, rfl, .inr ⟨h1', h2', fun D nD => ?_⟩⟩
        refine lc_it (walk_zipT (K := K) (a := a) (b := b) (xs := xs) (ys := ys) (n := xs.length) (by rw [hl, Nat.min_self])) (fun i H' => H' D = some (.lst ((List.replicate i true).map V.bl)) ∧ Same H1 H')
          ⟨upd_same, same_upd nD⟩ (fun i H' _ p => ⟨Rg.Same.seqT p.2 h1', Rg.Same.seqT p.2 h2'⟩) ?_ ?_
        · rintro i x H2 H3 hi ⟨eD, s2⟩ ⟨T, x1, y1, rfl, nT, rfl, e1, e2⟩
          k_extra "rr"
          refine ⟨rfl, ?_⟩
          k_extra "rr"
          have s3 : Same H2 (upd H2 T (.tup [x1, y1])) := same_upd nT
          refine ⟨x1, y1, rfl, ((k i x1 y1 e1 e2).same (s1.trans s2)).same s3, fun H4 s4 => ?_⟩
          refine ⟨_, s4 _ _ (s3 _ _ eD), ?_, ?_, fun c o hc => ?_⟩
          · rw [List.length_map, List.length_replicate]
            rw [sizeLine_eq]
            omega
          · rw [upd_same, List.replicate_succ', List.map_append]
            rfl
          · rw [upd_ne (ne_of_none hc nD)]
            exact s4 _ _ (s3 _ _ (s2 _ _ hc))
        · rintro H2 ⟨eD, s2⟩
          k_extra "rr"
          refine all_ (SqL.of eD) ?_
          rw [show (List.replicate xs.length true).all id = true from List.all_eq_true.mpr fun z hz => List.eq_of_mem_replicate hz]
          exact q H2 (s1.trans s2)
end

/-! ### is_sign -/
def signB (c : Nat) : Bool := decide (32 ≤ c) && (decide (c ≤ 126) && !decide (c = 34))
def spIsSign : Sp := fun vs H Q _ => ∃ (c : Nat), vs = [.str ⟨#[c]⟩] ∧ Q (.bl (signB c)) H
section
variable {P : Program} {w : World} {K : PySem.W.Frag} {mg : Str → Option Value} {base : Heap} {f : Addr} {fd : FuncData}
end

/-! ### kinds and texts -/
def letters' : List Nat := letters
/-- a value that is a text, or is known to be none -/
def StrOr (K : PySem.W.Frag) (H : Hp) (x : V) : Prop := (∃ l : List Nat, x = .str (SX.S l) ∧ l.length ≤ 100000) ∨ ((∀ z, x ≠ .str z) ∧ ∃ T, TyX K H x (.type T) ∧ kitB T "str" = some false)
def wordB (x : V) (most : Int) : Bool := match x with
  | .str z => decide (1 ≤ (z.length : Int)) && (decide ((z.length : Int) ≤ most) && (z.cps.toList.map fun c => decide (c ∈ letters)).all id)
  | _ => false
def textB (x : V) : Bool := match x with
  | .str z => decide ((z.length : Int) ≤ 20) && (z.cps.toList.map signB).all id
  | _ => false
theorem wordB_no {x : V} (h : ∀ z, x ≠ .str z) (m : Int) : wordB x m = false := by
  cases x with
  | str z => exact absurd rfl (h z)
  | _ => rfl
theorem textB_no {x : V} (h : ∀ z, x ≠ .str z) : textB x = false := by
  cases x with
  | str z => exact absurd rfl (h z)
  | _ => rfl
def spWord (K : PySem.W.Frag) : Sp := fun vs H Q _ => ∃ (x : V) (most : Int), vs = [x, .int most] ∧ StrOr K H x ∧ ∀ H', Same H H' → Q (.bl (wordB x most)) H'
def spKind (K : PySem.W.Frag) : Sp := fun vs H Q _ => ∃ (x : V), vs = [x] ∧ StrOr K H x ∧ ∀ H', Same H H' → Q (.bl (wordB x 6)) H'
def spText (K : PySem.W.Frag) : Sp := fun vs H Q _ => ∃ (x : V), vs = [x] ∧ StrOr K H x ∧ ∀ H', Same H H' → Q (.bl (textB x)) H'
section
variable {P : Program} {w : World} {K : PySem.W.Frag} {mg : Str → Option Value} {base : Heap} {f : Addr} {fd : FuncData}
theorem ok_is_word (F : Fun K "is_word" "is_word" s_is_word f fd) (T : Txt mg) : FnOk P w K mg base CX0 1 f fd ["value", "most"] (spWord K) := by
  refine F.ok sc_is_word (fun vs H Q E h => ?_) (fun cdv A outer s H vs Q E hr h => ?_)
  · obtain ⟨x, m, rfl, _⟩ := h
    rfl
  · obtain ⟨x, m, rfl, hx, q⟩ := h
    refine ⟨_, (pss_one (ps_ret (pe_and (pe_callB (cr_isi K) (by rfl) T.isinstance (by decide +kernel) (pa_cons (pv 0) (pa_cons (pe_bltn (v := .ty "str") (by rfl) T.str (by decide +kernel) rfl) pa_nil))) (pe_and (pe_chain op_leX op_leX pe_int (pe_callB (call_lenX K) (by rfl) T.len PySem.boot_len (pa_cons (pv 0) pa_nil)) (pv 1)) (pe_one (pe_callB (cr_allX K (by rfl)) (by rfl) T.all (by decide +kernel) (pa_cons (pe_lc (own := [("sign", 2)]) (g := gName 2) (tt := tYes) (by rfl) sc_is_word.nd (pi_str (pv 0)) (blkOk_by (own := [("sign", 2)]) (N := ["value", "most", "sign"]) (sc := defScope s_is_word) (by decide +kernel)) (fun _ _ _ _ _ => pg_name (i := 2) sc_is_word.nd rfl (Or.inl rfl)) (fun _ _ _ _ _ => pts_nil) (fun _ _ _ _ _ => (pe_cmpR (op_inX K) (pv 2) (pe_gc (by rfl) T.g_SMALL) (by rfl)))) pa_nil))))))), ?_⟩
    rcases hx with ⟨l, rfl, hl⟩ | ⟨hn, T', hT, hk⟩
    · change (_ : TS) _ [some (V.str (SX.S l)), some (.int m), none] _
      have hs : (SX.S l).length ≤ sizeLine := by rw [SX.S_len, sizeLine_eq]; omega
      k_extra "rr"
      refine iteD (fun h1 => ?_) (fun h1 => ?_)
      · k_extra "rr"
        cases h2 : decide (((SX.S l).length : Int) ≤ m) with
        | false =>
          k_extra "rr"
          have e : wordB (.str (SX.S l)) m = false := by
            show (_ && (decide (((SX.S l).length : Int) ≤ m) && _)) = false
            rw [h2, Bool.false_and, Bool.and_false]
          rw [← e]
          exact q H (Same.refl H)
        | true =>
          k_extra "rr"
          intro D nD
          refine lc_signs (p := fun c => decide (c ∈ letters)) (fun c H' Q' hc q' => ?_) (fun v => rfl) hl ?_
          · k_extra "rr"
            rw [letters_eq]
            exact q'
          · k_extra "rr"
            refine all_ (SqL.of upd_same) ?_
            have e : wordB (.str (SX.S l)) m = (l.map fun c => decide (c ∈ letters)).all id := by
              show (decide (1 ≤ ((SX.S l).length : Int)) && (decide (((SX.S l).length : Int) ≤ m) && _)) = _
              rw [h2, decide_eq_true h1, Bool.true_and, Bool.true_and]
            rw [← e]
            exact q _ (same_upd nD)
      · k_extra "rr"
        have e : wordB (.str (SX.S l)) m = false := by
          show (decide (1 ≤ ((SX.S l).length : Int)) && _) = false
          rw [decide_eq_false h1, Bool.false_and]
        rw [← e]
        exact q H (Same.refl H)
    · change (_ : TS) _ [some x, some (.int m), none] _
      k_extra "rr"
      refine isi hT (kit_ty hk) ?_
      k_extra "rr"
      rw [← wordB_no hn m]
      exact q H (Same.refl H)
theorem ok_is_kind (F : Fun K "is_kind" "is_kind" s_is_kind f fd) (T : Txt mg) (c_is_word : Cal P w K mg base 1 "is_word" (spWord K)) : FnOk P w K mg base CX0 2 f fd ["value"] (spKind K) := by
  refine F.ok sc_is_kind (fun vs H Q E h => ?_) (fun cdv A outer s H vs Q E hr h => ?_)
  · obtain ⟨x, rfl, _⟩ := h
    rfl
  · obtain ⟨x, rfl, hx, q⟩ := h
    refine ⟨_, (pss_one (ps_ret (pe_c c_is_word hr (by omega) (by rfl) (pa_cons (pv 0) (pa_cons (pe_gc (by rfl) T.g_MOST_LETTERS) pa_nil))))), ?_⟩
    change (_ : TS) _ [some x] _
    k_extra "rr"
    exact ⟨x, 6, rfl, hx, fun H' s => q H' s⟩
end

/-! ### documents -/
inductive Fo where
  | nil
  | cons (k t : List Nat) (i r : Fo)
namespace Fo
def size : Fo → Nat
  | nil => 0
  | cons _ _ i r => 1 + i.size + r.size
def depth : Fo → Nat
  | nil => 0
  | cons _ _ i r => max (i.depth + 1) r.depth
def len : Fo → Nat
  | nil => 0
  | cons _ _ _ r => r.len + 1
def All (p : List Nat → List Nat → Prop) : Fo → Prop
  | nil => True
  | cons k t i r => p k t ∧ All p i ∧ All p r
def snoc : Fo → List Nat → List Nat → Fo → Fo
  | nil, k, t, i => cons k t i nil
  | cons k' t' i' r, k, t, i => cons k' t' i' (snoc r k t i)
theorem size_snoc (k t : List Nat) (i : Fo) : ∀ f : Fo, (snoc f k t i).size = f.size + i.size + 1
  | nil => by
    show 1 + i.size + 0 = 0 + i.size + 1
    omega
  | cons k' t' i' r => by
    have := size_snoc k t i r
    show 1 + i'.size + (snoc r k t i).size = 1 + i'.size + r.size + i.size + 1
    omega
theorem all_snoc {p : List Nat → List Nat → Prop} {k t : List Nat} {i : Fo} (h : p k t) (hi : i.All p) : ∀ {f : Fo}, f.All p → (snoc f k t i).All p
  | nil, _ => ⟨h, hi, trivial⟩
  | cons _ _ _ _, ⟨h1, h2, h3⟩ => ⟨h1, h2, all_snoc h hi h3⟩
theorem All.imp {p q : List Nat → List Nat → Prop} (h : ∀ k t, p k t → q k t) : ∀ {f : Fo}, f.All p → f.All q
  | nil, _ => trivial
  | cons _ _ _ _, ⟨h1, h2, h3⟩ => ⟨h _ _ h1, All.imp h h2, All.imp h h3⟩
theorem depth_le : ∀ f : Fo, f.depth ≤ f.size
  | nil => Nat.le_refl 0
  | cons k t i r => by
    have h1 := depth_le i
    have h2 := depth_le r
    show max (i.depth + 1) r.depth ≤ 1 + i.size + r.size
    omega
theorem len_le : ∀ f : Fo, f.len ≤ f.size
  | nil => Nat.le_refl 0
  | cons k t i r => by
    have h2 := len_le r
    show r.len + 1 ≤ 1 + i.size + r.size
    omega
end Fo
/-- no tuple is lost -/
def TupLe (H H' : Hp) : Prop := ∀ c xs, H c = some (.tup xs) → H' c = some (.tup xs)
theorem TupLe.refl (H : Hp) : TupLe H H := fun _ _ h => h
theorem TupLe.trans {H H1 H2 : Hp} (a : TupLe H H1) (b : TupLe H1 H2) : TupLe H H2 := fun c xs h => b c xs (a c xs h)
theorem TupLe.same {H H' : Hp} (s : Same H H') : TupLe H H' := fun c xs h => s c _ h
theorem TupLe.but {b : Addr} {H H' : Hp} (s : But b H H') {l : List V} (h : H b = some (.lst l)) : TupLe H H' := fun c xs e => s c _ e fun z => by
  rw [z, h] at e
  cases e
theorem TupLe.new {H : Hp} {p : Addr} {o : HO} (h : H p = none) : TupLe H (upd H p o) := TupLe.same (same_upd h)
theorem TupLe.lst {H : Hp} {p : Addr} {l m : List V} (h : H p = some (.lst l)) : TupLe H (upd H p (.lst m)) := fun c xs e => by
  by_cases z : c = p
  · rw [z, h] at e
    cases e
  · rw [upd_ne z]
    exact e
def Items (H : Hp) : Fo → List V → Prop
  | .nil, xs => xs = []
  | .cons k t i r, xs => ∃ p q ys xs', xs = .ref p :: xs' ∧ H p = some (.tup [.str (SX.S k), .str (SX.S t), .ref q]) ∧ H q = some (.tup ys) ∧ Items H i ys ∧ Items H r xs'
def Doc (H : Hp) (f : Fo) (a : Addr) : Prop := ∃ xs, H a = some (.tup xs) ∧ Items H f xs
theorem Items.le {H H' : Hp} (s : TupLe H H') : ∀ {f : Fo} {xs : List V}, Items H f xs → Items H' f xs
  | .nil, _, h => h
  | .cons _ _ _ _, _, ⟨p, q, ys, xs', e, h1, h2, h3, h4⟩ => ⟨p, q, ys, xs', e, s _ _ h1, s _ _ h2, h3.le s, h4.le s⟩
theorem Doc.le {H H' : Hp} (s : TupLe H H') {f : Fo} {a : Addr} : Doc H f a → Doc H' f a := fun ⟨xs, h, i⟩ => ⟨xs, s _ _ h, i.le s⟩
theorem Items.len {H : Hp} : ∀ {f : Fo} {xs : List V}, Items H f xs → xs.length = f.len
  | .nil, _, h => by rw [show _ = _ from h]; rfl
  | .cons _ _ _ r, _, ⟨p, q, ys, xs', e, h1, h2, h3, h4⟩ => by
    rw [e, List.length_cons, h4.len]
    rfl
theorem Items.snoc {H : Hp} {k t : List Nat} {i : Fo} {p q : Addr} {ys : List V} (hp : H p = some (.tup [.str (SX.S k), .str (SX.S t), .ref q])) (hq : H q = some (.tup ys)) (hi : Items H i ys) :
    ∀ {f : Fo} {xs : List V}, Items H f xs → Items H (f.snoc k t i) (xs ++ [.ref p])
  | .nil, _, h => by
    rw [show _ = _ from h]
    exact ⟨p, q, ys, [], rfl, hp, hq, hi, rfl⟩
  | .cons _ _ _ _, _, ⟨p', q', ys', xs', e, h1, h2, h3, h4⟩ => ⟨p', q', ys', xs' ++ [.ref p], by rw [e]; rfl, h1, h2, h3, Items.snoc hp hq hi h4⟩
/-! as plain data -/
def fdata : Fo → List PyData
  | .nil => []
  | .cons k t i r => .tuple [.str (SX.S k), .str (SX.S t), .tuple (fdata i)] :: fdata r
theorem Items.dp {K : PySem.W.Frag} {H : Hp} : ∀ {f : Fo} {xs : List V}, Items H f xs → DpAll K H xs (fdata f)
  | .nil, _, h => by
    rw [show _ = _ from h]
    exact .nil
  | .cons _ _ _ _, _, ⟨p, q, ys, xs', e, h1, h2, h3, h4⟩ => by
    rw [e]
    exact .cons (.tup (SqT.of h1) (.cons (.str _) (.cons (.str _) (.cons (.tup (SqT.of h2) h3.dp) .nil)))) h4.dp
theorem Doc.dp {K : PySem.W.Frag} {H : Hp} {f : Fo} {a : Addr} : Doc H f a → Dp K H (.ref a) (.tuple (fdata f)) := fun ⟨xs, h, i⟩ => .tup (SqT.of h) i.dp
/-- two documents of one forest are alike, at twice the depth and one -/
theorem Items.alk {K : PySem.W.Frag} {H : Hp} : ∀ {f : Fo} {n : Nat} {xs ys : List V}, f.size ≤ 1000 → 2 * f.depth ≤ n → Items H f xs → Items H f ys → xs.length = ys.length ∧ xs.length ≤ 1000 ∧ ∀ (i : Nat) (x y : V), xs[i]? = some x → ys[i]? = some y → Alk K H n x y
  | .nil, n, _, _, _, _, h1, h2 => by
    rw [show _ = _ from h1, show _ = _ from h2]
    exact ⟨rfl, Nat.zero_le _, fun i x y h => by cases h⟩
  | .cons k t i r, n, _, _, hz, hn, h1, h2 => by
    have hl1 := h1.len
    have hl2 := h2.len
    have hl := Fo.len_le (.cons k t i r)
    obtain ⟨p, q, ys, xs', e, h1, h2', h3, h4⟩ := h1
    obtain ⟨p2, q2, ys2, xs2, e2, g1, g2, g3, g4⟩ := h2
    have hs : 1 + i.size + r.size ≤ 1000 := hz
    have hd : 2 * max (i.depth + 1) r.depth ≤ n := hn
    obtain ⟨a1, a2, a3⟩ := Items.alk (K := K) (n := n) (by omega) (by omega) h4 g4
    obtain ⟨m, rfl⟩ : ∃ m, n = m + 2 := ⟨n - 2, by omega⟩
    obtain ⟨b1, b2, b3⟩ := Items.alk (K := K) (n := m) (by omega) (by omega) h3 g3
    refine ⟨by rw [hl1, hl2], by rw [hl1]; omega, fun j x y hx hy => ?_⟩
    subst e e2
    cases j with
    | succ j => exact a3 j x y hx hy
    | zero =>
      cases hx
      cases hy
      refine .inr ⟨p, p2, _, _, rfl, rfl, .inr ⟨SqT.of h1, SqT.of g1⟩, rfl, (by show 3 ≤ 100000; decide), fun j x y hx hy => ?_⟩
      rcases j with _ | _ | _ | j
      · cases hx
        cases hy
        exact .inl ⟨rfl, rfl⟩
      · cases hx
        cases hy
        exact .inl ⟨rfl, rfl⟩
      · cases hx
        cases hy
        exact .inr ⟨q, q2, _, _, rfl, rfl, .inr ⟨SqT.of h2', SqT.of g2⟩, b1, by omega, b3⟩
      · cases hx
theorem Doc.alk {K : PySem.W.Frag} {H : Hp} {f : Fo} {a b : Addr} {n : Nat} (hz : f.size ≤ 1000) (hn : 2 * f.depth ≤ n) (h1 : Doc H f a) (h2 : Doc H f b) : Alk K H (n + 1) (.ref a) (.ref b) := by
  obtain ⟨xs, e1, i1⟩ := h1
  obtain ⟨ys, e2, i2⟩ := h2
  obtain ⟨l1, l2, k⟩ := Items.alk (K := K) hz hn i1 i2
  exact .inr ⟨a, b, xs, ys, rfl, rfl, .inr ⟨SqT.of e1, SqT.of e2⟩, l1, by omega, k⟩

/-! ### names -/
def restL : List Nat := [114, 101, 115, 116]
theorem rest_S : Str.ofString "rest" = SX.S restL := by decide +kernel
def GoodK (k : List Nat) : Prop := (∀ c ∈ k, c ∈ letters) ∧ 1 ≤ k.length ∧ k.length ≤ 6 ∧ k ≠ restL
theorem fix_rest (w : Str) : fixW w ≠ "rest" := by
  unfold fixW
  by_cases h2 : w = "if"
  · rw [if_pos h2]
    decide +kernel
  rw [if_neg h2]
  by_cases h3 : w = "is"
  · rw [if_pos h3]
    decide +kernel
  rw [if_neg h3]
  by_cases h4 : w = "end"
  · rw [if_pos h4]
    decide +kernel
  rw [if_neg h4]
  by_cases h5 : w = "rest"
  · rw [if_pos h5]
    decide +kernel
  rw [if_neg h5]
  exact h5
theorem words_good {many most : Int} {ws : List Str} (h0 : 0 ≤ many) (h : Words many most ws) (hm : most ≤ 5) : ∃ ks : List (List Nat), ws = ks.map SX.S ∧ (∀ k ∈ ks, GoodK k) ∧ (ks.length : Int) = many := by
  obtain ⟨st, at_, s0, h1, h2, h3, h4, rfl⟩ := h
  refine ⟨((List.range many.toNat).map fun k => fixW (SX.S (wordAt st at_ s0 k))).map fun z => z.cps.toList, ?_, fun k hk => ?_, ?_⟩
  · rw [List.map_map]
    have e : (SX.S ∘ fun z : Str => z.cps.toList) = id := funext fun z => (str_S z).symm
    rw [e, List.map_id]
  · rw [List.map_map] at hk
    obtain ⟨j, hj, rfl⟩ := List.mem_map.mp hk
    obtain ⟨w1, w2, w3⟩ := wordAt_ok (at_ := at_) (s0 := s0) (k := j) h2
    obtain ⟨m, em, m1, m2, m3⟩ := fix_ok w1 w2
    show GoodK (fixW (SX.S (wordAt st at_ s0 j))).cps.toList
    rw [em]
    have e : (SX.S m).cps.toList = m := by simp [SX.S]
    rw [e]
    refine ⟨m1, m2, by omega, fun z => fix_rest (SX.S (wordAt st at_ s0 j)) ?_⟩
    rw [em, z]
    exact rest_S.symm
  · rw [List.length_map, List.length_map, List.length_range]
    omega
theorem digit_len : ∀ k : Fin 10, (Str.ofString (toString ((k.val : Nat) : Int))).length ≤ 2 := by decide +kernel
theorem digit_len' {k : Int} (h0 : 0 ≤ k) (h1 : k < 10) : (Str.ofString (toString k)).length ≤ 2 := by
  have := digit_len ⟨k.toNat, by omega⟩
  have e : ((k.toNat : Nat) : Int) = k := by omega
  rw [show ((((⟨k.toNat, by omega⟩ : Fin 10).val : Nat) : Int)) = k from e] at this
  exact this
def kws (ks : List (List Nat)) : List V := ks.map fun k => V.str (SX.S k)
def spNames : Sp := fun vs H Q _ => ∃ (b r : Addr), vs = [.ref b] ∧ BagAt H b r ∧
  ∀ (p a1 a2 a3 : Addr) (k1 k2 : List (List Nat)) (n : Nat) (H' : Hp), But b H H' → BagAt H' b r → H' p = some (.lst [.ref a1, .ref a2, .ref a3]) → H' a1 = some (.lst (kws k1)) → H' a2 = some (.lst (kws k2)) →
    k1.length = 3 → k2.length = 3 → (∀ k ∈ k1, GoodK k) → (∀ k ∈ k2, GoodK k) → H p = none → H a1 = none → H a2 = none → Q (.ref p) H'
section
variable {P : Program} {w : World} {K : PySem.W.Frag} {mg : Str → Option Value} {base : Heap} {f : Addr} {fd : FuncData}
theorem ok_law_names (F : Fun K "_law_names" "_law_names" s_law_names f fd) (T : Txt mg) (c_law_take : Cal P w K mg base 1 "_law_take" spTake) (c_law_words : Cal P w K mg base 3 "_law_words" spWords) : FnOk P w K mg base CX0 4 f fd ["_law_bag_z"] spNames := by
  refine F.ok sc_law_names (fun vs H Q E h => ?_) (fun cdv A outer s H vs Q E hr h => ?_)
  · obtain ⟨b, r, rfl, _⟩ := h
    rfl
  · obtain ⟨b, r, rfl, hb, q⟩ := h
    refine ⟨_, (pss_one (ps_ret (pe_lst (pa_cons (pe_c c_law_words hr (by omega) (by rfl) (pa_cons (pv 0) (pa_cons pe_int (pa_cons pe_int pa_nil)))) (pa_cons (pe_c c_law_words hr (by omega) (by rfl) (pa_cons (pv 0) (pa_cons pe_int (pa_cons pe_int pa_nil)))) (pa_cons (pe_lst (pa_cons pe_str (pa_cons (pe_op (op_addX K) pe_str (pe_callTy call_str_int (by rfl) T.str (by decide +kernel) (pa_cons (pe_c c_law_take hr (by omega) (by rfl) (pa_cons (pv 0) (pa_cons pe_int pa_nil))) pa_nil))) pa_nil))) pa_nil)))))), ?_⟩
    change (_ : TS) _ [some (V.ref b)] _
    k_extra "rr"
    refine ⟨b, r, 3, 5, rfl, hb, by omega, by omega, by omega, by omega, fun ws1 a1 H1 hw1 bb1 hb1 n1 e1 nb1 => ?_⟩
    k_extra "rr"
    refine ⟨b, r, 3, 3, rfl, hb1, by omega, by omega, by omega, by omega, fun ws2 a2 H2 hw2 bb2 hb2 n2 e2 nb2 => ?_⟩
    k_extra "rr"
    refine ⟨b, r, 10, rfl, hb2, by omega, by omega, fun k H3 bb3 hb3 k0 k1 => ?_⟩
    k_extra "rr"
    have hd : (Str.ofString (toString k)).length ≤ 2 := digit_len' k0 k1
    refine ⟨k, rfl, (by have : k.natAbs < 2 ^ 10 := by omega
                        exact Nat.lt_of_le_of_lt (Nat.log2_le_self _) (by omega)), ?_⟩
    have z1 : (Str.ofString "t").length + (Str.ofString (toString k)).length ≤ sizeLine := by
      rw [sizeLine_eq, show (Str.ofString "t").length = 1 by decide +kernel]
      omega
    k_extra "rr"
    refine ⟨by k_extra "sz", fun a3 n3 => ?_⟩
    k_extra "rr"
    refine ⟨by k_extra "sz", fun p np => ?_⟩
    k_extra "rr"
    obtain ⟨k1, rfl, g1, l1⟩ := words_good (by omega) hw1 (by omega)
    obtain ⟨k2, rfl, g2, l2⟩ := words_good (by omega) hw2 (by omega)
    rw [List.map_map] at e1 e2
    have bb := ((bb1.trans bb2).trans bb3).trans (But.new (o := .lst [.str "", .str ("t" ++ Str.ofString (toString k))]) n3)
    exact q p a1 a2 a3 k1 k2 0 _ (bb.trans (But.new np)) ((hb3.new n3).new np) upd_same (same_upd np _ _ (same_upd n3 _ _ (bb3 _ _ (bb2 _ _ e1 nb1) nb1))) (same_upd np _ _ (same_upd n3 _ _ (bb3 _ _ e2 nb2))) (by omega) (by omega) g1 g2 (bb.free (hb3.new n3).ex np) n1 (bb1.free hb1.ex n2)
end

/-! ### data of any depth, apart from the list at b -/
mutual
def Dq (b : Addr) (H : Hp) : PyData → V → Prop
  | .none, v => v = .non
  | .bool c, v => v = .bl c
  | .int i, v => v = .int i
  | .str z, v => v = .str z
  | .list ds, v => ∃ a l, v = .ref a ∧ a ≠ b ∧ H a = some (.lst l) ∧ DqA b H ds l
  | .tuple ds, v => ∃ a l, v = .ref a ∧ H a = some (.tup l) ∧ DqA b H ds l
  | .dict _, _ => False
def DqA (b : Addr) (H : Hp) : List PyData → List V → Prop
  | [], l => l = []
  | d :: r, l => ∃ v m, l = v :: m ∧ Dq b H d v ∧ DqA b H r m
end
/-- tuples stay, and lists other than b's -/
structure Le (b : Addr) (H H' : Hp) : Prop where
  tup : ∀ c xs, H c = some (.tup xs) → H' c = some (.tup xs)
  lst : ∀ c l, c ≠ b → H c = some (.lst l) → H' c = some (.lst l)
theorem Le.refl (b : Addr) (H : Hp) : Le b H H := ⟨fun _ _ h => h, fun _ _ _ h => h⟩
theorem Le.trans {b : Addr} {H H1 H2 : Hp} (s : Le b H H1) (t : Le b H1 H2) : Le b H H2 := ⟨fun c xs h => t.tup c xs (s.tup c xs h), fun c l n h => t.lst c l n (s.lst c l n h)⟩
theorem Le.same {b : Addr} {H H' : Hp} (s : Same H H') : Le b H H' := ⟨fun c xs h => s c _ h, fun c l _ h => s c _ h⟩
theorem Le.but {b : Addr} {H H' : Hp} (s : But b H H') {l : List V} (h : H b = some (.lst l)) : Le b H H' := ⟨fun c xs e => s c _ e fun z => (by
  rw [z, h] at e
  cases e), fun c l n h => s c _ h n⟩
theorem Le.new {b : Addr} {H : Hp} {p : Addr} {o : HO} (h : H p = none) : Le b H (upd H p o) := Le.same (same_upd h)
theorem Le.ext {b : Addr} {H H' : Hp} (s : LamX.ExtN H H') : Le b H H' := ⟨fun c xs h => s c _ h (fun ps z => by cases z), fun c l _ h => s c _ h (fun ps z => by cases z)⟩
mutual
theorem Dq.le {b : Addr} {H H' : Hp} (s : Le b H H') : ∀ {d : PyData} {v : V}, Dq b H d v → Dq b H' d v
  | .none, _, h => by simpa only [Dq] using h
  | .bool _, _, h => by simpa only [Dq] using h
  | .int _, _, h => by simpa only [Dq] using h
  | .str _, _, h => by simpa only [Dq] using h
  | .list ds, _, h => by
    simp only [Dq] at h ⊢
    obtain ⟨a, l, e, n, h1, h2⟩ := h
    exact ⟨a, l, e, n, s.lst a l n h1, DqA.le s h2⟩
  | .tuple ds, _, h => by
    simp only [Dq] at h ⊢
    obtain ⟨a, l, e, h1, h2⟩ := h
    exact ⟨a, l, e, s.tup a l h1, DqA.le s h2⟩
  | .dict _, _, h => by simp only [Dq] at h
theorem DqA.le {b : Addr} {H H' : Hp} (s : Le b H H') : ∀ {ds : List PyData} {l : List V}, DqA b H ds l → DqA b H' ds l
  | [], _, h => by simpa only [DqA] using h
  | d :: r, _, h => by
    simp only [DqA] at h ⊢
    obtain ⟨v, m, e, h1, h2⟩ := h
    exact ⟨v, m, e, Dq.le s h1, DqA.le s h2⟩
end
theorem DqA.len {b : Addr} {H : Hp} : ∀ {ds : List PyData} {l : List V}, DqA b H ds l → l.length = ds.length
  | [], _, h => by
    simp only [DqA] at h
    rw [h]
    rfl
  | d :: r, _, h => by
    simp only [DqA] at h
    obtain ⟨v, m, rfl, h1, h2⟩ := h
    rw [List.length_cons, List.length_cons, h2.len]
theorem DqA.nil {b : Addr} {H : Hp} : DqA b H [] [] := by simp only [DqA]
theorem DqA.cons {b : Addr} {H : Hp} {d : PyData} {ds : List PyData} {v : V} {l : List V} (h : Dq b H d v) (k : DqA b H ds l) : DqA b H (d :: ds) (v :: l) := by
  simp only [DqA]
  exact ⟨v, l, rfl, h, k⟩
theorem DqA.inv {b : Addr} {H : Hp} {d : PyData} {ds : List PyData} {l : List V} (h : DqA b H (d :: ds) l) : ∃ v m, l = v :: m ∧ Dq b H d v ∧ DqA b H ds m := by
  simpa only [DqA] using h
theorem DqA.inv0 {b : Addr} {H : Hp} {l : List V} (h : DqA b H [] l) : l = [] := by
  simpa only [DqA] using h
theorem DqA.app {b : Addr} {H : Hp} : ∀ {ds es : List PyData} {l m : List V}, DqA b H ds l → DqA b H es m → DqA b H (ds ++ es) (l ++ m)
  | [], _, _, _, h, k => by
    rw [h.inv0]
    exact k
  | d :: r, _, _, _, h, k => by
    obtain ⟨v, m, rfl, h1, h2⟩ := h.inv
    exact .cons h1 (h2.app k)
theorem DqA.get {b : Addr} {H : Hp} : ∀ {ds : List PyData} {l : List V} {i : Nat} {v : V}, DqA b H ds l → l[i]? = some v → ∃ d, ds[i]? = some d ∧ Dq b H d v
  | [], _, i, v, h, e => by
    rw [h.inv0] at e
    cases e
  | d :: r, _, 0, v, h, e => by
    obtain ⟨v, m, rfl, h1, h2⟩ := h.inv
    cases e
    exact ⟨d, rfl, h1⟩
  | d :: r, _, i + 1, v, h, e => by
    obtain ⟨v, m, rfl, h1, h2⟩ := h.inv
    exact h2.get (i := i) e
theorem DqA.at {b : Addr} {H : Hp} : ∀ {ds : List PyData} {l : List V} {i : Nat} {d : PyData}, DqA b H ds l → ds[i]? = some d → ∃ v, l[i]? = some v ∧ Dq b H d v
  | [], _, i, v, h, e => by cases e
  | d :: r, _, 0, v, h, e => by
    obtain ⟨v, m, rfl, h1, h2⟩ := h.inv
    cases e
    exact ⟨v, rfl, h1⟩
  | d :: r, _, i + 1, v, h, e => by
    obtain ⟨v, m, rfl, h1, h2⟩ := h.inv
    exact h2.at (i := i) e
theorem DqA.take {b : Addr} {H : Hp} : ∀ {ds : List PyData} {l : List V} (i : Nat), DqA b H ds l → DqA b H (ds.take i) (l.take i)
  | _, _, 0, h => .nil
  | [], _, i + 1, h => by
    rw [h.inv0]
    exact .nil
  | d :: r, _, i + 1, h => by
    obtain ⟨v, m, rfl, h1, h2⟩ := h.inv
    exact .cons h1 (h2.take i)
theorem DqA.drop {b : Addr} {H : Hp} : ∀ {ds : List PyData} {l : List V} (i : Nat), DqA b H ds l → DqA b H (ds.drop i) (l.drop i)
  | _, _, 0, h => h
  | [], _, i + 1, h => by
    rw [h.inv0]
    exact .nil
  | d :: r, _, i + 1, h => by
    obtain ⟨v, m, rfl, h1, h2⟩ := h.inv
    exact h2.drop i
theorem DqA.rev {b : Addr} {H : Hp} : ∀ {ds : List PyData} {l : List V}, DqA b H ds l → DqA b H ds.reverse l.reverse
  | [], _, h => by
    rw [h.inv0]
    exact .nil
  | d :: r, _, h => by
    obtain ⟨v, m, rfl, h1, h2⟩ := h.inv
    rw [List.reverse_cons, List.reverse_cons]
    exact h2.rev.app (.cons h1 .nil)
/-! as plain data; kinds; equal and alike -/
mutual
theorem Dq.dp {K : PySem.W.Frag} {b : Addr} {H : Hp} : ∀ {d : PyData} {v : V}, Dq b H d v → Dp K H v d
  | .none, _, h => by
    simp only [Dq] at h
    exact h ▸ .non
  | .bool _, _, h => by
    simp only [Dq] at h
    exact h ▸ .bl _
  | .int _, _, h => by
    simp only [Dq] at h
    exact h ▸ .int _
  | .str _, _, h => by
    simp only [Dq] at h
    exact h ▸ .str _
  | .list ds, _, h => by
    simp only [Dq] at h
    obtain ⟨a, l, rfl, n, h1, h2⟩ := h
    exact .lst (SqL.of h1) (DqA.dp h2)
  | .tuple ds, _, h => by
    simp only [Dq] at h
    obtain ⟨a, l, rfl, h1, h2⟩ := h
    exact .tup (SqT.of h1) (DqA.dp h2)
  | .dict _, _, h => by simp only [Dq] at h
theorem DqA.dp {K : PySem.W.Frag} {b : Addr} {H : Hp} : ∀ {ds : List PyData} {l : List V}, DqA b H ds l → DpAll K H l ds
  | [], _, h => by
    rw [h.inv0]
    exact .nil
  | d :: r, _, h => by
    obtain ⟨v, m, rfl, h1, h2⟩ := h.inv
    exact .cons (Dq.dp h1) (DqA.dp h2)
end
def tyN : PyData → String
  | .none => "NoneType"
  | .bool _ => "bool"
  | .int _ => "int"
  | .str _ => "str"
  | .list _ => "list"
  | .tuple _ => "tuple"
  | .dict _ => "dict"
theorem Dq.ty {K : PySem.W.Frag} {b : Addr} {H : Hp} : ∀ {d : PyData} {v : V}, Dq b H d v → TyX K H v (.type (tyN d))
  | .none, _, h => by
    simp only [Dq] at h
    exact h ▸ .base .non
  | .bool _, _, h => by
    simp only [Dq] at h
    exact h ▸ .base (.bl _)
  | .int _, _, h => by
    simp only [Dq] at h
    exact h ▸ .base (.int _)
  | .str _, _, h => by
    simp only [Dq] at h
    exact h ▸ .base (.str _)
  | .list ds, _, h => by
    simp only [Dq] at h
    obtain ⟨a, l, rfl, n, h1, h2⟩ := h
    exact .base (.lst h1)
  | .tuple ds, _, h => by
    simp only [Dq] at h
    obtain ⟨a, l, rfl, h1, h2⟩ := h
    exact .base (.tup h1)
  | .dict _, _, h => by simp only [Dq] at h
def isT : PyData → Bool
  | .tuple _ => true
  | _ => false
def isS : PyData → Bool
  | .str _ => true
  | _ => false
theorem kit_isT : ∀ d : PyData, kitB (tyN d) "tuple" = some (isT d)
  | .none => kB_NoneType_tuple
  | .bool _ => kB_bool_tuple
  | .int _ => kB_int_tuple
  | .str _ => kB_str_tuple
  | .list _ => kB_list_tuple
  | .tuple _ => kB_tuple_tuple
  | .dict _ => kB_dict_tuple
theorem kit_isS : ∀ d : PyData, kitB (tyN d) "str" = some (isS d)
  | .none => kB_NoneType_str
  | .bool _ => kB_bool_str
  | .int _ => kB_int_str
  | .str _ => kB_str_str
  | .list _ => kB_list_str
  | .tuple _ => kB_tuple_str
  | .dict _ => kB_dict_str
/-- the value, for one that is a text -/
def vOf : PyData → V
  | .str z => .str z
  | _ => .non
theorem Dq.tup {b : Addr} {H : Hp} {ds : List PyData} {v : V} (h : Dq b H (.tuple ds) v) : ∃ a l, v = .ref a ∧ H a = some (.tup l) ∧ DqA b H ds l := by simpa only [Dq] using h
theorem Dq.tup_mk {b : Addr} {H : Hp} {ds : List PyData} {a : Addr} {l : List V} (h : H a = some (.tup l)) (k : DqA b H ds l) : Dq b H (.tuple ds) (.ref a) := by
  simp only [Dq]
  exact ⟨a, l, rfl, h, k⟩
theorem Dq.lst_mk {b : Addr} {H : Hp} {ds : List PyData} {a : Addr} {l : List V} (n : a ≠ b) (h : H a = some (.lst l)) (k : DqA b H ds l) : Dq b H (.list ds) (.ref a) := by
  simp only [Dq]
  exact ⟨a, l, rfl, n, h, k⟩
theorem Dq.str_mk {b : Addr} {H : Hp} (z : Str) : Dq b H (.str z) (.str z) := by simp only [Dq]
theorem Dq.int_mk {b : Addr} {H : Hp} (i : Int) : Dq b H (.int i) (.int i) := by simp only [Dq]
theorem Dq.non_mk {b : Addr} {H : Hp} : Dq b H .none .non := by simp only [Dq]
theorem Dq.bl_mk {b : Addr} {H : Hp} (c : Bool) : Dq b H (.bool c) (.bl c) := by simp only [Dq]
/-! good data: texts of signs as documents have them, and line feeds -/
def OkC (c : Nat) : Prop := (32 ≤ c ∧ c ≤ 126) ∨ c = 10
instance : DecidablePred OkC := fun c => inferInstanceAs (Decidable ((32 ≤ c ∧ c ≤ 126) ∨ c = 10))
def gS (z : Str) : Bool := decide (z.length ≤ 1000) && z.cps.toList.all fun c => decide (OkC c)
mutual
def gD : PyData → Bool
  | .none => true
  | .bool _ => true
  | .int _ => true
  | .str z => gS z
  | .list ds => gA ds
  | .tuple ds => gA ds
  | .dict _ => false
def gA : List PyData → Bool
  | [] => true
  | d :: r => gD d && gA r
end
theorem gA_mem : ∀ {ds : List PyData} {d : PyData}, gA ds = true → d ∈ ds → gD d = true
  | x :: r, d, h, m => by
    simp only [gA, Bool.and_eq_true] at h
    rcases List.mem_cons.mp m with rfl | m
    · exact h.1
    · exact gA_mem h.2 m
theorem gA_app : ∀ {ds es : List PyData}, gA (ds ++ es) = (gA ds && gA es)
  | [], _ => by simp only [gA, List.nil_append, Bool.true_and]
  | x :: r, es => by
    simp only [gA, List.cons_append, gA_app (ds := r), Bool.and_assoc]
theorem gA_of {ds : List PyData} (h : ∀ d ∈ ds, gD d = true) : gA ds = true := by
  induction ds with
  | nil => simp only [gA]
  | cons x r ih =>
    simp only [gA, Bool.and_eq_true]
    exact ⟨h x List.mem_cons_self, ih fun d m => h d (List.mem_cons_of_mem _ m)⟩
theorem gS_ok {z : Str} (h : gS z = true) : (z.length ≤ 1000) ∧ ∀ c ∈ z.cps.toList, OkC c := by
  unfold gS at h
  simp only [Bool.and_eq_true, decide_eq_true_eq, List.all_eq_true] at h
  exact h
theorem strOk_gS {z : Str} (h : gS z = true) : PyData.strOk z = true := by
  obtain ⟨_, h⟩ := gS_ok h
  unfold PyData.strOk
  rw [← Array.all_toList]
  refine List.all_eq_true.mpr fun c hc => ?_
  have := h c hc
  unfold OkC at this
  exact decide_eq_true (by omega)
mutual
theorem lay_gD : ∀ {d : PyData}, gD d = true → PyData.canLay0 d = true
  | .none, _ => by simp only [PyData.canLay0]
  | .bool _, _ => by simp only [PyData.canLay0]
  | .int _, _ => by simp only [PyData.canLay0]
  | .str z, h => by
    simp only [gD] at h
    simp only [PyData.canLay0]
    exact strOk_gS h
  | .list ds, h => by
    simp only [gD] at h
    simp only [PyData.canLay0]
    exact lay_gA h
  | .tuple ds, h => by
    simp only [gD] at h
    simp only [PyData.canLay0]
    exact lay_gA h
  | .dict _, h => by
    simp only [gD] at h
    cases h
theorem lay_gA : ∀ {ds : List PyData}, gA ds = true → PyData.canLayAll0 ds = true
  | [], _ => by simp only [PyData.canLayAll0]
  | d :: r, h => by
    simp only [gA, Bool.and_eq_true] at h
    simp only [PyData.canLayAll0, Bool.and_eq_true]
    exact ⟨lay_gD h.1, lay_gA h.2⟩
end
theorem shaped_gD {d : PyData} (h : gD d = true) (hd : d.depth ≤ 64) : SeqAt.shaped d = true := by
  unfold SeqAt.shaped
  rw [lay_gD h, decide_eq_true hd]
  rfl
theorem Dq.strOr {K : PySem.W.Frag} {b : Addr} {H : Hp} {d : PyData} {v : V} (h : Dq b H d v) (g : gD d = true) : StrOr K H v := by
  cases d with
  | str z =>
    simp only [Dq] at h
    simp only [gD] at g
    refine .inl ⟨z.cps.toList, ?_, ?_⟩
    · rw [h, SX.S_tl]
    · have := (gS_ok g).1
      have e : z.length = z.cps.toList.length := by simp [Str.length]
      omega
  | none =>
    have t := h.ty (K := K)
    simp only [Dq] at h
    subst h
    exact .inr ⟨fun z e => (by cases e), _, t, kB_NoneType_str⟩
  | bool c =>
    have t := h.ty (K := K)
    simp only [Dq] at h
    subst h
    exact .inr ⟨fun z e => (by cases e), _, t, kB_bool_str⟩
  | int c =>
    have t := h.ty (K := K)
    simp only [Dq] at h
    subst h
    exact .inr ⟨fun z e => (by cases e), _, t, kB_int_str⟩
  | list ds =>
    have t := h.ty (K := K)
    simp only [Dq] at h
    obtain ⟨a, l, rfl, _⟩ := h
    exact .inr ⟨fun z e => (by cases e), _, t, kB_list_str⟩
  | tuple ds =>
    have t := h.ty (K := K)
    simp only [Dq] at h
    obtain ⟨a, l, rfl, _⟩ := h
    exact .inr ⟨fun z e => (by cases e), _, t, kB_tuple_str⟩
  | dict _ => simp only [Dq] at h
theorem Dq.isS {b : Addr} {H : Hp} {d : PyData} {v : V} (h : Dq b H d v) : (isS d = true ∧ ∃ z, d = .str z ∧ v = .str z) ∨ (isS d = false ∧ ∀ z, v ≠ .str z) := by
  cases d <;> simp only [Dq] at h
  case str z => exact .inl ⟨rfl, z, rfl, h⟩
  case list ds =>
    obtain ⟨a, l, rfl, _⟩ := h
    exact .inr ⟨rfl, fun z e => by cases e⟩
  case tuple ds =>
    obtain ⟨a, l, rfl, _⟩ := h
    exact .inr ⟨rfl, fun z e => by cases e⟩
  all_goals exact .inr ⟨rfl, fun z e => by rw [h] at e; cases e⟩
theorem Dq.word {b : Addr} {H : Hp} {d : PyData} {v : V} (h : Dq b H d v) (n : Int) : wordB v n = wordB (vOf d) n := by
  rcases h.isS with ⟨_, z, rfl, rfl⟩ | ⟨e, k⟩
  · rfl
  · rw [wordB_no k, wordB_no]
    cases d <;> first | (intro z q; cases q; done) | cases e
theorem Dq.text {b : Addr} {H : Hp} {d : PyData} {v : V} (h : Dq b H d v) : textB v = textB (vOf d) := by
  rcases h.isS with ⟨_, z, rfl, rfl⟩ | ⟨e, k⟩
  · rfl
  · rw [textB_no k, textB_no]
    cases d <;> first | (intro z q; cases q; done) | cases e
/-! sizes -/
mutual
def sz : PyData → Nat
  | .none => 1
  | .bool _ => 1
  | .int _ => 1
  | .str _ => 1
  | .list ds => 1 + szA ds
  | .tuple ds => 1 + szA ds
  | .dict _ => 1
def szA : List PyData → Nat
  | [] => 0
  | d :: r => sz d + szA r
end
theorem sz_pos : ∀ d : PyData, 1 ≤ sz d := fun d => by cases d <;> simp only [sz] <;> omega
theorem szA_len : ∀ ds : List PyData, ds.length ≤ szA ds
  | [] => Nat.zero_le _
  | d :: r => by
    have := szA_len r
    have := sz_pos d
    simp only [szA, List.length_cons]
    omega
theorem szA_mem : ∀ {ds : List PyData} {d : PyData}, d ∈ ds → sz d ≤ szA ds
  | x :: r, d, m => by
    simp only [szA]
    rcases List.mem_cons.mp m with rfl | m
    · omega
    · have := szA_mem m
      omega
theorem szA_app : ∀ {ds es : List PyData}, szA (ds ++ es) = szA ds + szA es
  | [], _ => by simp only [szA, List.nil_append]; omega
  | x :: r, es => by
    simp only [szA, List.cons_append, szA_app (ds := r)]
    omega
/-- two values of one datum are alike -/
theorem Dq.alk {K : PySem.W.Frag} {b b' : Addr} {H : Hp} : ∀ (n : Nat) {d : PyData} {v u : V}, d.depth ≤ n → sz d ≤ 100000 → Dq b H d v → Dq b' H d u → Alk K H (n + 1) v u := by
  intro n
  induction n with
  | zero =>
    intro d v u hd hs h k
    cases d <;> simp only [Dq] at h k
    all_goals first
      | (rw [h, k]; exact .inl ⟨rfl, rfl⟩)
      | (simp only [PyData.depth] at hd; omega)
  | succ n ih =>
    intro d v u hd hs h k
    cases d <;> simp only [Dq] at h k
    case list ds =>
      obtain ⟨a, l, rfl, _, h1, h2⟩ := h
      obtain ⟨a', l', rfl, _, k1, k2⟩ := k
      simp only [PyData.depth] at hd
      simp only [sz] at hs
      refine .inr ⟨a, a', l, l', rfl, rfl, .inl ⟨SqL.of h1, SqL.of k1⟩, by rw [h2.len, k2.len], by have := szA_len ds; have := h2.len; omega, fun i x y hx hy => ?_⟩
      obtain ⟨d1, e1, f1⟩ := h2.get hx
      obtain ⟨d2, e2, f2⟩ := k2.get hy
      obtain rfl : d1 = d2 := Option.some.inj (e1.symm.trans e2)
      have m := List.mem_of_getElem? e1
      exact ih (by have := PyData.depth_le_depthAll _ _ m; omega) (by have := szA_mem m; omega) f1 f2
    case tuple ds =>
      obtain ⟨a, l, rfl, h1, h2⟩ := h
      obtain ⟨a', l', rfl, k1, k2⟩ := k
      simp only [PyData.depth] at hd
      simp only [sz] at hs
      refine .inr ⟨a, a', l, l', rfl, rfl, .inr ⟨SqT.of h1, SqT.of k1⟩, by rw [h2.len, k2.len], by have := szA_len ds; have := h2.len; omega, fun i x y hx hy => ?_⟩
      obtain ⟨d1, e1, f1⟩ := h2.get hx
      obtain ⟨d2, e2, f2⟩ := k2.get hy
      obtain rfl : d1 = d2 := Option.some.inj (e1.symm.trans e2)
      have m := List.mem_of_getElem? e1
      exact ih (by have := PyData.depth_le_depthAll _ _ m; omega) (by have := szA_mem m; omega) f1 f2
    all_goals (rw [h, k]; exact .inl ⟨rfl, rfl⟩)
theorem DqA.unsnoc {b : Addr} {H : Hp} {d : PyData} : ∀ {ds : List PyData} {l : List V}, DqA b H (ds ++ [d]) l → ∃ m v, l = m ++ [v] ∧ DqA b H ds m ∧ Dq b H d v
  | [], _, h => by
    obtain ⟨v, m, rfl, h1, h2⟩ := h.inv
    rw [h2.inv0]
    exact ⟨[], v, rfl, .nil, h1⟩
  | x :: r, _, h => by
    obtain ⟨v, m, rfl, h1, h2⟩ := h.inv
    obtain ⟨m2, v2, rfl, h3, h4⟩ := h2.unsnoc
    exact ⟨v :: m2, v2, rfl, .cons h1 h3, h4⟩
theorem shaped_lst {ds : List PyData} (g : gA ds = true) (hd : ∀ d ∈ ds, d.depth ≤ 63) : SeqAt.shaped (.list ds) = true := by
  have e : PyData.depthAll ds ≤ 63 := by
    clear g
    induction ds with
    | nil => simp [PyData.depthAll]
    | cons x r ih =>
      have h1 := hd x List.mem_cons_self
      have h2 := ih fun d m => hd d (List.mem_cons_of_mem _ m)
      simp only [PyData.depthAll]
      omega
  refine shaped_gD (by simpa only [gD] using g) ?_
  simp only [PyData.depth]
  omega
/-- a path: ints in a tuple -/
def pathD (p : List Int) : PyData := .tuple (p.map PyData.int)
theorem DqA.ints {b : Addr} {H : Hp} : ∀ (p : List Int), DqA b H (p.map PyData.int) (p.map V.int)
  | [] => .nil
  | i :: r => .cons (Dq.int_mk i) (DqA.ints r)
theorem DqA.ints_inv {b : Addr} {H : Hp} : ∀ {p : List Int} {l : List V}, DqA b H (p.map PyData.int) l → l = p.map V.int
  | [], _, h => h.inv0
  | i :: r, _, h => by
    obtain ⟨v, m, rfl, h1, h2⟩ := h.inv
    simp only [Dq] at h1
    rw [h1, h2.ints_inv]
    rfl
theorem gA_ints : ∀ p : List Int, gA (p.map PyData.int) = true
  | [] => by simp only [List.map_nil, gA]
  | i :: r => by simp only [List.map_cons, gA, gD, gA_ints r, Bool.and_self]
theorem depth_path (p : List Int) : (pathD p).depth = 1 := by
  unfold pathD
  have e : ∀ q : List Int, PyData.depthAll (q.map PyData.int) = 0 := fun q => by
    induction q with
    | nil => simp [PyData.depthAll]
    | cons i r ih => simp only [List.map_cons, PyData.depthAll, ih, PyData.depth, Nat.max_self]
  simp only [PyData.depth, e]
theorem sz_path (p : List Int) : sz (pathD p) = 1 + p.length := by
  unfold pathD
  have e : ∀ q : List Int, szA (q.map PyData.int) = q.length := fun q => by
    induction q with
    | nil => rfl
    | cons i r ih =>
      simp only [List.map_cons, szA, ih, sz, List.length_cons]
      omega
  simp only [sz, e]
theorem Le.set {b : Addr} {H : Hp} {l m : List V} (h : H b = some (.lst l)) : Le b H (upd H b (.lst m)) := by
  refine ⟨fun c xs e => ?_, fun c l n e => ?_⟩
  · rw [upd_ne fun z => ?_]
    · exact e
    · rw [z, h] at e
      cases e
  · rw [upd_ne n]
    exact e
mutual
/-- what is not there is no part of it -/
theorem Dq.free {b x : Addr} {H : Hp} (n : H x = none) : ∀ {d : PyData} {v : V}, Dq b H d v → Dq x H d v
  | .none, _, h => by simpa only [Dq] using h
  | .bool _, _, h => by simpa only [Dq] using h
  | .int _, _, h => by simpa only [Dq] using h
  | .str _, _, h => by simpa only [Dq] using h
  | .list ds, _, h => by
    simp only [Dq] at h ⊢
    obtain ⟨a, l, e, _, h1, h2⟩ := h
    exact ⟨a, l, e, ne_of_none h1 n, h1, DqA.free n h2⟩
  | .tuple ds, _, h => by
    simp only [Dq] at h ⊢
    obtain ⟨a, l, e, h1, h2⟩ := h
    exact ⟨a, l, e, h1, DqA.free n h2⟩
  | .dict _, _, h => by simp only [Dq] at h
theorem DqA.free {b x : Addr} {H : Hp} (n : H x = none) : ∀ {ds : List PyData} {l : List V}, DqA b H ds l → DqA x H ds l
  | [], _, h => by simpa only [DqA] using h
  | d :: r, _, h => by
    simp only [DqA] at h ⊢
    obtain ⟨v, m, e, h1, h2⟩ := h
    exact ⟨v, m, e, Dq.free n h1, DqA.free n h2⟩
end

/-! ### literal values -/
inductive Lit where
  | non
  | bl (b : Bool)
  | int (i : Int)
  | str (z : Str)
  | mul (z : Str) (n : Nat)
  | tup (xs : List Lit)
  | lst (xs : List Lit)
mutual
def Lit.data : Lit → PyData
  | .non => .none
  | .bl b => .bool b
  | .int i => .int i
  | .str z => .str z
  | .mul z n => .str (Txt.mul z n)
  | .tup xs => .tuple (Lit.dataA xs)
  | .lst xs => .list (Lit.dataA xs)
def Lit.dataA : List Lit → List PyData
  | [] => []
  | x :: r => x.data :: Lit.dataA r
end
mutual
def Lit.te : Lit → TE
  | .non => tC .non
  | .bl b => tC (.bl b)
  | .int i => tC (.int i)
  | .str z => tC (.str z)
  | .mul z n => tOp rMulX (tC (.str z)) (tC (.int n))
  | .tup xs => tTup (Lit.ta xs)
  | .lst xs => tLst (Lit.ta xs)
def Lit.ta : List Lit → TA
  | [] => tNil
  | x :: r => tCons x.te (Lit.ta r)
end
mutual
def Lit.ok : Lit → Bool
  | .non => true
  | .bl _ => true
  | .int _ => true
  | .str _ => true
  | .mul z n => decide (z.length ≤ 1000) && decide (n ≤ 1000)
  | .tup xs => decide (xs.length ≤ 1000) && Lit.okA xs
  | .lst xs => decide (xs.length ≤ 1000) && Lit.okA xs
def Lit.okA : List Lit → Bool
  | [] => true
  | x :: r => x.ok && Lit.okA r
end
theorem Lit.lenA : ∀ xs : List Lit, (Lit.dataA xs).length = xs.length
  | [] => rfl
  | x :: r => by rw [Lit.dataA, List.length_cons, List.length_cons, Lit.lenA r]
mutual
theorem Lit.run {b : Addr} {l : List V} : ∀ (x : Lit) {σ : St} {H : Hp} {Q : VK}, x.ok = true → H b = some (.lst l) → (∀ v H', Same H H' → Dq b H' x.data v → Q v H') → x.te σ H Q
  | .non, σ, H, Q, _, _, q => q _ H (Same.refl H) (by rw [Lit.data]; exact Dq.non_mk)
  | .bl c, σ, H, Q, _, _, q => q _ H (Same.refl H) (by rw [Lit.data]; exact Dq.bl_mk c)
  | .int i, σ, H, Q, _, _, q => q _ H (Same.refl H) (by rw [Lit.data]; exact Dq.int_mk i)
  | .str z, σ, H, Q, _, _, q => q _ H (Same.refl H) (by rw [Lit.data]; exact Dq.str_mk z)
  | .mul z n, σ, H, Q, h, _, q => by
    simp only [Lit.ok, Bool.and_eq_true, decide_eq_true_eq] at h
    simp only [Lit.te]
    k_extra "rr"
    exact mulS h.1 (by omega) (by omega) (q _ H (Same.refl H) (by rw [Lit.data]; exact Dq.str_mk _))
  | .tup xs, σ, H, Q, h, hb, q => by
    simp only [Lit.ok, Bool.and_eq_true, decide_eq_true_eq] at h
    simp only [Lit.te]
    refine Rg.tup_ (Lit.runA xs h.2 hb fun vs H1 s1 h1 => ⟨?_, fun p np => q _ _ (s1.trans (same_upd np)) ?_⟩)
    · rw [h1.len, Lit.lenA, sizeLine_eq]
      omega
    · rw [Lit.data]
      exact Dq.tup_mk upd_same (h1.le (Le.new np))
  | .lst xs, σ, H, Q, h, hb, q => by
    simp only [Lit.ok, Bool.and_eq_true, decide_eq_true_eq] at h
    simp only [Lit.te]
    refine Rg.lst_ (Lit.runA xs h.2 hb fun vs H1 s1 h1 => ⟨?_, fun p np => q _ _ (s1.trans (same_upd np)) ?_⟩)
    · rw [h1.len, Lit.lenA, sizeLine_eq]
      omega
    · rw [Lit.data]
      exact Dq.lst_mk (ne_of_none (s1 _ _ hb) np).symm upd_same (h1.le (Le.new np))
theorem Lit.runA {b : Addr} {l : List V} : ∀ (xs : List Lit) {σ : St} {H : Hp} {QA : List V → Hp → Prop}, Lit.okA xs = true → H b = some (.lst l) → (∀ vs H', Same H H' → DqA b H' (Lit.dataA xs) vs → QA vs H') → Lit.ta xs σ H QA
  | [], σ, H, QA, _, _, q => q [] H (Same.refl H) (by rw [Lit.dataA]; exact .nil)
  | x :: r, σ, H, QA, h, hb, q => by
    simp only [Lit.okA, Bool.and_eq_true] at h
    simp only [Lit.ta]
    refine Rg.acons (Lit.run x h.1 hb fun v H1 s1 h1 => Lit.runA r h.2 (s1 _ _ hb) fun vs H2 s2 h2 => q _ _ (s1.trans s2) ?_)
    rw [Lit.dataA]
    exact .cons (h1.le (Le.same s2)) h2
end
/-- drawn from a literal list: one of its items -/
theorem lit_of {K : PySem.W.Frag} {b r : Addr} {xs : List Lit} {t : TE} (et : (Lit.lst xs).te = t) {σ : St} {H : Hp} {Q : VK} (ok : (Lit.lst xs).ok = true) (h0 : 0 < xs.length) (hb : BagAt H b r) (q : ∀ v d H', d ∈ Lit.dataA xs → But b H H' → BagAt H' b r → Dq b H' d v → Q v H') :
    t σ H fun v H1 => tNil σ H1 fun xs H2 => spOf K (.ref b :: v :: xs) H2 Q E0 := by
  show t σ H fun v H1 => spOf K [.ref b, v] H1 Q E0
  rw [← et]
  obtain ⟨l, hl⟩ : ∃ l, H b = some (.lst l) := by
    obtain ⟨ns, i, c, m, h1, _⟩ := hb
    exact ⟨_, h1⟩
  have ok2 := ok
  simp only [Lit.ok, Bool.and_eq_true, decide_eq_true_eq] at ok2
  simp only [Lit.te]
  refine Rg.lst_ (Lit.runA xs ok2.2 hl fun vs H1 s1 h1 => ⟨?_, fun p np => ?_⟩)
  · rw [h1.len, Lit.lenA, sizeLine_eq]
    omega
  · have hb1 := (hb.same s1).new (o := .lst vs) np
    have len := h1.len
    rw [Lit.lenA] at len
    refine ⟨b, r, _, rfl, hb1, .inr ⟨p, vs, rfl, ((hb.same s1).ne_none np).1, SqL.of upd_same, by omega, by omega, fun i v H2 hv bb hb2 => ?_⟩⟩
    obtain ⟨d, ed, hd⟩ := h1.get hv
    have l1 : Le b (upd H1 p (.lst vs)) H2 := by
      obtain ⟨ns, i, c, m, e1, _⟩ := hb1
      exact Le.but bb e1
    exact q v d H2 (List.mem_of_getElem? ed) ((But.of_same (s1.trans (same_upd np))).trans bb) hb2 (hd.le ((Le.new np).trans l1))

/-! ### _law_field, called while its exception is handled -/
/-- the field that the code names -/
def fldOf (code : Str) : Option Str := if code ∈ (["BadShape", "ParseError"] : List Str) then some "at"
  else if code ∈ (["TooMany", "Full"] : List Str) then some "most"
  else if code ∈ (["BadName", "DuplicateName", "WrongKind", "UnknownName"] : List Str) then some "name"
  else if code = "BadDocument" then some "path"
  else if code = "BadScript" then some "line"
  else if code = "BadLimit" then some "given"
  else if code = "BadCommand" then some "word"
  else if code = "UnknownHand" then some "hand"
  else if code = "Quarrel" then some "shown"
  else none
theorem inV_codes (x : Str) : ∀ l : List Str, inV (V.str x) (l.map V.str) = decide (x ∈ l)
  | [] => by simp [inV]
  | y :: r => by
    have ih := inV_codes x r
    unfold inV at ih ⊢
    simp only [List.map_cons, List.any_cons, List.mem_cons] at ih ⊢
    rw [ih, show eqV (V.str y) (V.str x) = (y == x) from rfl]
    by_cases h : x = y
    · subst h
      simp
    · have h2 : ¬ y = x := fun z => h z.symm
      simp [h, h2]
theorem inC {K : PySem.W.Frag} {x : Str} {l : List Str} {p : Addr} {H : Hp} {Q : VK} (h : H p = some (.lst (l.map V.str))) (q : Q (.bl (decide (x ∈ l))) H) : rInX K (.str x) (.ref p) H Q := by
  refine .inr ⟨p, _, rfl, .inl (SqL.of h), rfl, ?_, ?_⟩
  · rw [List.all_map]
    exact List.all_eq_true.mpr fun _ _ => rfl
  · show Q (.bl (inV (V.str x) (l.map V.str))) H
    rw [inV_codes]
    exact q
def spField (K : PySem.W.Frag) : SpE := fun a c d vs H Q _ => ∃ (C dd : Addr) (fs : List (Str × V)) (code : Str), vs = [.ref a] ∧ c = .ref C ∧ d = some dd ∧ XfC K C ∧ H dd = some (.xd fs) ∧ fs.lookup ("code" : Str) = some (V.str code) ∧ PySem.W.findIn K (.ref C) "code" = some none ∧
  ((∃ f v, fldOf code = some f ∧ PySem.W.findIn K (.ref C) f = some none ∧ fs.lookup f = some v ∧ ∀ H', Same H H' → Q v H') ∨ (fldOf code = none ∧ ∀ H', Same H H' → Q .non H'))
section
variable {P : Program} {w : World} {K : PySem.W.Frag} {mg : Str → Option Value} {base : Heap} {f : Addr} {fd : FuncData}
theorem ok_law_field (F : Fun K "_law_field" "_law_field" s_law_field f fd) : FnE P w K mg base CX0 1 f fd ["_law_e"] (spField K) := by
  obtain ⟨oc, od, kV, doc, pm, an, cdv, ct, osl, rfl, lk, hcd⟩ := F.ex
  refine FnE.of lk hcd sc_law_field (fun h => ?_) (fun {A outer z H vs Q E p c d} hz hdat room h => ?_)
  · obtain ⟨C, dd, fs, code, rfl, _⟩ := h
    rfl
  · obtain ⟨C, dd, fs, code, rfl, rfl, rfl, hT, hd, hc, hnc, q⟩ := h
    have hin : p ∈ [p] := List.mem_singleton.mpr rfl
    have hu : (A.deeper (PyProof.Rows.envOfC "_law_field" (defScope s_law_field) z.heap.objs.size f cdv)).units + 64 < cLine := by
      have := room.un
      omega
    refine ⟨_, (pss_cons (ps_if (pt_cmpR (op_inX K) (pe_xfE hz hdat hin (pv 0)) (pe_lst (pa_cons pe_str (pa_cons pe_str pa_nil))) (by rfl)) (pss_one (ps_ret (pe_xfE hz hdat hin (pv 0)))) pss_nil)
      (pss_cons (ps_if (pt_cmpR (op_inX K) (pe_xfE hz hdat hin (pv 0)) (pe_lst (pa_cons pe_str (pa_cons pe_str pa_nil))) (by rfl)) (pss_one (ps_ret (pe_xfE hz hdat hin (pv 0)))) pss_nil)
      (pss_cons (ps_if (pt_cmpR (op_inX K) (pe_xfE hz hdat hin (pv 0)) (pe_lst (pa_cons pe_str (pa_cons pe_str (pa_cons pe_str (pa_cons pe_str pa_nil))))) (by rfl)) (pss_one (ps_ret (pe_xfE hz hdat hin (pv 0)))) pss_nil)
      (pss_cons (ps_if (pt_cmpR (op_eqU K hu) (pe_xfE hz hdat hin (pv 0)) pe_str (nomark _)) (pss_one (ps_ret (pe_xfE hz hdat hin (pv 0)))) pss_nil)
      (pss_cons (ps_if (pt_cmpR (op_eqU K hu) (pe_xfE hz hdat hin (pv 0)) pe_str (nomark _)) (pss_one (ps_ret (pe_xfE hz hdat hin (pv 0)))) pss_nil)
      (pss_cons (ps_if (pt_cmpR (op_eqU K hu) (pe_xfE hz hdat hin (pv 0)) pe_str (nomark _)) (pss_one (ps_ret (pe_xfE hz hdat hin (pv 0)))) pss_nil)
      (pss_cons (ps_if (pt_cmpR (op_eqU K hu) (pe_xfE hz hdat hin (pv 0)) pe_str (nomark _)) (pss_one (ps_ret (pe_xfE hz hdat hin (pv 0)))) pss_nil)
      (pss_cons (ps_if (pt_cmpR (op_eqU K hu) (pe_xfE hz hdat hin (pv 0)) pe_str (nomark _)) (pss_one (ps_ret (pe_xfE hz hdat hin (pv 0)))) pss_nil)
      (pss_one (ps_ret (pe_ifExp (pt_cmpR (op_eqU K hu) (pe_xfE hz hdat hin (pv 0)) pe_str (nomark _)) (pe_xfE hz hdat hin (pv 0)) pe_non))))))))))), ?_⟩
    change (_ : TS) _ [some (V.ref p.1)] _
    k_extra "rr"
    refine xfI hT hnc hd hc rfl ?_
    k_extra "rr"
    refine ⟨by k_extra "sz", fun p0 n0 => ?_⟩
    have s0 := (Same.refl H).trans (same_upd (o := .lst ([.str "BadShape", .str "ParseError"] : List V)) n0)
    k_extra "rr"
    refine inC (l := ["BadShape", "ParseError"]) upd_same ?_
    by_cases h0 : code ∈ (["BadShape", "ParseError"] : List Str)
    · rw [decide_eq_true h0]
      k_extra "rr"
      have ef : fldOf code = some ("at" : Str) := by
        unfold fldOf
        rw [if_pos h0]
      rcases q with ⟨g, v, e2, hn, hl, k⟩ | ⟨e2, _⟩
      · obtain rfl : g = ("at" : Str) := Option.some.inj (e2.symm.trans ef)
        refine xfI hT hn (s0 _ _ hd) hl rfl ?_
        k_extra "rr"
        exact k _ s0
      · cases e2.symm.trans ef
    rw [decide_eq_false h0]
    k_extra "rr"
    refine xfI hT hnc (s0 _ _ hd) hc rfl ?_
    k_extra "rr"
    refine ⟨by k_extra "sz", fun p1 n1 => ?_⟩
    have s1 := s0.trans (same_upd (o := .lst ([.str "TooMany", .str "Full"] : List V)) n1)
    k_extra "rr"
    refine inC (l := ["TooMany", "Full"]) upd_same ?_
    by_cases h1 : code ∈ (["TooMany", "Full"] : List Str)
    · rw [decide_eq_true h1]
      k_extra "rr"
      have ef : fldOf code = some ("most" : Str) := by
        unfold fldOf
        rw [if_neg h0, if_pos h1]
      rcases q with ⟨g, v, e2, hn, hl, k⟩ | ⟨e2, _⟩
      · obtain rfl : g = ("most" : Str) := Option.some.inj (e2.symm.trans ef)
        refine xfI hT hn (s1 _ _ hd) hl rfl ?_
        k_extra "rr"
        exact k _ s1
      · cases e2.symm.trans ef
    rw [decide_eq_false h1]
    k_extra "rr"
    refine xfI hT hnc (s1 _ _ hd) hc rfl ?_
    k_extra "rr"
    refine ⟨by k_extra "sz", fun p2 n2 => ?_⟩
    have s2 := s1.trans (same_upd (o := .lst ([.str "BadName", .str "DuplicateName", .str "WrongKind", .str "UnknownName"] : List V)) n2)
    k_extra "rr"
    refine inC (l := ["BadName", "DuplicateName", "WrongKind", "UnknownName"]) upd_same ?_
    by_cases h2 : code ∈ (["BadName", "DuplicateName", "WrongKind", "UnknownName"] : List Str)
    · rw [decide_eq_true h2]
      k_extra "rr"
      have ef : fldOf code = some ("name" : Str) := by
        unfold fldOf
        rw [if_neg h0, if_neg h1, if_pos h2]
      rcases q with ⟨g, v, e2, hn, hl, k⟩ | ⟨e2, _⟩
      · obtain rfl : g = ("name" : Str) := Option.some.inj (e2.symm.trans ef)
        refine xfI hT hn (s2 _ _ hd) hl rfl ?_
        k_extra "rr"
        exact k _ s2
      · cases e2.symm.trans ef
    rw [decide_eq_false h2]
    k_extra "rr"
    refine xfI hT hnc (s2 _ _ hd) hc rfl ?_
    k_extra "rr"
    by_cases h3 : code = "BadDocument"
    · rw [decide_eq_true h3]
      k_extra "rr"
      have ef : fldOf code = some ("path" : Str) := by
        unfold fldOf
        rw [if_neg h0, if_neg h1, if_neg h2, if_pos h3]
      rcases q with ⟨g, v, e2, hn, hl, k⟩ | ⟨e2, _⟩
      · obtain rfl : g = ("path" : Str) := Option.some.inj (e2.symm.trans ef)
        refine xfI hT hn (s2 _ _ hd) hl rfl ?_
        k_extra "rr"
        exact k _ s2
      · cases e2.symm.trans ef
    rw [decide_eq_false h3]
    k_extra "rr"
    refine xfI hT hnc (s2 _ _ hd) hc rfl ?_
    k_extra "rr"
    by_cases h4 : code = "BadScript"
    · rw [decide_eq_true h4]
      k_extra "rr"
      have ef : fldOf code = some ("line" : Str) := by
        unfold fldOf
        rw [if_neg h0, if_neg h1, if_neg h2, if_neg h3, if_pos h4]
      rcases q with ⟨g, v, e2, hn, hl, k⟩ | ⟨e2, _⟩
      · obtain rfl : g = ("line" : Str) := Option.some.inj (e2.symm.trans ef)
        refine xfI hT hn (s2 _ _ hd) hl rfl ?_
        k_extra "rr"
        exact k _ s2
      · cases e2.symm.trans ef
    rw [decide_eq_false h4]
    k_extra "rr"
    refine xfI hT hnc (s2 _ _ hd) hc rfl ?_
    k_extra "rr"
    by_cases h5 : code = "BadLimit"
    · rw [decide_eq_true h5]
      k_extra "rr"
      have ef : fldOf code = some ("given" : Str) := by
        unfold fldOf
        rw [if_neg h0, if_neg h1, if_neg h2, if_neg h3, if_neg h4, if_pos h5]
      rcases q with ⟨g, v, e2, hn, hl, k⟩ | ⟨e2, _⟩
      · obtain rfl : g = ("given" : Str) := Option.some.inj (e2.symm.trans ef)
        refine xfI hT hn (s2 _ _ hd) hl rfl ?_
        k_extra "rr"
        exact k _ s2
      · cases e2.symm.trans ef
    rw [decide_eq_false h5]
    k_extra "rr"
    refine xfI hT hnc (s2 _ _ hd) hc rfl ?_
    k_extra "rr"
    by_cases h6 : code = "BadCommand"
    · rw [decide_eq_true h6]
      k_extra "rr"
      have ef : fldOf code = some ("word" : Str) := by
        unfold fldOf
        rw [if_neg h0, if_neg h1, if_neg h2, if_neg h3, if_neg h4, if_neg h5, if_pos h6]
      rcases q with ⟨g, v, e2, hn, hl, k⟩ | ⟨e2, _⟩
      · obtain rfl : g = ("word" : Str) := Option.some.inj (e2.symm.trans ef)
        refine xfI hT hn (s2 _ _ hd) hl rfl ?_
        k_extra "rr"
        exact k _ s2
      · cases e2.symm.trans ef
    rw [decide_eq_false h6]
    k_extra "rr"
    refine xfI hT hnc (s2 _ _ hd) hc rfl ?_
    k_extra "rr"
    by_cases h7 : code = "UnknownHand"
    · rw [decide_eq_true h7]
      k_extra "rr"
      have ef : fldOf code = some ("hand" : Str) := by
        unfold fldOf
        rw [if_neg h0, if_neg h1, if_neg h2, if_neg h3, if_neg h4, if_neg h5, if_neg h6, if_pos h7]
      rcases q with ⟨g, v, e2, hn, hl, k⟩ | ⟨e2, _⟩
      · obtain rfl : g = ("hand" : Str) := Option.some.inj (e2.symm.trans ef)
        refine xfI hT hn (s2 _ _ hd) hl rfl ?_
        k_extra "rr"
        exact k _ s2
      · cases e2.symm.trans ef
    rw [decide_eq_false h7]
    k_extra "rr"
    refine xfI hT hnc (s2 _ _ hd) hc rfl ?_
    k_extra "rr"
    by_cases h8 : code = "Quarrel"
    · rw [decide_eq_true h8]
      k_extra "rr"
      have ef : fldOf code = some ("shown" : Str) := by
        unfold fldOf
        rw [if_neg h0, if_neg h1, if_neg h2, if_neg h3, if_neg h4, if_neg h5, if_neg h6, if_neg h7, if_pos h8]
      rcases q with ⟨g, v, e2, hn, hl, k⟩ | ⟨e2, _⟩
      · obtain rfl : g = ("shown" : Str) := Option.some.inj (e2.symm.trans ef)
        refine xfI hT hn (s2 _ _ hd) hl rfl ?_
        k_extra "rr"
        exact k _ s2
      · cases e2.symm.trans ef
    rw [decide_eq_false h8]
    k_extra "rr"
    have ef : fldOf code = none := by
      unfold fldOf
      rw [if_neg h0, if_neg h1, if_neg h2, if_neg h3, if_neg h4, if_neg h5, if_neg h6, if_neg h7, if_neg h8]
    rcases q with ⟨g, v, e2, hn, hl, k⟩ | ⟨_, k⟩
    · cases e2.symm.trans ef
    · exact k _ s2
end

/-! ### _law_why: what it makes of the lambda that it gets -/
/-- no exception: ('', what came); one of the three classes: (its code, its field) -/
def TTwhy (K : PySem.W.Frag) (c1 c2 c3 : Value) : (XK → Hp → VK → Prop) → Hp → VK → Prop := fun tl H Q =>
  tl (fun cls d H1 => PySem.W.exmAny K cls [c1, c2, c3] = some true ∧ ∃ (C dd : Addr) (fs : List (Str × V)) (code : V), cls = .ref C ∧ d = some dd ∧ XfC K C ∧ PySem.W.findIn K (.ref C) "code" = some none ∧ H1 dd = some (.xd fs) ∧ fs.lookup ("code" : Str) = some code ∧
      ∀ a, H1 a = none → spField K a cls d [.ref a] H1 (fun v H2 => ([code, v] : List V).length ≤ sizeLine ∧ ∀ p, H2 p = none → Q (.ref p) (upd H2 p (.tup [code, v]))) E0)
    H fun v H1 => ([V.str "", v] : List V).length ≤ sizeLine ∧ ∀ p, H1 p = none → Q (.ref p) (upd H1 p (.tup [.str "", v]))
section
variable {X : Cx} {K : PySem.W.Frag} {g ff : Addr} {cdg c1 c2 c3 : Value} {q : Str} {ffd : FuncData} {k : Nat}
theorem why_gives (hK : X.K = K) (hr : Room (k + 3) X.A) (N1 : X.mg "GroveError" = some c1) (N2 : X.mg "Missing" = some c2) (N3 : X.mg "NothingLeft" = some c3)
    (F : FnE X.prog X.w K X.mg X.base CX0 1 ff ffd ["_law_e"] (spField K)) (m : X.mg "_law_field" = some (.ref ff)) (hk : PySem.W.keepIn K (.ref ff) = true) (hb : Binds K ffd ["_law_e"] []) :
    LamX.GivesTo X ["_law_ask", "_law_e"] "_law_why" (defScope s_law_why) g cdg (defBody s_law_why) "_law_ask" q (TTwhy K c1 c2 c3) := by
  subst hK
  intro f c' s H Q tl act hc h
  refine ⟨_, pss_one (ps_try_as3 (X := (cxOf C8.CX0 X.prog X.w X.K X.mg X.base ["_law_ask", "_law_e"] "_law_why" (defScope s_law_why) g cdg X.A X.stack s H C8.E0).nox) (i := 1) (c1 := c1) (c2 := c2) (c3 := c3) (n := "_law_e")
    (tb := fun W D σ H => ∃ Ech : XK, (∀ cls d σ' H', Ech cls d H' → W cls d σ' H') ∧ σ[0]? = some (some (.ref f)) ∧ H c' = some (LamX.CodeO c' q) ∧ tl Ech H fun v H1 => ([V.str "", v] : List V).length ≤ sizeLine ∧ ∀ p, H1 p = none → D.rt (.ref p) (upd H1 p (.tup [.str "", v])))
    (ts := fun a cls d => tRet (tTup (tCons (tXfE X.K a cls d "code" (tVar 1)) (tCons (tCE (spField X.K) a cls d (fun _ => E0) (tCons (tVar 1) tNil)) tNil))))
    rfl rfl sc_law_why.nd rfl rfl ⟨rfl, rfl, .inl N1⟩ ⟨rfl, rfl, .inl N2⟩ ⟨rfl, rfl, .inl N3⟩ LamX.takes0 (fun W pn xe tk _ => ?_) (fun a oe cls d pn hz hdat => ?_)), ?_⟩
  · refine ⟨fun pins s' σ H' D I h' => ?_⟩
    obtain ⟨Ech, hW, h1, h2, h3⟩ := h'
    refine' PSs.run ?hq pins s' σ H' D I ?hr
    case hq => exact pss_one (ps_ret (pe_tup (pa_cons pe_str (pa_cons (act W pn xe Ech _ _ tk hW) pa_nil))))
    case hr => exact ⟨h1, h2, h3⟩
  · have hin : (a, oe) ∈ (a, oe) :: pn := List.mem_cons_self ..
    have rm := hr.deeper (PyProof.Rows.envOfC "_law_why" (defScope s_law_why) s.heap.objs.size g cdg)
    have rm1 := rm.mono (j := 1) (by omega)
    exact pss_one (ps_ret (pe_tup (pa_cons (pe_xfE (p := (a, oe)) hz hdat hin (pv 1)) (pa_cons (pe_callE (p := (a, oe)) F ⟨rm1.dp, rm1.un⟩ hz hdat hin (by rfl) m hk hb (fun _ _ _ _ _ _ _ z => z.elim) (pa_cons (pv 1) pa_nil)) pa_nil))))
  · refine ⟨_, fun cls d σ' H' e => ?_, rfl, hc, h⟩
    obtain ⟨e1, C, dd, fs, code, rfl, rfl, hT, hn, hd, hl, k⟩ := e
    refine ⟨true, e1, (fun z => by cases z), fun _ hlen a na => ?_⟩
    have hs : (σ'.set 1 (some (V.ref a)))[1]? = some (some (V.ref a)) := by
      rw [List.getElem?_set_self hlen]
    exact ⟨_, hs, rfl, C, dd, fs, code, rfl, rfl, hT, hn, hd, hl, _, hs, k a na⟩
end

/-! ### _law_why(lambda: ..) -/
structure WhyC (P : Program) (w : World) (K : PySem.W.Frag) (mg : Str → Option Value) (base : Heap) (c1 c2 c3 : Value) : Prop where
  ex : ∃ (g : Addr) (fd : FuncData), Fun K "_law_why" "_law_why" s_law_why g fd ∧ mg "_law_why" = some (.ref g) ∧ PySem.W.keepIn K (.ref g) = true ∧ Binds K fd ["_law_ask"] []
  N1 : mg "GroveError" = some c1
  N2 : mg "Missing" = some c2
  N3 : mg "NothingLeft" = some c3
  F : ∃ (ff : Addr) (ffd : FuncData), FnE P w K mg base CX0 1 ff ffd ["_law_e"] (spField K) ∧ mg "_law_field" = some (.ref ff) ∧ PySem.W.keepIn K (.ref ff) = true ∧ Binds K ffd ["_law_e"] []
theorem pe_why {X : Cx} {c1 c2 c3 : Value} {c P : Addr} {j : Nat} {params : Arguments} {body : Expr} {scope : Scope} {t : XK → TE} {p lpos pos : Pos} (k : Nat) (hW : WhyC X.prog X.w X.K X.mg X.base c1 c2 c3) (TB : LamX.TabB X.base X.mg c P) (hcode : X.env.code = .ref c) (hr : Room j X.A) (hk : k + 3 ≤ j) (L : LamX.LamS X.env.scope scope)
    (hbind : ∀ (q : Str) (cl : List (Str × Addr)) (pm cv ctv : Value), bindArgs (PySem.W.kla_fn "<lambda>" q params body scope cl pm cv ctv) ⟨[], []⟩ = pure [])
    (hbody : ∀ (A : Around) (outer : List Env) (s : Shared) (H : Hp) (E : XK) (f c' : Addr), Room k (A.deeper (LamX.lamEnv X scope s.heap.objs.size f c')) → PE (LamX.lamCx X A outer s H E scope f c') body (t E))
    (hg : Gl X "_law_why" := by rfl) (hdef : defaultsOf params X.env = ([], []) := by rfl) :
    PE X (.Call (.Name "_law_why" p) [.Lambda params body scope lpos] [] pos) (LamX.tLam [(P, X.env.qual ++ "<lambda>")] (TTwhy X.K c1 c2 c3) t) := by
  obtain ⟨g, fd, F, mW, kW, bW⟩ := hW.ex
  obtain ⟨oc, od, kV, doc, pm, an, cdv, ct, osl, rfl, lk, hcd⟩ := F.ex
  obtain ⟨ff, ffd, FF, mF, kF, bF⟩ := hW.F
  exact LamX.pe_lamcall (T := [(P, X.env.qual ++ "<lambda>")]) (Ng := ["_law_ask", "_law_e"]) (a := "_law_ask") hg mW kW lk hcd bW sc_law_why rfl (.inl rfl) (why_gives (k := k) rfl (hr.mono hk) hW.N1 hW.N2 hW.N3 FF mF kF bF) TB hcode (List.mem_singleton.mpr rfl)
    (fun p hp _ => by rw [List.mem_singleton.mp hp]) (hr.mono (by omega)) L hdef hbind hbody
/-- what such a call wishes of an exception -/
def whyX (K : PySem.W.Frag) (c1 c2 c3 : Value) (Q : VK) : XK := fun cls d H1 => PySem.W.exmAny K cls [c1, c2, c3] = some true ∧ ∃ (C dd : Addr) (fs : List (Str × V)) (code : V), cls = .ref C ∧ d = some dd ∧ XfC K C ∧ PySem.W.findIn K (.ref C) "code" = some none ∧ H1 dd = some (.xd fs) ∧ fs.lookup ("code" : Str) = some code ∧
      ∀ a, H1 a = none → spField K a cls d [.ref a] H1 (fun v H2 => ([code, v] : List V).length ≤ sizeLine ∧ ∀ p, H2 p = none → Q (.ref p) (upd H2 p (.tup [code, v]))) E0
def ErrAt (H : Hp) (d : Addr) (fld code : Str) (v : V) : Prop := H d = some (.xd [(fld, v), (("code" : Str), V.str code)])
theorem why_ {K : PySem.W.Frag} {c1 c2 c3 : Value} {T : List (Addr × Str)} {t : XK → TE} {σ : St} {H : Hp} {Q : VK} (hT : LamX.Tabs T H) (q : ∀ H1, LamX.ExtN H H1 → LamX.Tabs T H1 → t (whyX K c1 c2 c3 Q) σ H1 fun v H2 => ([V.str "", v] : List V).length ≤ sizeLine ∧ ∀ p, H2 p = none → Q (.ref p) (upd H2 p (.tup [.str "", v]))) :
    LamX.tLam T (TTwhy K c1 c2 c3) t σ H Q := ⟨hT, q⟩
theorem why_x {K : PySem.W.Frag} {c1 c2 c3 : Value} {C dd : Addr} {fld code : Str} {v : V} {H1 : Hp} {Q : VK} (exm : PySem.W.exmAny K (.ref C) [c1, c2, c3] = some true) (xf : XfC K C) (n1 : PySem.W.findIn K (.ref C) "code" = some none) (n2 : PySem.W.findIn K (.ref C) fld = some none)
    (hc : fldOf code = some fld) (hne : (("code" : Str) == fld) = false) (hd : ErrAt H1 dd fld code v) (q : ∀ p H2, Same H1 H2 → H2 p = some (.tup [.str code, v]) → Q (.ref p) H2) : whyX K c1 c2 c3 Q (.ref C) (some dd) H1 := by
  have e1 : List.lookup ("code" : Str) [(fld, v), (("code" : Str), V.str code)] = some (V.str code) := by
    simp [List.lookup, hne]
  have e2 : List.lookup fld [(fld, v), (("code" : Str), V.str code)] = some v := by simp [List.lookup]
  refine ⟨exm, C, dd, _, _, rfl, rfl, xf, n1, hd, e1, fun a na => ?_⟩
  exact ⟨C, dd, _, code, rfl, rfl, rfl, xf, hd, e1, n1, .inl ⟨fld, v, hc, n2, e2, fun H' s => ⟨Nat.le_of_ble_eq_true rfl, fun p np => q p _ (s.trans (same_upd np)) upd_same⟩⟩⟩
theorem ext_lst {H H1 : Hp} {a : Addr} {l : List V} (e : LamX.ExtN H H1) (h : H a = some (.lst l)) : H1 a = some (.lst l) := e a _ h fun ps z => by cases z
theorem BagAt.ext {H H' : Hp} {b r : Addr} (h : BagAt H b r) (e : LamX.ExtN H H') : BagAt H' b r := by
  obtain ⟨ns, i, c, m, h1, h2, h3⟩ := h
  exact ⟨ns, i, c, m, ext_lst e h1, ext_lst e h2, h3⟩
/-! ### an own error is made and raised -/
theorem ini_ok {K : PySem.W.Frag} {code fld : Str} {C a : Addr} {v : V} {H1 : Hp} {Ex : XK} (T : OexC K C) (n1 : PySem.W.findIn K (.ref C) "code" = some none) (n2 : PySem.W.findIn K (.ref C) fld = some none) (na : H1 a = none)
    (k : ∀ d H', Same H1 H' → H' d = some (.xd [(fld, v), (("code" : Str), V.str code)]) → Ex (.ref C) (some d) H') :
    spIni K code fld [.ref a, v] (upd H1 a (exo a C none)) (fun r H2 => r = .non ∧ ∃ (d : Addr) (fs : List (Str × V)), H2 a = some (exo a C (some d)) ∧ H2 d = some (exd d fs) ∧ H1 d = none ∧ Ex (.ref C) (some d) (upd (del H2 a) d (.xd fs))) (fun _ _ _ => False) := by
  refine ⟨a, C, v, rfl, T, n1, n2, upd_same, fun d H' nd ne h1 h2 kp => ⟨rfl, d, _, h1, h2, un0 nd, k d _ (fun b o hb => ?_) upd_same⟩⟩
  have nbd : b ≠ d := ne_of_none hb (un0 nd)
  have nba : b ≠ a := ne_of_none hb na
  rw [upd_ne nbd, del_ne nba]
  exact kp b o (by rw [upd_ne nba]; exact hb) nba

/-! ### _law_why(x), x a lambda value of this def that captures nothing (the call may stand within a comprehension) -/
structure Known (P : Program) (w : World) (K : PySem.W.Frag) (mg : Str → Option Value) (base : Heap) (N : List Str) (q : Str) (k : Nat) (F : LamV.LK) (HD : Hp → Prop) (t : XK → TE) : Prop where
  L : ∃ ps, ∀ sc, LamV.LamN N sc F.scope ps
  q : F.qual = q ++ "<lambda>"
  clo : F.clo = []
  cl0 : ∀ cells, cloFrom cells F.scope.names [] = []
  bind : LamV.BindL F HD
  body : ∀ (X : Cx), X.prog = P → X.w = w → X.K = K → X.mg = mg → X.base = base → ∀ (A : Around) (outer : List Env) (s : Shared) (H : Hp) (E : XK) (f : Addr), Room k (A.deeper (LamX.lamEnv X F.scope s.heap.objs.size f F.code)) → PE (LamX.lamCx X A outer s H E F.scope f F.code) F.body (t E)
def tWhyV (P : Program) (w : World) (K : PySem.W.Frag) (mg : Str → Option Value) (base : Heap) (N : List Str) (q : Str) (k : Nat) (TT : (XK → Hp → VK → Prop) → Hp → VK → Prop) (te : TE) : TE := fun σ H Q => te σ H fun x H1 => ∃ (f : Addr) (F : LamV.LK) (HD : Hp → Prop) (t : XK → TE), ([x] : List V) = [.ref f] ∧ Known P w K mg base N q k F HD t ∧ H1 F.code = some (LamX.CodeO F.code F.qual) ∧ H1 f = some (LamV.LamO f F) ∧ HD H1 ∧
  TT (fun E H' Q' => H' f = some (LamV.LamO f F) ∧ HD H' ∧ t E σ H' Q') H1 Q
theorem pe_whyV {X : Cx} {P : Program} {w : World} {K : PySem.W.Frag} {mg : Str → Option Value} {base : Heap} {c1 c2 c3 : Value} {j : Nat} {e : Expr} {te : TE} {p pos : Pos} (N : List Str) (q : Str) (k : Nat) (hW : WhyC P w K mg base c1 c2 c3) (hr : Room j X.A) (hk : k + 3 ≤ j) (hg : Gl X "_law_why") (he : PE X e te)
    (e1 : X.prog = P := by rfl) (e2 : X.w = w := by rfl) (e3 : X.K = K := by rfl) (e4 : X.mg = mg := by rfl) (e5 : X.base = base := by rfl) (e6 : X.N = N := by rfl) (e7 : X.env.qual = q := by rfl)
    (hdb : (("_law_why" : Str) == ("__debug__" : Str)) = false := by decide) (hst : starEach [e] X.env = (false, eval e X.env) :: starEach [] X.env := by rfl) (hpl : (backTo pos (starEach [] X.env)).any (·.1) = false := by rfl) :
    PE X (.Call (.Name "_law_why" p) [e] [] pos) (tWhyV P w K mg base N q k (TTwhy K c1 c2 c3) te) := by
  subst e1 e2 e3 e4 e5 e6 e7
  obtain ⟨g, fd, F0, mW, kW, bW⟩ := hW.ex
  obtain ⟨oc, od, kV, doc, pm, an, cdv, ct, osl, rfl, lk, hcd⟩ := F0.ex
  obtain ⟨ff, ffd, FF, mF, kF, bF⟩ := hW.F
  constructor
  intro pins z σ H Q I h
  refine wpAny_Call_Name_kw (ld_glob I hg mW ?_ hdb)
  have args := (pa_cons he pa_nil hst).run pos pins z σ H (fun vs H1 => ∃ (f : Addr) (F : LamV.LK) (HD : Hp → Prop) (t : XK → TE), vs = [.ref f] ∧ Known X.prog X.w X.K X.mg X.base X.N X.env.qual k F HD t ∧ H1 F.code = some (LamX.CodeO F.code F.qual) ∧ H1 f = some (LamV.LamO f F) ∧ HD H1 ∧ TTwhy X.K c1 c2 c3 (fun E H' Q' => H' f = some (LamV.LamO f F) ∧ HD H' ∧ t E σ H' Q') H1 Q) I
  refine PySem.W.callWith_K (h₀ := X.base) I.ok.mod.kin kW (thn (args ?_) fun us z1 got => ?_) hst hpl
  · exact h
  obtain ⟨vs, H1, J, rel, f, F, HD, t, rfl, kn, code, lam, dflt, promise⟩ := got
  match us, rel with
  | [_], .cons r .nil =>
  cases r
  refine ⟨J.kIn, ?_⟩
  have runs : codeAny (model X.prog X.w) X.A (.call (.ref g) ⟨[.ref f], []⟩) (CR C8.CX0 X.stack X.prog X.w H1 z1 Q C8.E0) z1 := by
    refine LamX.run_ofS (N := ["_law_ask", "_law_e"]) (ps := ["_law_ask"]) (us := [.ref f]) (vs := [.ref f]) lk hcd sc_law_why (hr.mono (show k + 2 ≤ j by omega)) J.env0 (bW z1 [.ref f] J.kIn rfl) (.cons rfl .nil) rfl fun room => ?_
    obtain ⟨ps, L⟩ := kn.L
    have clo : F.clo = cloFrom X.env.cells F.scope.names [] := kn.clo.trans (kn.cl0 _).symm
    obtain ⟨t', ht', now⟩ := why_gives (K := X.K) (c1 := c1) (c2 := c2) (c3 := c3) (q := F.qual) (k := k) rfl (hr.mono hk) hW.N1 hW.N2 hW.N3 FF mF kF bF f F.code z1 H1 Q (fun E H' Q' => H' f = some (LamV.LamO f F) ∧ HD H' ∧ t E σ H' Q')
      (fun W pn xe E p1 p2 tk hWW => LamV.pe_actV (i := 0) J (L _) kn.q clo kn.bind tk hWW room (fun A outer s H hr2 => kn.body X rfl rfl rfl rfl rfl A outer s H E f hr2) rfl (.inl rfl)) code promise
    exact ⟨t', ht'.nox, now⟩
  refine wpAny_call (codeAny_mono runs fun r z2 done => ?_)
  match r, done with
  | .ok (.ret u2), done => exact J.after done

/-! ### is_shape -/
def sizesT : List (Str × V) := [("one", .int 2), ("within", .int 3), ("ahead", .int 3)]
def sizeN (z : Str) : Int := if z = "one" then 2 else if z = "within" then 3 else if z = "ahead" then 3 else 0
theorem sizes_get (z : Str) : (sizesT.lookup z).getD (.int 0) = .int (sizeN z) := by
  unfold sizesT sizeN
  by_cases h1 : z = "one"
  · subst h1
    simp [List.lookup]
  have n1 : (z == ("one" : Str)) = false := by simpa using h1
  by_cases h2 : z = "within"
  · subst h2
    simp only [List.lookup, n1, beq_self_eq_true, if_neg h1, if_true]
    rfl
  have n2 : (z == ("within" : Str)) = false := by simpa using h2
  by_cases h3 : z = "ahead"
  · subst h3
    simp only [List.lookup, n1, n2, beq_self_eq_true, if_neg h1, if_neg h2, if_true]
    rfl
  have n3 : (z == ("ahead" : Str)) = false := by simpa using h3
  simp only [List.lookup, n1, n2, n3, if_neg h1, if_neg h2, if_neg h3]
  rfl
/-- a kind that may be named -/
def kindB (d : PyData) : Bool := wordB (vOf d) 6 && !decide (vOf d = .str "rest")
def shapeB : PyData → Bool
  | .tuple (.str z :: ks) => decide (sizeN z = ks.length + 1) && (ks.map kindB).all id
  | _ => false
def spIsShape : Sp := fun vs H Q _ => ∃ (v : V) (b : Addr) (d : PyData), vs = [v] ∧ Dq b H d v ∧ gD d = true ∧ sz d ≤ 10000 ∧ ∀ H', Same H H' → Q (.bl (shapeB d)) H'
section
variable {P : Program} {w : World} {K : PySem.W.Frag} {mg : Str → Option Value} {base : Heap} {f aS : Addr} {fd : FuncData}
theorem ok_is_shape (F : Fun K "is_shape" "is_shape" s_is_shape f fd) (T : Txt mg) (gS : ∃ u, mg "SIZES" = some u ∧ RelV (.ref aS) u) (tS : KTab K w aS sizesT) (c_is_kind : Cal P w K mg base 2 "is_kind" (spKind K)) : FnOk P w K mg base CX0 3 f fd ["value"] spIsShape := by
  refine F.ok sc_is_shape (fun vs H Q E h => ?_) (fun cdv A outer s H vs Q E hr h => ?_)
  · obtain ⟨v, b, d, rfl, _⟩ := h
    rfl
  · obtain ⟨v, b, d, rfl, hv, g, hs, q⟩ := h
    refine ⟨_, (pss_cons (ps_if (PW.pt (pw_or (pt_not (pt_val (pe_callB (cr_isi K) (by rfl) T.isinstance (by decide +kernel) (pa_cons (pv 0) (pa_cons (pe_bltn (v := .ty "tuple") (by rfl) T.tuple (by decide +kernel) rfl) pa_nil))))) (pw_or (pt_cmpR (op_eqX K hr) (pe_callB (call_lenX K) (by rfl) T.len PySem.boot_len (pa_cons (pv 0) pa_nil)) pe_int (nomark _)) (pw_or1 (pt_not (pt_val (pe_callB (cr_isi K) (by rfl) T.isinstance (by decide +kernel) (pa_cons (pe_ix (ix_X K) (pv 0) pe_int (fun _ _ => rfl)) (pa_cons (pe_bltn (v := .ty "str") (by rfl) T.str (by decide +kernel) rfl) pa_nil))))))))) (pss_one (ps_ret pe_bl)) pss_nil)
      (pss_cons (ps_if (pt_cmpR (op_neX K hr) (pe_kget2 K w (pe_gc (by rfl) gS) (pe_ix (ix_X K) (pv 0) pe_int (fun _ _ => rfl)) pe_int ⟨rfl, rfl, rfl, rfl⟩) (pe_callB (call_lenX K) (by rfl) T.len PySem.boot_len (pa_cons (pv 0) pa_nil)) (nomark _)) (pss_one (ps_ret pe_bl)) pss_nil)
      (pss_one (ps_ret (pe_callB (cr_allX K (by rfl)) (by rfl) T.all (by decide +kernel) (pa_cons (pe_lc (own := [("kind", 1)]) (g := gName 1) (tt := tYes) (by rfl) sc_is_shape.nd (pi_tupX K (pe_slice (sl_X K) (pv 0) (po_some pe_int) po_none)) (blkOk_by (own := [("kind", 1)]) (N := ["value", "kind"]) (sc := defScope s_is_shape) (by decide +kernel)) (fun _ _ _ _ _ => pg_name (i := 1) sc_is_shape.nd rfl (Or.inl rfl)) (fun _ _ _ _ _ => pts_nil) (fun _ _ _ _ _ => (pe_and (pe_c c_is_kind hr (by omega) (by rfl) (pa_cons (pv 1) pa_nil)) (pe_one (pe_cmpR (op_neX K hr) (pv 1) (pe_gc (by rfl) T.g_REST) (nomark _)))))) pa_nil)))))), ?_⟩
    change (_ : TS) _ [some v, none] _
    k_extra "rr"
    refine isi hv.ty (kit_ty (kit_isT d)) ?_
    k_extra "rr"
    cases hT : isT d with
    | false =>
      k_extra "rr"
      have e : shapeB d = false := by
        cases d <;> first | rfl | cases hT
      rw [← e]
      exact q H (Same.refl H)
    | true =>
      obtain ⟨ds, rfl⟩ : ∃ ds, d = .tuple ds := by
        cases d <;> first | exact ⟨_, rfl⟩ | cases hT
      obtain ⟨a, l, rfl, ha, hl⟩ := id hv.tup
      have len := hl.len
      simp only [gD] at g
      simp only [sz] at hs
      have dlen := szA_len ds
      k_extra "rr"
      refine iteD (fun z0 => ?_) (fun z0 => ?_)
      · k_extra "rr"
        have e : shapeB (.tuple ds) = false := by
          match ds, len with
          | [], _ => rfl
          | x :: r, len =>
            rw [len, List.length_cons] at z0
            omega
        rw [← e]
        exact q H (Same.refl H)
      · match ds, hl, len with
        | [], hl, len =>
          rw [len] at z0
          exact absurd rfl z0
        | d0 :: ks, hl, len =>
        obtain ⟨v0, l0, rfl, h0, hks⟩ := hl.inv
        simp only [gA, Bool.and_eq_true] at g
        have lenk := hks.len
        have at0 : ∀ u : V, atI (u :: l0) 0 = some u := fun u => (show atI (u :: l0) ((0 : Nat) : Int) = some u from atI_nat rfl)
        k_extra "rr"
        refine ixT (SqT.of ha) (at0 v0) ?_
        k_extra "rr"
        refine isi h0.ty (kit_ty (kit_isS d0)) ?_
        k_extra "rr"
        rcases h0.isS with ⟨es, z, rfl, rfl⟩ | ⟨es, _⟩
        · rw [es]
          have e : shapeB (.tuple (.str z :: ks)) = (decide (sizeN z = ks.length + 1) && (ks.map kindB).all id) := rfl
          k_extra "rr"
          refine ⟨aS, sizesT, rfl, tS, ?_⟩
          k_extra "rr"
          refine ixT (SqT.of ha) (at0 _) ?_
          k_extra "rr"
          rw [sizes_get]
          k_extra "rr"
          have el : ((V.str z :: l0).length : Int) = (ks.length : Int) + 1 := by
            rw [List.length_cons, lenk]
            omega
          rw [el]
          refine iteN (fun n3 => ?_) (fun n3 => ?_)
          · k_extra "rr"
            rw [decide_eq_false n3, Bool.false_and] at e
            rw [← e]
            exact q H (Same.refl H)
          · rw [decide_eq_true n3, Bool.true_and] at e
            k_extra "rr"
            refine slTX ha fun r H1 s1 h1 => ?_
            rw [show cutV (V.str z :: l0) (some 1) none = l0 from cutV_drop (xs := V.str z :: l0) (i := 1) (by rw [List.length_cons]; omega)] at h1
            refine ⟨r, rfl, ⟨_, SqT.of h1⟩, fun D nD => ?_⟩
            refine lc_it (walk_tup (K := K) (a := r) (xs := l0)) (fun i H' => H' D = some (.lst (((ks.take i).map kindB).map V.bl)) ∧ Same H1 H') ⟨upd_same, same_upd nD⟩ (fun i H' _ p => SqT.of (p.2 _ _ h1)) ?_ ?_
            · rintro i x H2 H3 hi ⟨eD, s2⟩ ⟨rfl, hx⟩
              obtain ⟨d1, ed, hd1⟩ := hks.get hx
              have gd1 := gA_mem g.2 (List.mem_of_getElem? ed)
              have hd2 := hd1.le (Le.same (b := b) (s1.trans s2))
              have tk : (ks.take (i + 1)).map kindB = (ks.take i).map kindB ++ [kindB d1] := by rw [List.take_add_one, ed, List.map_append]; rfl
              have tl : (((ks.take i).map kindB).map V.bl).length < sizeLine := by
                rw [List.length_map, List.length_map, List.length_take, sizeLine_eq]
                simp only [szA] at hs dlen
                have := szA_len ks
                omega
              k_extra "rr"
              refine ⟨rfl, ?_⟩
              k_extra "rr"
              refine ⟨x, rfl, hd2.strOr gd1, fun H4 s4 => ?_⟩
              rw [hd2.word]
              have fin : ∀ {c : Bool}, c = kindB d1 → ∃ acc, H4 D = some (.lst acc) ∧ acc.length < sizeLine ∧ (upd H4 D (.lst (acc ++ [V.bl c])) D = some (.lst (((ks.take (i + 1)).map kindB).map V.bl)) ∧ Same H1 (upd H4 D (.lst (acc ++ [V.bl c])))) := by
                rintro c rfl
                refine ⟨_, s4 _ _ eD, tl, ?_, same_mut (s2.trans s4) nD⟩
                rw [upd_same, tk, List.map_append]
                rfl
              cases ew : wordB (vOf d1) 6 with
              | false =>
                k_extra "rr"
                exact fin (by unfold kindB; rw [ew, Bool.false_and])
              | true =>
                obtain ⟨z1, rfl⟩ : ∃ z1, d1 = .str z1 := by
                  cases d1 <;> first | exact ⟨_, rfl⟩ | cases ew
                simp only [Dq] at hd2
                subst hd2
                k_extra "rr"
                refine fin ?_
                unfold kindB
                rw [ew, Bool.true_and]
                show _ = !decide (V.str z1 = V.str "rest")
                rw [show decide (V.str z1 = V.str "rest") = decide (z1 = "rest") from decide_eq_decide.mpr ⟨V.str.inj, congrArg _⟩]
            · rintro H2 ⟨eD, s2⟩
              k_extra "rr"
              rw [lenk, List.take_length] at eD
              refine all_ (SqL.of eD) ?_
              rw [← e]
              exact q _ (s1.trans s2)
        · rw [es]
          k_extra "rr"
          have e : shapeB (.tuple (d0 :: ks)) = false := by
            cases d0 <;> first | rfl | cases es
          rw [← e]
          exact q H (Same.refl H)
end

/-! ### shapes_text, read_shapes -/
def wordsD (ws : List (List Nat)) : PyData := .tuple (ws.map fun w => PyData.str (SX.S w))
def readW (l : List Nat) : List (List (List Nat)) := (TL.spl [59, 32] 0 [] l).map fun p => TL.spl [32] 0 [] p
def badIx (i : Nat) : List (List (List Nat)) → Option Nat
  | [] => none
  | ws :: r => if shapeB (wordsD ws) = true then badIx (i + 1) r else some i
def noneL : List Nat := [110, 111, 110, 101]
theorem none_S : Str.ofString "none" = SX.S noneL := by decide +kernel
theorem DqA.words {b : Addr} {H : Hp} : ∀ ws : List (List Nat), DqA b H (ws.map fun w => PyData.str (SX.S w)) (kws ws)
  | [] => .nil
  | w :: r => .cons (Dq.str_mk _) (DqA.words r)
def spRead (C : Addr) : Sp := fun vs H Q E => ∃ (l : List Nat), vs = [.str (SX.S l)] ∧ l.length ≤ 10000 ∧ (∀ p ∈ TL.spl [59, 32] 0 [] l, p.length ≤ 10000 ∧ (TL.spl [32] 0 [] p).length ≤ 500 ∧ gD (wordsD (TL.spl [32] 0 [] p)) = true) ∧ (TL.spl [59, 32] 0 [] l).length ≤ 1000 ∧
  (l = noneL → ∀ q H', Same H H' → H q = none → H' q = some (.lst []) → Q (.ref q) H') ∧
  (l ≠ noneL → badIx 0 (readW l) = none → ∀ q vs H', Same H H' → H q = none → H' q = some (.lst vs) → DqA q H' ((readW l).map wordsD) vs → Q (.ref q) H') ∧
  (l ≠ noneL → ∀ i, badIx 0 (readW l) = some i → ∀ H' dd, Same H H' → ErrAt H' dd "at" "ParseError" (.int (i : Nat)) → E (.ref C) (some dd) H')
/-- tuples of texts, one for each part -/
def TWs (H : Hp) : List (List (List Nat)) → List V → Prop
  | [], m => m = []
  | ws :: r, m => ∃ q m', m = .ref q :: m' ∧ H q = some (.tup (kws ws)) ∧ TWs H r m'
theorem TWs.le {H H' : Hp} (t : TupLe H H') : ∀ {s : List (List (List Nat))} {m : List V}, TWs H s m → TWs H' s m
  | [], _, h => h
  | ws :: r, _, ⟨q, m', e, h1, h2⟩ => ⟨q, m', e, t _ _ h1, h2.le t⟩
theorem TWs.snoc {H : Hp} {ws : List (List Nat)} {q : Addr} (h : H q = some (.tup (kws ws))) : ∀ {s : List (List (List Nat))} {m : List V}, TWs H s m → TWs H (s ++ [ws]) (m ++ [.ref q])
  | [], _, e => by
    obtain rfl : _ = [] := e
    exact ⟨q, [], rfl, h, rfl⟩
  | w2 :: r, _, ⟨q2, m', e, h1, h2⟩ => ⟨q2, m' ++ [.ref q], by rw [e]; rfl, h1, h2.snoc h⟩
theorem TWs.get {H : Hp} : ∀ {s : List (List (List Nat))} {m : List V} {i : Nat} {x : V}, TWs H s m → m[i]? = some x → ∃ sh q, s[i]? = some sh ∧ x = .ref q ∧ H q = some (.tup (kws sh))
  | [], _, i, x, e, hx => by
    obtain rfl : _ = [] := e
    cases hx
  | ws :: r, _, 0, x, ⟨q, m', e, h1, h2⟩, hx => by
    subst e
    cases hx
    exact ⟨ws, q, rfl, rfl, h1⟩
  | ws :: r, _, i + 1, x, ⟨q, m', e, h1, h2⟩, hx => by
    subst e
    exact h2.get (i := i) hx
theorem TWs.dq {b : Addr} {H : Hp} : ∀ {s : List (List (List Nat))} {m : List V}, TWs H s m → DqA b H (s.map wordsD) m
  | [], _, e => by
    obtain rfl : _ = [] := e
    exact .nil
  | ws :: r, _, ⟨q, m', e, h1, h2⟩ => by
    rw [e]
    exact .cons (Dq.tup_mk h1 (DqA.words ws)) h2.dq
theorem TWs.len {H : Hp} : ∀ {s : List (List (List Nat))} {m : List V}, TWs H s m → m.length = s.length
  | [], _, e => by
    obtain rfl : _ = [] := e
    rfl
  | ws :: r, _, ⟨q, m', e, h1, h2⟩ => by
    rw [e, List.length_cons, h2.len]
    rfl
theorem S_inj {a b : List Nat} : decide (SX.S a = SX.S b) = decide (a = b) := by
  refine decide_eq_decide.mpr ⟨fun h => ?_, fun h => by rw [h]⟩
  have e : (SX.S a).cps.toList = (SX.S b).cps.toList := by rw [h]
  simpa [SX.S] using e
theorem semi_S : Str.ofString "; " = SX.S [59, 32] := by decide +kernel
theorem blank_S : Str.ofString " " = SX.S [32] := by decide +kernel
theorem szA_words : ∀ ws : List (List Nat), szA (ws.map fun w => PyData.str (SX.S w)) = ws.length
  | [] => rfl
  | w :: r => by
    simp only [List.map_cons, szA, sz, szA_words r, List.length_cons]
    omega
theorem badIx_drop : ∀ (s : List (List (List Nat))) (i j : Nat) (ws : List (List Nat)), s[j]? = some ws → badIx (i + j) (s.drop j) = if shapeB (wordsD ws) = true then badIx (i + j + 1) (s.drop (j + 1)) else some (i + j)
  | [], i, j, ws, h => by cases h
  | x :: s, i, 0, ws, h => by
    cases h
    rfl
  | x :: s, i, j + 1, ws, h => by
    have e := badIx_drop s (i + 1) j ws h
    rw [show i + (j + 1) = i + 1 + j by omega]
    exact e
section
variable {P : Program} {w : World} {K : PySem.W.Frag} {mg : Str → Option Value} {base : Heap} {f C : Addr} {fd : FuncData}
theorem ok_read_shapes (F : Fun K "read_shapes" "read_shapes" s_read_shapes f fd) (T : Txt mg) (c_is_shape : Cal P w K mg base 3 "is_shape" spIsShape)
    (err_ParseError : ErrC P w K mg base "ParseError" C 2 (spIni K "ParseError" "at")) (n1 : PySem.W.findIn K (.ref C) "code" = some none) (n2 : PySem.W.findIn K (.ref C) "at" = some none) : FnOk P w K mg base (L2.CX P w) 4 f fd ["text"] (spRead C) := by
  refine F.okX sc_read_shapes (fun vs H Q E h => ?_) (fun cdv A outer s H vs Q E hr h => ?_)
  · obtain ⟨l, rfl, _⟩ := h
    rfl
  · obtain ⟨l, rfl, hl, hparts, hn, q1, q2, q3⟩ := h
    refine ⟨_, (pss_cons (ps_if (pt_cmpR (op_eqX K hr) (pv 0) pe_str (nomark _)) (pss_one (ps_ret (pe_lst pa_nil))) pss_nil)
      (pss_cons (ps_setLc (i := 1) (own := [("part", 4)]) (g := gName 4) (tt := tYes) (by rfl) sc_read_shapes.nd rfl rfl (sw_true rfl rfl rfl (by decide +kernel)) (pi_listX K (pe_split (pv 0) pe_str)) (blkOk_by (own := [("part", 4)]) (N := ["text", "found", "at", "shape", "part"]) (sc := defScope s_read_shapes) (by decide +kernel)) (fun _ _ _ _ _ => pg_name (i := 4) sc_read_shapes.nd rfl (Or.inl rfl)) (fun _ _ _ _ _ => pts_nil) (fun _ _ _ _ _ => (pe_callTy (cr_tuple K) (by rfl) T.tuple (by decide +kernel) (pa_cons (pe_split (pv 4) pe_str) pa_nil))))
      (pss_cons (ps_for (passes_of rfl) rfl (pi_enX K (by rfl) T.enumerate (pa_cons (pv 1) pa_nil)) (pg_tupX K (pg_tup (n := 2) (by rfl) (pgs_cons (pg_name (i := 2) sc_read_shapes.nd rfl (.inl rfl)) (pgs_cons (pg_name (i := 3) sc_read_shapes.nd rfl (.inl rfl)) pgs_nil)))) (pss_one (ps_if (pt_not (pt_val (pe_c c_is_shape hr (by omega) (by rfl) (pa_cons (pv 3) pa_nil)))) (pss_one (ps_rz rfl (takes_of rfl rfl rfl rfl) err_ParseError hr (by omega) (by rfl) (pa_cons (pv 2) pa_nil))) pss_nil)))
      (pss_one (ps_ret (pv 1)))))), ?_⟩
    change (_ : TS) _ [some (V.str (SX.S l)), none, none, none, none] _
    k_extra "rr"
    rw [none_S, S_inj]
    refine iteD (fun e0 => ?_) (fun e0 => ?_)
    · k_extra "rr"
      exact ⟨by k_extra "sz", fun p np => q1 e0 p _ (same_upd np) np upd_same⟩
    · k_extra "rr"
      refine ⟨SX.S l, SX.S [59, 32], rfl, by rw [semi_S], by rw [SX.S_len]; rfl, by rw [SX.S_len, sizeLine_eq]; omega, ?_⟩
      rw [SX.split_S (by simp) (by decide)]
      intro p np
      refine ⟨p, rfl, ⟨_, SqL.of upd_same⟩, fun D nD => ?_⟩
      have s1 := same_upd (o := .lst (((TL.spl [59, 32] 0 [] l).map SX.S).map V.str)) np
      have hp : upd H p (.lst (((TL.spl [59, 32] 0 [] l).map SX.S).map V.str)) p = some (.lst (((TL.spl [59, 32] 0 [] l).map SX.S).map V.str)) := upd_same
      generalize upd H p (.lst (((TL.spl [59, 32] 0 [] l).map SX.S).map V.str)) = H1 at s1 hp nD
      have nD0 : H D = none := by
        cases h : H D with
        | none => rfl
        | some o =>
          rw [s1 _ _ h] at nD
          cases nD
      have lrd : (readW l).length = (TL.spl [59, 32] 0 [] l).length := by
        unfold readW
        rw [List.length_map]
      refine lc_it (walk_list (K := K) (a := p) (xs := ((TL.spl [59, 32] 0 [] l).map SX.S).map V.str)) (fun i H' => Same H1 H' ∧ ∃ qs, H' D = some (.lst qs) ∧ TWs H' ((readW l).take i) qs) ⟨same_upd nD, [], upd_same, rfl⟩ (fun i H' _ s => SqL.of (s.1 _ _ hp)) ?_ ?_
      · rintro i x H2 H3 hi ⟨s2, qs, hD, tw⟩ ⟨rfl, hxi⟩
        obtain ⟨pt, hpt, rfl⟩ : ∃ pt, (TL.spl [59, 32] 0 [] l)[i]? = some pt ∧ x = .str (SX.S pt) := by
          rw [List.map_map, List.getElem?_map] at hxi
          obtain ⟨pt, h1, h2⟩ := Option.map_eq_some_iff.mp hxi
          exact ⟨pt, h1, h2.symm⟩
        obtain ⟨b1, b2, b3⟩ := hparts pt (List.mem_of_getElem? hpt)
        have ek : ((TL.spl [32] 0 [] pt).map SX.S).map V.str = kws (TL.spl [32] 0 [] pt) := by
          unfold kws
          rw [List.map_map]
          rfl
        k_extra "rr"
        refine ⟨rfl, ?_⟩
        k_extra "rr"
        refine ⟨SX.S pt, SX.S [32], rfl, by rw [blank_S], by rw [SX.S_len]; rfl, by rw [SX.S_len, sizeLine_eq]; omega, ?_⟩
        rw [SX.split_S (by simp) (by decide)]
        intro Lq nLq
        rw [ek]
        k_extra "rr"
        refine tupL (SqL.of upd_same) fun Tq nTq => ?_
        k_extra "rr"
        have t1 := same_upd (o := .lst (kws (TL.spl [32] 0 [] pt))) nLq
        have t2 := same_upd (o := .tup (kws (TL.spl [32] 0 [] pt))) nTq
        have erd : (readW l)[i]? = some (TL.spl [32] 0 [] pt) := by
          unfold readW
          rw [List.getElem?_map, hpt]
          rfl
        have tk : (readW l).take (i + 1) = (readW l).take i ++ [TL.spl [32] 0 [] pt] := by
          rw [List.take_add_one, erd]
          rfl
        have hD2 := t2 _ _ (t1 _ _ hD)
        refine ⟨qs, hD2, by rw [tw.len, List.length_take, sizeLine_eq]; omega, same_mut ((s2.trans t1).trans t2) nD, _, upd_same, ?_⟩
        rw [tk]
        exact ((tw.le (TupLe.same (t1.trans t2))).snoc upd_same).le (TupLe.lst hD2)
      · rintro H2 ⟨s2, qs, hD, tw⟩
        rw [List.take_of_length_le (by rw [List.length_map, List.length_map, lrd]; exact Nat.le_refl _)] at tw
        have twl := tw.len
        k_extra "rr"
        refine ⟨D, qs, rfl, .inl ⟨SqL.of hD, ?_⟩⟩
        refine for_it (walk_enum (K := K) (a := D) (xs := qs)) (fun i σ H' => ∃ (v2 v3 v4 : Option V), σ = [some (.str (SX.S l)), some (.ref D), v2, v3, v4] ∧ Same H2 H' ∧ badIx i ((readW l).drop i) = badIx 0 (readW l)) ⟨_, _, _, rfl, Same.refl _, rfl⟩ (fun i σ H' _ ⟨_, _, _, _, s, _⟩ => SqL.of (s _ _ hD)) ?_ ?_
        · rintro i x σ H3 H4 hi ⟨v2, v3, v4, rfl, s3, hbx⟩ ⟨Tp, x0, y0, rfl, nT, rfl, ex, ey⟩
          cases ex
          obtain ⟨ws, q0, ews, rfl, hq0⟩ := tw.get ey
          have s4 := s3.trans (same_upd (o := .tup [.int (i : Nat), .ref q0]) nT)
          have hq4 := s4 _ _ hq0
          obtain ⟨pt, hpt, rfl⟩ : ∃ pt, (TL.spl [59, 32] 0 [] l)[i]? = some pt ∧ TL.spl [32] 0 [] pt = ws := by
            unfold readW at ews
            rw [List.getElem?_map] at ews
            exact Option.map_eq_some_iff.mp ews
          obtain ⟨b1, b2, b3⟩ := hparts pt (List.mem_of_getElem? hpt)
          have hbd := badIx_drop (readW l) 0 i _ ews
          rw [Nat.zero_add, hbx] at hbd
          k_extra "rr"
          refine ⟨_, q0, wordsD (TL.spl [32] 0 [] pt), rfl, Dq.tup_mk hq4 (DqA.words _), b3, by unfold wordsD; simp only [sz, szA_words]; omega, fun H5 s5 => ?_⟩
          cases hsb : shapeB (wordsD (TL.spl [32] 0 [] pt)) with
          | false =>
            rw [hsb, if_neg Bool.false_ne_true] at hbd
            k_extra "rr"
            refine rz ?_
            k_extra "rr"
            refine ⟨Nat.le_of_ble_eq_true rfl, fun a na2 => ini_ok err_ParseError.T n1 n2 na2 fun dd H' s6 h6 => ?_⟩
            exact q3 e0 i hbd H' dd ((((s1.trans s2).trans s4).trans s5).trans s6) h6
          | true =>
            rw [hsb, if_pos rfl] at hbd
            k_extra "rr"
            exact ⟨_, _, _, rfl, s4.trans s5, hbd.symm⟩
        · rintro σ H3 ⟨v2, v3, v4, rfl, s3, hbx⟩
          rw [twl, List.drop_length] at hbx
          k_extra "rr"
          exact q2 e0 hbx.symm D qs H3 ((s1.trans s2).trans s3) nD0 (s3 _ _ hD) ((tw.le (TupLe.same s3)).dq)
end

/-! ### shapes_text -/
def wrS (shs : List (List (List Nat))) : List Nat := if shs = [] then noneL else TL.joinL [59, 32] (shs.map fun sh => TL.joinL [32] sh)
def ShLen (sh : List (List Nat)) : Prop := sh.length ≤ 10 ∧ ∀ w ∈ sh, w.length ≤ 100
def spSText (K : PySem.W.Frag) : Sp := fun vs H Q _ => ∃ (p : Addr) (xs : List V) (shs : List (List (List Nat))), vs = [.ref p] ∧ (H p = some (.lst xs) ∨ H p = some (.tup xs)) ∧ TWs H shs xs ∧ shs.length ≤ 100 ∧ (∀ sh ∈ shs, ShLen sh) ∧ ∀ H', Same H H' → Q (.str (SX.S (wrS shs))) H'
theorem sum_le {α : Type} (f : α → Nat) (n : Nat) : ∀ l : List α, (∀ x ∈ l, f x ≤ n) → (l.map f).sum ≤ l.length * n
  | [], _ => by simp
  | x :: r, h => by
    have a := sum_le f n r fun y m => h y (List.mem_cons_of_mem _ m)
    have b := h x List.mem_cons_self
    rw [List.map_cons, List.sum_cons, List.length_cons, Nat.succ_mul]
    omega
theorem joinL_len (s : List Nat) : ∀ l : List (List Nat), (TL.joinL s l).length ≤ (l.map List.length).sum + l.length * s.length
  | [] => by simp [TL.joinL]
  | [a] => by simp [TL.joinL]
  | a :: b :: r => by
    have h := joinL_len s (b :: r)
    show (a ++ (s ++ TL.joinL s (b :: r))).length ≤ _
    rw [List.length_append, List.length_append, List.map_cons, List.sum_cons, List.length_cons, Nat.succ_mul]
    omega
theorem shLen_join {sh : List (List Nat)} (h : ShLen sh) : (sh.map List.length).sum ≤ 1000 ∧ (TL.joinL [32] sh).length ≤ 1010 := by
  have a := sum_le List.length 100 sh h.2
  have b := joinL_len [32] sh
  have c := h.1
  have d : sh.length * 100 ≤ 1000 := by omega
  rw [List.length_singleton, Nat.mul_one] at b
  omega
section
variable {P : Program} {w : World} {K : PySem.W.Frag} {mg : Str → Option Value} {base : Heap} {f C : Addr} {fd : FuncData}
theorem ok_shapes_text (F : Fun K "shapes_text" "shapes_text" s_shapes_text f fd) (T : Txt mg) : FnOk P w K mg base CX0 1 f fd ["shapes"] (spSText K) := by
  refine F.ok sc_shapes_text (fun vs H Q E h => ?_) (fun cdv A outer s H vs Q E hr h => ?_)
  · obtain ⟨p, xs, shs, rfl, _⟩ := h
    rfl
  · obtain ⟨p, xs, shs, rfl, hp, hx, hn, hs, q⟩ := h
    have len := hx.len
    have e0 : (xs.length : Int) > 0 ↔ ¬ shs = [] := by
      rw [len]
      cases shs with
      | nil => simp
      | cons a r => simp
    rcases hp with hp | hp
    · refine ⟨_, (pss_one (ps_ret (pe_ifExp (pt_cmpR op_gt (pe_callB (call_lenX K) (by rfl) T.len PySem.boot_len (pa_cons (pv 0) pa_nil)) pe_int (nomark _)) (pe_joinX K pe_str (pe_lc (own := [("shape", 1)]) (g := gName 1) (tt := tYes) (by rfl) sc_shapes_text.nd (pi_listX K (pv 0)) (blkOk_by (own := [("shape", 1)]) (N := ["shapes", "shape"]) (sc := defScope s_shapes_text) (by decide +kernel)) (fun _ _ _ _ _ => pg_name (i := 1) sc_shapes_text.nd rfl (Or.inl rfl)) (fun _ _ _ _ _ => pts_nil) (fun _ _ _ _ _ => (pe_joinX K pe_str (pv 1))))) pe_str))), ?_⟩
      change (_ : TS) _ [some (V.ref p), none] _
      k_extra "rr"
      by_cases hz : shs = []
      · rw [decide_eq_false (fun z => (e0.mp z) hz)]
        k_extra "rr"
        rw [none_S, show noneL = wrS shs by unfold wrS; rw [if_pos hz]]
        exact q H (Same.refl H)
      · rw [decide_eq_true (e0.mpr hz)]
        k_extra "rr"
        intro D nD
        refine lc_it (walk_list (K := K) (a := p) (xs := xs)) (fun i H' => Same H H' ∧ H' D = some (.lst (((shs.take i).map fun sh => SX.S (TL.joinL [32] sh)).map V.str))) ⟨same_upd nD, upd_same⟩ (fun i H' _ s => SqL.of (s.1 _ _ hp)) ?_ ?_
        · rintro i x H2 H3 hi ⟨s2, hD⟩ ⟨rfl, hxi⟩
          obtain ⟨sh, qa, esh, rfl, hqa⟩ := hx.get hxi
          have hsh := hs sh (List.mem_of_getElem? esh)
          obtain ⟨b1, b2⟩ := shLen_join hsh
          have tk : (shs.take (i + 1)).map (fun sh => SX.S (TL.joinL [32] sh)) = (shs.take i).map (fun sh => SX.S (TL.joinL [32] sh)) ++ [SX.S (TL.joinL [32] sh)] := by
            rw [List.take_add_one, esh, List.map_append]
            rfl
          k_extra "rr"
          refine ⟨rfl, ?_⟩
          k_extra "rr"
          refine ⟨SX.S [32], qa, sh.map SX.S, by rw [blank_S], rfl, .inr (by rw [List.map_map]; exact SqT.of (s2 _ _ hqa)), ?_, ?_⟩
          · rw [List.map_map, List.length_map, SX.S_len, List.length_singleton]
            have e : (Str.length ∘ SX.S) = List.length := funext fun l => SX.S_len l
            rw [show (fun x => x.length) ∘ SX.S = List.length from funext fun l => SX.S_len l]
            have := hsh.1
            omega
          · rw [SX.join_S]
            refine ⟨_, hD, ?_, same_mut s2 nD, ?_⟩
            · rw [List.length_map, List.length_map, List.length_take, sizeLine_eq]
              omega
            · rw [upd_same, tk, List.map_append]
              rfl
        · rintro H2 ⟨s2, hD⟩
          k_extra "rr"
          rw [len, List.take_length] at hD
          rw [semi_S]
          refine joinL (zs := shs.map fun sh => SX.S (TL.joinL [32] sh)) (SqL.of hD) ?_ ?_
          · rw [List.map_map, List.length_map, SX.S_len]
            have := sum_le (fun sh => (TL.joinL [32] sh).length) 1010 shs fun sh hm => (shLen_join (hs sh hm)).2
            rw [show (fun x => x.length) ∘ (fun sh => SX.S (TL.joinL [32] sh)) = (fun sh => (TL.joinL [32] sh).length) from funext fun l => SX.S_len _]
            show _ + shs.length * 2 ≤ _
            omega
          · rw [show (shs.map fun sh => SX.S (TL.joinL [32] sh)) = (shs.map fun sh => TL.joinL [32] sh).map SX.S by rw [List.map_map]; rfl, SX.join_S]
            rw [show TL.joinL [59, 32] (shs.map fun sh => TL.joinL [32] sh) = wrS shs by unfold wrS; rw [if_neg hz]]
            exact q _ s2
    · refine ⟨_, (pss_one (ps_ret (pe_ifExp (pt_cmpR op_gt (pe_callB (call_lenX K) (by rfl) T.len PySem.boot_len (pa_cons (pv 0) pa_nil)) pe_int (nomark _)) (pe_joinX K pe_str (pe_lc (own := [("shape", 1)]) (g := gName 1) (tt := tYes) (by rfl) sc_shapes_text.nd (pi_tupX K (pv 0)) (blkOk_by (own := [("shape", 1)]) (N := ["shapes", "shape"]) (sc := defScope s_shapes_text) (by decide +kernel)) (fun _ _ _ _ _ => pg_name (i := 1) sc_shapes_text.nd rfl (Or.inl rfl)) (fun _ _ _ _ _ => pts_nil) (fun _ _ _ _ _ => (pe_joinX K pe_str (pv 1))))) pe_str))), ?_⟩
      change (_ : TS) _ [some (V.ref p), none] _
      k_extra "rr"
      by_cases hz : shs = []
      · rw [decide_eq_false (fun z => (e0.mp z) hz)]
        k_extra "rr"
        rw [none_S, show noneL = wrS shs by unfold wrS; rw [if_pos hz]]
        exact q H (Same.refl H)
      · rw [decide_eq_true (e0.mpr hz)]
        k_extra "rr"
        refine ⟨p, rfl, ⟨_, SqT.of hp⟩, fun D nD => ?_⟩
        refine lc_it (walk_tup (K := K) (a := p) (xs := xs)) (fun i H' => Same H H' ∧ H' D = some (.lst (((shs.take i).map fun sh => SX.S (TL.joinL [32] sh)).map V.str))) ⟨same_upd nD, upd_same⟩ (fun i H' _ s => SqT.of (s.1 _ _ hp)) ?_ ?_
        · rintro i x H2 H3 hi ⟨s2, hD⟩ ⟨rfl, hxi⟩
          obtain ⟨sh, qa, esh, rfl, hqa⟩ := hx.get hxi
          have hsh := hs sh (List.mem_of_getElem? esh)
          obtain ⟨b1, b2⟩ := shLen_join hsh
          have tk : (shs.take (i + 1)).map (fun sh => SX.S (TL.joinL [32] sh)) = (shs.take i).map (fun sh => SX.S (TL.joinL [32] sh)) ++ [SX.S (TL.joinL [32] sh)] := by
            rw [List.take_add_one, esh, List.map_append]
            rfl
          k_extra "rr"
          refine ⟨rfl, ?_⟩
          k_extra "rr"
          refine ⟨SX.S [32], qa, sh.map SX.S, by rw [blank_S], rfl, .inr (by rw [List.map_map]; exact SqT.of (s2 _ _ hqa)), ?_, ?_⟩
          · rw [List.map_map, List.length_map, SX.S_len, List.length_singleton]
            rw [show (fun x => x.length) ∘ SX.S = List.length from funext fun l => SX.S_len l]
            have := hsh.1
            omega
          · rw [SX.join_S]
            refine ⟨_, hD, ?_, same_mut s2 nD, ?_⟩
            · rw [List.length_map, List.length_map, List.length_take, sizeLine_eq]
              omega
            · rw [upd_same, tk, List.map_append]
              rfl
        · rintro H2 ⟨s2, hD⟩
          k_extra "rr"
          rw [len, List.take_length] at hD
          rw [semi_S]
          refine joinL (zs := shs.map fun sh => SX.S (TL.joinL [32] sh)) (SqL.of hD) ?_ ?_
          · rw [List.map_map, List.length_map, SX.S_len]
            have := sum_le (fun sh => (TL.joinL [32] sh).length) 1010 shs fun sh hm => (shLen_join (hs sh hm)).2
            rw [show (fun x => x.length) ∘ (fun sh => SX.S (TL.joinL [32] sh)) = (fun sh => (TL.joinL [32] sh).length) from funext fun l => SX.S_len _]
            show _ + shs.length * 2 ≤ _
            omega
          · rw [show (shs.map fun sh => SX.S (TL.joinL [32] sh)) = (shs.map fun sh => TL.joinL [32] sh).map SX.S by rw [List.map_map]; rfl, SX.join_S]
            rw [show TL.joinL [59, 32] (shs.map fun sh => TL.joinL [32] sh) = wrS shs by unfold wrS; rw [if_neg hz]]
            exact q _ s2
end

/-! ### _law_shape -/
def wOne : List Nat := [111, 110, 101]
def wWithin : List Nat := [119, 105, 116, 104, 105, 110]
def wAhead : List Nat := [97, 104, 101, 97, 100]
def ShapeOk (ks : List (List Nat)) (sh : List (List Nat)) : Prop := (∃ k, sh = [wOne, k] ∧ k ∈ ks) ∨ ∃ w k k2, sh = [w, k, k2] ∧ (w = wWithin ∨ w = wAhead) ∧ k ∈ ks ∧ k2 ∈ ks
def spShape (K : PySem.W.Frag) : Sp := fun vs H Q _ => ∃ (b r ka : Addr) (ks : List (List Nat)), vs = [.ref b, .ref ka] ∧ BagAt H b r ∧ ka ≠ b ∧ H ka = some (.lst (kws ks)) ∧ 1 ≤ ks.length ∧ ks.length ≤ 1000 ∧
  ∀ (p : Addr) (sh : List (List Nat)) (H' : Hp), But b H H' → BagAt H' b r → ShapeOk ks sh → H' p = some (.tup (kws sh)) → Q (.ref p) H'
section
variable {P : Program} {w : World} {K : PySem.W.Frag} {mg : Str → Option Value} {base : Heap} {f : Addr} {fd : FuncData}
theorem ok_law_shape (F : Fun K "_law_shape" "_law_shape" s_law_shape f fd) (T : Txt mg) (c_law_of : Cal P w K mg base 2 "_law_of" (spOf K)) : FnOk P w K mg base CX0 3 f fd ["_law_bag_z", "_law_kinds"] (spShape K) := by
  refine F.ok sc_law_shape (fun vs H Q E h => ?_) (fun cdv A outer s H vs Q E hr h => ?_)
  · obtain ⟨b, r, ka, ks, rfl, _⟩ := h
    rfl
  · obtain ⟨b, r, ka, ks, rfl, hb, nkb, hka, k0, k1, q⟩ := h
    refine ⟨_, (pss_cons (ps_set (i := 2) sc_law_shape.nd rfl (.inl rfl) (pe_c c_law_of hr (by omega) (by rfl) (pa_cons (pv 0) (pa_cons (pe_lst (pa_cons pe_str (pa_cons pe_str (pa_cons pe_str pa_nil)))) pa_nil))))
      (pss_one (ps_ret (pe_ifExp (pt_cmpR (op_eqX K hr) (pv 2) pe_str (nomark _)) (pe_tup (pa_cons (pv 2) (pa_cons (pe_c c_law_of hr (by omega) (by rfl) (pa_cons (pv 0) (pa_cons (pv 1) pa_nil))) pa_nil))) (pe_tup (pa_cons (pv 2) (pa_cons (pe_c c_law_of hr (by omega) (by rfl) (pa_cons (pv 0) (pa_cons (pv 1) pa_nil))) (pa_cons (pe_c c_law_of hr (by omega) (by rfl) (pa_cons (pv 0) (pa_cons (pv 1) pa_nil))) pa_nil)))))))), ?_⟩
    change (_ : TS) _ [some (V.ref b), some (V.ref ka), none] _
    k_extra "rr"
    refine ⟨by k_extra "sz", fun p1 n1 => ?_⟩
    k_extra "rr"
    have lks : (kws ks).length = ks.length := by unfold kws; rw [List.length_map]
    refine ⟨b, r, _, rfl, hb.new n1, .inr ⟨p1, _, rfl, (hb.ne_none n1).1, SqL.of upd_same, (by show 0 < 3; decide), (by show 3 ≤ 1000; decide), fun i v H1 hv bb1 hb1 => ?_⟩⟩
    have bb1' := (But.new (b := b) (o := .lst [.str "one", .str "within", .str "ahead"]) n1).trans bb1
    have hka1 := bb1' _ _ hka nkb
    have e1 : Str.ofString "one" = SX.S wOne := by decide +kernel
    have e2 : Str.ofString "within" = SX.S wWithin := by decide +kernel
    have e3 : Str.ofString "ahead" = SX.S wAhead := by decide +kernel
    obtain ⟨wd, rfl, hwd⟩ : ∃ wd, v = .str (SX.S wd) ∧ (wd = wOne ∨ wd = wWithin ∨ wd = wAhead) := by
      have hm := List.mem_of_getElem? hv
      simp only [List.mem_cons, List.not_mem_nil, or_false] at hm
      rcases hm with rfl | rfl | rfl
      · exact ⟨_, congrArg V.str e1, .inl rfl⟩
      · exact ⟨_, congrArg V.str e2, .inr (.inl rfl)⟩
      · exact ⟨_, congrArg V.str e3, .inr (.inr rfl)⟩
    k_extra "rr"
    rw [e1]
    by_cases hw : wd = wOne
    · rw [decide_eq_true (by rw [hw])]
      k_extra "rr"
      refine ⟨b, r, _, rfl, hb1, .inr ⟨ka, _, rfl, nkb, SqL.of hka1, by omega, by omega, fun i2 v2 H2 hv2 bb2 hb2 => ?_⟩⟩
      obtain ⟨kd, hkd, rfl⟩ := map_at hv2
      k_extra "rr"
      refine ⟨by k_extra "sz", fun p np => ?_⟩
      k_extra "rr"
      exact q p [wd, kd] _ ((bb1'.trans bb2).trans (But.new np)) (hb2.new np) (.inl ⟨kd, by rw [hw], List.mem_of_getElem? hkd⟩) upd_same
    · have hne : ¬ SX.S wd = SX.S wOne := fun z => hw (by
        have := congrArg (fun y : Str => y.cps.toList) z
        simpa [SX.S] using this)
      rw [decide_eq_false hne]
      k_extra "rr"
      refine ⟨b, r, _, rfl, hb1, .inr ⟨ka, _, rfl, nkb, SqL.of hka1, by omega, by omega, fun i2 v2 H2 hv2 bb2 hb2 => ?_⟩⟩
      obtain ⟨kd, hkd, rfl⟩ := map_at hv2
      k_extra "rr"
      refine ⟨b, r, _, rfl, hb2, .inr ⟨ka, _, rfl, nkb, SqL.of (bb2 _ _ hka1 nkb), by omega, by omega, fun i3 v3 H3 hv3 bb3 hb3 => ?_⟩⟩
      obtain ⟨kd2, hkd2, rfl⟩ := map_at hv3
      k_extra "rr"
      refine ⟨by k_extra "sz", fun p np => ?_⟩
      k_extra "rr"
      exact q p [wd, kd, kd2] _ (((bb1'.trans bb2).trans bb3).trans (But.new np)) (hb3.new np) (.inr ⟨wd, kd, kd2, rfl, hwd.resolve_left hw, List.mem_of_getElem? hkd, List.mem_of_getElem? hkd2⟩) upd_same
end

/-! ### good texts -/
theorem gS_of {l : List Nat} (h1 : l.length ≤ 1000) (h2 : ∀ c ∈ l, OkC c) : gS (SX.S l) = true := by
  unfold gS
  rw [SX.S_len]
  simp only [Bool.and_eq_true, decide_eq_true_eq, List.all_eq_true]
  refine ⟨h1, fun c hc => h2 c ?_⟩
  simpa [SX.S] using hc
theorem okC_letters : ∀ c ∈ letters, OkC c := by decide
theorem okC_sign {c : Nat} (h : signB c = true) : OkC c := by
  unfold signB at h
  simp only [Bool.and_eq_true, decide_eq_true_eq] at h
  exact .inl ⟨h.1, h.2.1⟩
theorem word_S {k : List Nat} {n : Int} (h1 : ∀ c ∈ k, c ∈ letters) (h2 : 1 ≤ k.length) (h3 : (k.length : Int) ≤ n) : wordB (.str (SX.S k)) n = true := by
  have e : (SX.S k).cps.toList = k := by simp [SX.S]
  show (decide (1 ≤ ((SX.S k).length : Int)) && (decide (((SX.S k).length : Int) ≤ n) && _)) = true
  rw [SX.S_len, decide_eq_true (show 1 ≤ (k.length : Int) by omega), decide_eq_true h3, e, Bool.true_and, Bool.true_and]
  refine List.all_eq_true.mpr fun x hx => ?_
  obtain ⟨c, hc, rfl⟩ := List.mem_map.mp hx
  exact decide_eq_true (h1 c hc)

/-! ### shapes and their texts, in plain Lean -/
abbrev sepL : List Nat := [59, 32]
def ptL (sh : List (List Nat)) : List Nat := TL.joinL [32] sh
structure GoodSh (sh : List (List Nat)) : Prop where
  ne : sh ≠ []
  let_ : ∀ w ∈ sh, (∀ c ∈ w, c ∈ letters) ∧ w.length ≤ 6
  len : sh.length ≤ 3
  ok : shapeB (wordsD sh) = true
theorem kind_good {k : List Nat} (h : GoodK k) : kindB (.str (SX.S k)) = true := by
  show (wordB (.str (SX.S k)) 6 && !decide (V.str (SX.S k) = .str "rest")) = true
  rw [word_S h.1 h.2.1 (show (k.length : Int) ≤ 6 by have := h.2.2.1; omega), decide_eq_false (p := V.str (SX.S k) = .str "rest") (fun z => h.2.2.2 (SX.S_inj ((V.str.inj z).trans rest_S)))]
  rfl
theorem good_of {ks : List (List Nat)} {sh : List (List Nat)} (h : ShapeOk ks sh) (g : ∀ k ∈ ks, GoodK k) : GoodSh sh := by
  have l1 : (∀ c ∈ wOne, c ∈ letters) ∧ wOne.length ≤ 6 := by decide
  have l2 : (∀ c ∈ wWithin, c ∈ letters) ∧ wWithin.length ≤ 6 := by decide
  have l3 : (∀ c ∈ wAhead, c ∈ letters) ∧ wAhead.length ≤ 6 := by decide
  rcases h with ⟨k, rfl, hk⟩ | ⟨w, k, k2, rfl, hw, hk, hk2⟩
  · have gk := g k hk
    refine ⟨by simp, fun w hw => ?_, by simp, ?_⟩
    · simp only [List.mem_cons, List.not_mem_nil, or_false] at hw
      rcases hw with rfl | rfl
      · exact l1
      · exact ⟨gk.1, gk.2.2.1⟩
    · show (decide (sizeN (SX.S wOne) = ([PyData.str (SX.S k)].length : Int) + 1) && ([PyData.str (SX.S k)].map kindB).all id) = true
      rw [show sizeN (SX.S wOne) = 2 by decide +kernel]
      simp [kind_good gk]
  · have gk := g k hk
    have gk2 := g k2 hk2
    refine ⟨by simp, fun x hx => ?_, by simp, ?_⟩
    · simp only [List.mem_cons, List.not_mem_nil, or_false] at hx
      rcases hx with rfl | rfl | rfl
      · rcases hw with rfl | rfl
        · exact l2
        · exact l3
      · exact ⟨gk.1, gk.2.2.1⟩
      · exact ⟨gk2.1, gk2.2.2.1⟩
    · show (decide (sizeN (SX.S w) = ([PyData.str (SX.S k), PyData.str (SX.S k2)].length : Int) + 1) && ([PyData.str (SX.S k), PyData.str (SX.S k2)].map kindB).all id) = true
      rw [show sizeN (SX.S w) = 3 by rcases hw with rfl | rfl <;> decide +kernel]
      simp [kind_good gk, kind_good gk2]
theorem no32 : ∀ c ∈ letters, c ≠ 32 ∧ c ≠ 59 := by decide
theorem mem_joinL {S : List Nat} : ∀ {l : List (List Nat)} {c : Nat}, c ∈ TL.joinL S l → c ∈ S ∨ ∃ w ∈ l, c ∈ w
  | [], c, h => by simp [TL.joinL] at h
  | [a], c, h => .inr ⟨a, List.mem_singleton.mpr rfl, h⟩
  | a :: b :: r, c, h => by
    have h : c ∈ a ++ (S ++ TL.joinL S (b :: r)) := h
    rw [List.mem_append, List.mem_append] at h
    rcases h with h | h | h
    · exact .inr ⟨a, List.mem_cons_self, h⟩
    · exact .inl h
    · rcases mem_joinL h with z | ⟨w, m, z⟩
      · exact .inl z
      · exact .inr ⟨w, List.mem_cons_of_mem _ m, z⟩
theorem GoodSh.no59 {sh : List (List Nat)} (h : GoodSh sh) : 59 ∉ ptL sh := fun z => by
  rcases mem_joinL z with z | ⟨w, m, z⟩
  · exact absurd z (by decide)
  · exact (no32 _ ((h.let_ w m).1 _ z)).2 rfl
theorem GoodSh.spl {sh : List (List Nat)} (h : GoodSh sh) : TL.spl [32] 0 [] (ptL sh) = sh :=
  SX.spl_join h.ne fun w m z => (no32 _ ((h.let_ w m).1 _ z)).1 rfl
theorem GoodSh.lenP {sh : List (List Nat)} (h : GoodSh sh) : (ptL sh).length ≤ 21 := by
  have a := joinL_len [32] sh
  have b := sum_le List.length 6 sh fun w m => (h.let_ w m).2
  have c := h.len
  rw [List.length_singleton, Nat.mul_one] at a
  show (TL.joinL [32] sh).length ≤ 21
  have d : sh.length * 6 ≤ 18 := by omega
  omega
theorem gA_strs : ∀ {ws : List (List Nat)}, (∀ w ∈ ws, gS (SX.S w) = true) → gA (ws.map fun w => PyData.str (SX.S w)) = true
  | [], _ => by simp only [List.map_nil, gA]
  | w :: r, h => by
    simp only [List.map_cons, gA, gD, h w List.mem_cons_self, gA_strs fun w m => h w (List.mem_cons_of_mem _ m), Bool.and_self]
/-- a part that is_shape may be asked about -/
structure OkP (p : List Nat) : Prop where
  len : p.length ≤ 50
  n : (TL.spl [32] 0 [] p).length ≤ 500
  g : gD (wordsD (TL.spl [32] 0 [] p)) = true
theorem gD_wordsD {ws : List (List Nat)} (h : ∀ w ∈ ws, gS (SX.S w) = true) : gD (wordsD ws) = true := by
  unfold wordsD
  simp only [gD]
  exact gA_strs h
theorem GoodSh.okP {sh : List (List Nat)} (h : GoodSh sh) : OkP (ptL sh) := by
  have := h.lenP
  have := h.len
  refine ⟨by omega, by rw [h.spl]; omega, ?_⟩
  rw [h.spl]
  exact gD_wordsD fun w m => gS_of (by have := (h.let_ w m).2; omega) fun c hc => okC_letters c ((h.let_ w m).1 c hc)
/-- the law's odd parts -/
def oddP (p : List Nat) : Bool := SX.free sepL p && (decide (p.length ≤ 50) && (decide ((TL.spl [32] 0 [] p).length ≤ 500) && ((TL.spl [32] 0 [] p).all (fun w => gS (SX.S w)) && !shapeB (wordsD (TL.spl [32] 0 [] p)))))
theorem oddP_ok {p : List Nat} (h : oddP p = true) : SX.free sepL p = true ∧ OkP p ∧ shapeB (wordsD (TL.spl [32] 0 [] p)) = false := by
  unfold oddP at h
  simp only [Bool.and_eq_true, decide_eq_true_eq, Bool.not_eq_true', List.all_eq_true] at h
  exact ⟨h.1, ⟨h.2.1, h.2.2.1, gD_wordsD h.2.2.2.1⟩, h.2.2.2.2⟩
theorem spl_ends : ∀ {ps : List (List Nat)} {l : List Nat}, (∀ p ∈ ps, SX.free sepL p = true) → 59 ∉ l → TL.spl sepL 0 [] (TL.joinL sepL (ps ++ [l])) = ps ++ [l]
  | [], l, _, h => SX.spl_join (parts := [l]) (by simp) fun p m => by
    rw [List.mem_singleton.mp m]
    exact h
  | p :: r, l, hf, h => by
    have ih := spl_ends (ps := r) (l := l) (fun p m => hf p (List.mem_cons_of_mem _ m)) h
    obtain ⟨x, y, e⟩ : ∃ x y, r ++ [l] = x :: y := by
      cases r with
      | nil => exact ⟨l, [], rfl⟩
      | cons a b => exact ⟨a, b ++ [l], rfl⟩
    rw [e] at ih
    rw [List.cons_append, e]
    show TL.spl sepL 0 [] (p ++ (sepL ++ TL.joinL sepL (x :: y))) = _
    rw [SX.spl_free _ (by simp) (hf p List.mem_cons_self), ih]
theorem badIx_good : ∀ {shs : List (List (List Nat))} (i : Nat) (r : List (List (List Nat))), (∀ sh ∈ shs, shapeB (wordsD sh) = true) → badIx i (shs ++ r) = badIx (i + shs.length) r
  | [], i, r, _ => rfl
  | sh :: s, i, r, h => by
    show (if shapeB (wordsD sh) = true then badIx (i + 1) (s ++ r) else some i) = _
    rw [if_pos (h sh List.mem_cons_self), badIx_good (i + 1) r fun x m => h x (List.mem_cons_of_mem _ m), List.length_cons]
    congr 1
    omega
theorem readW_none : readW noneL = [[noneL]] := by decide +kernel
/-- the drawn shapes' own text -/
structure Reads (l : List Nat) (rd : List (List (List Nat))) (b : Option Nat) : Prop where
  len : l.length ≤ 10000
  ps : ∀ p ∈ TL.spl [59, 32] 0 [] l, p.length ≤ 10000 ∧ (TL.spl [32] 0 [] p).length ≤ 500 ∧ gD (wordsD (TL.spl [32] 0 [] p)) = true
  n : (TL.spl [59, 32] 0 [] l).length ≤ 1000
  rd : l ≠ noneL → readW l = rd
  bad : l ≠ noneL → badIx 0 (readW l) = b
theorem map_spl {shs : List (List (List Nat))} (h : ∀ sh ∈ shs, GoodSh sh) : (shs.map ptL).map (fun p => TL.spl [32] 0 [] p) = shs := by
  rw [List.map_map]
  exact (List.map_congr_left fun sh m => (h sh m).spl).trans (List.map_id _)
theorem len_parts {ps : List (List Nat)} (h : ∀ p ∈ ps, p.length ≤ 50) (hn : ps.length ≤ 100) : (TL.joinL sepL ps).length ≤ 10000 := by
  have a := joinL_len sepL ps
  have b := sum_le List.length 50 ps h
  have c : sepL.length = 2 := rfl
  rw [c] at a
  omega
theorem reads_shapes {shs : List (List (List Nat))} (h : ∀ sh ∈ shs, GoodSh sh) (hn : shs.length ≤ 50) (hz : shs ≠ []) : Reads (wrS shs) shs none ∧ wrS shs ≠ noneL := by
  have e : wrS shs = TL.joinL sepL (shs.map ptL) := by
    unfold wrS
    rw [if_neg hz]
    rfl
  have e1 : TL.spl sepL 0 [] (wrS shs) = shs.map ptL := by
    rw [e]
    refine SX.spl_join (by simpa using hz) fun p m => ?_
    obtain ⟨sh, ms, rfl⟩ := List.mem_map.mp m
    exact (h sh ms).no59
  have e2 : readW (wrS shs) = shs := by
    show (TL.spl sepL 0 [] (wrS shs)).map _ = _
    rw [e1, map_spl h]
  have e3 : badIx 0 shs = none := by
    have := badIx_good (shs := shs) 0 [] fun sh m => (h sh m).ok
    rwa [List.append_nil] at this
  refine ⟨⟨?_, fun p m => ?_, ?_, fun _ => e2, fun _ => by rw [e2, e3]⟩, fun z => ?_⟩
  · rw [e]
    refine len_parts (fun p m => ?_) (by rw [List.length_map]; omega)
    obtain ⟨sh, ms, rfl⟩ := List.mem_map.mp m
    exact (h sh ms).okP.len
  · rw [e1] at m
    obtain ⟨sh, ms, rfl⟩ := List.mem_map.mp m
    have := (h sh ms).okP
    exact ⟨by have := this.len; omega, this.n, this.g⟩
  · rw [e1, List.length_map]
    omega
  · rw [z, readW_none] at e2
    have := (h [noneL] (by rw [← e2]; exact List.mem_singleton.mpr rfl)).ok
    revert this
    decide +kernel
def lastL : List Nat := [111, 110, 101, 32, 65]
def lateL (shs : List (List (List Nat))) (i : Nat) (odd : List Nat) : List (List Nat) := (shs.map ptL).take i ++ [odd] ++ (shs.map ptL).drop i ++ [lastL]
theorem last_odd : oddP lastL = true := by decide +kernel
theorem reads_late {shs : List (List (List Nat))} {odd : List Nat} {i : Nat} (h : ∀ sh ∈ shs, GoodSh sh) (hn : shs.length ≤ 50) (hi : i ≤ shs.length) (ho : oddP odd = true) :
    Reads (TL.joinL sepL (lateL shs i odd)) (readW (TL.joinL sepL (lateL shs i odd))) (some i) ∧ TL.joinL sepL (lateL shs i odd) ≠ noneL := by
  obtain ⟨o1, o2, o3⟩ := oddP_ok ho
  obtain ⟨l1, l2, l3⟩ := oddP_ok last_odd
  have mem : ∀ p ∈ (shs.map ptL).take i ++ [odd] ++ (shs.map ptL).drop i, SX.free sepL p = true ∧ OkP p := by
    intro p m
    have big : ∀ p ∈ shs.map ptL, SX.free sepL p = true ∧ OkP p := fun p m => by
      obtain ⟨sh, ms, rfl⟩ := List.mem_map.mp m
      exact ⟨SX.free_head (h sh ms).no59, (h sh ms).okP⟩
    rw [List.mem_append, List.mem_append] at m
    rcases m with (m | m) | m
    · exact big p (List.mem_of_mem_take m)
    · rw [List.mem_singleton.mp m]
      exact ⟨o1, o2⟩
    · exact big p (List.mem_of_mem_drop m)
  have e1 : TL.spl sepL 0 [] (TL.joinL sepL (lateL shs i odd)) = lateL shs i odd := spl_ends (fun p m => (mem p m).1) (by decide)
  have all : ∀ p ∈ lateL shs i odd, OkP p := fun p m => by
    rcases List.mem_append.mp m with m | m
    · exact (mem p m).2
    · rw [List.mem_singleton.mp m]
      exact l2
  have len : (lateL shs i odd).length = shs.length + 2 := by
    unfold lateL
    simp only [List.length_append, List.length_take, List.length_drop, List.length_map, List.length_singleton]
    omega
  have e2 : readW (TL.joinL sepL (lateL shs i odd)) = shs.take i ++ (TL.spl [32] 0 [] odd :: (shs.drop i ++ [TL.spl [32] 0 [] lastL])) := by
    show (TL.spl sepL 0 [] (TL.joinL sepL (lateL shs i odd))).map _ = _
    rw [e1]
    unfold lateL
    rw [List.map_append, List.map_append, List.map_append, ← List.map_take, ← List.map_drop, map_spl fun sh m => h sh (List.mem_of_mem_take m), map_spl fun sh m => h sh (List.mem_of_mem_drop m)]
    simp
  have e3 : badIx 0 (readW (TL.joinL sepL (lateL shs i odd))) = some i := by
    rw [e2, badIx_good 0 _ fun sh m => (h sh (List.mem_of_mem_take m)).ok, List.length_take]
    show (if shapeB _ = true then _ else some _) = _
    rw [if_neg (by rw [o3]; decide)]
    congr 1
    omega
  refine ⟨⟨len_parts (fun p m => (all p m).len) (by omega), fun p m => ?_, by rw [e1]; omega, fun _ => rfl, fun _ => e3⟩, fun z => ?_⟩
  · rw [e1] at m
    have := all p m
    exact ⟨by have := this.len; omega, this.n, this.g⟩
  · have e4 := congrArg List.length e2
    rw [z, readW_none] at e4
    simp only [List.length_append, List.length_cons, List.length_take, List.length_drop, List.length_nil] at e4
    omega
/-- a fixed text, decided -/
def readsB (l : List Nat) (b : Option Nat) : Bool := decide (l.length ≤ 10000) && ((TL.spl [59, 32] 0 [] l).all (fun p => decide (p.length ≤ 10000) && (decide ((TL.spl [32] 0 [] p).length ≤ 500) && (TL.spl [32] 0 [] p).all (fun w => gS (SX.S w)))) && (decide ((TL.spl [59, 32] 0 [] l).length ≤ 1000) && (decide (badIx 0 (readW l) = b) && !decide (l = noneL))))
theorem readsB_ok {l : List Nat} {b : Option Nat} (h : readsB l b = true) : Reads l (readW l) b ∧ l ≠ noneL := by
  unfold readsB at h
  simp only [Bool.and_eq_true, decide_eq_true_eq, Bool.not_eq_true', decide_eq_false_iff_not, List.all_eq_true] at h
  exact ⟨⟨h.1, fun p m => ⟨(h.2.1 p m).1, (h.2.1 p m).2.1, gD_wordsD (h.2.1 p m).2.2⟩, h.2.2.1, fun _ => rfl, fun _ => h.2.2.2.1⟩, h.2.2.2.2⟩

/-! ### what every law's text has -/
theorem toP {Q : VK} {g : VK → Prop} (M : V → Hp → Prop) (h : ∀ v H', M v H' → Q v H') (k : ∀ Q' : VK, (∀ v H', M v H' → Q' v H') → g Q') : g Q := k Q h
def spLaw (K : PySem.W.Frag) (PA : Addr) : Sp := fun vs H Q _ => ∃ (a : Addr) (ns : List Int), vs = [.ref a] ∧ SqL K H a (ns.map V.int) ∧ ns.length ≤ 63 ∧ H PA = some (.tbl #[]) ∧ ∀ H', Q (.bl true) H'
abbrev tabQ (PA : Addr) : List (Addr × Str) := [(PA, "law.<locals>.<lambda>")]
theorem BagAt.lst {H : Hp} {b r : Addr} (h : BagAt H b r) : ∃ l, H b = some (.lst l) := by
  obtain ⟨ns, i, c, m, h1, _⟩ := h
  exact ⟨_, h1⟩
theorem BagAt.le {H H' : Hp} {b r : Addr} (h : BagAt H b r) (s : But b H H') : Le b H H' := by
  obtain ⟨l, h1⟩ := h.lst
  exact Le.but s h1

/-! ### reading, as the law uses it -/
theorem words_inv {b : Addr} {H : Hp} : ∀ {ws : List (List Nat)} {l : List V}, DqA b H (ws.map fun w => PyData.str (SX.S w)) l → l = kws ws
  | [], _, h => h.inv0
  | w :: r, _, h => by
    obtain ⟨v, m, rfl, h1, h2⟩ := h.inv
    rw [words_inv h2]
    simp only [Dq] at h1
    rw [h1]
    rfl
theorem TWs.of_dq {b : Addr} {H : Hp} : ∀ {s : List (List (List Nat))} {m : List V}, DqA b H (s.map wordsD) m → TWs H s m
  | [], _, h => h.inv0
  | ws :: r, _, h => by
    obtain ⟨v, m, rfl, h1, h2⟩ := h.inv
    obtain ⟨a, l, rfl, h3, h4⟩ := h1.tup
    rw [words_inv h4] at h3
    exact ⟨a, m, rfl, h3, TWs.of_dq h2⟩
theorem rel_none : 4 ≤ 10000 := by decide
theorem read_none {C : Addr} {H : Hp} {Q : VK} {E : XK} (q : ∀ p H', Same H H' → H p = none → H' p = some (.lst []) → Q (.ref p) H') : spRead C [.str (SX.S noneL)] H Q E :=
  ⟨noneL, rfl, by decide, by
    intro p m
    rw [show TL.spl [59, 32] 0 [] noneL = [noneL] by decide +kernel] at m
    rw [List.mem_singleton.mp m]
    exact ⟨by decide, by decide +kernel, gD_wordsD (by decide +kernel)⟩, by decide +kernel, fun _ => q, fun n => absurd rfl n, fun n => absurd rfl n⟩
theorem read_good {C : Addr} {H : Hp} {Q : VK} {E : XK} {l : List Nat} {rd : List (List (List Nat))} (r : Reads l rd none ∧ l ≠ noneL) (q : ∀ p vs H', Same H H' → H p = none → H' p = some (.lst vs) → TWs H' rd vs → Q (.ref p) H') : spRead C [.str (SX.S l)] H Q E :=
  ⟨l, rfl, r.1.len, r.1.ps, r.1.n, fun e => absurd e r.2, fun n _ p vs H' s np hp hd => q p vs H' s np hp (TWs.of_dq (by rw [r.1.rd n] at hd; exact hd)), fun n i h => by rw [r.1.bad n] at h; cases h⟩
theorem read_bad {C : Addr} {H : Hp} {Q : VK} {E : XK} {l : List Nat} {rd : List (List (List Nat))} {i : Nat} (r : Reads l rd (some i) ∧ l ≠ noneL) (q : ∀ H' dd, Same H H' → ErrAt H' dd "at" "ParseError" (.int (i : Nat)) → E (.ref C) (some dd) H') : spRead C [.str (SX.S l)] H Q E :=
  ⟨l, rfl, r.1.len, r.1.ps, r.1.n, fun e => absurd e r.2, fun n h => (by
    rw [r.1.bad n] at h
    cases h), fun n j h H' dd s e => (by
    rw [r.1.bad n] at h
    cases h
    exact q H' dd s e)⟩
theorem read_shs {C : Addr} {H : Hp} {Q : VK} {E : XK} {shs : List (List (List Nat))} (h : ∀ sh ∈ shs, GoodSh sh) (hn : shs.length ≤ 50) (q : ∀ p vs H', Same H H' → H p = none → H' p = some (.lst vs) → TWs H' shs vs → Q (.ref p) H') : spRead C [.str (SX.S (wrS shs))] H Q E := by
  by_cases hz : shs = []
  · subst hz
    rw [show wrS [] = noneL by decide +kernel]
    exact read_none fun p H' s np hp => q p [] H' s np hp rfl
  · exact read_good (reads_shapes h hn hz) q
theorem GoodSh.shLen {sh : List (List Nat)} (h : GoodSh sh) : ShLen sh := ⟨by have := h.len; omega, fun w m => by have := (h.let_ w m).2; omega⟩
theorem sz_words : ∀ shs : List (List (List Nat)), (∀ sh ∈ shs, sh.length ≤ 3) → szA (shs.map wordsD) ≤ 4 * shs.length
  | [], _ => by simp [szA]
  | sh :: r, h => by
    have a := sz_words r fun x m => h x (List.mem_cons_of_mem _ m)
    have b := h sh List.mem_cons_self
    simp only [List.map_cons, szA, wordsD, sz, szA_words, List.length_cons]
    omega
theorem gS_pt {sh : List (List Nat)} (h : GoodSh sh) : gS (SX.S (ptL sh)) = true := gS_of (by have := h.lenP; omega) fun c hc => by
  rcases mem_joinL hc with z | ⟨w, m, z⟩
  · rw [List.mem_singleton.mp z]
    decide
  · exact okC_letters c ((h.let_ w m).1 c z)
theorem dp_strs0 : ∀ ws : List (List Nat), PyData.depthAll (ws.map fun w => PyData.str (SX.S w)) = 0
  | [] => rfl
  | w :: r => by
    simp only [List.map_cons, PyData.depthAll, PyData.depth, dp_strs0 r]
    rfl
theorem dp_words : ∀ shs : List (List (List Nat)), PyData.depthAll (shs.map wordsD) ≤ 1
  | [] => by simp [PyData.depthAll]
  | sh :: r => by
    have := dp_words r
    simp only [List.map_cons, PyData.depthAll, wordsD, PyData.depth, dp_strs0]
    omega
theorem strs_dq {b : Addr} {H : Hp} : ∀ zs : List Str, DqA b H (zs.map PyData.str) (zs.map V.str)
  | [] => .nil
  | z :: r => .cons (Dq.str_mk z) (strs_dq r)
def oddL : List Lit := [(.str ""), (.str "one"), (.str "one  a"), (.str "one a b"), (.str "within a"), (.str "ahead a rest"), (.str "One a"), (.str "one a "), (.str "two a b"), (.str "none"), (.str "one a;")]
theorem oddL_te : (Lit.lst oddL).te = (tLst (tCons (tC (.str "")) (tCons (tC (.str "one")) (tCons (tC (.str "one  a")) (tCons (tC (.str "one a b")) (tCons (tC (.str "within a")) (tCons (tC (.str "ahead a rest")) (tCons (tC (.str "One a")) (tCons (tC (.str "one a ")) (tCons (tC (.str "two a b")) (tCons (tC (.str "none")) (tCons (tC (.str "one a;")) tNil)))))))))))) := by
  unfold oddL
  simp only [Lit.te, Lit.ta]
  try rfl
theorem oddL_all : (Lit.dataA oddL).all (fun d => match d with | .str z => oddP z.cps.toList | _ => false) = true := by decide +kernel
theorem oddL_ok {d : PyData} (m : d ∈ Lit.dataA oddL) : ∃ l, d = .str (SX.S l) ∧ oddP l = true := by
  have h := List.all_eq_true.mp oddL_all d m
  cases d with
  | str z => exact ⟨z.cps.toList, congrArg PyData.str (str_S z), h⟩
  | _ => cases h
theorem field_at : fldOf "ParseError" = some "at" := by decide +kernel
theorem code_at : (("code" : Str) == ("at" : Str)) = false := by decide
theorem shaped_nilL : SeqAt.shaped (.list []) = true := by decide +kernel
theorem late_len {shs : List (List (List Nat))} {odd : List Nat} {i : Nat} (h : ∀ sh ∈ shs, GoodSh sh) (ho : oddP odd = true) : ∀ p ∈ lateL shs i odd, p.length ≤ 50 := by
  have big : ∀ p ∈ shs.map ptL, p.length ≤ 50 := fun p m => by
    obtain ⟨sh, ms, rfl⟩ := List.mem_map.mp m
    exact (h sh ms).okP.len
  intro p m
  unfold lateL at m
  rw [List.mem_append, List.mem_append, List.mem_append] at m
  rcases m with ((m | m) | m) | m
  · exact big p (List.mem_of_mem_take m)
  · rw [List.mem_singleton.mp m]
    exact (oddP_ok ho).2.1.len
  · exact big p (List.mem_of_mem_drop m)
  · rw [List.mem_singleton.mp m]
    decide
theorem late_n {shs : List (List (List Nat))} {odd : List Nat} {i : Nat} (hi : i ≤ shs.length) : (lateL shs i odd).length = shs.length + 2 := by
  unfold lateL
  simp only [List.length_append, List.length_take, List.length_drop, List.length_map, List.length_singleton]
  omega
theorem kws_late (shs : List (List (List Nat))) (i : Nat) (odd : List Nat) : (kws (shs.map ptL)).take i ++ [V.str (SX.S odd)] ++ (kws (shs.map ptL)).drop i ++ [V.str "one A"] = ((lateL shs i odd).map SX.S).map V.str := by
  unfold lateL kws
  rw [show Str.ofString "one A" = SX.S lastL by decide +kernel]
  simp only [List.map_append, List.map_map, List.map_take, List.map_drop, List.map_cons, List.map_nil]
  rfl
theorem kws_pt (shs : List (List (List Nat))) : (shs.map fun sh => SX.S (ptL sh)).map V.str = kws (shs.map ptL) := by
  unfold kws
  rw [List.map_map, List.map_map]
  rfl
theorem pe_dq {b : Addr} {H : Hp} {p : Addr} {i : Int} (h : H p = some (.tup [.str "ParseError", .int i])) : Dq b H (.tuple [.str "ParseError", .int i]) (.ref p) := Dq.tup_mk h (.cons (Dq.str_mk _) (.cons (Dq.int_mk _) .nil))
theorem _root_.LamV.LamN.any {N : List Str} {sc scope : Scope} {ps : List Str} (L : LamV.LamN N sc scope ps) (nf : scope.names.all (fun y => !decide (y.2 = .free)) = true) : ∀ sc', LamV.LamN N sc' scope ps := fun sc' => ⟨L.kind, L.co, L.gen, L.cell, L.own, fun y m e => (by
  have := List.all_eq_true.mp nf y m
  rw [e] at this
  cases this), L.par⟩
theorem whyV_give {P : Program} {w : World} {K : PySem.W.Frag} {mg : Str → Option Value} {base : Heap} {N : List Str} {q : Str} {k : Nat} {TT : (XK → Hp → VK → Prop) → Hp → VK → Prop} {σ : St} {H : Hp} {Q : VK} {f : Addr} {F : LamV.LK} {HD : Hp → Prop} {t : XK → TE} (lam : H f = some (LamV.LamO f F)) (kn : Known P w K mg base N q k F HD t) (code : H F.code = some (LamX.CodeO F.code F.qual)) (dflt : HD H)
    (promise : TT (fun E H' Q' => H' f = some (LamV.LamO f F) ∧ HD H' ∧ t E σ H' Q') H Q) : ∃ (f' : Addr) (F : LamV.LK) (HD : Hp → Prop) (t : XK → TE), ([V.ref f] : List V) = [.ref f'] ∧ Known P w K mg base N q k F HD t ∧ H F.code = some (LamX.CodeO F.code F.qual) ∧ H f' = some (LamV.LamO f' F) ∧ HD H ∧ TT (fun E H' Q' => H' f' = some (LamV.LamO f' F) ∧ HD H' ∧ t E σ H' Q') H Q :=
  ⟨f, F, HD, t, rfl, kn, code, lam, dflt, promise⟩
theorem ask_x {K : PySem.W.Frag} {C u1 u2 u3 : Addr} {H : Hp} {Q R : VK} (exm : PySem.W.exmAny K (.ref C) [.ref u1, .ref u2, .ref u3] = some true) (xf : XfC K C) (n1 : PySem.W.findIn K (.ref C) "code" = some none) (n2 : PySem.W.findIn K (.ref C) "at" = some none) (l : List Nat) (i : Nat) (hl : readsB l (some i) = true)
    (q : ∀ p H', Same H H' → H' p = some (.tup [.str "ParseError", .int (i : Int)]) → Q (.ref p) H') : spRead C [.str (SX.S l)] H R (whyX K (.ref u1) (.ref u2) (.ref u3) Q) :=
  read_bad (readsB_ok hl) fun HE dd sE eE => why_x exm xf n1 n2 field_at code_at eE fun p3 H17 s3 h3 => q p3 H17 (sE.trans s3) h3
def ask1 : List Nat := [111, 110, 101, 32, 97, 59, 111, 110, 101, 32, 98]
def ask2 : List Nat := [111, 110, 101, 32, 97, 59, 32]
def ask3 : List Nat := [110, 111, 110, 101, 59, 32, 111, 110, 101, 32, 97]
def ask4 : List Nat := [111, 110, 101, 32, 110, 111, 110, 101]
theorem ask0_S : Str.ofString "" = SX.S [] := by decide +kernel
theorem ask1_S : Str.ofString "one a;one b" = SX.S ask1 := by decide +kernel
theorem ask2_S : Str.ofString "one a; " = SX.S ask2 := by decide +kernel
theorem ask3_S : Str.ofString "none; one a" = SX.S ask3 := by decide +kernel
theorem ask4_S : Str.ofString "one none" = SX.S ask4 := by decide +kernel
theorem ask0_ok : readsB [] (some 0) = true := by decide +kernel
theorem ask1_ok : readsB ask1 (some 0) = true := by decide +kernel
theorem ask2_ok : readsB ask2 (some 1) = true := by decide +kernel
theorem ask3_ok : readsB ask3 (some 0) = true := by decide +kernel
theorem ask4_ok : readsB ask4 none = true := by decide +kernel
theorem ask4_rd : readW ask4 = [[wOne, noneL]] := by decide +kernel
def peD (i : Int) : PyData := .tuple [.str "ParseError", .int i]
def asksD : List PyData := [peD 0, peD 0, peD 1, peD 0]
theorem asks_sh : SeqAt.shaped (.list asksD) = true := by decide +kernel
theorem asks_eqv : PyData.eqv (.list asksD) (.list asksD) = true := by decide +kernel
theorem one_sh : SeqAt.shaped (.list [.tuple [.str "one", .str "none"]]) = true := by decide +kernel
theorem one_eqv : PyData.eqv (.list [wordsD [wOne, noneL]]) (.list [.tuple [.str "one", .str "none"]]) = true := by decide +kernel
theorem one_sh2 : SeqAt.shaped (.list [wordsD [wOne, noneL]]) = true := by decide +kernel

/-! ### lambdas held in a list, each reads one text -/
structure LamAt (P : Program) (w : World) (K : PySem.W.Frag) (mg : Str → Option Value) (base : Heap) (N : List Str) (q : Str) (sp : Sp) (z : Str) (H : Hp) (f : Addr) : Prop where
  ex : ∃ (F : LamV.LK) (HD : Hp → Prop), H f = some (LamV.LamO f F) ∧ H F.code = some (LamX.CodeO F.code F.qual) ∧ Known P w K mg base N q 10 F HD (fun E _ H Q => sp [.str z] H Q E) ∧ ∀ H', LamX.ExtN H H' → HD H'
theorem LamAt.mk' {P : Program} {w : World} {K : PySem.W.Frag} {mg : Str → Option Value} {base : Heap} {N : List Str} {q : Str} {sp : Sp} {z : Str} {H : Hp} {f : Addr} {F : LamV.LK} {HD : Hp → Prop} (h1 : H f = some (LamV.LamO f F)) (h2 : H F.code = some (LamX.CodeO F.code F.qual)) (h3 : Known P w K mg base N q 10 F HD (fun E _ H Q => sp [.str z] H Q E)) (h4 : ∀ H', LamX.ExtN H H' → HD H') : LamAt P w K mg base N q sp z H f := ⟨F, HD, h1, h2, h3, h4⟩
theorem LamAt.ext {P : Program} {w : World} {K : PySem.W.Frag} {mg : Str → Option Value} {base : Heap} {N : List Str} {q : Str} {sp : Sp} {z : Str} {H H' : Hp} {f : Addr} (h : LamAt P w K mg base N q sp z H f) (e : LamX.ExtN H H') : LamAt P w K mg base N q sp z H' f := by
  obtain ⟨F, HD, h1, h2, h3, h4⟩ := h.ex
  exact ⟨F, HD, e _ _ h1 LamV.lamO_tbl, e _ _ h2 LamX.codeO_ne, h3, fun H'' e2 => h4 H'' fun c o g nt => e2 c o (e c o g nt) nt⟩
theorem LamAt.same {P : Program} {w : World} {K : PySem.W.Frag} {mg : Str → Option Value} {base : Heap} {N : List Str} {q : Str} {sp : Sp} {z : Str} {H H' : Hp} {f : Addr} (h : LamAt P w K mg base N q sp z H f) (s : Same H H') : LamAt P w K mg base N q sp z H' f := h.ext fun c o g _ => s c o g
theorem LamAt.why {P : Program} {w : World} {K : PySem.W.Frag} {mg : Str → Option Value} {base : Heap} {N : List Str} {q : Str} {sp : Sp} {z : Str} {H : Hp} {f : Addr} {c1 c2 c3 : Value} {σ : St} {Q : VK} (h : LamAt P w K mg base N q sp z H f)
    (p : sp [.str z] H (fun v H2 => ([V.str "", v] : List V).length ≤ sizeLine ∧ ∀ p, H2 p = none → Q (.ref p) (upd H2 p (.tup [.str "", v]))) (whyX K c1 c2 c3 Q)) :
    ∃ (f' : Addr) (F : LamV.LK) (HD : Hp → Prop) (t : XK → TE), ([V.ref f] : List V) = [.ref f'] ∧ Known P w K mg base N q 10 F HD t ∧ H F.code = some (LamX.CodeO F.code F.qual) ∧ H f' = some (LamV.LamO f' F) ∧ HD H ∧ TTwhy K c1 c2 c3 (fun E H' Q' => H' f' = some (LamV.LamO f' F) ∧ HD H' ∧ t E σ H' Q') H Q := by
  obtain ⟨F, HD, h1, h2, h3, h4⟩ := h.ex
  exact ⟨f, F, HD, _, rfl, h3, h2, h1, h4 H fun _ _ g _ => g, h1, h4 H fun _ _ g _ => g, p⟩
/-- the body of such a lambda -/
theorem read_body {X : Cx} {P : Program} {w : World} {K : PySem.W.Frag} {mg : Str → Option Value} {base : Heap} {C f c' : Addr} {A : Around} {outer : List Env} {s : Shared} {H : Hp} {E : XK} {scope : Scope} {z : Str} {n : Nat} {p1 p2 p3 : Pos} (c : CalR P w K mg base 4 "read_shapes" (spRead C))
    (e1 : X.prog = P) (e2 : X.w = w) (e3 : X.K = K) (e4 : X.mg = mg) (e5 : X.base = base) (hrL : Room 10 (A.deeper (LamX.lamEnv X scope s.heap.objs.size f c'))) (hg : Gl (LamX.lamCx X A outer s H E scope f c') "read_shapes") :
    PE (LamX.lamCx X A outer s H E scope f c') (.Call (.Name "read_shapes" p1) [.Constant (.str z) n p2] [] p3) (fun _ H Q => spRead C [.str z] H Q E) := by
  subst e1 e2 e3 e4 e5
  exact pe_cR (X := LamX.lamCx X A outer s H E scope f c') (takes_of rfl rfl rfl rfl) c hrL (by omega) hg (pa_cons pe_str pa_nil)
theorem bindL1' {F : LamV.LK} {t : Addr} {i : Int} {x : Str} {k : Value → Value → Value → Option (Array Value) → Sem (List (Str × Value))} (ht : F.dflt = some t) (loc : F.scope.names.lookup x = some .local)
    (h1 : ∀ doc pm ctv : Value, bindArgs (LamV.fdOf F doc pm ctv) ⟨[], []⟩ = seqItems? (LamV.fdOf F doc pm ctv).defaults >>= k doc pm ctv) (h2 : ∀ doc pm ctv v : Value, k doc pm ctv (some [v].toArray) = pure [(x, v)]) : LamV.BindL F fun H => H t = some (.tup [.int i]) := by
  intro X pins σ H s doc pm ctv I hD
  obtain ⟨its, rel, tup, _⟩ := I.tuple (SqT.of hD)
  obtain ⟨v, rfl⟩ : ∃ v, its = [v] := by
    have len := rel.length
    match its, len with
    | [v], _ => exact ⟨v, rfl⟩
  obtain ⟨o, g, _, n, d⟩ := tup
  have hd : (LamV.fdOf F doc pm ctv).defaults = .ref t := by
    show LamV.dvOf F.dflt = _
    rw [ht]
    rfl
  exact ⟨[(x, v)], fun y m => (by rw [List.mem_singleton.mp m]; exact loc), BindsTo.of_defaults hd g d (h1 doc pm ctv) (h2 doc pm ctv v)⟩

/-! ### the law -/
section
variable {P : Program} {w : World} {K : PySem.W.Frag} {mg : Str → Option Value} {base : Heap} {f C cA PA g1 g2 g3 : Addr}
theorem ok_law {u1 u2 u3 : Addr} {oc dc pm ct kV : Value} {od an : Option Addr} {sl : Array (Option Value)} (lk : K.lookup f = some ⟨oc, od, .func (PySem.W.fnOf "law" "law" (defArgs s_law) (defBody s_law) (defScope s_law) .none kV dc pm an (.ref cA) ct), sl⟩) (hcd : PySem.W.codeIn K (.ref cA) "law" = true) (T : Txt mg) (TB : LamX.TabB base mg cA PA)
    (hW : WhyC P w K mg base (.ref u1) (.ref u2) (.ref u3)) (exm : PySem.W.exmAny K (.ref C) [.ref u1, .ref u2, .ref u3] = some true) (xf : XfC K C) (n1 : PySem.W.findIn K (.ref C) "code" = some none) (n2 : PySem.W.findIn K (.ref C) "at" = some none)
    (c_law_bag : Cal P w K mg base 1 "_law_bag" (spBag K)) (c_law_names : Cal P w K mg base 4 "_law_names" spNames) (c_law_take : Cal P w K mg base 1 "_law_take" spTake) (c_law_of : Cal P w K mg base 2 "_law_of" (spOf K))
    (c_law_shape : Cal P w K mg base 3 "_law_shape" (spShape K)) (c_law_alike : Cal P w K mg base 11 "_law_alike" (spAlike K 10))
    (c_shapes_text : Cal P w K mg base 1 "shapes_text" (spSText K)) (k_shapes_text_shapes : CalK P w K mg base 1 "shapes_text" ["shapes"] (fun us ws => us ++ ws) (spSText K))
    (c_read_shapes : CalR P w K mg base 4 "read_shapes" (spRead C)) (r_read_shapes_text : CalRK P w K mg base 4 "read_shapes" ["text"] (fun us ws => us ++ ws) (spRead C)) :
    FnOk P w K mg base CX0 61 f (PySem.W.fnOf "law" "law" (defArgs s_law) (defBody s_law) (defScope s_law) .none kV dc pm an (.ref cA) ct) ["_law_script"] (spLaw K PA) := by
  refine fn_of lk hcd sc_law (fun vs H Q E h => ?_) fun A outer s H vs Q E hr h => ?_
  · obtain ⟨a, ns, rfl, _⟩ := h
    rfl
  · suffices ∃ t, PSs (cxOf CX0 P w K mg base ["_law_script", "_law_bag_z", "_law_names_z", "_law_turn", "_law_some", "_law_parts", "_law_text_z", "_law_told", "_law_at", "_law_odd", "_law_late", "_law_asks", "_law_k", "_law_shape_z", "_law_ask"] "law" (defScope s_law) f (.ref cA) A outer s H E).nox (defBody s_law) t ∧ t { nx := fun _ H' => Q .non H', rt := Q } (L2.start ["_law_script", "_law_bag_z", "_law_names_z", "_law_turn", "_law_some", "_law_parts", "_law_text_z", "_law_told", "_law_at", "_law_odd", "_law_late", "_law_asks", "_law_k", "_law_shape_z", "_law_ask"] vs) H from
      let ⟨t, h1, h2⟩ := this
      ⟨t, h1.nox, h2⟩
    obtain ⟨a, ns, rfl, hS, hl, hP, q⟩ := h
    refine ⟨_, (pss_cons (ps_set (i := 1) sc_law.nd rfl (.inr rfl) (pe_c c_law_bag hr (by omega) (by rfl) (pa_cons (pv 0) pa_nil)))
      (pss_cons (ps_set (i := 2) sc_law.nd rfl (.inr rfl) (pe_c c_law_names hr (by omega) (by rfl) (pa_cons (pv 1) pa_nil)))
      (pss_cons (ps_for PassesOwn.never rfl (pi_range1 (by rfl) T.range (pa_cons pe_int pa_nil)) (pg_name (i := 3) sc_law.nd rfl (.inl rfl)) (pss_cons (ps_setLc (i := 4) (own := [("_law_k", 12)]) (g := gName 12) (tt := tYes) (by rfl) sc_law.nd rfl rfl (sw_true rfl rfl rfl (by decide +kernel)) (pi_range1 (by rfl) T.range (pa_cons (pe_c c_law_take hr (by omega) (by rfl) (pa_cons (pv 1) (pa_cons pe_int pa_nil))) pa_nil)) (blkOk_by (own := [("_law_k", 12)]) (N := ["_law_script", "_law_bag_z", "_law_names_z", "_law_turn", "_law_some", "_law_parts", "_law_text_z", "_law_told", "_law_at", "_law_odd", "_law_late", "_law_asks", "_law_k", "_law_shape_z", "_law_ask"]) (sc := defScope s_law) (by decide +kernel)) (fun _ _ _ _ _ => pg_name (i := 12) sc_law.nd rfl (Or.inl rfl)) (fun _ _ _ _ _ => pts_nil) (fun _ _ _ _ _ => (pe_c c_law_shape hr (by omega) (by rfl) (pa_cons (pv 1) (pa_cons (pe_ix (ix_X K) (pv 2) pe_int (fun _ _ => rfl)) pa_nil)))))
      (pss_cons (ps_setLc (i := 5) (own := [("_law_shape_z", 13)]) (g := gName 13) (tt := tYes) (by rfl) sc_law.nd rfl rfl (sw_true rfl rfl rfl (by decide +kernel)) (pi_listX K (pv 4)) (blkOk_by (own := [("_law_shape_z", 13)]) (N := ["_law_script", "_law_bag_z", "_law_names_z", "_law_turn", "_law_some", "_law_parts", "_law_text_z", "_law_told", "_law_at", "_law_odd", "_law_late", "_law_asks", "_law_k", "_law_shape_z", "_law_ask"]) (sc := defScope s_law) (by decide +kernel)) (fun _ _ _ _ _ => pg_name (i := 13) sc_law.nd rfl (Or.inl rfl)) (fun _ _ _ _ _ => pts_nil) (fun _ _ _ _ _ => (pe_joinX K pe_str (pe_callTy (cr_list K) (by rfl) T.list (by decide +kernel) (pa_cons (pv 13) pa_nil)))))
      (pss_cons (ps_set (i := 6) sc_law.nd rfl (.inl rfl) (pe_ifExp (pt_cmpR (op_neX K hr) (pv 5) (pe_lst pa_nil) (nomark _)) (pe_joinX K pe_str (pv 5)) pe_str))
      (pss_cons (ps_set (i := 7) sc_law.nd rfl (.inl rfl) (pe_lst (pa_cons (pe_c c_shapes_text hr (by omega) (by rfl) (pa_cons (pv 4) pa_nil)) (pa_cons (pe_cK0 k_shapes_text_shapes hr (by omega) (by rfl) (pk_cons (pe_callTy (cr_tuple K) (by rfl) T.tuple (by decide +kernel) (pa_cons (pv 4) pa_nil)) pk_nil)) (pa_cons (pe_cR takes0 c_read_shapes hr (by omega) (by rfl) (pa_cons (pv 6) pa_nil)) (pa_cons (pe_cRK passL r_read_shapes_text hr (by omega) (by rfl) (pk_cons (pv 6) pk_nil)) pa_nil))))))
      (pss_cons (ps_if (pt_not (pt_val (pe_c c_law_alike hr (by omega) (by rfl) (pa_cons (pv 7) (pa_cons (pe_lst (pa_cons (pv 6) (pa_cons (pv 6) (pa_cons (pv 4) (pa_cons (pv 4) pa_nil))))) pa_nil))))) (pss_one (ps_ret pe_bl)) pss_nil)
      (pss_cons (ps_set (i := 8) sc_law.nd rfl (.inl rfl) (pe_c c_law_take hr (by omega) (by rfl) (pa_cons (pv 1) (pa_cons (pe_op (op_addX K) (pe_callB (call_lenX K) (by rfl) T.len PySem.boot_len (pa_cons (pv 5) pa_nil)) pe_int) pa_nil))))
      (pss_cons (ps_set (i := 9) sc_law.nd rfl (.inl rfl) (pe_c c_law_of hr (by omega) (by rfl) (pa_cons (pv 1) (pa_cons (pe_lst (pa_cons pe_str (pa_cons pe_str (pa_cons pe_str (pa_cons pe_str (pa_cons pe_str (pa_cons pe_str (pa_cons pe_str (pa_cons pe_str (pa_cons pe_str (pa_cons pe_str (pa_cons pe_str pa_nil)))))))))))) pa_nil))))
      (pss_cons (ps_set (i := 10) sc_law.nd rfl (.inr rfl) (pe_joinX K pe_str (pe_op (op_addX K) (pe_op (op_addX K) (pe_op (op_addX K) (pe_slice (sl_X K) (pv 5) po_none (po_some (pv 8))) (pe_lst (pa_cons (pv 9) pa_nil))) (pe_slice (sl_X K) (pv 5) (po_some (pv 8)) po_none)) (pe_lst (pa_cons pe_str pa_nil)))))
      (pss_one (ps_if (pt_not (pt_val (pe_c c_law_alike hr (by omega) (by rfl) (pa_cons (pe_why 10 hW TB rfl hr (by omega) (LamX.lamS_by (by show LamX.lamSB (defScope s_law) _ = true; decide +kernel)) (fun _ _ _ _ _ => rfl) (fun A outer s H E f c' hrL => (pe_cR (takes_of rfl rfl rfl rfl) c_read_shapes hrL (by omega) (by rfl) (pa_cons (pv 10) pa_nil)))) (pa_cons (pe_tup (pa_cons pe_str (pa_cons (pv 8) pa_nil))) pa_nil))))) (pss_one (ps_ret pe_bl)) pss_nil)))))))))))
      (pss_cons (ps_set (i := 11) sc_law.nd rfl (.inl rfl) (pe_lst (pa_cons (LamV.pe_lam0 (T := tabQ PA) (ps := []) TB rfl (List.mem_singleton.mpr rfl) (fun p hp _ => (congrArg Prod.snd (List.mem_singleton.mp hp)).trans rfl) (LamV.lamN_by (by show LamV.lamNB ["_law_script", "_law_bag_z", "_law_names_z", "_law_turn", "_law_some", "_law_parts", "_law_text_z", "_law_told", "_law_at", "_law_odd", "_law_late", "_law_asks", "_law_k", "_law_shape_z", "_law_ask"] (defScope s_law) _ [] = true; decide +kernel)) rfl) (pa_cons (LamV.pe_lamD (T := tabQ PA) (ps := ["_law_a"]) TB rfl (List.mem_singleton.mpr rfl) (fun p hp _ => (congrArg Prod.snd (List.mem_singleton.mp hp)).trans rfl) (LamV.lamN_by (by show LamV.lamNB ["_law_script", "_law_bag_z", "_law_names_z", "_law_turn", "_law_some", "_law_parts", "_law_text_z", "_law_told", "_law_at", "_law_odd", "_law_late", "_law_asks", "_law_k", "_law_shape_z", "_law_ask"] (defScope s_law) _ ["_law_a"] = true; decide +kernel)) rfl rfl pe_int) (pa_cons (LamV.pe_lamD (T := tabQ PA) (ps := ["_law_b"]) TB rfl (List.mem_singleton.mpr rfl) (fun p hp _ => (congrArg Prod.snd (List.mem_singleton.mp hp)).trans rfl) (LamV.lamN_by (by show LamV.lamNB ["_law_script", "_law_bag_z", "_law_names_z", "_law_turn", "_law_some", "_law_parts", "_law_text_z", "_law_told", "_law_at", "_law_odd", "_law_late", "_law_asks", "_law_k", "_law_shape_z", "_law_ask"] (defScope s_law) _ ["_law_b"] = true; decide +kernel)) rfl rfl pe_int) (pa_cons (LamV.pe_lamD (T := tabQ PA) (ps := ["_law_c"]) TB rfl (List.mem_singleton.mpr rfl) (fun p hp _ => (congrArg Prod.snd (List.mem_singleton.mp hp)).trans rfl) (LamV.lamN_by (by show LamV.lamNB ["_law_script", "_law_bag_z", "_law_names_z", "_law_turn", "_law_some", "_law_parts", "_law_text_z", "_law_told", "_law_at", "_law_odd", "_law_late", "_law_asks", "_law_k", "_law_shape_z", "_law_ask"] (defScope s_law) _ ["_law_c"] = true; decide +kernel)) rfl rfl pe_int) pa_nil))))))
      (pss_cons (ps_if (pt_cmpR (op_neX K hr) (pe_lc (own := [("_law_ask", 14)]) (g := gName 14) (tt := tYes) (by rfl) sc_law.nd (pi_listX K (pv 11)) (blkOk_by (own := [("_law_ask", 14)]) (N := ["_law_script", "_law_bag_z", "_law_names_z", "_law_turn", "_law_some", "_law_parts", "_law_text_z", "_law_told", "_law_at", "_law_odd", "_law_late", "_law_asks", "_law_k", "_law_shape_z", "_law_ask"]) (sc := defScope s_law) (by decide +kernel)) (fun _ _ _ _ _ => pg_name (i := 14) sc_law.nd rfl (Or.inl rfl)) (fun _ _ _ _ _ => pts_nil) (fun _ _ _ _ _ => (pe_whyV ["_law_script", "_law_bag_z", "_law_names_z", "_law_turn", "_law_some", "_law_parts", "_law_text_z", "_law_told", "_law_at", "_law_odd", "_law_late", "_law_asks", "_law_k", "_law_shape_z", "_law_ask"] "law.<locals>." 10 hW hr (by omega) (by rfl) (pv 14)))) (pe_lst (pa_cons (pe_tup (pa_cons pe_str (pa_cons pe_int pa_nil))) (pa_cons (pe_tup (pa_cons pe_str (pa_cons pe_int pa_nil))) (pa_cons (pe_tup (pa_cons pe_str (pa_cons pe_int pa_nil))) (pa_cons (pe_tup (pa_cons pe_str (pa_cons pe_int pa_nil))) pa_nil))))) (nomark _)) (pss_one (ps_ret pe_bl)) pss_nil)
      (pss_one (ps_ret (pe_and (pe_cmpR (op_eqX K hr) (pe_c c_shapes_text hr (by omega) (by rfl) (pa_cons (pe_lst pa_nil) pa_nil)) pe_str (nomark _)) (pe_and (pe_cmpR (op_eqX K hr) (pe_cR takes0 c_read_shapes hr (by omega) (by rfl) (pa_cons pe_str pa_nil)) (pe_lst pa_nil) (nomark _)) (pe_one (pe_cmpR (op_eqX K hr) (pe_cR takes0 c_read_shapes hr (by omega) (by rfl) (pa_cons pe_str pa_nil)) (pe_lst (pa_cons (pe_tup (pa_cons pe_str (pa_cons pe_str pa_nil))) pa_nil)) (nomark _)))))))))))), ?_⟩
    change (_ : TS) _ [some (V.ref a), none, none, none, none, none, none, none, none, none, none, none, none, none, none] _
    k_extra "rr"
    have hT : LamX.Tabs (tabQ PA) H := fun p hp => List.mem_singleton.mp hp ▸ LamX.TabS.nil hP
    refine ⟨a, ns, rfl, hS, hl, fun H1 b r s1 nb hb => ?_⟩
    have hT1 : LamX.Tabs (tabQ PA) H1 := hT.ext fun c o h => s1 c o h
    k_extra "rr"
    refine ⟨b, r, rfl, hb, fun p a1 a2 a3 k1 k2 n H2 bb2 hb2 hp ha1 ha2 l1 l2 g1 g2 np na1 na2 => ?_⟩
    obtain ⟨lb, hlb⟩ := hb.lst
    have hT2 := Tabs.but hT1 bb2 hlb
    k_extra "rr"
    have nb1 : a1 ≠ b := (hb.ne_none na1).1
    have nb0 : p ≠ b := (hb.ne_none np).1
    refine for_range (lo := 0) (n := (6 : Int).toNat) (fun i σ H' => ∃ (v3 v4 v5 v6 v7 v8 v9 v10 v11 v12 v13 v14 : Option V), σ = [some (.ref a), some (.ref b), some (.ref p), v3, v4, v5, v6, v7, v8, v9, v10, v11, v12, v13, v14] ∧ BagAt H' b r ∧ H' p = some (.lst [.ref a1, .ref a2, .ref a3]) ∧ H' a1 = some (.lst (kws k1)) ∧ LamX.Tabs (tabQ PA) H')
      ⟨none, none, none, none, none, none, none, none, none, none, none, none, rfl, hb2, hp, ha1, hT2⟩ ?_ ?_
    · rintro i σ H3 hi ⟨v3, v4, v5, v6, v7, v8, v9, v10, v11, v12, v13, v14, rfl, hb3, hp3, ha3, hT3⟩
      k_extra "rr"
      refine ⟨b, r, _, rfl, hb3, by omega, by omega, fun m1 H4 bb4 hb4 m10 m11 => ?_⟩
      obtain ⟨lb3, hlb3⟩ := hb3.lst
      have hT4 := Tabs.but hT3 bb4 hlb3
      have hp4 := bb4 _ _ hp3 nb0
      have ha4 := bb4 _ _ ha3 nb1
      k_extra "rr"
      intro D nD
      obtain ⟨nDb, nDr⟩ := hb4.ne_none nD
      refine lc_range (lo := 0) (n := m1.toNat) (fun i H' => ∃ (shs : List (List (List Nat))) (qs : List V), shs.length = i ∧ (∀ sh ∈ shs, ShapeOk k1 sh) ∧ H' D = some (.lst qs) ∧ TWs H' shs qs ∧ But b H4 H' ∧ BagAt H' b r)
        ⟨[], [], rfl, (fun _ h => by cases h), upd_same, rfl, But.new nD, hb4.new nD⟩ ?_ ?_
      · rintro j H' hj ⟨shs, qs, ec, hc, eD, tw, bb, hb'⟩
        have hp5 := bb _ _ hp4 nb0
        have ha5 := bb _ _ ha4 nb1
        k_extra "rr"
        refine ⟨rfl, ?_⟩
        k_extra "rr"
        refine ⟨b, r, a1, k1, rfl, hb', nb1, ha5, by omega, by omega, fun pq sh H5 bb5 hb5 hsh hpq => ?_⟩
        obtain ⟨lb5, hlb5⟩ := hb'.lst
        have tq := tw.len
        have eD5 := bb5 _ _ eD nDb
        refine ⟨_, eD5, by rw [tq, sizeLine_eq]; omega, shs ++ [sh], _, by rw [List.length_append, ec]; rfl, fun x hx => ?_, upd_same, ?_, (bb.trans bb5).mutNew nD, hb5.mut hb4 nD⟩
        · rcases List.mem_append.mp hx with h | h
          · exact hc x h
          · rw [List.mem_singleton.mp h]
            exact hsh
        · exact ((tw.le (TupLe.but bb5 hlb5)).snoc hpq).le (TupLe.lst eD5)
      · rintro H5 ⟨shs, qs, ec, hc, eD, tw, bb5, hb5⟩
        have hG : ∀ sh ∈ shs, GoodSh sh := fun sh m => good_of (hc sh m) g1
        have hlen : shs.length ≤ 5 := by omega
        obtain ⟨lb4, hlb4⟩ := hb4.lst
        have hT5 := Tabs.but hT4 bb5 hlb4
        have hp5 := bb5 _ _ hp4 nb0
        have ha5 := bb5 _ _ ha4 nb1
        have tq := tw.len
        k_extra "rr"
        intro D2 nD2
        refine lc_it (walk_list (K := K) (a := D) (xs := qs)) (fun i H' => Same H5 H' ∧ H' D2 = some (.lst (((shs.take i).map fun sh => SX.S (ptL sh)).map V.str))) ⟨same_upd nD2, upd_same⟩ (fun i H' _ s => SqL.of (s.1 _ _ eD)) ?_ ?_
        · rintro j x H6 H7 hj ⟨s2, hD⟩ ⟨rfl, hxi⟩
          obtain ⟨sh, qa, esh, rfl, hqa⟩ := tw.get hxi
          have hsh := (hG sh (List.mem_of_getElem? esh)).shLen
          obtain ⟨b1, b2⟩ := shLen_join hsh
          have tk : (shs.take (j + 1)).map (fun sh => SX.S (ptL sh)) = (shs.take j).map (fun sh => SX.S (ptL sh)) ++ [SX.S (ptL sh)] := by
            rw [List.take_add_one, esh, List.map_append]
            rfl
          k_extra "rr"
          refine ⟨rfl, ?_⟩
          have hqa6 := s2 _ _ hqa
          k_extra "rr"
          refine listT (SqT.of hqa6) fun Lw nLw => ?_
          k_extra "rr"
          have sL := same_upd (o := .lst (kws sh)) nLw
          refine ⟨SX.S [32], Lw, sh.map SX.S, by rw [blank_S], rfl, .inl (by rw [List.map_map]; exact SqL.of upd_same), ?_, ?_⟩
          · rw [List.map_map, List.length_map, SX.S_len, List.length_singleton]
            rw [show (fun x => x.length) ∘ SX.S = List.length from funext fun l => SX.S_len l]
            have := hsh.1
            omega
          · rw [SX.join_S]
            refine ⟨_, sL _ _ hD, ?_, same_mut (s2.trans sL) nD2, ?_⟩
            · rw [List.length_map, List.length_map, List.length_take, sizeLine_eq]
              omega
            · rw [upd_same, tk, List.map_append]
              rfl
        · rintro H6 ⟨s56, hD2⟩
          rw [tq, List.take_length] at hD2
          have hb6 := hb5.same s56
          have hT6 := hT5.ext fun c o h => s56 c o h
          have hp6 := s56 _ _ hp5
          have ha6 := s56 _ _ ha5
          have eD6 := s56 _ _ eD
          have tw6 := tw.le (TupLe.same s56)
          have nD2b : D2 ≠ b := (hb5.ne_none nD2).1
          k_extra "ri"
          refine toP (fun x H' => x = .str (SX.S (wrS shs)) ∧ Same H6 H') (fun x H7 hx => ?_) (fun Q' q' => ?_)
          · obtain ⟨rfl, s67⟩ := hx
            have hb7 := hb6.same s67
            have eD7 := s67 _ _ eD6
            have tw7 := tw6.le (TupLe.same s67)
            have hD27 := s67 _ _ hD2
            k_extra "rr"
            refine ⟨D, qs, shs, rfl, .inl eD7, tw7, by omega, fun sh m => (hG sh m).shLen, fun H8 s78 => ?_⟩
            k_extra "rr"
            have eD8 := s78 _ _ eD7
            have tw8 := tw7.le (TupLe.same s78)
            refine tupL (SqL.of eD8) fun Tq nTq => ?_
            have s89 := same_upd (o := .tup qs) nTq
            k_extra "rr"
            refine ⟨Tq, qs, shs, rfl, .inr upd_same, tw8.le (TupLe.same s89), by omega, fun sh m => (hG sh m).shLen, fun H9 s9 => ?_⟩
            k_extra "rr"
            refine read_shs hG (by omega) fun p1 vs1 H10 s10 np1 hp1 tp1 => ?_
            k_extra "rr"
            refine read_shs hG (by omega) fun p2 vs2 H11 s11 np2 hp2 tp2 => ?_
            k_extra "rr"
            refine ⟨by k_extra "sz", fun L1 nL1 => ?_⟩
            have sLa := same_upd (o := .lst [.str (SX.S (wrS shs)), .str (SX.S (wrS shs)), .ref p1, .ref p2]) nL1
            have s7B := (((s78.trans s89).trans s9).trans s10).trans s11
            have s7C := s7B.trans sLa
            have hb10 := hb7.same (((s78.trans s89).trans s9).trans s10)
            have nb_p1 : p1 ≠ b := ((hb7.same ((s78.trans s89).trans s9)).ne_none np1).1
            have nb_p2 : p2 ≠ b := (hb10.ne_none np2).1
            have nb_L1 : L1 ≠ b := ((hb7.same s7B).ne_none nL1).1
            have nb_D : D ≠ b := nDb
            have hd1 : Dq b H11 (.list (shs.map wordsD)) (.ref p1) := Dq.lst_mk nb_p1 (s11 _ _ hp1) (tp1.le (TupLe.same s11)).dq
            have hd2 : Dq b H11 (.list (shs.map wordsD)) (.ref p2) := Dq.lst_mk nb_p2 hp2 tp2.dq
            have hdD : Dq b H11 (.list (shs.map wordsD)) (.ref D) := Dq.lst_mk nb_D (s7B _ _ eD7) (tw7.le (TupLe.same s7B)).dq
            have hT11 := hT6.ext fun c o h => (s67.trans s7B) c o h
            have hbB := hb7.same s7B
            have hpB := (s67.trans s7B) _ _ hp6
            have haB := (s67.trans s7B) _ _ ha6
            have hD2B := s7B _ _ hD27
            k_extra "rr"
            refine ⟨by k_extra "sz", fun L2_ nL2 => ?_⟩
            have nb_L2 : L2_ ≠ b := ((hbB.same sLa).ne_none nL2).1
            have sLb := same_upd (o := .lst [.str (SX.S (wrS shs)), .str (SX.S (wrS shs)), .ref D, .ref D]) nL2
            k_extra "rr"
            have hA : Dq b (upd (upd H11 L1 (.lst [.str (SX.S (wrS shs)), .str (SX.S (wrS shs)), .ref p1, .ref p2])) L2_ (.lst [.str (SX.S (wrS shs)), .str (SX.S (wrS shs)), .ref D, .ref D])) (.list [.str (SX.S (wrS shs)), .str (SX.S (wrS shs)), .list (shs.map wordsD), .list (shs.map wordsD)]) (.ref L1) :=
              Dq.lst_mk nb_L1 (sLb _ _ upd_same) ((DqA.cons (Dq.str_mk _) (.cons (Dq.str_mk _) (.cons hd1 (.cons hd2 .nil)))).le (Le.same (sLa.trans sLb)))
            have hB : Dq b (upd (upd H11 L1 (.lst [.str (SX.S (wrS shs)), .str (SX.S (wrS shs)), .ref p1, .ref p2])) L2_ (.lst [.str (SX.S (wrS shs)), .str (SX.S (wrS shs)), .ref D, .ref D])) (.list [.str (SX.S (wrS shs)), .str (SX.S (wrS shs)), .list (shs.map wordsD), .list (shs.map wordsD)]) (.ref L2_) :=
              Dq.lst_mk nb_L2 upd_same ((DqA.cons (Dq.str_mk _) (.cons (Dq.str_mk _) (.cons hdD (.cons hdD .nil)))).le (Le.same (sLa.trans sLb)))
            have hdw := dp_words shs
            have hsw := sz_words shs fun sh m => (hG sh m).len
            refine ⟨_, _, rfl, Dq.alk 9 (by simp only [PyData.depth, PyData.depthAll]; omega) (by simp only [sz, szA]; omega) hA hB, fun H12 s12 => ?_⟩
            have sAB := (sLa.trans sLb).trans s12
            have hb12 := hbB.same sAB
            have hp12 := sAB _ _ hpB
            have ha12 := sAB _ _ haB
            have hT12 := hT11.ext fun c o h => sAB c o h
            have hD212 := sAB _ _ hD2B
            clear hA hB hd1 hd2 hdD
            k_extra "rr"
            refine ⟨b, r, _, rfl, hb12, by omega, by simp only [List.length_map]; omega, fun at_ H13 bb13 hb13 at0 at1 => ?_⟩
            k_extra "rl"
            refine lit_of oddL_te (by decide +kernel) (by decide +kernel) hb13 (fun vx od H14 mod bb14 hb14 hod => ?_)
            obtain ⟨ol, rfl, hol⟩ := oddL_ok mod
            obtain rfl : vx = .str (SX.S ol) := by simpa only [Dq] using hod
            obtain ⟨lb12, hlb12⟩ := hb12.lst
            obtain ⟨lb13, hlb13⟩ := hb13.lst
            have bbx := bb13.trans bb14
            have hp14 := bbx _ _ hp12 nb0
            have ha14 := bbx _ _ ha12 nb1
            have hT14 := Tabs.but (Tabs.but hT12 bb13 hlb12) bb14 hlb13
            have hD214 := bbx _ _ hD212 nD2b
            obtain ⟨ix, rfl⟩ : ∃ ix : Nat, at_ = (ix : Int) := ⟨at_.toNat, by omega⟩
            simp only [List.length_map] at at1
            have hix : ix ≤ shs.length := by omega
            rw [kws_pt] at hD214
            have lP : (kws (shs.map ptL)).length = shs.length := by unfold kws; simp
            k_extra "rr"
            refine slL (SqL.of hD214) fun S1 nS1 => ?_
            rw [cutV_take (by omega)]
            have t1 := same_upd (o := .lst ((kws (shs.map ptL)).take ix)) nS1
            k_extra "rr"
            refine ⟨by k_extra "sz", fun S2 nS2 => ?_⟩
            have t2 := same_upd (o := .lst [.str (SX.S ol)]) nS2
            refine addL (t2 _ _ upd_same) upd_same (by rw [List.length_take, List.length_singleton, sizeLine_eq]; omega) fun S3 nS3 => ?_
            have t3 := same_upd (o := .lst ((kws (shs.map ptL)).take ix ++ [.str (SX.S ol)])) nS3
            have t13 := (t1.trans t2).trans t3
            k_extra "rr"
            refine slL (SqL.of (t13 _ _ hD214)) fun S4 nS4 => ?_
            rw [cutV_drop (by omega)]
            have t4 := same_upd (o := .lst ((kws (shs.map ptL)).drop ix)) nS4
            k_extra "rr"
            refine addL (t4 _ _ upd_same) upd_same (by rw [List.length_append, List.length_take, List.length_drop, List.length_singleton, sizeLine_eq]; omega) fun S5 nS5 => ?_
            have t5 := same_upd (o := .lst ((kws (shs.map ptL)).take ix ++ [.str (SX.S ol)] ++ (kws (shs.map ptL)).drop ix)) nS5
            k_extra "rr"
            refine ⟨by k_extra "sz", fun S6 nS6 => ?_⟩
            have t6 := same_upd (o := .lst [.str "one A"]) nS6
            refine addL (t6 _ _ upd_same) upd_same (by rw [List.length_append, List.length_append, List.length_take, List.length_drop, List.length_singleton, List.length_singleton, sizeLine_eq]; omega) fun S7 nS7 => ?_
            have t7 := same_upd (o := .lst ((kws (shs.map ptL)).take ix ++ [.str (SX.S ol)] ++ (kws (shs.map ptL)).drop ix ++ [.str "one A"])) nS7
            have t17 := (((t13.trans t4).trans t5).trans t6).trans t7
            have hb15 := hb14.same t17
            have hp15 := t17 _ _ hp14
            have ha15 := t17 _ _ ha14
            have hT15 := hT14.ext fun c o h => t17 c o h
            have hS7 : upd (upd (upd (upd (upd (upd (upd H14 S1 (.lst ((kws (shs.map ptL)).take ix))) S2 (.lst [.str (SX.S ol)])) S3 (.lst ((kws (shs.map ptL)).take ix ++ [.str (SX.S ol)]))) S4 (.lst ((kws (shs.map ptL)).drop ix))) S5 (.lst ((kws (shs.map ptL)).take ix ++ [.str (SX.S ol)] ++ (kws (shs.map ptL)).drop ix))) S6 (.lst [.str "one A"])) S7 (.lst ((kws (shs.map ptL)).take ix ++ [.str (SX.S ol)] ++ (kws (shs.map ptL)).drop ix ++ [.str "one A"])) S7 = some (.lst (((lateL shs ix ol).map SX.S).map V.str)) := by
              rw [upd_same, kws_late]
            generalize upd (upd (upd (upd (upd (upd (upd H14 S1 (.lst ((kws (shs.map ptL)).take ix))) S2 (.lst [.str (SX.S ol)])) S3 (.lst ((kws (shs.map ptL)).take ix ++ [.str (SX.S ol)]))) S4 (.lst ((kws (shs.map ptL)).drop ix))) S5 (.lst ((kws (shs.map ptL)).take ix ++ [.str (SX.S ol)] ++ (kws (shs.map ptL)).drop ix))) S6 (.lst [.str "one A"])) S7 (.lst ((kws (shs.map ptL)).take ix ++ [.str (SX.S ol)] ++ (kws (shs.map ptL)).drop ix ++ [.str "one A"])) = H15 at hb15 hp15 ha15 hT15 hS7
            clear t1 t2 t3 t4 t5 t6 t7 t13 t17
            k_extra "rr"
            rw [semi_S]
            refine joinL (zs := (lateL shs ix ol).map SX.S) (SqL.of hS7) ?_ ?_
            · rw [List.map_map, List.length_map, SX.S_len, late_n hix]
              have := sum_le List.length 50 (lateL shs ix ol) (late_len hG hol)
              rw [late_n hix] at this
              rw [show (fun x => x.length) ∘ SX.S = List.length from funext fun l => SX.S_len l]
              show _ + (shs.length + 2) * 2 ≤ _
              omega
            · rw [SX.join_S]
              k_extra "rr"
              refine why_ (T := tabQ PA) hT15 fun H16 e16 hT16 => ?_
              k_extra "rr"
              refine read_bad (reads_late hG (by omega) hix hol) fun HE dd sE eE => why_x exm xf n1 n2 field_at code_at eE fun p3 H17 s3 h3 => ?_
              k_extra "rr"
              refine ⟨by k_extra "sz", fun e2 ne2 => ?_⟩
              have t2 := same_upd (o := .tup [.str "ParseError", .int (ix : Int)]) ne2
              k_extra "rr"
              refine ⟨_, _, rfl, Dq.alk (b := b) (b' := b) 9 (by simp [PyData.depth, PyData.depthAll]) (by simp [sz, szA]) (pe_dq (t2 _ _ h3)) (pe_dq upd_same), fun H18 s18 => ?_⟩
              have sZ := ((sE.trans s3).trans t2).trans s18
              k_extra "rr"
              exact ⟨_, _, _, _, _, _, _, _, _, _, _, _, rfl, (hb15.ext e16).same sZ, sZ _ _ (ext_lst e16 hp15), sZ _ _ (ext_lst e16 ha15), hT16.ext fun c o h => sZ c o h⟩
          · k_extra "rr"
            refine ⟨by k_extra "sz", fun e0 ne0 => ?_⟩
            have se := same_upd (o := .lst ([] : List V)) ne0
            have hD2e := se _ _ hD2
            k_extra "rr"
            have gz : gA ((shs.map fun sh => SX.S (ptL sh)).map PyData.str) = true := by
              rw [List.map_map]
              have e : (PyData.str ∘ fun sh => SX.S (ptL sh)) = (fun w => PyData.str (SX.S w)) ∘ ptL := rfl
              rw [e, ← List.map_map]
              refine gA_strs fun w m => ?_
              obtain ⟨sh, ms, rfl⟩ := List.mem_map.mp m
              exact gS_pt (hG sh ms)
            refine neDd (.lst (SqL.of hD2e) (strs_dq (b := b) _).dp) (.lst (SqL.of upd_same) .nil) (shaped_lst gz fun d m => ?_) shaped_nilL ?_
            · obtain ⟨z, _, rfl⟩ := List.mem_map.mp m
              simp [PyData.depth]
            · cases shs with
              | nil =>
                rw [show (!PyData.eqv (.list (List.map PyData.str (List.map (fun sh => SX.S (ptL sh)) []))) (.list [])) = false by rfl]
                k_extra "rr"
                exact q' _ _ ⟨by rw [none_S]; rfl, se⟩
              | cons sh0 shr =>
                rw [show (!PyData.eqv (.list (List.map PyData.str (List.map (fun sh => SX.S (ptL sh)) (sh0 :: shr)))) (.list [])) = true by simp [PyData.eqv, PyData.eqvAll]]
                k_extra "rr"
                rw [semi_S]
                refine joinL (zs := (sh0 :: shr).map fun sh => SX.S (ptL sh)) (SqL.of hD2e) ?_ ?_
                · rw [List.map_map, List.length_map, SX.S_len]
                  have := sum_le (fun sh => (ptL sh).length) 21 (sh0 :: shr) fun sh hm => (hG sh hm).lenP
                  rw [show (fun x => x.length) ∘ (fun sh => SX.S (ptL sh)) = (fun sh => (ptL sh).length) from funext fun l => SX.S_len _]
                  show _ + (sh0 :: shr).length * 2 ≤ _
                  omega
                · rw [show ((sh0 :: shr).map fun sh => SX.S (ptL sh)) = ((sh0 :: shr).map ptL).map SX.S by rw [List.map_map]; rfl, SX.join_S]
                  exact q' _ _ ⟨rfl, se⟩
    · rintro σ H3 ⟨v3, v4, v5, v6, v7, v8, v9, v10, v11, v12, v13, v14, rfl, hb3, hp3, ha3, hT3⟩
      k_extra "rr"
      refine ⟨hT3, fun f0 c0 H4 e4 hT4 nf0 hc0 hf0 => ?_⟩
      have A0 : LamAt P w K mg base ["_law_script", "_law_bag_z", "_law_names_z", "_law_turn", "_law_some", "_law_parts", "_law_text_z", "_law_told", "_law_at", "_law_odd", "_law_late", "_law_asks", "_law_k", "_law_shape_z", "_law_ask"] "law.<locals>." (spRead C) "" H4 f0 := LamAt.mk' hf0 hc0 ⟨⟨[], LamV.LamN.any (sc := defScope s_law) (LamV.lamN_by (by dsimp only; decide +kernel)) rfl⟩, rfl, rfl, fun _ => rfl, (LamV.bindL0 (fun _ _ _ => rfl)), fun X e1 e2 e3 e4 e5 A outer s H E f hrL => read_body c_read_shapes e1 e2 e3 e4 e5 hrL rfl⟩ (fun _ _ => trivial)
      clear hf0 hc0
      k_extra "rr"
      refine ⟨hT4, fun f1 c1 d1 H5 e5 hT5 nf1 hc1 hd1 hf1 => ?_⟩
      have A1 : LamAt P w K mg base ["_law_script", "_law_bag_z", "_law_names_z", "_law_turn", "_law_some", "_law_parts", "_law_text_z", "_law_told", "_law_at", "_law_odd", "_law_late", "_law_asks", "_law_k", "_law_shape_z", "_law_ask"] "law.<locals>." (spRead C) "one a;one b" H5 f1 := LamAt.mk' hf1 hc1 ⟨⟨["_law_a"], LamV.LamN.any (sc := defScope s_law) (LamV.lamN_by (by dsimp only; decide +kernel)) rfl⟩, rfl, rfl, fun _ => rfl, (bindL1' (t := d1) (i := 0) (x := "_law_a") rfl rfl (fun _ _ _ => rfl) (fun _ _ _ _ => by rfl)), fun X e1 e2 e3 e4 e5 A outer s H E f hrL => read_body c_read_shapes e1 e2 e3 e4 e5 hrL rfl⟩ (fun _ e => e _ _ hd1 fun ps z => by cases z)
      clear hf1 hc1
      k_extra "rr"
      refine ⟨hT5, fun f2 c2 d2 H6 e6 hT6 nf2 hc2 hd2 hf2 => ?_⟩
      have A2 : LamAt P w K mg base ["_law_script", "_law_bag_z", "_law_names_z", "_law_turn", "_law_some", "_law_parts", "_law_text_z", "_law_told", "_law_at", "_law_odd", "_law_late", "_law_asks", "_law_k", "_law_shape_z", "_law_ask"] "law.<locals>." (spRead C) "one a; " H6 f2 := LamAt.mk' hf2 hc2 ⟨⟨["_law_b"], LamV.LamN.any (sc := defScope s_law) (LamV.lamN_by (by dsimp only; decide +kernel)) rfl⟩, rfl, rfl, fun _ => rfl, (bindL1' (t := d2) (i := 0) (x := "_law_b") rfl rfl (fun _ _ _ => rfl) (fun _ _ _ _ => by rfl)), fun X e1 e2 e3 e4 e5 A outer s H E f hrL => read_body c_read_shapes e1 e2 e3 e4 e5 hrL rfl⟩ (fun _ e => e _ _ hd2 fun ps z => by cases z)
      clear hf2 hc2
      k_extra "rr"
      refine ⟨hT6, fun f3 c3 d3 H7 e7 hT7 nf3 hc3 hd3 hf3 => ?_⟩
      have A3 : LamAt P w K mg base ["_law_script", "_law_bag_z", "_law_names_z", "_law_turn", "_law_some", "_law_parts", "_law_text_z", "_law_told", "_law_at", "_law_odd", "_law_late", "_law_asks", "_law_k", "_law_shape_z", "_law_ask"] "law.<locals>." (spRead C) "none; one a" H7 f3 := LamAt.mk' hf3 hc3 ⟨⟨["_law_c"], LamV.LamN.any (sc := defScope s_law) (LamV.lamN_by (by dsimp only; decide +kernel)) rfl⟩, rfl, rfl, fun _ => rfl, (bindL1' (t := d3) (i := 0) (x := "_law_c") rfl rfl (fun _ _ _ => rfl) (fun _ _ _ _ => by rfl)), fun X e1 e2 e3 e4 e5 A outer s H E f hrL => read_body c_read_shapes e1 e2 e3 e4 e5 hrL rfl⟩ (fun _ e => e _ _ hd3 fun ps z => by cases z)
      clear hf3 hc3
      k_extra "rr"
      refine ⟨by k_extra "sz", fun L nL => ?_⟩
      have sL := same_upd (o := .lst [.ref f0, .ref f1, .ref f2, .ref f3]) nL
      have B0 := (((A0.ext e5).ext e6).ext e7).same sL
      have B1 := ((A1.ext e6).ext e7).same sL
      have B2 := (A2.ext e7).same sL
      have B3 := A3.same sL
      have hL : upd H7 L (.lst [.ref f0, .ref f1, .ref f2, .ref f3]) L = some (.lst [.ref f0, .ref f1, .ref f2, .ref f3]) := upd_same
      clear A0 A1 A2 A3
      generalize upd H7 L (.lst [.ref f0, .ref f1, .ref f2, .ref f3]) = H8 at B0 B1 B2 B3 hL
      k_extra "rr"
      intro D nD
      refine lc_it (walk_list (K := K) (a := L) (xs := [.ref f0, .ref f1, .ref f2, .ref f3])) (fun i H' => Same H8 H' ∧ ∃ qs : List V, H' D = some (.lst qs) ∧ DqA D H' (asksD.take i) qs) ⟨same_upd nD, [], upd_same, .nil⟩ (fun i H' _ s => SqL.of (s.1 _ _ hL)) ?_ ?_
      · rintro i x H2' H3' hi ⟨s, qs, hD, hq⟩ ⟨rfl, hxi⟩
        have hqn := hq.len
        have B0' := B0.same s
        have B1' := B1.same s
        have B2' := B2.same s
        have B3' := B3.same s
        have hi4 : i < 4 := by simpa using (List.getElem?_eq_some_iff.mp hxi).1
        have stp : ∀ (d : PyData) (p3 : Addr) (H4' : Hp), asksD[i]? = some d → Same H3' H4' → Dq D H4' d (.ref p3) → ∃ l, H4' D = some (.lst l) ∧ l.length + 1 ≤ sizeLine ∧ (Same H8 (upd H4' D (.lst (l ++ [.ref p3]))) ∧ ∃ qs : List V, upd H4' D (.lst (l ++ [.ref p3])) D = some (.lst qs) ∧ DqA D (upd H4' D (.lst (l ++ [.ref p3]))) (asksD.take (i + 1)) qs) := by
          intro d p3 H4' hd s3 h3
          have hD4 := s3 _ _ hD
          refine ⟨qs, hD4, by rw [hqn, List.length_take, sizeLine_eq]; omega, same_mut (s.trans s3) nD, _, upd_same, ?_⟩
          rw [List.take_add_one, hd]
          exact ((hq.le (Le.same s3)).app (.cons h3 .nil)).le (Le.set hD4)
        k_extra "rr"
        refine ⟨rfl, ?_⟩
        unfold tWhyV
        k_extra "rr"
        rcases i with _ | _ | _ | _ | i
        · cases hxi
          refine B0'.why ?_
          rw [ask0_S]
          refine ask_x exm xf n1 n2 [] 0 ask0_ok fun p3 H4' s3 h3 => ?_
          exact stp _ p3 H4' rfl s3 (Dq.tup_mk h3 (.cons (Dq.str_mk _) (.cons (Dq.int_mk _) .nil)))
        · cases hxi
          refine B1'.why ?_
          rw [ask1_S]
          refine ask_x exm xf n1 n2 ask1 0 ask1_ok fun p3 H4' s3 h3 => ?_
          exact stp _ p3 H4' rfl s3 (Dq.tup_mk h3 (.cons (Dq.str_mk _) (.cons (Dq.int_mk _) .nil)))
        · cases hxi
          refine B2'.why ?_
          rw [ask2_S]
          refine ask_x exm xf n1 n2 ask2 1 ask2_ok fun p3 H4' s3 h3 => ?_
          exact stp _ p3 H4' rfl s3 (Dq.tup_mk h3 (.cons (Dq.str_mk _) (.cons (Dq.int_mk _) .nil)))
        · cases hxi
          refine B3'.why ?_
          rw [ask3_S]
          refine ask_x exm xf n1 n2 ask3 0 ask3_ok fun p3 H4' s3 h3 => ?_
          exact stp _ p3 H4' rfl s3 (Dq.tup_mk h3 (.cons (Dq.str_mk _) (.cons (Dq.int_mk _) .nil)))
        · omega
      · rintro H9 ⟨s89, qs, hD9, hq9⟩
        rw [show asksD.take ([V.ref f0, .ref f1, .ref f2, .ref f3] : List V).length = asksD from rfl] at hq9
        k_extra "rr"
        refine ⟨by k_extra "sz", fun p1 np1 => ?_⟩
        have w1 := same_upd (o := .tup [.str "ParseError", .int 0]) np1
        k_extra "rr"
        refine ⟨by k_extra "sz", fun p2 np2 => ?_⟩
        have w2 := same_upd (o := .tup [.str "ParseError", .int 0]) np2
        k_extra "rr"
        refine ⟨by k_extra "sz", fun p3 np3 => ?_⟩
        have w3 := same_upd (o := .tup [.str "ParseError", .int 1]) np3
        k_extra "rr"
        refine ⟨by k_extra "sz", fun p4 np4 => ?_⟩
        have w4 := same_upd (o := .tup [.str "ParseError", .int 0]) np4
        k_extra "rr"
        refine ⟨by k_extra "sz", fun pL npL => ?_⟩
        have w5 := same_upd (o := .lst [.ref p1, .ref p2, .ref p3, .ref p4]) npL
        k_extra "rr"
        have wq := (((w1.trans w2).trans w3).trans w4).trans w5
        have hB : DqA D _ asksD [.ref p1, .ref p2, .ref p3, .ref p4] := .cons (pe_dq (((w2.trans w3).trans w4).trans w5 _ _ upd_same)) (.cons (pe_dq ((w3.trans w4).trans w5 _ _ upd_same)) (.cons (pe_dq (w4.trans w5 _ _ upd_same)) (.cons (pe_dq (w5 _ _ upd_same)) .nil)))
        refine neDd (d := .list asksD) (e := .list asksD) (.lst (SqL.of (wq _ _ hD9)) (hq9.le (Le.same wq)).dp) (.lst (SqL.of upd_same) hB.dp) asks_sh asks_sh ?_
        rw [asks_eqv]
        k_extra "rr"
        refine ⟨by k_extra "sz", fun e0 ne0 => ?_⟩
        k_extra "rr"
        refine ⟨e0, [], [], rfl, .inl upd_same, rfl, by simp, (fun _ m => by cases m), fun Ha sa => ?_⟩
        k_extra "rr"
        rw [show decide (SX.S (wrS []) = Str.ofString "none") = true by decide +kernel]
        k_extra "rr"
        rw [none_S]
        refine read_none fun q1 Hb sb nq1 hq1 => ?_
        k_extra "rr"
        refine ⟨by k_extra "sz", fun e1 ne1 => ?_⟩
        k_extra "rr"
        refine eqDd (d := .list []) (e := .list []) (.lst (SqL.of (same_upd ne1 _ _ hq1)) .nil) (.lst (SqL.of upd_same) .nil) shaped_nilL shaped_nilL ?_
        rw [show PyData.eqv (.list []) (.list []) = true by rfl]
        k_extra "rr"
        rw [ask4_S]
        refine read_good (readsB_ok ask4_ok) fun q2 vs Hc sc nq2 hq2 tq2 => ?_
        rw [ask4_rd] at tq2
        k_extra "rr"
        refine ⟨by k_extra "sz", fun e2 ne2 => ?_⟩
        k_extra "rr"
        refine ⟨by k_extra "sz", fun e3 ne3 => ?_⟩
        k_extra "rr"
        have z2 := same_upd (o := .tup [.str "one", .str "none"]) ne2
        have z3 := same_upd (o := .lst [.ref e2]) ne3
        refine eqDd (d := .list [wordsD [wOne, noneL]]) (e := .list [.tuple [.str "one", .str "none"]]) (.lst (SqL.of (z3 _ _ (z2 _ _ hq2))) ((tq2.le (TupLe.same (z2.trans z3))).dq (b := q2)).dp) (.lst (SqL.of upd_same) (DqA.cons (b := q2) (Dq.tup_mk (z3 _ _ upd_same) (.cons (Dq.str_mk _) (.cons (Dq.str_mk _) .nil))) .nil).dp) one_sh2 one_sh ?_
        rw [one_eqv]
        k_extra "rr"
        exact q _
end

/-! ### what the top has written, and the head -/
theorem kb1 {K : PySem.W.Frag} {x p : Str} {st : Stmt} {f : Addr} {fd : FuncData} (F : Fun K x x st f fd)
    (h : ∀ (kV doc pm : Value) (an : Option Addr) (cdv ct u : Value), bindArgs (PySem.W.fnOf x x (defArgs st) (defBody st) (defScope st) .none kV doc pm an cdv ct) ⟨[], [(p, u)]⟩ = pure [(p, u)])
    (h2 : ∀ (kV doc pm : Value) (an : Option Addr) (cdv ct u : Value), bindArgs (PySem.W.fnOf x x (defArgs st) (defBody st) (defScope st) .none kV doc pm an cdv ct) ⟨[u], []⟩ = pure [(p, u)]) :
    KBinds K fd [p] [p] (fun us ws => us ++ ws) (fun us ws => us ++ ws) := by
  obtain ⟨oc, od, kV, doc, pm, an, cdv, ct, osl, rfl, lk, hcd⟩ := F.ex
  refine ⟨fun s us ws _ hl => ?_, fun a b => a.append b⟩
  match us, ws, hl with
  | [], [u], _ => exact .of_eq (h kV doc pm an cdv ct u)
  | [u], [], _ => exact .of_eq (h2 kV doc pm an cdv ct u)
theorem cal_alike {P : Program} {w : World} {K : PySem.W.Frag} {mg : Str → Option Value} {base : Heap} {f : Addr} {fd : FuncData} (F : Fun K "_law_alike" "_law_alike" s_law_alike f fd) (T : Txt mg)
    (m : mg "_law_alike" = some (.ref f)) (k : PySem.W.keepIn K (.ref f) = true) (b : Binds K fd ["_law_found", "_law_due"] []) : ∀ n, Cal P w K mg base (n + 1) "_law_alike" (spAlike K n)
  | 0 => ⟨_, _, _, ok_law_alike0 F, m, k, b⟩
  | n + 1 => ⟨_, _, _, ok_law_alike1 F T (cal_alike F T m k b n), m, k, b⟩
theorem tab_sizes {K : PySem.W.Frag} {w : World} {aS : Addr} {t1 t2 t3 u1 u2 u3 : Tok} {n : Nat} (h : K.lookup aS = some ⟨.type "dict", none, .dict #[⟨PyData.keyHash w.params "one", .str "one" t1, .int 2 u1⟩, ⟨PyData.keyHash w.params "within", .str "within" t2, .int 3 u2⟩, ⟨PyData.keyHash w.params "ahead", .str "ahead" t3, .int 3 u3⟩] n, #[]⟩) (hs : (aS == sysModules) = false) : KTab K w aS sizesT := by
  refine ⟨_, _, h, ?_, hs, fun z => ?_⟩
  · exact ⟨⟨_, _, rfl, rfl⟩, ⟨_, _, rfl, rfl⟩, ⟨_, _, rfl, rfl⟩, trivial⟩
  · show RelO (sizesT.lookup z) (findBy Value.isStrOf #[_, _, _] z)
    unfold findBy sizesT
    by_cases h1 : z = "one"
    · subst h1
      exact ⟨u1, rfl⟩
    by_cases h2 : z = "within"
    · subst h2
      exact ⟨u2, rfl⟩
    by_cases h3 : z = "ahead"
    · subst h3
      exact ⟨u3, rfl⟩
    have n1 : (z == ("one" : Str)) = false := by simpa using h1
    have n2 : (z == ("within" : Str)) = false := by simpa using h2
    have n3 : (z == ("ahead" : Str)) = false := by simpa using h3
    have m1 : (("one" : Str) == z) = false := by simpa using fun e => h1 (Eq.symm e)
    have m2 : (("within" : Str) == z) = false := by simpa using fun e => h2 (Eq.symm e)
    have m3 : (("ahead" : Str) == z) = false := by simpa using fun e => h3 (Eq.symm e)
    simp [List.lookup, n1, n2, n3, Value.isStrOf, m1, m2, m3, RelO]
theorem all_mk {l : PySem.W.OpenLaw} {w : World} {K : PySem.W.Frag} {h : Heap} {mg : Str → Option Value} {fa f_is_word f_is_kind f_is_shape f_shapes_text f_read_shapes f_law_bag f_law_take f_law_of f_law_words f_law_names f_law_field f_law_why f_law_alike f_law_shape f_law cA PA : Addr} (X : K.In h) (G : h.Ns mainGlobals mg) (hfa : mg "law" = some (.ref fa))
    {od_is_word an_is_word od_is_kind an_is_kind od_is_shape an_is_shape od_shapes_text an_shapes_text od_read_shapes an_read_shapes od_law_bag an_law_bag od_law_take an_law_take od_law_of an_law_of od_law_words an_law_words od_law_names an_law_names od_law_field an_law_field od_law_why an_law_why od_law_alike an_law_alike od_law_shape an_law_shape od_law an_law : Option Addr} {sl_is_word sl_is_kind sl_is_shape sl_shapes_text sl_read_shapes sl_law_bag sl_law_take sl_law_of sl_law_words sl_law_names sl_law_field sl_law_why sl_law_alike sl_law_shape sl_law : Array (Option Value)} {oc_is_word kV_is_word dc_is_word pm_is_word cd_is_word ct_is_word oc_is_kind kV_is_kind dc_is_kind pm_is_kind cd_is_kind ct_is_kind oc_is_shape kV_is_shape dc_is_shape pm_is_shape cd_is_shape ct_is_shape oc_shapes_text kV_shapes_text dc_shapes_text pm_shapes_text cd_shapes_text ct_shapes_text oc_read_shapes kV_read_shapes dc_read_shapes pm_read_shapes cd_read_shapes ct_read_shapes oc_law_bag kV_law_bag dc_law_bag pm_law_bag cd_law_bag ct_law_bag oc_law_take kV_law_take dc_law_take pm_law_take cd_law_take ct_law_take oc_law_of kV_law_of dc_law_of pm_law_of cd_law_of ct_law_of oc_law_words kV_law_words dc_law_words pm_law_words cd_law_words ct_law_words oc_law_names kV_law_names dc_law_names pm_law_names cd_law_names ct_law_names oc_law_field kV_law_field dc_law_field pm_law_field cd_law_field ct_law_field oc_law_why kV_law_why dc_law_why pm_law_why cd_law_why ct_law_why oc_law_alike kV_law_alike dc_law_alike pm_law_alike cd_law_alike ct_law_alike oc_law_shape kV_law_shape dc_law_shape pm_law_shape cd_law_shape ct_law_shape oc_law kV_law dc_law pm_law ct_law : Value} {t_SMALL t_REST t_MOST_LETTERS : Tok}
    (a_is_word : PySem.W.nsIn K mainGlobals "is_word" = some (some (.ref f_is_word))) (l_is_word : K.lookup f_is_word = some ⟨oc_is_word, od_is_word, .func (PySem.W.fnOf "is_word" "is_word" (defArgs s_is_word) (defBody s_is_word) (defScope s_is_word) .none kV_is_word dc_is_word pm_is_word an_is_word cd_is_word ct_is_word), sl_is_word⟩) (c_is_word : PySem.W.codeIn K cd_is_word "is_word" = true) (k_is_word : PySem.W.keepIn K (.ref f_is_word) = true)
    (a_is_kind : PySem.W.nsIn K mainGlobals "is_kind" = some (some (.ref f_is_kind))) (l_is_kind : K.lookup f_is_kind = some ⟨oc_is_kind, od_is_kind, .func (PySem.W.fnOf "is_kind" "is_kind" (defArgs s_is_kind) (defBody s_is_kind) (defScope s_is_kind) .none kV_is_kind dc_is_kind pm_is_kind an_is_kind cd_is_kind ct_is_kind), sl_is_kind⟩) (c_is_kind : PySem.W.codeIn K cd_is_kind "is_kind" = true) (k_is_kind : PySem.W.keepIn K (.ref f_is_kind) = true)
    (a_is_shape : PySem.W.nsIn K mainGlobals "is_shape" = some (some (.ref f_is_shape))) (l_is_shape : K.lookup f_is_shape = some ⟨oc_is_shape, od_is_shape, .func (PySem.W.fnOf "is_shape" "is_shape" (defArgs s_is_shape) (defBody s_is_shape) (defScope s_is_shape) .none kV_is_shape dc_is_shape pm_is_shape an_is_shape cd_is_shape ct_is_shape), sl_is_shape⟩) (c_is_shape : PySem.W.codeIn K cd_is_shape "is_shape" = true) (k_is_shape : PySem.W.keepIn K (.ref f_is_shape) = true)
    (a_shapes_text : PySem.W.nsIn K mainGlobals "shapes_text" = some (some (.ref f_shapes_text))) (l_shapes_text : K.lookup f_shapes_text = some ⟨oc_shapes_text, od_shapes_text, .func (PySem.W.fnOf "shapes_text" "shapes_text" (defArgs s_shapes_text) (defBody s_shapes_text) (defScope s_shapes_text) .none kV_shapes_text dc_shapes_text pm_shapes_text an_shapes_text cd_shapes_text ct_shapes_text), sl_shapes_text⟩) (c_shapes_text : PySem.W.codeIn K cd_shapes_text "shapes_text" = true) (k_shapes_text : PySem.W.keepIn K (.ref f_shapes_text) = true)
    (a_read_shapes : PySem.W.nsIn K mainGlobals "read_shapes" = some (some (.ref f_read_shapes))) (l_read_shapes : K.lookup f_read_shapes = some ⟨oc_read_shapes, od_read_shapes, .func (PySem.W.fnOf "read_shapes" "read_shapes" (defArgs s_read_shapes) (defBody s_read_shapes) (defScope s_read_shapes) .none kV_read_shapes dc_read_shapes pm_read_shapes an_read_shapes cd_read_shapes ct_read_shapes), sl_read_shapes⟩) (c_read_shapes : PySem.W.codeIn K cd_read_shapes "read_shapes" = true) (k_read_shapes : PySem.W.keepIn K (.ref f_read_shapes) = true)
    (a_law_bag : PySem.W.nsIn K mainGlobals "_law_bag" = some (some (.ref f_law_bag))) (l_law_bag : K.lookup f_law_bag = some ⟨oc_law_bag, od_law_bag, .func (PySem.W.fnOf "_law_bag" "_law_bag" (defArgs s_law_bag) (defBody s_law_bag) (defScope s_law_bag) .none kV_law_bag dc_law_bag pm_law_bag an_law_bag cd_law_bag ct_law_bag), sl_law_bag⟩) (c_law_bag : PySem.W.codeIn K cd_law_bag "_law_bag" = true) (k_law_bag : PySem.W.keepIn K (.ref f_law_bag) = true)
    (a_law_take : PySem.W.nsIn K mainGlobals "_law_take" = some (some (.ref f_law_take))) (l_law_take : K.lookup f_law_take = some ⟨oc_law_take, od_law_take, .func (PySem.W.fnOf "_law_take" "_law_take" (defArgs s_law_take) (defBody s_law_take) (defScope s_law_take) .none kV_law_take dc_law_take pm_law_take an_law_take cd_law_take ct_law_take), sl_law_take⟩) (c_law_take : PySem.W.codeIn K cd_law_take "_law_take" = true) (k_law_take : PySem.W.keepIn K (.ref f_law_take) = true)
    (a_law_of : PySem.W.nsIn K mainGlobals "_law_of" = some (some (.ref f_law_of))) (l_law_of : K.lookup f_law_of = some ⟨oc_law_of, od_law_of, .func (PySem.W.fnOf "_law_of" "_law_of" (defArgs s_law_of) (defBody s_law_of) (defScope s_law_of) .none kV_law_of dc_law_of pm_law_of an_law_of cd_law_of ct_law_of), sl_law_of⟩) (c_law_of : PySem.W.codeIn K cd_law_of "_law_of" = true) (k_law_of : PySem.W.keepIn K (.ref f_law_of) = true)
    (a_law_words : PySem.W.nsIn K mainGlobals "_law_words" = some (some (.ref f_law_words))) (l_law_words : K.lookup f_law_words = some ⟨oc_law_words, od_law_words, .func (PySem.W.fnOf "_law_words" "_law_words" (defArgs s_law_words) (defBody s_law_words) (defScope s_law_words) .none kV_law_words dc_law_words pm_law_words an_law_words cd_law_words ct_law_words), sl_law_words⟩) (c_law_words : PySem.W.codeIn K cd_law_words "_law_words" = true) (k_law_words : PySem.W.keepIn K (.ref f_law_words) = true)
    (a_law_names : PySem.W.nsIn K mainGlobals "_law_names" = some (some (.ref f_law_names))) (l_law_names : K.lookup f_law_names = some ⟨oc_law_names, od_law_names, .func (PySem.W.fnOf "_law_names" "_law_names" (defArgs s_law_names) (defBody s_law_names) (defScope s_law_names) .none kV_law_names dc_law_names pm_law_names an_law_names cd_law_names ct_law_names), sl_law_names⟩) (c_law_names : PySem.W.codeIn K cd_law_names "_law_names" = true) (k_law_names : PySem.W.keepIn K (.ref f_law_names) = true)
    (a_law_field : PySem.W.nsIn K mainGlobals "_law_field" = some (some (.ref f_law_field))) (l_law_field : K.lookup f_law_field = some ⟨oc_law_field, od_law_field, .func (PySem.W.fnOf "_law_field" "_law_field" (defArgs s_law_field) (defBody s_law_field) (defScope s_law_field) .none kV_law_field dc_law_field pm_law_field an_law_field cd_law_field ct_law_field), sl_law_field⟩) (c_law_field : PySem.W.codeIn K cd_law_field "_law_field" = true) (k_law_field : PySem.W.keepIn K (.ref f_law_field) = true)
    (a_law_why : PySem.W.nsIn K mainGlobals "_law_why" = some (some (.ref f_law_why))) (l_law_why : K.lookup f_law_why = some ⟨oc_law_why, od_law_why, .func (PySem.W.fnOf "_law_why" "_law_why" (defArgs s_law_why) (defBody s_law_why) (defScope s_law_why) .none kV_law_why dc_law_why pm_law_why an_law_why cd_law_why ct_law_why), sl_law_why⟩) (c_law_why : PySem.W.codeIn K cd_law_why "_law_why" = true) (k_law_why : PySem.W.keepIn K (.ref f_law_why) = true)
    (a_law_alike : PySem.W.nsIn K mainGlobals "_law_alike" = some (some (.ref f_law_alike))) (l_law_alike : K.lookup f_law_alike = some ⟨oc_law_alike, od_law_alike, .func (PySem.W.fnOf "_law_alike" "_law_alike" (defArgs s_law_alike) (defBody s_law_alike) (defScope s_law_alike) .none kV_law_alike dc_law_alike pm_law_alike an_law_alike cd_law_alike ct_law_alike), sl_law_alike⟩) (c_law_alike : PySem.W.codeIn K cd_law_alike "_law_alike" = true) (k_law_alike : PySem.W.keepIn K (.ref f_law_alike) = true)
    (a_law_shape : PySem.W.nsIn K mainGlobals "_law_shape" = some (some (.ref f_law_shape))) (l_law_shape : K.lookup f_law_shape = some ⟨oc_law_shape, od_law_shape, .func (PySem.W.fnOf "_law_shape" "_law_shape" (defArgs s_law_shape) (defBody s_law_shape) (defScope s_law_shape) .none kV_law_shape dc_law_shape pm_law_shape an_law_shape cd_law_shape ct_law_shape), sl_law_shape⟩) (c_law_shape : PySem.W.codeIn K cd_law_shape "_law_shape" = true) (k_law_shape : PySem.W.keepIn K (.ref f_law_shape) = true)
    (a_law : PySem.W.nsIn K mainGlobals "law" = some (some (.ref f_law))) (l_law : K.lookup f_law = some ⟨oc_law, od_law, .func (PySem.W.fnOf "law" "law" (defArgs s_law) (defBody s_law) (defScope s_law) .none kV_law dc_law pm_law an_law (.ref cA) ct_law), sl_law⟩) (c_law : PySem.W.codeIn K (.ref cA) "law" = true) (k_law : PySem.W.keepIn K (.ref f_law) = true)
    {occ : Value} {odc : Option Addr} {vsc : Array Value} {slc : Array (Option Value)} (lc_law : K.lookup cA = some ⟨occ, odc, .fields vsc, slc⟩) (eP_law : vsc[11]? = some (.ref PA)) (nt_law : PySem.W.noTabs K = true)
    {w_GroveError : Addr} (aw_GroveError : PySem.W.nsIn K mainGlobals "GroveError" = some (some (.ref w_GroveError))) (ew_GroveError : PySem.W.subIn K (.ref w_GroveError) (.type "BaseException") = some true) (iw_GroveError : PySem.W.isClsIn K w_GroveError = true) (tw_GroveError : PySem.W.typeIn K (.ref w_GroveError) = some (.type "type"))
    {w_Missing : Addr} (aw_Missing : PySem.W.nsIn K mainGlobals "Missing" = some (some (.ref w_Missing))) (ew_Missing : PySem.W.subIn K (.ref w_Missing) (.type "BaseException") = some true) (iw_Missing : PySem.W.isClsIn K w_Missing = true) (tw_Missing : PySem.W.typeIn K (.ref w_Missing) = some (.type "type"))
    {w_NothingLeft : Addr} (aw_NothingLeft : PySem.W.nsIn K mainGlobals "NothingLeft" = some (some (.ref w_NothingLeft))) (ew_NothingLeft : PySem.W.subIn K (.ref w_NothingLeft) (.type "BaseException") = some true) (iw_NothingLeft : PySem.W.isClsIn K w_NothingLeft = true) (tw_NothingLeft : PySem.W.typeIn K (.ref w_NothingLeft) = some (.type "type"))
    {C_ParseError fi_ParseError N_ParseError : Addr} {nm_ParseError q_ParseError : Str} {bs_ParseError bm_ParseError : List Value} {sn_ParseError : List Str} {sub_ParseError : List Value} {ab_ParseError : Bool} {col_ParseError : Option Bool} {dd_ParseError : Option Addr} {k0_ParseError k1_ParseError k2_ParseError k3_ParseError k5_ParseError : Option Value} {oci_ParseError kVi_ParseError dci_ParseError pmi_ParseError cdi_ParseError cti_ParseError : Value} {odi_ParseError ani_ParseError : Option Addr} {sli_ParseError : Array (Option Value)}
    (aC_ParseError : PySem.W.nsIn K mainGlobals "ParseError" = some (some (.ref C_ParseError))) (xL_ParseError : K.lookup C_ParseError = some (excClassObj nm_ParseError q_ParseError C_ParseError N_ParseError bs_ParseError bm_ParseError true sn_ParseError sub_ParseError ab_ParseError col_ParseError dd_ParseError k0_ParseError k1_ParseError k2_ParseError k3_ParseError k5_ParseError "ValueError.__new__")) (hb_ParseError : PySem.HandSPX.refsVE bm_ParseError = true) (sa_ParseError : PySem.W.findIn K (.ref C_ParseError) "__setattr__" = some (some (.builtin "object.__setattr__"))) (ga_ParseError : PySem.W.findIn K (.ref C_ParseError) "__getattribute__" = some (some (.builtin "BaseException.__getattribute__"))) (gg_ParseError : PySem.W.findIn K (.ref C_ParseError) "__getattr__" = some none) (hd_ParseError : PySem.W.hasDictIn K C_ParseError = true) (kC_ParseError : PySem.W.keepIn K (.ref C_ParseError) = true) (eC_ParseError : PySem.W.subIn K (.ref C_ParseError) (.type "BaseException") = some true) (tC_ParseError : PySem.W.typeIn K (.ref C_ParseError) = some (.type "type")) (nc_ParseError : PySem.W.findIn K (.ref C_ParseError) "code" = some none) (nf_ParseError : PySem.W.findIn K (.ref C_ParseError) "at" = some none) (ai_ParseError : PySem.W.findIn K (.ref C_ParseError) "__init__" = some (some (.ref fi_ParseError))) (ti_ParseError : PySem.W.typeIn K (.ref fi_ParseError) = some (.type "function")) (li_ParseError : K.lookup fi_ParseError = some ⟨oci_ParseError, odi_ParseError, .func (PySem.W.fnOf "__init__" "ParseError.__init__" (defArgs s_ParseError_init) (defBody s_ParseError_init) (defScope s_ParseError_init) .none kVi_ParseError dci_ParseError pmi_ParseError ani_ParseError cdi_ParseError cti_ParseError), sli_ParseError⟩) (ci_ParseError : PySem.W.codeIn K cdi_ParseError "ParseError.__init__" = true) (ki_ParseError : PySem.W.keepIn K (.ref fi_ParseError) = true)
    (sw_ParseError_GroveError : PySem.W.subIn K (.ref C_ParseError) (.ref w_GroveError) = some true)
    (sw_ParseError_Missing : PySem.W.subIn K (.ref C_ParseError) (.ref w_Missing) = some false)
    (sw_ParseError_NothingLeft : PySem.W.subIn K (.ref C_ParseError) (.ref w_NothingLeft) = some false)
    {aS_SIZES : Addr} {nS_SIZES : Nat} {tk0_SIZES tv0_SIZES tk1_SIZES tv1_SIZES tk2_SIZES tv2_SIZES : Tok}
    (aD_SIZES : PySem.W.nsIn K mainGlobals "SIZES" = some (some (.ref aS_SIZES))) (lD_SIZES : K.lookup aS_SIZES = some ⟨.type "dict", none, .dict #[⟨PyData.keyHash w.params "one", .str "one" tk0_SIZES, .int 2 tv0_SIZES⟩, ⟨PyData.keyHash w.params "within", .str "within" tk1_SIZES, .int 3 tv1_SIZES⟩, ⟨PyData.keyHash w.params "ahead", .str "ahead" tk2_SIZES, .int 3 tv2_SIZES⟩] nS_SIZES, #[]⟩) (sD_SIZES : (aS_SIZES == sysModules) = false)
    (z_len : PySem.W.nsIn K mainGlobals "len" = some none) (z_int : PySem.W.nsIn K mainGlobals "int" = some none) (z_range : PySem.W.nsIn K mainGlobals "range" = some none) (z_isinstance : PySem.W.nsIn K mainGlobals "isinstance" = some none) (z_all : PySem.W.nsIn K mainGlobals "all" = some none) (z_list : PySem.W.nsIn K mainGlobals "list" = some none) (z_tuple : PySem.W.nsIn K mainGlobals "tuple" = some none) (z_str : PySem.W.nsIn K mainGlobals "str" = some none) (z_sorted : PySem.W.nsIn K mainGlobals "sorted" = some none) (z_zip : PySem.W.nsIn K mainGlobals "zip" = some none) (z_enumerate : PySem.W.nsIn K mainGlobals "enumerate" = some none) (z_bool : PySem.W.nsIn K mainGlobals "bool" = some none) (z_dict : PySem.W.nsIn K mainGlobals "dict" = some none) (v_SMALL : PySem.W.nsIn K mainGlobals "SMALL" = some (some (.str "abcdefghijklmnopqrstuvwxyz" t_SMALL))) (v_REST : PySem.W.nsIn K mainGlobals "REST" = some (some (.str "rest" t_REST))) (v_MOST_LETTERS : PySem.W.nsIn K mainGlobals "MOST_LETTERS" = some (some (.int 6 t_MOST_LETTERS))) :
    ∃ (fd : FuncData) (c P : Addr), PySem.W.tabIn K "law" = some (c, P) ∧ PySem.W.noTabs K = true ∧ (∀ (s : Shared) (v : Value), BindsTo s fd ⟨[v], []⟩ [("_law_script", v)]) ∧ ∀ base : Heap, K.In base → base.Ns mainGlobals mg → LamX.TabB base mg c P → FnOk l.prog w K mg base CX0 61 fa fd ["_law_script"] (spLaw K P) := by
  have e := hfa.symm.trans (PySem.W.mg_of X G a_law)
  cases e
  have T : Txt mg := ⟨PySem.W.mg_none_of X G z_len, PySem.W.mg_none_of X G z_int, PySem.W.mg_none_of X G z_range, PySem.W.mg_none_of X G z_isinstance, PySem.W.mg_none_of X G z_all, PySem.W.mg_none_of X G z_list, PySem.W.mg_none_of X G z_tuple, PySem.W.mg_none_of X G z_str, PySem.W.mg_none_of X G z_sorted, PySem.W.mg_none_of X G z_zip, PySem.W.mg_none_of X G z_enumerate, PySem.W.mg_none_of X G z_bool, PySem.W.mg_none_of X G z_dict, ⟨_, PySem.W.mg_of X G v_SMALL, _, rfl⟩, ⟨_, PySem.W.mg_of X G v_REST, _, rfl⟩, ⟨_, PySem.W.mg_of X G v_MOST_LETTERS, _, rfl⟩⟩
  have F_is_word := fun_mk (st := s_is_word) l_is_word c_is_word k_is_word
  have m_is_word := PySem.W.mg_of X G a_is_word
  have b_is_word := F_is_word.binds (ps := ["value", "most"]) fun _ _ _ _ _ _ us hl => match us, hl with | [_, _], _ => rfl
  have F_is_kind := fun_mk (st := s_is_kind) l_is_kind c_is_kind k_is_kind
  have m_is_kind := PySem.W.mg_of X G a_is_kind
  have b_is_kind := F_is_kind.binds (ps := ["value"]) fun _ _ _ _ _ _ us hl => match us, hl with | [_], _ => rfl
  have F_is_shape := fun_mk (st := s_is_shape) l_is_shape c_is_shape k_is_shape
  have m_is_shape := PySem.W.mg_of X G a_is_shape
  have b_is_shape := F_is_shape.binds (ps := ["value"]) fun _ _ _ _ _ _ us hl => match us, hl with | [_], _ => rfl
  have F_shapes_text := fun_mk (st := s_shapes_text) l_shapes_text c_shapes_text k_shapes_text
  have m_shapes_text := PySem.W.mg_of X G a_shapes_text
  have b_shapes_text := F_shapes_text.binds (ps := ["shapes"]) fun _ _ _ _ _ _ us hl => match us, hl with | [_], _ => rfl
  have F_read_shapes := fun_mk (st := s_read_shapes) l_read_shapes c_read_shapes k_read_shapes
  have m_read_shapes := PySem.W.mg_of X G a_read_shapes
  have b_read_shapes := F_read_shapes.binds (ps := ["text"]) fun _ _ _ _ _ _ us hl => match us, hl with | [_], _ => rfl
  have F_law_bag := fun_mk (st := s_law_bag) l_law_bag c_law_bag k_law_bag
  have m_law_bag := PySem.W.mg_of X G a_law_bag
  have b_law_bag := F_law_bag.binds (ps := ["_law_script"]) fun _ _ _ _ _ _ us hl => match us, hl with | [_], _ => rfl
  have F_law_take := fun_mk (st := s_law_take) l_law_take c_law_take k_law_take
  have m_law_take := PySem.W.mg_of X G a_law_take
  have b_law_take := F_law_take.binds (ps := ["_law_bag_z", "_law_many"]) fun _ _ _ _ _ _ us hl => match us, hl with | [_, _], _ => rfl
  have F_law_of := fun_mk (st := s_law_of) l_law_of c_law_of k_law_of
  have m_law_of := PySem.W.mg_of X G a_law_of
  have b_law_of := F_law_of.binds (ps := ["_law_bag_z", "_law_things"]) fun _ _ _ _ _ _ us hl => match us, hl with | [_, _], _ => rfl
  have F_law_words := fun_mk (st := s_law_words) l_law_words c_law_words k_law_words
  have m_law_words := PySem.W.mg_of X G a_law_words
  have b_law_words := F_law_words.binds (ps := ["_law_bag_z", "_law_many", "_law_most"]) fun _ _ _ _ _ _ us hl => match us, hl with | [_, _, _], _ => rfl
  have F_law_names := fun_mk (st := s_law_names) l_law_names c_law_names k_law_names
  have m_law_names := PySem.W.mg_of X G a_law_names
  have b_law_names := F_law_names.binds (ps := ["_law_bag_z"]) fun _ _ _ _ _ _ us hl => match us, hl with | [_], _ => rfl
  have F_law_field := fun_mk (st := s_law_field) l_law_field c_law_field k_law_field
  have m_law_field := PySem.W.mg_of X G a_law_field
  have b_law_field := F_law_field.binds (ps := ["_law_e"]) fun _ _ _ _ _ _ us hl => match us, hl with | [_], _ => rfl
  have F_law_why := fun_mk (st := s_law_why) l_law_why c_law_why k_law_why
  have m_law_why := PySem.W.mg_of X G a_law_why
  have b_law_why := F_law_why.binds (ps := ["_law_ask"]) fun _ _ _ _ _ _ us hl => match us, hl with | [_], _ => rfl
  have F_law_alike := fun_mk (st := s_law_alike) l_law_alike c_law_alike k_law_alike
  have m_law_alike := PySem.W.mg_of X G a_law_alike
  have b_law_alike := F_law_alike.binds (ps := ["_law_found", "_law_due"]) fun _ _ _ _ _ _ us hl => match us, hl with | [_, _], _ => rfl
  have F_law_shape := fun_mk (st := s_law_shape) l_law_shape c_law_shape k_law_shape
  have m_law_shape := PySem.W.mg_of X G a_law_shape
  have b_law_shape := F_law_shape.binds (ps := ["_law_bag_z", "_law_kinds"]) fun _ _ _ _ _ _ us hl => match us, hl with | [_, _], _ => rfl
  have F_law := fun_mk (st := s_law) l_law c_law k_law
  have m_law := PySem.W.mg_of X G a_law
  have b_law := F_law.binds (ps := ["_law_script"]) fun _ _ _ _ _ _ us hl => match us, hl with | [_], _ => rfl
  have oex_ParseError : OexC K C_ParseError := ⟨⟨nm_ParseError, q_ParseError, N_ParseError, bs_ParseError, bm_ParseError, sn_ParseError, sub_ParseError, ab_ParseError, col_ParseError, dd_ParseError, k0_ParseError, k1_ParseError, k2_ParseError, k3_ParseError, k5_ParseError, xL_ParseError, hb_ParseError⟩, sa_ParseError, eC_ParseError, tC_ParseError, kC_ParseError⟩
  have xfc_ParseError : XfC K C_ParseError := ⟨ga_ParseError, gg_ParseError, eC_ParseError, hd_ParseError⟩
  have FI_ParseError := fun_mk (st := s_ParseError_init) li_ParseError ci_ParseError ki_ParseError
  have bi_ParseError := FI_ParseError.binds (ps := ["self", "at"]) fun _ _ _ _ _ _ us hl => match us, hl with | [_, _], _ => rfl
  have err_ParseError : ∀ base, ErrC l.prog w K mg base "ParseError" C_ParseError 2 (spIni K "ParseError" "at") := fun base => ⟨oex_ParseError, PySem.W.mg_of X G aC_ParseError, _, _, _, ai_ParseError, ti_ParseError, ok_ini FI_ParseError sc_ParseError_init (fun cdv A outer s H E => pss_cons (ps_ost (pv 0) pe_str) (pss_one (ps_ost (pv 0) (pv 1)))), bi_ParseError⟩
  have exm_ParseError : PySem.W.exmAny K (.ref C_ParseError) [.ref w_GroveError, .ref w_Missing, .ref w_NothingLeft] = some true := exm3 (exm1 ew_GroveError iw_GroveError tw_GroveError sw_ParseError_GroveError) (exm1 ew_Missing iw_Missing tw_Missing sw_ParseError_Missing) (exm1 ew_NothingLeft iw_NothingLeft tw_NothingLeft sw_ParseError_NothingLeft)
  have gw_GroveError := PySem.W.mg_of X G aw_GroveError
  have gw_Missing := PySem.W.mg_of X G aw_Missing
  have gw_NothingLeft := PySem.W.mg_of X G aw_NothingLeft
  refine ⟨PySem.W.fnOf "law" "law" (defArgs s_law) (defBody s_law) (defScope s_law) .none kV_law dc_law pm_law an_law (.ref cA) ct_law, cA, PA, tabIn_mk (o3 := none) a_law l_law rfl lc_law eP_law, nt_law, fun s v => .of_eq rfl, fun base _ _ TB => ?_⟩
  have c_bag : Cal l.prog w K mg base 1 "_law_bag" (spBag K) := ⟨_, _, _, ok_law_bag F_law_bag T, m_law_bag, k_law_bag, b_law_bag⟩
  have c_take : Cal l.prog w K mg base 1 "_law_take" spTake := ⟨_, _, _, ok_law_take F_law_take T, m_law_take, k_law_take, b_law_take⟩
  have c_of : Cal l.prog w K mg base 2 "_law_of" (spOf K) := ⟨_, _, _, ok_law_of F_law_of T c_take, m_law_of, k_law_of, b_law_of⟩
  have c_words : Cal l.prog w K mg base 3 "_law_words" spWords := ⟨_, _, _, ok_law_words F_law_words T c_take c_of, m_law_words, k_law_words, b_law_words⟩
  have c_names : Cal l.prog w K mg base 4 "_law_names" spNames := ⟨_, _, _, ok_law_names F_law_names T c_take c_words, m_law_names, k_law_names, b_law_names⟩
  have c_shape : Cal l.prog w K mg base 3 "_law_shape" (spShape K) := ⟨_, _, _, ok_law_shape F_law_shape T c_of, m_law_shape, k_law_shape, b_law_shape⟩
  have c_isw : Cal l.prog w K mg base 1 "is_word" (spWord K) := ⟨_, _, _, ok_is_word F_is_word T, m_is_word, k_is_word, b_is_word⟩
  have c_isk : Cal l.prog w K mg base 2 "is_kind" (spKind K) := ⟨_, _, _, ok_is_kind F_is_kind T c_isw, m_is_kind, k_is_kind, b_is_kind⟩
  have tS : KTab K w aS_SIZES sizesT := tab_sizes lD_SIZES sD_SIZES
  have gS : ∃ u, mg "SIZES" = some u ∧ RelV (.ref aS_SIZES) u := ⟨_, PySem.W.mg_of X G aD_SIZES, rfl⟩
  have c_iss : Cal l.prog w K mg base 3 "is_shape" spIsShape := ⟨_, _, _, ok_is_shape F_is_shape T gS tS c_isk, m_is_shape, k_is_shape, b_is_shape⟩
  have g_rs := ok_read_shapes (base := base) F_read_shapes T c_iss (err_ParseError base) nc_ParseError nf_ParseError
  have c_rs : CalR l.prog w K mg base 4 "read_shapes" (spRead C_ParseError) := ⟨_, _, _, g_rs, m_read_shapes, k_read_shapes, b_read_shapes⟩
  have q_rs : CalRK l.prog w K mg base 4 "read_shapes" ["text"] (fun us ws => us ++ ws) (spRead C_ParseError) := ⟨_, _, _, _, g_rs, m_read_shapes, k_read_shapes, kb1 F_read_shapes (fun _ _ _ _ _ _ _ => rfl) (fun _ _ _ _ _ _ _ => rfl)⟩
  have g_st := ok_shapes_text (P := l.prog) (w := w) (base := base) F_shapes_text T
  have c_st : Cal l.prog w K mg base 1 "shapes_text" (spSText K) := ⟨_, _, _, g_st, m_shapes_text, k_shapes_text, b_shapes_text⟩
  have q_st : CalK l.prog w K mg base 1 "shapes_text" ["shapes"] (fun us ws => us ++ ws) (spSText K) := ⟨_, _, _, _, g_st, m_shapes_text, k_shapes_text, kb1 F_shapes_text (fun _ _ _ _ _ _ _ => rfl) (fun _ _ _ _ _ _ _ => rfl)⟩
  have hW : WhyC l.prog w K mg base (.ref w_GroveError) (.ref w_Missing) (.ref w_NothingLeft) := ⟨⟨_, _, F_law_why, m_law_why, k_law_why, b_law_why⟩, gw_GroveError, gw_Missing, gw_NothingLeft, ⟨_, _, ok_law_field F_law_field, m_law_field, k_law_field, b_law_field⟩⟩
  exact ok_law l_law c_law T TB hW exm_ParseError xfc_ParseError nc_ParseError nf_ParseError c_bag c_names c_take c_of c_shape (cal_alike F_law_alike T m_law_alike k_law_alike b_law_alike 10) c_st q_st c_rs q_rs
theorem walkT {l : PySem.W.OpenLaw} {q : Program} {loose : List Str} {XP : (Str → Option Value) → Heap → Prop} {YP : World → Heap → Prop} {d : DefRec} {K : Params → PySem.W.Frag} (hn : l.most = some 63) (hdf : d.params.defaults = [])
    (hY : ∀ (w : World) (h : Heap), YP w h → (K w.params).In h) (law : d.name = "law") (found : (PyProof.Rows.recsOf q).find? (fun e => e.name == ("law" : Str)) = some d)
    (F : ∀ (w : World) (mg : Str → Option Value) (fa : Addr) (h : Heap), (K w.params).In h → h.Ns mainGlobals mg → mg "law" = some (.ref fa) →
      ∃ (fd : FuncData) (c P : Addr), PySem.W.tabIn (K w.params) "law" = some (c, P) ∧ PySem.W.noTabs (K w.params) = true ∧ (∀ (s : Shared) (u : Value), BindsTo s fd ⟨[u], []⟩ [("_law_script", u)]) ∧
        ∀ base : Heap, (K w.params).In base → base.Ns mainGlobals mg → LamX.TabB base mg c P → FnOk l.prog w (K w.params) mg base CX0 61 fa fd ["_law_script"] (spLaw (K w.params) P)) :
    PySem.W.WalkO q loose XP YP l.row.toRowW d [] (fun f vs => PySem.call f vs) :=
  Rg.walk_tab (n := 63) (k := 61) (x := "_law_script") (sp := fun w => spLaw (K w.params)) hn (by decide) hdf ⟨rfl, by decide, by decide⟩ hY law found F fun w H P a ns hl hP hS => ⟨a, ns, rfl, hS, hl, hP, fun _ => rfl⟩
end Pf
open PySem PySem.W PyProof.Rows
set_option maxRecDepth 100000 in
set_option maxHeartbeats 0 in
theorem PySem.Challenge.cw_rubgrove_k10_texts_of_shapes_holds : PySem.Challenge.rw_rubgrove_k10_texts_of_shapes.Holds := by
  w_on; o_law; k_head; (case hw => w_witness2)
  k_fill
  refine Pf.walkT (l := PySem.Challenge.rw_rubgrove_k10_texts_of_shapes) rfl rfl (fun w h Y => PySem.W.km_in_of Y) rfl rfl ?F
  case F =>
    intro w mg fa h KX G hmg
    refine' Pf.all_mk KX G hmg ?a_is_word ?l_is_word ?c_is_word ?k_is_word ?a_is_kind ?l_is_kind ?c_is_kind ?k_is_kind ?a_is_shape ?l_is_shape ?c_is_shape ?k_is_shape ?a_shapes_text ?l_shapes_text ?c_shapes_text ?k_shapes_text ?a_read_shapes ?l_read_shapes ?c_read_shapes ?k_read_shapes ?a_law_bag ?l_law_bag ?c_law_bag ?k_law_bag ?a_law_take ?l_law_take ?c_law_take ?k_law_take ?a_law_of ?l_law_of ?c_law_of ?k_law_of ?a_law_words ?l_law_words ?c_law_words ?k_law_words ?a_law_names ?l_law_names ?c_law_names ?k_law_names ?a_law_field ?l_law_field ?c_law_field ?k_law_field ?a_law_why ?l_law_why ?c_law_why ?k_law_why ?a_law_alike ?l_law_alike ?c_law_alike ?k_law_alike ?a_law_shape ?l_law_shape ?c_law_shape ?k_law_shape ?a_law ?l_law ?c_law ?k_law ?lc_law ?eP_law ?nt_law ?aw_GroveError ?ew_GroveError ?iw_GroveError ?tw_GroveError ?aw_Missing ?ew_Missing ?iw_Missing ?tw_Missing ?aw_NothingLeft ?ew_NothingLeft ?iw_NothingLeft ?tw_NothingLeft ?aC_ParseError ?xL_ParseError ?hb_ParseError ?sa_ParseError ?ga_ParseError ?gg_ParseError ?hd_ParseError ?kC_ParseError ?eC_ParseError ?tC_ParseError ?nc_ParseError ?nf_ParseError ?ai_ParseError ?ti_ParseError ?li_ParseError ?ci_ParseError ?ki_ParseError ?sw_ParseError_GroveError ?sw_ParseError_Missing ?sw_ParseError_NothingLeft ?aD_SIZES ?lD_SIZES ?sD_SIZES ?z_len ?z_int ?z_range ?z_isinstance ?z_all ?z_list ?z_tuple ?z_str ?z_sorted ?z_zip ?z_enumerate ?z_bool ?z_dict ?v_SMALL ?v_REST ?v_MOST_LETTERS
    (case a_is_word => k_is)
    (case l_is_word => k_is)
    (case c_is_word => k_is)
    (case k_is_word => k_is)
    (case a_is_kind => k_is)
    (case l_is_kind => k_is)
    (case c_is_kind => k_is)
    (case k_is_kind => k_is)
    (case a_is_shape => k_is)
    (case l_is_shape => k_is)
    (case c_is_shape => k_is)
    (case k_is_shape => k_is)
    (case a_shapes_text => k_is)
    (case l_shapes_text => k_is)
    (case c_shapes_text => k_is)
    (case k_shapes_text => k_is)
    (case a_read_shapes => k_is)
    (case l_read_shapes => k_is)
    (case c_read_shapes => k_is)
    (case k_read_shapes => k_is)
    (case a_law_bag => k_is)
    (case l_law_bag => k_is)
    (case c_law_bag => k_is)
    (case k_law_bag => k_is)
    (case a_law_take => k_is)
    (case l_law_take => k_is)
    (case c_law_take => k_is)
    (case k_law_take => k_is)
    (case a_law_of => k_is)
    (case l_law_of => k_is)
    (case c_law_of => k_is)
    (case k_law_of => k_is)
    (case a_law_words => k_is)
    (case l_law_words => k_is)
    (case c_law_words => k_is)
    (case k_law_words => k_is)
    (case a_law_names => k_is)
    (case l_law_names => k_is)
    (case c_law_names => k_is)
    (case k_law_names => k_is)
    (case a_law_field => k_is)
    (case l_law_field => k_is)
    (case c_law_field => k_is)
    (case k_law_field => k_is)
    (case a_law_why => k_is)
    (case l_law_why => k_is)
    (case c_law_why => k_is)
    (case k_law_why => k_is)
    (case a_law_alike => k_is)
    (case l_law_alike => k_is)
    (case c_law_alike => k_is)
    (case k_law_alike => k_is)
    (case a_law_shape => k_is)
    (case l_law_shape => k_is)
    (case c_law_shape => k_is)
    (case k_law_shape => k_is)
    (case a_law => k_is)
    (case l_law => k_is)
    (case c_law => k_is)
    (case k_law => k_is)
    (case lc_law => k_is)
    (case eP_law => exact rfl)
    (case nt_law => exact rfl)
    (case aw_GroveError => k_is)
    (case ew_GroveError => k_is)
    (case iw_GroveError => k_is)
    (case tw_GroveError => k_is)
    (case aw_Missing => k_is)
    (case ew_Missing => k_is)
    (case iw_Missing => k_is)
    (case tw_Missing => k_is)
    (case aw_NothingLeft => k_is)
    (case ew_NothingLeft => k_is)
    (case iw_NothingLeft => k_is)
    (case tw_NothingLeft => k_is)
    (case aC_ParseError => k_is)
    (case xL_ParseError => k_is)
    (case hb_ParseError => decide +kernel)
    (case sa_ParseError => k_is)
    (case ga_ParseError => k_is)
    (case gg_ParseError => k_is)
    (case hd_ParseError => k_is)
    (case kC_ParseError => k_is)
    (case eC_ParseError => k_is)
    (case tC_ParseError => k_is)
    (case nc_ParseError => k_is)
    (case nf_ParseError => k_is)
    (case ai_ParseError => k_is)
    (case ti_ParseError => k_is)
    (case li_ParseError => k_is)
    (case ci_ParseError => k_is)
    (case ki_ParseError => k_is)
    (case sw_ParseError_GroveError => k_is)
    (case sw_ParseError_Missing => k_is)
    (case sw_ParseError_NothingLeft => k_is)
    (case aD_SIZES => k_is)
    (case lD_SIZES => k_is)
    (case sD_SIZES => exact rfl)
    (case z_len => k_is)
    (case z_int => k_is)
    (case z_range => k_is)
    (case z_isinstance => k_is)
    (case z_all => k_is)
    (case z_list => k_is)
    (case z_tuple => k_is)
    (case z_str => k_is)
    (case z_sorted => k_is)
    (case z_zip => k_is)
    (case z_enumerate => k_is)
    (case z_bool => k_is)
    (case z_dict => k_is)
    (case v_SMALL => k_is)
    (case v_REST => k_is)
    (case v_MOST_LETTERS => k_is)


