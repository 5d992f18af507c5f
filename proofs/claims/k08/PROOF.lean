import PyProof.Rows.All
import Wide.All
import OpenK.AllK
import Wide.FinOn
import HandS.ForMost
import HandS.IsInst
import HandS.Zip
import HandS.TupAny
import HandS.Flow
import HandS.Style
import HandS.Codes
import HandS.Steps
import HandS.Wide
import HandS.Walk
import HandS.Star
import HandS.FStr
import HandS.ExcCtx
import HandS.ExcField
import HandS.HotCalls
import HandS.ExcInit
import HandS.Lambda
import HandS.EndTab
import HandS.WordsExc
import KE.GoesMore
import KE.KDflt
import PySem.Challenge.RW_rubgrove_k08_texts_that_are_no_documents
set_option Elab.async false
set_option linter.all false
set_option maxRecDepth 100000
set_option maxHeartbeats 4000000
namespace Rg
open PySem L2

/-! ### calls of own defs -/
structure Cal (P : Program) (w : World) (K : PySem.W.Frag) (mg : Str → Option Value) (base : Heap) (k : Nat) (x : Str) (sp : Sp) : Prop where
  ex : ∃ (f : Addr) (fd : FuncData) (ps : List Str), FnOk P w K mg base CX0 k f fd ps sp ∧ mg x = some (.ref f) ∧ PySem.W.keepIn K (.ref f) = true ∧ Binds K fd ps []
structure CalK (P : Program) (w : World) (K : PySem.W.Frag) (mg : Str → Option Value) (base : Heap) (k : Nat) (x : Str) (ks : List Str) (gV : List V → List V → List V) (sp : Sp) : Prop where
  ex : ∃ (f : Addr) (fd : FuncData) (ps : List Str) (g : List Value → List Value → List Value), FnOk P w K mg base CX0 k f fd ps sp ∧ mg x = some (.ref f) ∧ PySem.W.keepIn K (.ref f) = true ∧ KBinds K fd ps ks g gV
def tCC (sp : Sp) (t : TA) : TE := fun σ H Q => t σ H fun vs H1 => sp vs H1 Q E0
def tCK (sp : Sp) (gV : List V → List V → List V) (t tk : TA) : TE := fun σ H Q => t σ H fun vs H1 => tk σ H1 fun zs H2 => sp (gV vs zs) H2 Q E0
section
variable {X : Cx} {k j : Nat} {x : Str} {sp : Sp} {p pos : Pos} {e : Expr} {es : List Expr} {t tk : TA} {ks : List Str} {gV : List V → List V → List V} {kws : List Keyword}
theorem pe_c (c : Cal X.prog X.w X.K X.mg X.base k x sp) (hr : Room j X.A) (hk : k ≤ j) (hg : Gl X x) (ha : PA X (e :: es) t) (hdb : (x == ("__debug__" : Str)) = false := by decide)
    (he : starEach (e :: es) X.env = (false, eval e X.env) :: starEach es X.env := by rfl) (hpl : (backTo pos (starEach es X.env)).any (·.1) = false := by rfl) : PE X (.Call (.Name x p) (e :: es) [] pos) (tCC sp t) := by
  obtain ⟨f, fd, ps, F, hm, hkp, hb⟩ := c.ex
  refine ⟨fun pins s σ H Q I h => ?_⟩
  refine (pe_call (dvs := []) (ds := []) F (hr.mono hk) hg hm hkp hb .nil pass0 ha hdb he hpl).run pins s σ H Q I ?_
  have e0 : (fun (vs : List V) (H1 : Hp) => sp (vs ++ []) H1 Q E0) = fun vs H1 => sp vs H1 Q E0 := by
    funext vs H1
    rw [List.append_nil]
  show t σ H (fun vs H1 => sp (vs ++ []) H1 Q E0)
  rw [e0]
  exact h
theorem pe_c0 (c : Cal X.prog X.w X.K X.mg X.base k x sp) (hr : Room j X.A) (hk : k ≤ j) (hg : Gl X x) (hdb : (x == ("__debug__" : Str)) = false := by decide) : PE X (.Call (.Name x p) [] [] pos) (tCC sp tNil) := by
  obtain ⟨f, fd, ps, F, hm, hkp, hb⟩ := c.ex
  refine ⟨fun pins s σ H Q I h => ?_⟩
  exact (pe_call0 (dvs := []) (ds := []) F (hr.mono hk) hg hm hkp hb .nil pass0 hdb).run pins s σ H Q I h
theorem pe_cK (c : CalK X.prog X.w X.K X.mg X.base k x ks gV sp) (hr : Room j X.A) (hk : k ≤ j) (hg : Gl X x) (ha : PA X (e :: es) t) (hkw : PK X kws tk) (hall : (backToKw pos (keywordEach kws X.env)).all (·.1.isSome) = true := by rfl) (hks : (backToKw pos (keywordEach kws X.env)).filterMap (·.1) = ks := by rfl)
    (hdb : (x == ("__debug__" : Str)) = false := by decide) (he : starEach (e :: es) X.env = (false, eval e X.env) :: starEach es X.env := by rfl)
    (hpl : ((backTo pos (starEach (e :: es) X.env)).any (·.1) || (backToKw pos (keywordEach kws X.env)).any (·.1.isNone)) = false := by rfl) : PE X (.Call (.Name x p) (e :: es) kws pos) (tCK sp gV t tk) := by
  obtain ⟨f, fd, ps, g, F, hm, hkp, hb⟩ := c.ex
  refine ⟨fun pins s σ H Q I h => ?_⟩
  exact (pe_callK F (hr.mono hk) hg hm hkp hb pass0 ha hkw hall hks hdb he hpl).run pins s σ H Q I h
theorem pe_cK0 (c : CalK X.prog X.w X.K X.mg X.base k x ks gV sp) (hr : Room j X.A) (hk : k ≤ j) (hg : Gl X x) (hkw : PK X kws tk) (hall : (backToKw pos (keywordEach kws X.env)).all (·.1.isSome) = true := by rfl) (hks : (backToKw pos (keywordEach kws X.env)).filterMap (·.1) = ks := by rfl)
    (hdb : (x == ("__debug__" : Str)) = false := by decide)
    (hpl : ((backTo pos (starEach [] X.env)).any (·.1) || (backToKw pos (keywordEach kws X.env)).any (·.1.isNone)) = false := by rfl) : PE X (.Call (.Name x p) [] kws pos) (tCK sp gV tNil tk) := by
  obtain ⟨f, fd, ps, g, F, hm, hkp, hb⟩ := c.ex
  refine ⟨fun pins s σ H Q I h => ?_⟩
  refine wpAny_Call_Name_kw (ld_glob I hg hm ?_ hdb)
  refine PySem.W.callWith_KW0 (h₀ := X.base) I.ok.mod.kin hkp hall ?_ hpl
  refine thn (hkw.run pos pins s σ H _ I h) fun ws s2 ⟨zs, H2, I2, rz, q2⟩ => ⟨I2.kIn, ?_⟩
  rw [hks]
  exact run_fnk (us := []) (vs := []) F (hr.mono hk) hb pass0 I2 .nil rz q2
theorem pe_gc {v : V} (hg : Gl X x) (h : ∃ u, X.mg x = some u ∧ RelV v u) (hd : (x == ("__debug__" : Str)) = false := by decide) : PE X (.Name x pos) (tC v) := by
  obtain ⟨u, hm, r⟩ := h
  exact pe_glob hg hm r hd
end

/-! ### operators for several kinds of values -/
def rMulS : R2 := fun x y H Q => ∃ (z : Str) (n : Int), x = .str z ∧ y = .int n ∧ z.length ≤ 1000 ∧ 0 ≤ n ∧ n ≤ 1000 ∧ Q (.str (Txt.mul z n)) H
theorem mulOk {z : Str} {n : Int} (h1 : z.length ≤ 1000) (h2 : 0 ≤ n) (h3 : n ≤ 1000) : MulOk z n := by
  refine ⟨?_, fun hn _ h => ?_, fun hn _ => ?_⟩
  · rw [decide_eq_false (by omega), decide_eq_false (by omega)]
    rfl
  · have h5 : (z.length : Int) * n ≤ 1000 * 1000 := by
      have a := Int.mul_le_mul (show (z.length : Int) ≤ 1000 by omega) h3 h2 (by omega)
      exact a
    have h6 : (z.length : Int) ≤ (2 ^ 63 - 1) / n := by
      rw [Int.le_ediv_iff_mul_le (by omega)]
      omega
    omega
  · have h5 : z.length * n.toNat ≤ 1000 * 1000 := Nat.mul_le_mul h1 (by omega)
    show decide (z.length * n.toNat > sizeLine) = false
    rw [decide_eq_false (by rw [sizeLine_eq]; omega)]
section
variable {X : Cx} {k : Nat}
theorem op_mulS : OpR X (binaryOp .Mult) rMulS := by
  intro pins s σ H x y v u Q I rx ry h
  obtain ⟨z, n, rfl, rfl, h1, h2, h3, q⟩ := h
  obtain ⟨t, rfl⟩ := rx
  obtain ⟨t', rfl⟩ := ry
  exact SB.mul (mulOk h1 h2 h3) fun t' k => ⟨.str _, H, I.tok _, ⟨_, rfl⟩, q⟩
def rMulX : R2 := fun x y H Q => rI CMul (fun i j => .int (i * j)) x y H Q ∨ rMulS x y H Q
theorem op_mulX : OpR X (binaryOp .Mult) rMulX := OpR.or op_mul op_mulS
def rAddS : R2 := fun x y H Q => ∃ i j, x = .str i ∧ y = .str j ∧ i.length + j.length ≤ sizeLine ∧ Q (.str (i ++ j)) H
def rAddX (K : PySem.W.Frag) : R2 := fun x y H Q => rI0 (fun i j => .int (i + j)) x y H Q ∨ rAddS x y H Q ∨ rCat x y H Q ∨ rCatA K x y H Q
theorem op_addX (K : PySem.W.Frag) (hK : X.K = K := by rfl) : OpR X (binaryOp .Add) (rAddX K) := by subst hK; exact OpR.or op_add (OpR.or op_add_str (OpR.or op_cat op_catA))
def rEqX (K : PySem.W.Frag) : R2 := fun x y H Q => rEq x y H Q ∨ rEqD K x y H Q
theorem op_eqX (K : PySem.W.Frag) (hr : Room k X.A) (hK : X.K = K := by rfl) : OpR X (compareOp .Eq) (rEqX K) := by subst hK; exact OpR.or op_eq (op_eqD hr.units)
def rNeX (K : PySem.W.Frag) : R2 := fun x y H Q => rNe x y H Q ∨ rNeD K x y H Q
theorem op_neX (K : PySem.W.Frag) (hr : Room k X.A) (hK : X.K = K := by rfl) : OpR X (compareOp .NotEq) (rNeX K) := by subst hK; exact OpR.or op_ne (op_neD hr.units)
def rInX (K : PySem.W.Frag) : R2 := fun x y H Q => rInS x y H Q ∨ rIn K false x y H Q
theorem op_inX (K : PySem.W.Frag) (hK : X.K = K := by rfl) : OpR X (compareOp .In) (rInX K) := by subst hK; exact OpR.or op_inS op_in_seq
def rNinX (K : PySem.W.Frag) : R2 := fun x y H Q => rNotInS x y H Q ∨ rIn K true x y H Q
theorem op_ninX (K : PySem.W.Frag) (hK : X.K = K := by rfl) : OpR X (compareOp .NotIn) (rNinX K) := by subst hK; exact OpR.or op_notInS op_notIn_seq
def rSlX (K : PySem.W.Frag) : V → Option Int → Option Int → Hp → VK → Prop := fun x lo hi H Q => rSlL K x lo hi H Q ∨ rSlS x lo hi H Q ∨ rSlA K x lo hi H Q
theorem sl_X (K : PySem.W.Frag) (hK : X.K = K := by rfl) : SlR X (rSlX K) := by subst hK; exact SlR.or sl_list (SlR.or sl_str sl_tupA)
theorem ix_X (K : PySem.W.Frag) (hK : X.K = K := by rfl) : IxR X (rIx K) := by subst hK; exact ix_seq
def rLenX (K : PySem.W.Frag) : List V → Hp → VK → Prop := fun xs H Q => ∃ x n, xs = [x] ∧ LenV K x H n ∧ Q (.int n) H
theorem call_lenX (K : PySem.W.Frag) (hK : X.K = K := by rfl) : CallR X (.builtin "len") (rLenX K) := by subst hK; exact call_len
def rLeStr : R2 := fun x y H Q => ∃ i j, x = .str i ∧ y = .str j ∧ Q (.bl (!decide (j.cps.toList < i.cps.toList))) H
def rLeX : R2 := fun x y H Q => rI0 (fun i j => .bl (decide (i ≤ j))) x y H Q ∨ rLeStr x y H Q
theorem op_leX : OpR X (compareOp .LtE) rLeX := OpR.or op_le op_le_str
def rListOf (K : PySem.W.Frag) : List V → Hp → VK → Prop := fun xs H Q => ∃ p ys, xs = [.ref p] ∧ (SqL K H p ys ∨ SqT K H p ys) ∧ ∀ l, H l = none → Q (.ref l) (upd H l (.lst ys))
theorem cr_list (K : PySem.W.Frag) (hK : X.K = K := by rfl) : CallR X (.type "list") (rListOf K) := by subst hK; exact call_list_of
def rTupOf (K : PySem.W.Frag) : List V → Hp → VK → Prop := fun xs H Q => ∃ p ys, xs = [.ref p] ∧ ((SqL K H p ys ∧ ∀ l, H l = none → Q (.ref l) (upd H l (.tup ys))) ∨ (SqT K H p ys ∧ Q (.ref p) H))
theorem cr_tuple (K : PySem.W.Frag) (hK : X.K = K := by rfl) : CallR X (.type "tuple") (rTupOf K) := by subst hK; exact call_tuple_of
theorem cr_allX (K : PySem.W.Frag) (hc : X.calm = true) (hK : X.K = K := by rfl) : CallR X (.builtin "all") (rAll K) := by subst hK; exact cr_all hc
theorem cr_anyX (K : PySem.W.Frag) (hc : X.calm = true) (hK : X.K = K := by rfl) : CallR X (.builtin "any") (rAny K) := by subst hK; exact cr_any hc
theorem cr_sumX (K : PySem.W.Frag) (hc : X.calm = true) (hK : X.K = K := by rfl) : CallR X (.builtin "sum") (rSum K) := by subst hK; exact cr_sum hc
theorem cr_sortedX (K : PySem.W.Frag) (hK : X.K = K := by rfl) : CallR X (.builtin "sorted") (rSortedS K) := by subst hK; exact cr_sortedS
theorem cr_isi (K : PySem.W.Frag) (hK : X.K = K := by rfl) : CallR X (.builtin "isinstance") (rIsi K) := by subst hK; exact call_isi
theorem cr_isiT (K : PySem.W.Frag) (hK : X.K = K := by rfl) : CallR X (.builtin "isinstance") (rIsiT K) := by subst hK; exact call_isiT
theorem pi_listX (K : PySem.W.Frag) {tg l : Expr} {tl : TE} (hl : PE X l tl) (hK : X.K = K := by rfl) : PI X tg l (iList K tl) := by subst hK; exact pi_list hl
theorem pi_zipX (K : PySem.W.Frag) {tg e : Expr} {ta : TA} (h : PI X tg e (RZ.iZipA X.K ta)) (hK : X.K = K := by rfl) : PI X tg e (RZ.iZipA K ta) := by subst hK; exact h
theorem pi_tupX (K : PySem.W.Frag) {tg l : Expr} {tl : TE} (hl : PE X l tl) (hK : X.K = K := by rfl) : PI X tg l (iTup K tl) := by subst hK; exact pi_tup hl
theorem pg_tupX (K : PySem.W.Frag) {es : List Expr} {kk : Nat} {pos : Pos} {n : Nat} {t : TGs} (h : PG X (.Tuple es kk pos) (gTup X.K n t)) (hK : X.K = K := by rfl) : PG X (.Tuple es kk pos) (gTup K n t) := by subst hK; exact h
theorem pe_bmX (K : PySem.W.Frag) {e : Expr} {T : String} {r : V → List V → Hp → VK → Prop} {to : TE} {t : TA} (h : PE X e (tBM X.K T r to t)) (hK : X.K = K := by rfl) : PE X e (tBM K T r to t) := by subst hK; exact h
theorem pe_bm0X (K : PySem.W.Frag) {e : Expr} {T : String} {r : V → List V → Hp → VK → Prop} {to : TE} (h : PE X e (tBM0 X.K T r to)) (hK : X.K = K := by rfl) : PE X e (tBM0 K T r to) := by subst hK; exact h
theorem pe_fldX (K : PySem.W.Frag) {e : Expr} {f : Str} {ta : TE} (h : PE X e (tFld X.K ta f)) (hK : X.K = K := by rfl) : PE X e (tFld K ta f) := by subst hK; exact h
def rIntX : List V → Hp → VK → Prop := fun xs H Q => (∃ i, xs = [.int i] ∧ Q (.int i) H) ∨ ∃ k, xs = [.bl k] ∧ Q (.int (if k then 1 else 0)) H
theorem cr_int : CallR X (.type "int") rIntX := call_int1
def rIsNn : R2 := fun x y H Q => y = .non ∧ Q (.bl (decide (x = .non))) H
theorem op_isNn : OpR X (compareOp .Is) rIsNn := op_isN
def rNotNn : R2 := fun x y H Q => y = .non ∧ Q (.bl (!decide (x = .non))) H
theorem op_notNn : OpR X (compareOp .IsNot) rNotNn := op_notN
def rJoin (K : PySem.W.Frag) : V → List V → Hp → VK → Prop := fun x xs H Q => ∃ a p, ∃ ys : List Str, x = .str a ∧ xs = [.ref p] ∧ (SqL K H p (ys.map V.str) ∨ SqT K H p (ys.map V.str)) ∧ (ys.map (·.length)).sum + ys.length * a.length ≤ 16777216 ∧ Q (.str (Txt.join a ys)) H
theorem pe_joinX (K : PySem.W.Frag) {o e : Expr} {to te : TE} {apos pos : Pos} (ho : PE X o to) (he : PE X e te) (hK : X.K = K := by rfl) (hs : starEach [e] X.env = [(false, eval e X.env)] := by rfl) (hbase : attributeBase o "join" X.env (eval o X.env) = eval o X.env := by rfl) (hline : (apos.endLine == pos.line) = true := by rfl) :
    PE X (.Call (.Attribute o "join" apos) [e] [] pos) (tM1 (rJoin K) to te) := by subst hK; exact pe_join ho he hs hbase hline
end

/-! ### the readings, a step each -/
section
variable {K : PySem.W.Frag} {σ : St} {H : Hp} {Q : VK} {QT : Bool → Hp → Prop} {QA : List V → Hp → Prop} {QO : Option Int → Hp → Prop} {QS : St → Hp → Prop} {D : Ends}
variable {te ta tb tc : TE} {tt tu : TT} {t u : TS} {aa ab : TA} {g : TG} {gs : TGs} {r r' : R2} {v x y z : V} {i j n m : Int} {b c : Bool} {vs ws : List V} {a p q : Addr} {xs ys : List V} {s1 s2 : Str} {wi : TI} {to tp : TO}
theorem var {k : Nat} (h : σ[k]? = some (some v)) (q : Q v H) : tVar k σ H Q := ⟨v, h, q⟩
theorem cst (q : Q v H) : tC v σ H Q := q
theorem op (q : ta σ H fun x H1 => tb σ H1 fun y H2 => r x y H2 Q) : tOp r ta tb σ H Q := q
theorem un {f : V → Hp → VK → Prop} (q : ta σ H fun x H1 => f x H1 Q) : tUn f ta σ H Q := q
theorem chain (q : ta σ H fun x H1 => tb σ H1 fun y H2 => r x y H2 fun z H3 => ∃ k, z = .bl k ∧ (if k = true then tc σ H3 fun w' H4 => r' y w' H4 Q else Q (.bl false) H3)) : tChain r r' ta tb tc σ H Q := q
theorem exbl {P : Bool → Prop} (q : P b) : ∃ k, V.bl b = .bl k ∧ P k := ⟨b, rfl, q⟩
theorem iI0 {f : Int → Int → V} (q : Q (f i j) H) : rI0 f (.int i) (.int j) H Q := ⟨i, j, rfl, rfl, q⟩
theorem iI {C : Int → Int → Prop} {f : Int → Int → V} (h : C i j) (q : Q (f i j) H) : rI C f (.int i) (.int j) H Q := ⟨i, j, rfl, rfl, h, q⟩
theorem iU {f : Int → V} (q : Q (f i) H) : rU f (.int i) H Q := ⟨i, rfl, q⟩
theorem eqI (q : Q (.bl (decide (i = j))) H) : rEqX K (.int i) (.int j) H Q := .inl ⟨rfl, by rw [show decide (V.int i = V.int j) = decide (i = j) from decide_eq_decide.mpr ⟨V.int.inj, congrArg _⟩]; exact q⟩
theorem neI (q : Q (.bl (!decide (i = j))) H) : rNeX K (.int i) (.int j) H Q := .inl ⟨rfl, by rw [show decide (V.int i = V.int j) = decide (i = j) from decide_eq_decide.mpr ⟨V.int.inj, congrArg _⟩]; exact q⟩
theorem eqStr (q : Q (.bl (decide (s1 = s2))) H) : rEqX K (.str s1) (.str s2) H Q := .inl ⟨rfl, by rw [show decide (V.str s1 = V.str s2) = decide (s1 = s2) from decide_eq_decide.mpr ⟨V.str.inj, congrArg _⟩]; exact q⟩
theorem neStr (q : Q (.bl (!decide (s1 = s2))) H) : rNeX K (.str s1) (.str s2) H Q := .inl ⟨rfl, by rw [show decide (V.str s1 = V.str s2) = decide (s1 = s2) from decide_eq_decide.mpr ⟨V.str.inj, congrArg _⟩]; exact q⟩
theorem eqB (q : Q (.bl (decide (b = c))) H) : rEqX K (.bl b) (.bl c) H Q := .inl ⟨rfl, by rw [show decide (V.bl b = V.bl c) = decide (b = c) from decide_eq_decide.mpr ⟨V.bl.inj, congrArg _⟩]; exact q⟩
theorem neB (q : Q (.bl (!decide (b = c))) H) : rNeX K (.bl b) (.bl c) H Q := .inl ⟨rfl, by rw [show decide (V.bl b = V.bl c) = decide (b = c) from decide_eq_decide.mpr ⟨V.bl.inj, congrArg _⟩]; exact q⟩
theorem cut (Mid : St → Hp → Prop) (q : t { nx := Mid, rt := D.rt, bk := D.bk, ct := D.ct } σ H) (k : ∀ σ' H', Mid σ' H' → u D σ' H') : C8.tCut t u D σ H := ⟨Mid, q, k⟩
theorem iteD {A B : Prop} {p : Prop} [Decidable p] (h1 : p → A) (h2 : ¬ p → B) : if decide p = true then A else B := ite2 (fun h => h1 (of_decide_eq_true h)) (fun h => h2 fun z => h (decide_eq_true z))
theorem iteN {A B : Prop} {p : Prop} [Decidable p] (h1 : ¬ p → A) (h2 : p → B) : if (!decide p) = true then A else B := by
  by_cases h : p
  · rw [decide_eq_true h]
    exact iteF (h2 h)
  · rw [decide_eq_false h]
    exact iteT (h1 h)
theorem eqS (h : scal x y = true) (q : Q (.bl (decide (x = y))) H) : rEqX K x y H Q := .inl ⟨h, q⟩
theorem neS (h : scal x y = true) (q : Q (.bl (!decide (x = y))) H) : rNeX K x y H Q := .inl ⟨h, q⟩
theorem eqDd {d e : PyData} (h1 : Dp K H x d) (h2 : Dp K H y e) (s1 : SeqAt.shaped d = true) (s2 : SeqAt.shaped e = true) (q : Q (.bl (PyData.eqv d e)) H) : rEqX K x y H Q := .inr ⟨d, e, h1, h2, s1, s2, q⟩
theorem neDd {d e : PyData} (h1 : Dp K H x d) (h2 : Dp K H y e) (s1 : SeqAt.shaped d = true) (s2 : SeqAt.shaped e = true) (q : Q (.bl (!PyData.eqv d e)) H) : rNeX K x y H Q := .inr ⟨d, e, h1, h2, s1, s2, q⟩
theorem addI (q : Q (.int (i + j)) H) : rAddX K (.int i) (.int j) H Q := .inl ⟨i, j, rfl, rfl, q⟩
theorem addS (h : s1.length + s2.length ≤ sizeLine) (q : Q (.str (s1 ++ s2)) H) : rAddX K (.str s1) (.str s2) H Q := .inr (.inl ⟨s1, s2, rfl, rfl, h, q⟩)
theorem addL (h1 : H a = some (.lst xs)) (h2 : H p = some (.lst ys)) (h : xs.length + ys.length ≤ sizeLine) (q : ∀ l, H l = none → Q (.ref l) (upd H l (.lst (xs ++ ys)))) : rAddX K (.ref a) (.ref p) H Q := .inr (.inr (.inl ⟨a, p, xs, ys, rfl, rfl, h1, h2, h, q⟩))
theorem mulI (h : CMul i j) (q : Q (.int (i * j)) H) : rMulX (.int i) (.int j) H Q := .inl ⟨i, j, rfl, rfl, h, q⟩
theorem mulS (h1 : s1.length ≤ 1000) (h2 : 0 ≤ n) (h3 : n ≤ 1000) (q : Q (.str (Txt.mul s1 n)) H) : rMulX (.str s1) (.int n) H Q := .inr ⟨s1, n, rfl, rfl, h1, h2, h3, q⟩
theorem leI (q : Q (.bl (decide (i ≤ j))) H) : rLeX (.int i) (.int j) H Q := .inl ⟨i, j, rfl, rfl, q⟩
theorem leS (q : Q (.bl (!decide (s2.cps.toList < s1.cps.toList))) H) : rLeX (.str s1) (.str s2) H Q := .inr ⟨s1, s2, rfl, rfl, q⟩
theorem inS {k : Nat} (q : Q (.bl (decide (k ∈ s2.cps.toList))) H) : rInX K (.str ⟨#[k]⟩) (.str s2) H Q := .inl ⟨k, s2, rfl, rfl, q⟩
theorem ninS {k : Nat} (q : Q (.bl (!decide (k ∈ s2.cps.toList))) H) : rNinX K (.str ⟨#[k]⟩) (.str s2) H Q := .inl ⟨k, s2, rfl, rfl, q⟩
theorem inSeq (h : SqL K H p xs ∨ SqT K H p xs) (h1 : flatV x = true) (h2 : xs.all flatV = true) (q : Q (.bl (inV x xs)) H) : rInX K x (.ref p) H Q := .inr ⟨p, xs, rfl, h, h1, h2, q⟩
theorem ninSeq (h : SqL K H p xs ∨ SqT K H p xs) (h1 : flatV x = true) (h2 : xs.all flatV = true) (q : Q (.bl (!inV x xs)) H) : rNinX K x (.ref p) H Q := .inr ⟨p, xs, rfl, h, h1, h2, q⟩
theorem isN_int (q : Q (.bl false) H) : rIsNn (.int i) .non H Q := ⟨rfl, q⟩
theorem notN_int (q : Q (.bl true) H) : rNotNn (.int i) .non H Q := ⟨rfl, q⟩
theorem isN_str (q : Q (.bl false) H) : rIsNn (.str s1) .non H Q := ⟨rfl, q⟩
theorem notN_str (q : Q (.bl true) H) : rNotNn (.str s1) .non H Q := ⟨rfl, q⟩
theorem isN_bl (q : Q (.bl false) H) : rIsNn (.bl b) .non H Q := ⟨rfl, q⟩
theorem notN_bl (q : Q (.bl true) H) : rNotNn (.bl b) .non H Q := ⟨rfl, q⟩
theorem isN_ref (q : Q (.bl false) H) : rIsNn (.ref a) .non H Q := ⟨rfl, q⟩
theorem notN_ref (q : Q (.bl true) H) : rNotNn (.ref a) .non H Q := ⟨rfl, q⟩
theorem isN_non (q : Q (.bl true) H) : rIsNn .non .non H Q := ⟨rfl, q⟩
theorem notN_non (q : Q (.bl false) H) : rNotNn .non .non H Q := ⟨rfl, q⟩
theorem eqB_truetrue (q : Q (.bl true) H) : rEqX K (.bl true) (.bl true) H Q := .inl ⟨rfl, q⟩
theorem neB_truetrue (q : Q (.bl false) H) : rNeX K (.bl true) (.bl true) H Q := .inl ⟨rfl, q⟩
theorem eqB_truefalse (q : Q (.bl false) H) : rEqX K (.bl true) (.bl false) H Q := .inl ⟨rfl, q⟩
theorem neB_truefalse (q : Q (.bl true) H) : rNeX K (.bl true) (.bl false) H Q := .inl ⟨rfl, q⟩
theorem eqB_falsetrue (q : Q (.bl false) H) : rEqX K (.bl false) (.bl true) H Q := .inl ⟨rfl, q⟩
theorem neB_falsetrue (q : Q (.bl true) H) : rNeX K (.bl false) (.bl true) H Q := .inl ⟨rfl, q⟩
theorem eqB_falsefalse (q : Q (.bl true) H) : rEqX K (.bl false) (.bl false) H Q := .inl ⟨rfl, q⟩
theorem neB_falsefalse (q : Q (.bl false) H) : rNeX K (.bl false) (.bl false) H Q := .inl ⟨rfl, q⟩
theorem isN (q : Q (.bl (decide (x = .non))) H) : rIsNn x .non H Q := ⟨rfl, q⟩
theorem notN (q : Q (.bl (!decide (x = .non))) H) : rNotNn x .non H Q := ⟨rfl, q⟩
theorem ixL (h : SqL K H p xs) (h1 : atI xs i = some v) (q : Q v H) : rIx K (.ref p) (.int i) H Q := .inl ⟨p, xs, i, v, rfl, rfl, h, h1, q⟩
theorem ixT (h : SqT K H p xs) (h1 : atI xs i = some v) (q : Q v H) : rIx K (.ref p) (.int i) H Q := .inr (.inl ⟨p, xs, i, v, rfl, rfl, h, h1, q⟩)
theorem ixS {k : Nat} (h : s1.length ≤ sizeLine) (h1 : atI s1.cps.toList i = some k) (q : Q (.str ⟨#[k]⟩) H) : rIx K (.str s1) (.int i) H Q := .inr (.inr ⟨s1, i, k, rfl, rfl, h, h1, q⟩)
theorem slS {lo hi : Option Int} (h : s1.length ≤ sizeLine) (q : Q (.str (cutS s1 lo hi)) H) : rSlX K (.str s1) lo hi H Q := .inr (.inl ⟨s1, rfl, h, q⟩)
theorem slL {lo hi : Option Int} (h : SqL K H a xs) (q : ∀ l, H l = none → Q (.ref l) (upd H l (.lst (cutV xs lo hi)))) : rSlX K (.ref a) lo hi H Q := .inl ⟨a, xs, rfl, h, q⟩
theorem slT {lo hi : Option Int} (h : SqT K H a xs) (q1 : HT.sIx xs.length 0 lo = 0 ∧ HT.sIx xs.length xs.length hi = xs.length → Q (.ref a) H) (q2 : ¬ (HT.sIx xs.length 0 lo = 0 ∧ HT.sIx xs.length xs.length hi = xs.length) → ∀ l, H l = none → Q (.ref l) (upd H l (.tup (cutV xs lo hi)))) :
    rSlX K (.ref a) lo hi H Q := .inr (.inr ⟨a, xs, rfl, h, q1, q2⟩)
theorem sl {f : V → Option Int → Option Int → Hp → VK → Prop} (q : te σ H fun x H1 => to σ H1 fun l H2 => tp σ H2 fun u H3 => f x l u H3 Q) : tSl f te to tp σ H Q := q
theorem noPart (q : QO none H) : tNoPart σ H QO := q
theorem part (q : te σ H fun x H1 => ∃ i, x = .int i ∧ QO (some i) H1) : tPart te σ H QO := q
theorem exint {P : Int → Prop} (q : P i) : ∃ k, V.int i = .int k ∧ P k := ⟨i, rfl, q⟩
theorem test (q : te σ H fun x H' => ∃ k, x = .bl k ∧ QT k H') : tTest te σ H QT := q
theorem tb_ (q : te σ H fun x H' => ∃ k, x = .bl k ∧ QT k H') : tB te σ H QT := q
theorem tand (q : tt σ H fun c H1 => if c = true then tu σ H1 QT else QT false H1) : tAnd tt tu σ H QT := q
theorem tor (q : tt σ H fun c H1 => if c = true then QT true H1 else tu σ H1 QT) : tOr tt tu σ H QT := q
theorem tnot (q : tt σ H fun c H1 => QT (!c) H1) : tNot tt σ H QT := q
theorem andV (q : ta σ H fun x H1 => ∃ c, x = .bl c ∧ if c = true then tb σ H1 Q else Q (.bl false) H1) : tAndV ta tb σ H Q := q
theorem orV (q : ta σ H fun x H1 => ∃ c, x = .bl c ∧ if c = true then Q (.bl true) H1 else tb σ H1 Q) : tOrV ta tb σ H Q := q
theorem notV (q : ta σ H fun x H1 => ∃ c, x = .bl c ∧ Q (.bl (!c)) H1) : tNotV ta σ H Q := q
theorem ife (q : tt σ H fun c H1 => if c = true then ta σ H1 Q else tb σ H1 Q) : tIf tt ta tb σ H Q := q
theorem seq (q : t { nx := u D, rt := D.rt, bk := D.bk, ct := D.ct } σ H) : tSeq t u D σ H := q
theorem nxt (q : D.nx σ H) : tNext D σ H := q
theorem brk (q : D.bk σ H) : tBreak D σ H := q
theorem cnt (q : D.ct σ H) : tCont D σ H := q
theorem drp (q : te σ H fun _ H1 => D.nx σ H1) : tDrop te D σ H := q
theorem ret (q : te σ H D.rt) : tRet te D σ H := q
theorem retN (q : D.rt .non H) : tRetN D σ H := q
theorem ifS (q : tt σ H fun b H1 => if b = true then t D σ H1 else u D σ H1) : tIfS tt t u D σ H := q
theorem asg (q : te σ H fun x H1 => g x σ H1 D.nx) : tAsg te g D σ H := q
theorem gname {k : Nat} (q : QS (σ.set k (some v)) H) : gName k v σ H QS := q
theorem par {k l : Nat} (q : aa σ H fun vs H1 => ∃ v w, vs = [v, w] ∧ D.nx ((σ.set k (some v)).set l (some w)) H1) : tPar k l aa D σ H := q
theorem expair {P : V → V → Prop} (q : P x y) : ∃ v w, [x, y] = [v, w] ∧ P v w := ⟨x, y, rfl, q⟩
theorem gsub {f : TSet} (q : ta σ H fun o H1 => tb σ H1 fun i H2 => f o i v H2 fun H3 => QS σ H3) : gSub ta tb f v σ H QS := q
theorem setL {k : Nat} {QH : Hp → Prop} (h : H p = some (.lst xs)) (h1 : ixN xs.length i = some k) (q : QH (upd H p (.lst (xs.set k v)))) : rSetL (.ref p) (.int i) v H QH := ⟨p, xs, i, k, rfl, rfl, h, h1, q⟩
theorem gtup {k : Nat} (h : SqT K H a xs) (h1 : xs.length = k) (q : gs xs σ H QS) : gTup K k gs (.ref a) σ H QS := ⟨a, xs, rfl, h, h1, q⟩
theorem gcons (q : g v σ H fun σ' H' => gs vs σ' H' QS) : gCons g gs (v :: vs) σ H QS := ⟨v, vs, rfl, q⟩
theorem gnil (q : QS σ H) : gNil [] σ H QS := ⟨rfl, q⟩
theorem anil (q : QA [] H) : tNil σ H QA := q
theorem acons (q : te σ H fun x H1 => aa σ H1 fun xs H2 => QA (x :: xs) H2) : tCons te aa σ H QA := q
theorem callC {sp : Sp} (q : aa σ H fun vs H1 => sp vs H1 Q E0) : tCC sp aa σ H Q := q
theorem callK {sp : Sp} {gV : List V → List V → List V} (q : aa σ H fun vs H1 => ab σ H1 fun zs H2 => sp (gV vs zs) H2 Q E0) : tCK sp gV aa ab σ H Q := q
theorem callB {f : List V → Hp → VK → Prop} (q : aa σ H fun vs H1 => f vs H1 Q) : tCB f aa σ H Q := q
theorem lenS (h : s1.length ≤ sizeLine) (q : Q (.int s1.length) H) : rLenX K [.str s1] H Q := ⟨.str s1, s1.length, rfl, ⟨h, rfl⟩, q⟩
theorem lenL (h : SqL K H p xs) (q : Q (.int xs.length) H) : rLenX K [.ref p] H Q := ⟨.ref p, xs.length, rfl, .inl ⟨xs, h, rfl⟩, q⟩
theorem lenT (h : SqT K H p xs) (q : Q (.int xs.length) H) : rLenX K [.ref p] H Q := ⟨.ref p, xs.length, rfl, .inr ⟨xs, h, rfl⟩, q⟩
theorem intI (q : Q (.int i) H) : rIntX [.int i] H Q := .inl ⟨i, rfl, q⟩
theorem listL (h : SqL K H p xs) (q : ∀ l, H l = none → Q (.ref l) (upd H l (.lst xs))) : rListOf K [.ref p] H Q := ⟨p, xs, rfl, .inl h, q⟩
theorem listT (h : SqT K H p xs) (q : ∀ l, H l = none → Q (.ref l) (upd H l (.lst xs))) : rListOf K [.ref p] H Q := ⟨p, xs, rfl, .inr h, q⟩
theorem tupL (h : SqL K H p xs) (q : ∀ l, H l = none → Q (.ref l) (upd H l (.tup xs))) : rTupOf K [.ref p] H Q := ⟨p, xs, rfl, .inl ⟨h, q⟩⟩
theorem all_ {bs : List Bool} (h : SqL K H p (bs.map V.bl)) (q : Q (.bl (bs.all id)) H) : rAll K [.ref p] H Q := ⟨p, bs, rfl, h, q⟩
theorem any_ {bs : List Bool} (h : SqL K H p (bs.map V.bl)) (q : Q (.bl (bs.any id)) H) : rAny K [.ref p] H Q := ⟨p, bs, rfl, h, q⟩
theorem isi {T : String} {tv : Value} (h : TyX K H x tv) (h1 : PySem.W.kitOne K tv (.type T) = some b) (q : Q (.bl b) H) : rIsi K [x, .ty T] H Q := ⟨x, .ty T, tv, .type T, b, rfl, .ty T, h, h1, q⟩
theorem isiT {tv : Value} {us : List Value} (hT : H p = some (.tup vs)) (hP : Paired ClsV vs us) (h : TyX K H x tv) (h1 : PySem.W.kitAny K tv us = some b) (q : Q (.bl b) H) : rIsiT K [x, .ref p] H Q := ⟨x, p, vs, tv, us, b, rfl, hT, hP, h, h1, q⟩
theorem lst_ (q : aa σ H fun xs H1 => xs.length ≤ sizeLine ∧ ∀ p, H1 p = none → Q (.ref p) (upd H1 p (.lst xs))) : tLst aa σ H Q := q
theorem tup_ (q : aa σ H fun xs H1 => xs.length ≤ sizeLine ∧ ∀ p, H1 p = none → Q (.ref p) (upd H1 p (.tup xs))) : tTup aa σ H Q := q
theorem m1 {f : V → List V → Hp → VK → Prop} (q : ta σ H fun x H1 => (∃ a, x = .str a) ∧ te σ H1 fun y H2 => f x [y] H2 Q) : tM1 f ta te σ H Q := q
theorem isStr {P : Prop} (q : P) : (∃ a, V.str s1 = .str a) ∧ P := ⟨⟨s1, rfl⟩, q⟩
theorem joinL {zs : List Str} (h : SqL K H p (zs.map V.str)) (h1 : (zs.map (·.length)).sum + zs.length * s1.length ≤ 16777216) (q : Q (.str (Txt.join s1 zs)) H) : rJoin K (.str s1) [.ref p] H Q := ⟨s1, p, zs, rfl, rfl, .inl h, h1, q⟩
theorem for_ (q : wi σ H fun J H1 => ∃ W : Nat → Nat → St → Hp → Prop, (∃ m, W 0 m σ H1) ∧ ∀ i m σ H, W i m σ H →
      (J.stop i H ∧ D.nx σ H) ∨ (J.go i H ∧ ∃ N : St → Hp → Prop, (∀ σ' H', N σ' H' → ∃ m', m' < m ∧ W (i + 1) m' σ' H') ∧ ∀ x H', J.yld i H x H' → g x σ H' fun σ2 H2 => t { nx := N, rt := D.rt, bk := D.nx, ct := N } σ2 H2)) : tFor wi g t D σ H := q
theorem bm {T : String} {f : V → List V → Hp → VK → Prop} (q : ta σ H fun x H1 => tyV K T x H1 ∧ aa σ H1 fun xs H2 => f x xs H2 Q) : tBM K T f ta aa σ H Q := q
theorem bm0 {T : String} {f : V → List V → Hp → VK → Prop} (q : ta σ H fun x H1 => tyV K T x H1 ∧ f x [] H1 Q) : tBM0 K T f ta σ H Q := q
theorem mkNx {A B C : St → Hp → Prop} {R : VK} (h : D = ⟨A, R, B, C⟩) (q : A σ H) : Ends.nx D σ H := by subst h; exact q
theorem mkRt {A B C : St → Hp → Prop} {R : VK} (h : D = ⟨A, R, B, C⟩) (q : R v H) : Ends.rt D v H := by subst h; exact q
theorem mkBk {A B C : St → Hp → Prop} {R : VK} (h : D = ⟨A, R, B, C⟩) (q : B σ H) : Ends.bk D σ H := by subst h; exact q
theorem mkCt {A B C : St → Hp → Prop} {R : VK} (h : D = ⟨A, R, B, C⟩) (q : C σ H) : Ends.ct D σ H := by subst h; exact q
theorem ilist (h : ∃ xs, SqL K H a xs) {R : It → Hp → Prop} (q : R (Itl K a) H) : (fun (x : V) (H1 : Hp) => ∃ a, x = .ref a ∧ (∃ xs, SqL K H1 a xs) ∧ R (Itl K a) H1) (.ref a) H := ⟨a, rfl, h, q⟩
theorem il {R : It → Hp → Prop} (q : te σ H fun x H1 => ∃ a, x = .ref a ∧ (∃ xs, SqL K H1 a xs) ∧ R (Itl K a) H1) : iList K te σ H R := q
theorem exl {R : Addr → Prop} (h : ∃ xs, SqL K H a xs) (q : R a) : ∃ b, V.ref a = .ref b ∧ (∃ xs, SqL K H b xs) ∧ R b := ⟨a, rfl, h, q⟩
theorem ir1 {R : It → Hp → Prop} (q : aa σ H fun vs H1 => ∃ j : Int, vs = [.int j] ∧ -(2 ^ 62) ≤ j ∧ j < 2 ^ 62 ∧ R (Itr 0 j.toNat) H1) : iRng1 aa σ H R := q
theorem exr1 {R : Int → Prop} (h1 : -(2 ^ 62) ≤ i) (h2 : i < 2 ^ 62) (q : R i) : ∃ j : Int, [V.int i] = [.int j] ∧ -(2 ^ 62) ≤ j ∧ j < 2 ^ 62 ∧ R j := ⟨i, rfl, h1, h2, q⟩
theorem is_ {R : It → Hp → Prop} (q : te σ H fun v H1 => ∃ x, v = .str x ∧ R (Its x) H1) : iStr te σ H R := q
theorem exstr {R : Str → Prop} (q : R s1) : ∃ x, V.str s1 = .str x ∧ R x := ⟨s1, rfl, q⟩
end

/-! ### kinds -/
theorem kB_NoneType_str : kitB "NoneType" "str" = some false := by decide +kernel
theorem kB_NoneType_bool : kitB "NoneType" "bool" = some false := by decide +kernel
theorem kB_NoneType_int : kitB "NoneType" "int" = some false := by decide +kernel
theorem kB_NoneType_dict : kitB "NoneType" "dict" = some false := by decide +kernel
theorem kB_NoneType_tuple : kitB "NoneType" "tuple" = some false := by decide +kernel
theorem kB_NoneType_list : kitB "NoneType" "list" = some false := by decide +kernel
theorem kB_bool_str : kitB "bool" "str" = some false := by decide +kernel
theorem kB_bool_bool : kitB "bool" "bool" = some true := by decide +kernel
theorem kB_bool_int : kitB "bool" "int" = some true := by decide +kernel
theorem kB_bool_dict : kitB "bool" "dict" = some false := by decide +kernel
theorem kB_bool_tuple : kitB "bool" "tuple" = some false := by decide +kernel
theorem kB_bool_list : kitB "bool" "list" = some false := by decide +kernel
theorem kB_int_str : kitB "int" "str" = some false := by decide +kernel
theorem kB_int_bool : kitB "int" "bool" = some false := by decide +kernel
theorem kB_int_int : kitB "int" "int" = some true := by decide +kernel
theorem kB_int_dict : kitB "int" "dict" = some false := by decide +kernel
theorem kB_int_tuple : kitB "int" "tuple" = some false := by decide +kernel
theorem kB_int_list : kitB "int" "list" = some false := by decide +kernel
theorem kB_str_str : kitB "str" "str" = some true := by decide +kernel
theorem kB_str_bool : kitB "str" "bool" = some false := by decide +kernel
theorem kB_str_int : kitB "str" "int" = some false := by decide +kernel
theorem kB_str_dict : kitB "str" "dict" = some false := by decide +kernel
theorem kB_str_tuple : kitB "str" "tuple" = some false := by decide +kernel
theorem kB_str_list : kitB "str" "list" = some false := by decide +kernel
theorem kB_list_str : kitB "list" "str" = some false := by decide +kernel
theorem kB_list_bool : kitB "list" "bool" = some false := by decide +kernel
theorem kB_list_int : kitB "list" "int" = some false := by decide +kernel
theorem kB_list_dict : kitB "list" "dict" = some false := by decide +kernel
theorem kB_list_tuple : kitB "list" "tuple" = some false := by decide +kernel
theorem kB_list_list : kitB "list" "list" = some true := by decide +kernel
theorem kB_tuple_str : kitB "tuple" "str" = some false := by decide +kernel
theorem kB_tuple_bool : kitB "tuple" "bool" = some false := by decide +kernel
theorem kB_tuple_int : kitB "tuple" "int" = some false := by decide +kernel
theorem kB_tuple_dict : kitB "tuple" "dict" = some false := by decide +kernel
theorem kB_tuple_tuple : kitB "tuple" "tuple" = some true := by decide +kernel
theorem kB_tuple_list : kitB "tuple" "list" = some false := by decide +kernel
theorem kB_dict_str : kitB "dict" "str" = some false := by decide +kernel
theorem kB_dict_bool : kitB "dict" "bool" = some false := by decide +kernel
theorem kB_dict_int : kitB "dict" "int" = some false := by decide +kernel
theorem kB_dict_dict : kitB "dict" "dict" = some true := by decide +kernel
theorem kB_dict_tuple : kitB "dict" "tuple" = some false := by decide +kernel
theorem kB_dict_list : kitB "dict" "list" = some false := by decide +kernel
theorem kitAny2 {K : PySem.W.Frag} {a b c : String} {r s : Bool} (h1 : kitB a b = some r) (h2 : kitB a c = some s) : PySem.W.kitAny K (.type a) [.type b, .type c] = some (r || s) := by
  refine kitAny_cons (kit_ty h1) (fun e => ?_) (fun e => ?_)
  · refine kitAny_cons (kit_ty h2) (fun e2 => ?_) (fun e2 => ?_)
    · rw [e, e2]
      rfl
    · rw [e, e2]
      rfl
  · rw [e]
    rfl
theorem cls2 (b c : String) : Paired ClsV [V.ty b, V.ty c] [.type b, .type c] := .cons (.ty b) (.cons (.ty c) .nil)
theorem tyx_L {K : PySem.W.Frag} {H : Hp} {a : Addr} {xs : List V} (h : SqL K H a xs) : TyX K H (.ref a) (.type "list") := by
  rcases h with (h | ⟨o, h⟩) | ⟨o, its, n, h, c, _⟩
  · exact .base (.lst h)
  · exact .base (.frz h)
  · exact .kList h c
theorem tyx_T {K : PySem.W.Frag} {H : Hp} {a : Addr} {xs : List V} (h : SqT K H a xs) : TyX K H (.ref a) (.type "tuple") := by
  rcases h with (h | ⟨o, h⟩) | ⟨o, its, n, h, c, _⟩
  · exact .base (.tup h)
  · exact .fTuple h
  · exact .kTuple h c
/-- zip over two tuples -/
theorem walk_zipT {K : PySem.W.Frag} {a b : Addr} {xs ys : List V} {n : Nat} (hn : n = min xs.length ys.length) : Walk (RZ.ItzT K a b) n (fun H => SqT K H a xs ∧ SqT K H b ys) (YPair (fun i => xs[i]?) (fun i => ys[i]?)) := by
  subst hn
  refine ⟨fun i H hi g => ?_, fun H g => ⟨xs, ys, g.1, g.2, by omega⟩, fun i H x H' hi g y => ?_⟩
  · have h1 : i < xs.length := by omega
    have h2 : i < ys.length := by omega
    exact ⟨xs, ys, xs[i], ys[i], g.1, g.2, List.getElem?_eq_getElem h1, List.getElem?_eq_getElem h2⟩
  · obtain ⟨T, x1, y1, e1, n1, e2, f1, f2⟩ := y
    exact ⟨T, x1, y1, e1, n1, e2, f1 xs g.1, f2 ys g.2⟩

/-! ### heaps -/
theorem same_upd {H : Hp} {p : Addr} {o : HO} (h : H p = none) : Same H (upd H p o) := fun b x e => by
  rw [upd_ne (ne_of_none e h)]
  exact e
/-- all that was tracked but what stands at b is as it was -/
def But (b : Addr) (H H' : Hp) : Prop := ∀ c o, H c = some o → c ≠ b → H' c = some o
theorem But.refl (b : Addr) (H : Hp) : But b H H := fun _ _ h _ => h
theorem But.trans {b : Addr} {H H1 H2 : Hp} (a : But b H H1) (c : But b H1 H2) : But b H H2 := fun d o h n => c d o (a d o h n) n
theorem But.of_same {b : Addr} {H H' : Hp} (s : Same H H') : But b H H' := fun c o h _ => s c o h
theorem But.upd {b : Addr} {H : Hp} {o : HO} : But b H (upd H b o) := fun c x h n => by rw [upd_ne n]; exact h
theorem But.new {b p : Addr} {H : Hp} {o : HO} (h : H p = none) : But b H (L2.upd H p o) := But.of_same (same_upd h)
theorem But.mutNew {b p : Addr} {H H' : Hp} {o : HO} (h : But b H H') (n : H p = none) : But b H (L2.upd H' p o) := fun c x e nc => by
  rw [upd_ne (ne_of_none e n)]
  exact h c x e nc
theorem But.free {b p : Addr} {H H' : Hp} (s : But b H H') (hb : ∃ o, H' b = some o) (n : H' p = none) : H p = none := by
  cases e : H p with
  | none => rfl
  | some o =>
    by_cases h : p = b
    · obtain ⟨u, hu⟩ := hb
      rw [h, hu] at n
      cases n
    · rw [s p o e h] at n
      cases n
theorem SqL.but {K : PySem.W.Frag} {b a : Addr} {H H' : Hp} {xs : List V} (s : But b H H') (n : a ≠ b) (h : SqL K H a xs) : SqL K H' a xs := by
  rcases h with (h | ⟨o, h⟩) | h
  · exact .inl (.inl (s _ _ h n))
  · exact .inl (.inr ⟨o, s _ _ h n⟩)
  · exact .inr h
theorem Same.seqT {K : PySem.W.Frag} {H H' : Hp} {a : Addr} {xs : List V} (e : Same H H') (h : SqT K H a xs) : SqT K H' a xs := by
  rcases h with (h | ⟨o, h⟩) | h
  · exact .inl (.inl (e _ _ h))
  · exact .inl (.inr ⟨o, e _ _ h⟩)
  · exact .inr h
theorem lc {σ : St} {H : Hp} {Q : VK} {wi : TI} {g : TG} {tt : TT} {te : TE} {vs : List Nat}
    (q : wi σ H fun J H1 => ∀ D, H1 D = none → ∃ W : Nat → Nat → Hp → Prop, (∃ m, W 0 m (upd H1 D (.lst []))) ∧ ∀ i m H, W i m H →
  (J.stop i H ∧ Q (.ref D) H) ∨ (J.go i H ∧ ∃ Nx : Hp → Prop, (∀ H', Nx H' → ∃ m', m' < m ∧ W (i + 1) m' H') ∧ ∀ x H', J.yld i H x H' → g x (wipe σ vs) H' fun σ2 H2 => wipe σ2 vs = wipe σ vs ∧ tt σ2 H2 fun b H3 =>
    if b = true then te σ2 H3 fun y H4 => ∃ acc, H4 D = some (.lst acc) ∧ acc.length < sizeLine ∧ Nx (upd H4 D (.lst (acc ++ [y]))) else Nx H3)) : tLc wi g tt te vs σ H Q := q
theorem disp {σ : St} {H : Hp} {Q : VK} {trs : List (TE × TE)} (q : ∀ p, H p = none → tPairs trs σ (upd H p (.dK [])) fun ps H2 => H2 p = some (.dK []) ∧ ∃ kvs : List (Key × V), ps = kvs.map (fun kv => (kV kv.1, kv.2)) ∧ kvs.length ≤ 15 ∧ Q (.ref p) (upd H2 p (.dK (mergeK [] kvs)))) : tDisp trs σ H Q := q
theorem pnil {σ : St} {H : Hp} {k : List (V × V) → Hp → Prop} (q : k [] H) : tPairs [] σ H k := q
theorem pcons {σ : St} {H : Hp} {k : List (V × V) → Hp → Prop} {tk tv : TE} {r : List (TE × TE)} (q : tk σ H fun x H1 => tv σ H1 fun y H2 => tPairs r σ H2 fun ps H3 => k ((x, y) :: ps) H3) : tPairs ((tk, tv) :: r) σ H k := q
theorem dget2 {σ : St} {H : Hp} {Q : VK} {td ty tx : TE} (q : td σ H fun x H1 => ∃ a, x = .ref a ∧ IsD H1 a ∧ ty σ H1 fun y H2 => tx σ H2 fun z H3 => ∃ o, DGet H3 a y o ∧ Q (o.getD z) H3) : tDGet2 td ty tx σ H Q := q
theorem iz {K : PySem.W.Frag} {σ : St} {H : Hp} {aa : TA} {R : It → Hp → Prop} (q : aa σ H fun vs H1 => ∃ a b xs ys, vs = [.ref a, .ref b] ∧ ((SqL K H1 a xs ∧ SqL K H1 b ys ∧ R (Itz K a b) H1) ∨ (SqT K H1 a xs ∧ SqT K H1 b ys ∧ R (RZ.ItzT K a b) H1))) : RZ.iZipA K aa σ H R := q
theorem tyes {σ : St} {H : Hp} {QT : Bool → Hp → Prop} (q : QT true H) : tYes σ H QT := q
theorem cxK {CX : CXT} {P : Program} {w : World} {K : PySem.W.Frag} {mg : Str → Option Value} {base : Heap} {N : List Str} {qual : Str} {sc : Scope} {f : Addr} {cd : Value} {A : Around} {outer : List Env} {s : Shared} {H : Hp} {E : XK} :
    (cxOf CX P w K mg base N qual sc f cd A outer s H E).nox.K = K := rfl
theorem cxKx {CX : CXT} {P : Program} {w : World} {K : PySem.W.Frag} {mg : Str → Option Value} {base : Heap} {N : List Str} {qual : Str} {sc : Scope} {f : Addr} {cd : Value} {A : Around} {outer : List Env} {s : Shared} {H : Hp} {E : XK} :
    (cxOf CX P w K mg base N qual sc f cd A outer s H E).K = K := rfl
theorem map_at {α : Type} {g : α → V} {l : List α} {i : Nat} {y : V} (h : (l.map g)[i]? = some y) : ∃ u, l[i]? = some u ∧ y = g u := by
  rw [List.getElem?_map] at h
  cases e : l[i]? with
  | none =>
    rw [e] at h
    cases h
  | some u =>
    rw [e] at h
    exact ⟨u, rfl, (Option.some.inj h).symm⟩
theorem cut_map (ns : List Int) (lo hi : Option Int) : ∃ ms : List Int, cutV (ns.map V.int) lo hi = ms.map V.int ∧ ms.length ≤ ns.length := by
  refine ⟨(ns.drop (HT.sIx (ns.map V.int).length 0 lo)).take (HT.sIx (ns.map V.int).length (ns.map V.int).length hi - HT.sIx (ns.map V.int).length 0 lo), ?_, ?_⟩
  · unfold cutV
    rw [List.map_take, List.map_drop]
  · rw [List.length_take, List.length_drop]
    omega
theorem un0 {H : Hp} {a b : Addr} {o : HO} (e : upd H a o b = none) : H b = none := by
  by_cases h : b = a
  · rw [h, upd_same] at e
    cases e
  · rw [upd_ne h] at e
    exact e
theorem upd2 {H : Hp} {a b : Addr} {o x : HO} (h : b ≠ a) (e : H b = some x) : upd H a o b = some x := by
  rw [upd_ne h]
  exact e
/-! ### texts -/
theorem cut_to (l : List Nat) {k : Int} (h : 0 ≤ k) : cutS (SX.S l) none (some k) = SX.S (l.take k.toNat) := by
  rw [C8.cutS_slice]
  exact SX.slice_to h
theorem cut_from (l : List Nat) {k : Int} (h : 0 ≤ k) : cutS (SX.S l) (some k) none = SX.S (l.drop k.toNat) := by
  rw [C8.cutS_slice]
  exact SX.slice_from h
theorem join_signs : ∀ cs : List Nat, TL.joinL [] (cs.map fun c => [c]) = cs
  | [] => rfl
  | [c] => rfl
  | c :: d :: r => by
    have ih := join_signs (d :: r)
    show [c] ++ ([] ++ TL.joinL [] ((d :: r).map fun c => [c])) = c :: d :: r
    rw [ih]
    rfl
theorem join_sg (cs : List Nat) : Txt.join (SX.S []) (cs.map fun c => (⟨#[c]⟩ : Str)) = SX.S cs := by
  have e : (cs.map fun c => (⟨#[c]⟩ : Str)) = (cs.map fun c => [c]).map SX.S := by
    rw [List.map_map]
    rfl
  rw [e, SX.join_S, join_signs]
theorem S_len0 : (SX.S []).length = 0 := rfl
theorem empty_S : Str.ofString "" = SX.S [] := by decide +kernel
theorem len_sg : ∀ cs : List Nat, ((cs.map fun c => (⟨#[c]⟩ : Str)).map (·.length)).sum = cs.length
  | [] => rfl
  | c :: r => by
    rw [List.map_cons, List.map_cons, List.sum_cons, len_sg r, List.length_cons]
    show 1 + r.length = r.length + 1
    omega
/-! ### [p(sign) for sign in text] -/
theorem lc_signs {l : List Nat} {p : Nat → Bool} {k : Nat} {te : TE} {vs : List Nat} {σ : St} {H1 : Hp} {D : Addr} {Qd : Hp → Prop}
    (hte : ∀ (c : Nat) (H' : Hp) (Q' : VK), c ∈ l → Q' (.bl (p c)) H' → te ((wipe σ vs).set k (some (.str ⟨#[c]⟩))) H' Q') (hw : ∀ v, wipe ((wipe σ vs).set k v) vs = wipe σ vs) (hl : l.length ≤ 100000)
    (hd : Qd (upd H1 D (.lst ((l.map p).map V.bl)))) :
    ∃ W : Nat → Nat → Hp → Prop, (∃ m, W 0 m (upd H1 D (.lst []))) ∧ ∀ i m H, W i m H →
      ((Its (SX.S l)).stop i H ∧ Qd H) ∨ ((Its (SX.S l)).go i H ∧ ∃ Nx : Hp → Prop, (∀ H', Nx H' → ∃ m', m' < m ∧ W (i + 1) m' H') ∧ ∀ x H', (Its (SX.S l)).yld i H x H' → gName k x (wipe σ vs) H' fun σ2 H2 => wipe σ2 vs = wipe σ vs ∧ tYes σ2 H2 fun b H3 =>
        if b = true then te σ2 H3 fun y H4 => ∃ acc, H4 D = some (.lst acc) ∧ acc.length < sizeLine ∧ Nx (upd H4 D (.lst (acc ++ [y]))) else Nx H3) := by
  have hz : (SX.S l).cps.size = l.length := by simp [SX.S]
  refine lc_it (walk_str (z := SX.S l)) (fun i H' => H' = upd H1 D (.lst (((l.take i).map p).map V.bl))) rfl (fun _ _ _ _ => trivial) ?_ ?_
  · rintro i x H H' hi rfl ⟨rfl, c, hc, rfl⟩
    have hc2 : l[i]? = some c := by
      have e : (SX.S l).cps[i]? = l[i]? := by simp [SX.S]
      rw [← e]
      exact hc
    have hm : c ∈ l := List.mem_of_getElem? hc2
    refine ⟨hw _, ?_⟩
    with_reducible refine Rg.tyes ?_
    with_reducible refine iteT ?_
    refine hte c _ _ hm ⟨_, upd_same, ?_, ?_⟩
    · rw [List.length_map, List.length_map, List.length_take, sizeLine_eq]
      omega
    · rw [upd_upd, List.take_add_one, hc2, List.map_append, List.map_append]
      rfl
  · rintro H rfl
    rw [hz, List.take_length]
    exact hd
theorem sgn_lt (a b : Nat) : decide (([a] : List Nat) < [b]) = decide (a < b) := by
  refine decide_eq_decide.mpr ⟨fun h => ?_, fun h => ?_⟩
  · cases h with
    | rel h => exact h
    | cons h => cases h
  · exact List.Lex.rel h
theorem sg_eq (a b : Nat) : decide ((⟨#[a]⟩ : Str) = ⟨#[b]⟩) = decide (a = b) := by
  refine decide_eq_decide.mpr ⟨fun h => ?_, fun h => by rw [h]⟩
  have e : ([a] : List Nat) = [b] := congrArg (fun x : Str => x.cps.toList) h
  injection e
theorem str_S (z : Str) : z = SX.S z.cps.toList := (SX.S_tl z).symm
theorem fold_rep (c : Nat) : ∀ (k : Nat) (acc : Array Nat), ((List.replicate k #[c]).foldl (· ++ ·) acc).toList = acc.toList ++ List.replicate k c
  | 0, acc => by simp
  | k + 1, acc => by
    rw [List.replicate_succ, List.foldl_cons, fold_rep c k, List.replicate_succ]
    simp
theorem mul_S (c : Nat) {n : Int} (h : 0 ≤ n) : Txt.mul (SX.S [c]) n = SX.S (List.replicate n.toNat c) := by
  unfold Txt.mul
  by_cases h1 : n < 1
  · rw [if_pos h1]
    have e : n = 0 := by omega
    subst e
    rfl
  · rw [if_neg h1]
    by_cases h2 : n = 1
    · subst h2
      rfl
    · rw [if_neg (by
        have : (SX.S [c]).length = 1 := rfl
        rw [this]
        simp [h2])]
      refine TL.ext_tl ?_
      have e := fold_rep c n.toNat #[]
      exact e
end Rg

set_option Elab.async false
set_option linter.all false
set_option maxRecDepth 100000
set_option maxHeartbeats 4000000
/-! ### t[::-1] of a tuple -/
namespace Rv
open PySem PyProof.Rows
section
variable {pr : Program} {wd : World} {B : Around} {Er : Value → Shared → Prop} {z : Shared}
theorem back_places (n : Nat) : Builtin.Slice.slicePlaces ((n : Int) - 1) (-1) (-1) = n := by
  simp only [Builtin.Slice.slicePlaces, show ¬ ((-1 : Int) > 0) by omega, show (-(-1 : Int)) = 1 by omega, Int.ediv_one, if_false]
  split <;> omega
theorem back_pick (l : List Value) : ∀ k, k ≤ l.length → ((List.range k).filterMap fun (m : Nat) => l.toArray[((l.length : Int) - 1 + (m : Int) * (-1)).toNat]?) = l.reverse.take k
  | 0, _ => by simp
  | k + 1, hk => by
    have hl : ((l.length : Int) - 1 + (k : Int) * (-1)).toNat = l.length - 1 - k := by omega
    have e : l.reverse[k]? = l.toArray[l.length - 1 - k]? := by
      rw [List.getElem?_reverse (by omega)]
      simp
    rw [List.range_succ, List.filterMap_append, back_pick l k (by omega), List.take_add_one, e, List.filterMap_cons, hl]
    cases l.toArray[l.length - 1 - k]? <;> rfl
theorem its_fields {sl : Addr} {u v x : Value} {Q : Value × Value × Value → Shared → Prop} (hs : z.heap.IsSliceOf sl u v x) (h : Q (u, v, x) z) : wpAny (model pr wd) B (Builtin.Slice.sliceFields (.ref sl)) Q Er z := by
  obtain ⟨o, g, _, e⟩ := hs
  exact wpAny_bind (wpAny_field g e (x := u) rfl (wpAny_bind (wpAny_field g e (x := v) rfl (wpAny_bind (wpAny_field g e (x := x) rfl (wpAny_pure h))))))
theorem back_applied {sl : Addr} {vk : Value} {n : Nat} {Q : Int × Int × Nat → Shared → Prop} (hs : z.heap.IsSliceOf sl .none .none vk) (pk : IsPart vk (some (-1))) (h : Q ((n : Int) - 1, -1, n) z) :
    wpAny (model pr wd) B (Builtin.Slice.sliceApplied (.ref sl) (pure (n : Int))) Q Er z := by
  have fin : wpAny (model pr wd) B (pure ((n : Int) - 1, (-1 : Int), Builtin.Slice.slicePlaces ((n : Int) - 1) (-1) (-1))) Q Er z := by
    rw [back_places]
    exact wpAny_pure h
  have parts : wpAny (model pr wd) B (Builtin.Slice.slicePartIndex vk) (fun c s' => c = some (-1) ∧ s' = z) Er z := HT.slicePart_ pk ⟨rfl, rfl⟩
  refine wpAny_bind (its_fields hs (wpAny_bind (wpAny_mono parts (fun c s' hc => ?_) fun _ _ e => e)))
  obtain ⟨rfl, rfl⟩ := hc
  exact wpAny_bind (slicePart_none (wpAny_bind (slicePart_none (wpAny_bind (wpAny_pure fin)))))
/-- what tuple.__getitem__ answers -/
theorem back_body {t sl : Addr} {l : List Value} {vk : Value} {R : Fin → Shared → Prop} (ht : IsTup z.heap t l.toArray) (hs : z.heap.IsSliceOf sl .none .none vk) (pk : IsPart vk (some (-1))) (hl : l.length ≤ sizeLine)
    (h : R (.done (.ret (.ref z.heap.objs.size))) { z with heap := z.heap.push { cls := .type "tuple", data := .seq l.reverse.toArray } }) : wpAny (model pr wd) B (Builtin.«tuple.__getitem__» ⟨[.ref t, .ref sl], []⟩) R Er z := by
  have hT : z.TypeIs (.ref sl) "slice" := hs.elim fun o k => ⟨o, k.1, k.2.1⟩
  have size : sizeOk (.seq l.reverse.toArray) := show l.reverse.toArray.size ≤ sizeLine by simpa using hl
  have pick : ((List.range l.toArray.size).filterMap fun (k : Nat) => l.toArray[((l.toArray.size : Int) - 1 + (k : Int) * (-1)).toNat]?).toArray = l.reverse.toArray := by
    rw [List.size_toArray, back_pick l l.length (Nat.le_refl _), List.take_of_length_le (Nat.le_of_eq List.length_reverse)]
  have step : (((l.toArray.size : Int) - 1 == 0 && (-1 : Int) == 1 && l.toArray.size == l.toArray.size) : Bool) = false := by
    rw [show ((-1 : Int) == 1) = false from rfl, Bool.and_false, Bool.false_and]
  refine wpAny_bind (m := Builtin.Tuple.tupleItemsOf (.ref t)) (tupleItemsOf_ ht (wpAny_bind (wpAny_typeOf hT ?_)))
  rw [if_pos (show (Value.type "slice" == Value.type "slice") = true from rfl)]
  refine wpAny_bind (back_applied (n := l.toArray.size) hs pk ?_)
  show wpAny (model pr wd) B (if ((l.toArray.size : Int) - 1 == 0 && (-1 : Int) == 1 && l.toArray.size == l.toArray.size) = true then _ else _) R Er z
  rw [step, if_neg Bool.false_ne_true, pick]
  first
    | exact wpAny_bind (m := Builtin.Tuple.tupleExact l.reverse.toArray) (wpAny_newObj_type (wpAny_pure h) size)
    | exact wpAny_bind (m := Builtin.Tuple.tupleExact l.reverse.toArray) (wpAny_newObj_type (wpAny_bind (wpAny_pure (wpAny_pure h))) size)
    | exact wpAny_bind (wpAny_bind (m := Builtin.Tuple.tupleExact l.reverse.toArray) (wpAny_newObj_type (wpAny_pure (wpAny_pure h)) size))
    | exact wpAny_bind (wpAny_bind (m := Builtin.Tuple.tupleExact l.reverse.toArray) (wpAny_newObj_type (wpAny_pure h) size))
theorem back_item {t sl : Addr} {l : List Value} {vk : Value} {Q : Value → Shared → Prop} (ht : IsTup z.heap t l.toArray) (hs : z.heap.IsSliceOf sl .none .none vk) (pk : IsPart vk (some (-1))) (hl : l.length ≤ sizeLine)
    (h : Q (.ref z.heap.objs.size) { z with heap := z.heap.push { cls := .type "tuple", data := .seq l.reverse.toArray } }) : wpAny (model pr wd) B (getItem (.ref t) (.ref sl)) Q Er z := by
  have road : wpAny (model pr wd) B (call (.builtin "tuple.__getitem__") [.ref t, .ref sl]) Q Er z := wpAny_call_entry PyProof.Rows.slot_tuple_getitem ht.typeIs entry_tuple_getitem (back_body ht hs pk hl ⟨_, rfl, h⟩) (args_tuple_getitem _ _)
  have found : wpAny (model pr wd) B (callSpecial? (.ref t) "__getitem__" [.ref sl]) (fun o s' => ∃ v, o = some v ∧ Q v s') Er z := wpAny_callSpecial?_slot ht.typeIs PyProof.Rows.slot_tuple_getitem (wpAny_mono road (fun v s' q => ⟨v, rfl, q⟩) fun _ _ e => e)
  unfold getItem
  first
    | refine wpAny_holding (wpAny_bind (wpAny_pure (wpAny_bind (wpAny_sequenceKey ht.typeIs (by decide) (wpAny_bind (wpAny_mono found (fun o s' q => ?_) fun _ _ e => e))))))
    | refine wpAny_bind (wpAny_pure (wpAny_bind (wpAny_sequenceKey ht.typeIs (by decide) (wpAny_bind (wpAny_mono found (fun o s' q => ?_) fun _ _ e => e)))))
    | refine wpAny_holding (wpAny_bind (wpAny_sequenceKey ht.typeIs (by decide) (wpAny_bind (wpAny_mono found (fun o s' q => ?_) fun _ _ e => e))))
    | refine wpAny_bind (wpAny_sequenceKey ht.typeIs (by decide) (wpAny_bind (wpAny_mono found (fun o s' q => ?_) fun _ _ e => e)))
  obtain ⟨v, rfl, q⟩ := q
  first
    | exact wpAny_pure q
    | exact wpAny_bind (wpAny_pure q)
end
end Rv
namespace Rg
open PySem L2 PySem.Spec PyProof.Rows
def tRevT (K : PySem.W.Frag) (te : TE) : TE := fun σ H Q => te σ H fun x H1 => ∃ a xs, x = .ref a ∧ SqT K H1 a xs ∧ ∀ p, H1 p = none → Q (.ref p) (upd H1 p (.tup xs.reverse))
section
variable {X : Cx}
theorem pe_revLX (K : PySem.W.Frag) {e : Expr} {te : TE} {k : Nat} {p1 p2 p3 pos : Pos} (he : PE X e te) (hK : X.K = K := by rfl) : PE X (.Subscript e (.Slice none none (some (.UnaryOp .USub (.Constant (.int 1) k p1) p2)) p3) pos) (tRevL K te) := by
  subst hK
  exact pe_revL he
/-- the slice object of «::-1» -/
theorem sl_back {pins : List (Addr × Obj)} {z : Shared} {σ : L2.St} {H : Hp} {R : Value → Shared → Prop} {k : Nat} {p1 p2 p3 : Pos} (I : Inv X pins σ H z)
    (h : ∀ vk z1, Inv X pins σ H z1 → IsPart vk (some (-1)) → R (.ref z1.heap.objs.size) { z1 with heap := z1.heap.push { cls := .type "slice", data := .fields #[.none, .none, vk] } }) :
    wpAny (model X.prog X.w) X.A (eval (.Slice none none (some (.UnaryOp .USub (.Constant (.int 1) k p1) p2)) p3) X.env) R X.xe z := by
  have st : PO X (some (.UnaryOp .USub (.Constant (.int 1) k p1) p2)) (tPart (tUn (rU fun i => .int (-i)) (tC (.int 1)))) := po_some (pe_un un_neg pe_int)
  have go := st.run pins z σ H (fun o H' => o = some (-1) ∧ H' = H) I ⟨1, rfl, -1, rfl, rfl, rfl⟩
  refine wpAny_Slice ?_
  rw [evalPart_none]
  refine wpAny_pure (wpAny_pure (thn go fun vk z1 hv => ?_))
  obtain ⟨o, H1, J, pk, eo, eh⟩ := hv
  subst eo eh
  exact h vk z1 J pk
theorem pe_revT (K : PySem.W.Frag) {e : Expr} {te : TE} {k : Nat} {p1 p2 p3 pos : Pos} (he : PE X e te) (hK : X.K = K := by rfl) : PE X (.Subscript e (.Slice none none (some (.UnaryOp .USub (.Constant (.int 1) k p1) p2)) p3) pos) (tRevT K te) := by
  subst hK
  constructor
  intro pins z σ H Q I hq
  refine Subscript_ (thn (he.run pins z σ H _ I hq) fun v z1 hv => ?_)
  obtain ⟨y, H1, J, ry, a, xs, rfl, hx, q⟩ := hv
  cases ry
  refine sl_back J fun vk z2 J2 pk => ?_
  have J3 : Inv X pins σ H1 { z2 with heap := z2.heap.push { cls := .type "slice", data := .fields #[.none, .none, vk] } } := J2.kept (t' := z2.toks) fun _ _ g => Heap.get?_push_of_some _ g
  obtain ⟨its, r, ht, hz⟩ := J3.tuple hx
  have hn : its.length ≤ sizeLine := r.length ▸ hz
  have made : ObjOk X.prog X.w (upd H1 (z2.heap.push { cls := .type "slice", data := .fields #[.none, .none, vk] }).objs.size (.tup xs.reverse)) ((z2.heap.push { cls := .type "slice", data := .fields #[.none, .none, vk] }).push { cls := .type "tuple", data := .seq its.reverse.toArray }) (z2.heap.push { cls := .type "slice", data := .fields #[.none, .none, vk] }).objs.size (.tup xs.reverse) :=
    ⟨by rw [List.length_reverse]; exact hz, _, r.reverse, IsTup.new _ _⟩
  have J4 := J3.laid (t' := z2.toks) (o := .tup xs.reverse) (fun _ _ g => Heap.get?_push_of_some _ g) (Nat.le_refl _) made
  exact tail_any (ops := [.ref a, .ref z2.heap.objs.size]) ht.typeIs (PyProof.Rows.slot_tuple_getitem.lookup) (Rv.back_item ht (Heap.IsSliceOf.new _ _ _ vk) pk hn ⟨.ref _, _, J4, rfl, q _ (J3.hok.fresh (Nat.le_refl _))⟩) (by with_unfolding_all rfl)
theorem revL {K : PySem.W.Frag} {te : TE} {σ : L2.St} {H : Hp} {Q : VK} (q : te σ H fun x H1 => ∃ a xs, x = .ref a ∧ SqL K H1 a xs ∧ ∀ p, H1 p = none → Q (.ref p) (upd H1 p (.lst xs.reverse))) : tRevL K te σ H Q := q
theorem revT {K : PySem.W.Frag} {te : TE} {σ : L2.St} {H : Hp} {Q : VK} (q : te σ H fun x H1 => ∃ a xs, x = .ref a ∧ SqT K H1 a xs ∧ ∀ p, H1 p = none → Q (.ref p) (upd H1 p (.tup xs.reverse))) : tRevT K te σ H Q := q
/-- x += y: ints, texts, lists -/
def ipX : TIp := fun x y H Q => (∃ i j, x = .int i ∧ y = .int j ∧ Q (.int (i + j)) H) ∨ (∃ i j, x = .str i ∧ y = .str j ∧ i.length + j.length ≤ sizeLine ∧ Q (.str (i ++ j)) H) ∨ rExt2 x y H Q
theorem ip_X : PIp X .Add ipX := by
  intro pins s σ H x y v u Q I r1 r2 h
  rcases h with h | h | h
  · exact ip_add pins s σ H x y v u Q I r1 r2 h
  · exact iop_add_str pins s σ H x y v u Q I r1 r2 h
  · exact iop_ext pins s σ H x y v u Q I r1 r2 h
theorem aug {i : Nat} {te : TE} {D : Ends} {σ : L2.St} {H : Hp} {x : V} (h : σ[i]? = some (some x)) (q : te σ H fun y H1 => ipX x y H1 fun z H2 => D.nx (σ.set i (some z)) H2) : tAug i te ipX D σ H := ⟨x, h, q⟩
theorem ipI2 {i j : Int} {H : Hp} {Q : VK} (q : Q (.int (i + j)) H) : ipX (.int i) (.int j) H Q := .inl ⟨i, j, rfl, rfl, q⟩
theorem ipS2 {i j : Str} {H : Hp} {Q : VK} (h : i.length + j.length ≤ sizeLine) (q : Q (.str (i ++ j)) H) : ipX (.str i) (.str j) H Q := .inr (.inl ⟨i, j, rfl, rfl, h, q⟩)
theorem ipL2 {l b : Addr} {xs zs : List V} {H : Hp} {Q : VK} (h : H l = some (.lst xs)) (h2 : H b = some (.lst zs)) (h3 : xs.length + zs.length ≤ sizeLine) (q : Q (.ref l) (upd H l (.lst (xs ++ zs)))) : ipX (.ref l) (.ref b) H Q := .inr (.inr ⟨l, b, xs, zs, rfl, rfl, h, h2, h3, q⟩)
theorem pa_starX (K : PySem.W.Frag) {e : Expr} {es : List Expr} {te : TE} {t : TA} {p : Pos} (he : PE X e te) (hr : PA X es t) (hK : X.K = K := by rfl) (hs : starEach (.Starred e p :: es) X.env = (true, eval e X.env) :: starEach es X.env := by rfl) : PA X (.Starred e p :: es) (StX.tStar K te t) := by
  subst hK
  exact StX.pa_star he hr hs
theorem star {K : PySem.W.Frag} {te : TE} {t : TA} {σ : L2.St} {H : Hp} {Q : List V → Hp → Prop} (q : te σ H fun x H1 => ∃ p xs, x = V.ref p ∧ (SqT K H1 p xs ∨ SqL K H1 p xs) ∧ t σ H1 fun ys H2 => Q (xs ++ ys) H2) : StX.tStar K te t σ H Q := q
theorem iT {K : PySem.W.Frag} {tl : TE} {σ : L2.St} {H : Hp} {R : It → Hp → Prop} (q : tl σ H fun x H1 => ∃ a, x = .ref a ∧ (∃ xs, SqT K H1 a xs) ∧ R (Itt K a) H1) : iTup K tl σ H R := q
theorem toV {v : V} {H : Hp} {Q : VK} {g : VK → Prop} (h : Q v H) (k : ∀ Q' : VK, Q' v H → g Q') : g Q := k Q h
theorem toH {v : V} {H : Hp} {Q : VK} {g : VK → Prop} (h : ∀ H', Same H H' → Q v H') (k : ∀ Q' : VK, (∀ H', Same H H' → Q' v H') → g Q') : g Q := k Q h
theorem S_emp (l : List Nat) : decide (SX.S l = Str.ofString "") = decide (l = []) := by
  rw [empty_S]
  refine decide_eq_decide.mpr ⟨fun h => ?_, fun h => by rw [h]⟩
  have e : (SX.S l).cps.toList = (SX.S []).cps.toList := by rw [h]
  simpa [SX.S] using e
theorem jc {t : TE} {ts : List TE} {acc : Str} {σ : L2.St} {H : Hp} {Q : Str → Hp → Prop} (q : t σ H fun x H1 => ∃ y : Str, x = .str y ∧ (acc ++ y).length ≤ sizeLine ∧ tJs ts (acc ++ y) σ H1 Q) : tJs (t :: ts) acc σ H Q := q
theorem jn {acc : Str} {σ : L2.St} {H : Hp} {Q : Str → Hp → Prop} (q : Q acc H) : tJs [] acc σ H Q := q
theorem jX {ts : List TE} {σ : L2.St} {H : Hp} {Q : VK} (q : tJs ts Str.empty σ H fun out H1 => Q (.str out) H1) : (fun (σ : L2.St) (H : Hp) (Q : VK) => tJs ts Str.empty σ H fun out H1 => Q (.str out) H1) σ H Q := q
theorem fm {te : TE} {σ : L2.St} {H : Hp} {Q : VK} (q : te σ H fun x H1 => (∃ y : Str, x = .str y ∧ y.length ≤ sizeLine ∧ Q (.str y) H1) ∨ ∃ i : Int, x = .int i ∧ i.natAbs.log2 < 1920 ∧ Q (.str (toString i)) H1) : tFmt te σ H Q := q
theorem cut_m1 (xs : List V) : cutV xs none (some (-1)) = xs.dropLast := by
  unfold cutV
  rw [List.dropLast_eq_take]
  show ((xs.drop 0).take (HT.sIx xs.length xs.length (some (-1)) - 0)) = _
  rw [List.drop_zero, Nat.sub_zero]
  congr 1
  unfold HT.sIx
  simp
  omega
theorem iteNt {A B : Prop} (h : B) : if (!true) = true then A else B := iteF h
theorem iteNf {A B : Prop} (h : A) : if (!false) = true then A else B := iteT h
theorem par3 {i j l : Nat} {aa : TA} {D : Ends} {σ : L2.St} {H : Hp} (q : aa σ H fun vs H1 => ∃ u v w, vs = [u, v, w] ∧ D.nx (((σ.set i (some u)).set j (some v)).set l (some w)) H1) : tPar3 i j l aa D σ H := q
theorem extrip {u v w : V} {R : V → V → V → Prop} (q : R u v w) : ∃ a b c, [u, v, w] = [a, b, c] ∧ R a b c := ⟨u, v, w, rfl, q⟩
theorem app {l : Addr} {xs : List V} {y : V} {H : Hp} {Q : VK} (h : H l = some (.lst xs)) (hz : xs.length < sizeLine) (q : Q .non (upd H l (.lst (xs ++ [y])))) : rAppend (.ref l) [y] H Q := ⟨l, xs, y, rfl, rfl, h, hz, q⟩
theorem popL {l : Addr} {xs : List V} {y : V} {H : Hp} {Q : VK} (h : H l = some (.lst (xs ++ [y]))) (q : Q y (upd H l (.lst xs))) : rPop (.ref l) [] H Q := by
  refine ⟨l, _, y, rfl, rfl, h, by simp, ?_⟩
  rw [List.dropLast_concat]
  exact q
theorem tyvL {K : PySem.W.Frag} {l : Addr} {xs : List V} {H : Hp} (h : H l = some (.lst xs)) : tyV K "list" (.ref l) H := .inl ⟨rfl, _, SqL.of h⟩
theorem same_mut {H H' : Hp} {x : Addr} {o : HO} (s : Same H H') (n : H x = none) : Same H (L2.upd H' x o) := fun c u e => by
  rw [upd_ne (ne_of_none e n)]
  exact s c u e
theorem atI_last {xs : List V} {y : V} : atI (xs ++ [y]) (-1) = some y := by
  have e : (xs ++ [y]).length = xs.length + 1 := by simp
  have h : ixN (xs.length + 1) (-1) = some xs.length := by
    unfold ixN
    simp
    try omega
  unfold atI
  rw [e, h]
  simp
end
end Rg

set_option Elab.async false
set_option linter.all false
set_option maxRecDepth 100000
set_option maxHeartbeats 4000000
/-! ### defs that an except suite calls with its exception -/
namespace Rg
open PySem PySem.Spec PyProof.Rows L2 HotX
/-- a promise that may speak of the handled exception: its address, class, dict -/
abbrev SpE := Addr → Value → Option Addr → Sp
structure FnE (P : Program) (w : World) (K : PySem.W.Frag) (mg : Str → Option Value) (base : Heap) (CX : CXT) (k : Nat) (f : Addr) (fd : FuncData) (ps : List Str) (sp : SpE) : Prop where
  many : ∀ {a : Addr} {c : Value} {d : Option Addr} {vs : List V} {H : Hp} {Q : VK} {E : XK}, sp a c d vs H Q E → vs.length = ps.length
  goes : ∀ {A : Around} {outer : List Env} {z : Shared} {H : Hp} {args : Args} {us : List Value} {vs : List V} {Q : VK} {E : XK} {p : Addr × Obj} {c : Value} {d : Option Addr},
    Zc c d p.2 → (∃ ws, p.2.data = .fields ws) → L2H.RoomH k A → L2H.PinOk outer H z p → Env0 P w K mg base A outer z H → BindsTo z fd args (ps.zip us) → Vals vs us → sp p.1 c d vs H Q E → codeAny (model P w) A (.call (.ref f) args) (CR CX outer P w H z Q E) z
section
variable {CX : CXT} {P : Program} {w : World} {K : PySem.W.Frag} {mg : Str → Option Value} {base : Heap} {k : Nat} {f : Addr}
/-- THE RULE for such a def: its body, run with the exception pinned -/
theorem FnE.of {x qual : Str} {params : Arguments} {body : List Stmt} {scope : Scope} {dV kV doc pm cdv ct oc : Value} {an od : Option Addr} {osl : Array (Option Value)} {N ps : List Str} {sp : SpE}
    (known : K.lookup f = some ⟨oc, od, .func (PySem.W.fnOf x qual params body scope dV kV doc pm an cdv ct), osl⟩) (code : PySem.W.codeIn K cdv qual = true) (S : FnScope N ps scope)
    (many : ∀ {a : Addr} {c : Value} {d : Option Addr} {vs : List V} {H : Hp} {Q : VK} {E : XK}, sp a c d vs H Q E → vs.length = ps.length)
    (runs : ∀ {A : Around} {outer : List Env} {z : Shared} {H : Hp} {vs : List V} {Q : VK} {E : XK} {p : Addr × Obj} {c : Value} {d : Option Addr}, Zc c d p.2 → (∃ ws, p.2.data = .fields ws) → L2H.RoomH k (A.deeper (envOfC qual scope z.heap.objs.size f cdv)) → sp p.1 c d vs H Q E →
      ∃ t, PSs (L2H.cxH CX P w K mg base N qual scope f cdv A outer z H E p) body t ∧ t { nx := fun _ H' => Q .non H', rt := Q } (L2.start N vs) H) :
    FnE P w K mg base CX (k + 1) f (PySem.W.fnOf x qual params body scope dV kV doc pm an cdv ct) ps sp where
  many := many
  goes := by
    intro A outer z H args us vs Q E p c d hz data room pin e0 binds rel promise
    have kept : ∀ b o, base.get? b = some o → z.heap.get? b = some o := fun b o g => (e0.bs b o g).1
    have inZ : K.In z.heap := e0.mod.kin.keeps kept
    have plain : ∀ y ∈ ps.zip us, scope.names.lookup y.1 = some .local ∨ (scope.names.lookup y.1 = some .cell ∧ ((cellsFrom (z.heap.objs.size + 1) scope.names []).lookup y.1).isSome = true) := by
      rintro ⟨n, u⟩ hy
      exact (S.par n (List.of_mem_zip hy).1).imp id fun c => ⟨c, PySem.W.cellsFrom_some _ _ _ (.inl c)⟩
    refine codeAny_call_function room.depth (inZ _ _ known) rfl S.co S.gen rfl (PySem.W.codeRec_of inZ code) (binds _ _ _ _ (wpAny_newFunctionEnv_cells S.kind plain fun env he z1 begun => ?_))
    cases he
    obtain ⟨t, ht, now⟩ := runs hz data (room.deeper _) promise
    have I := L2H.inv_startH (CX := CX) (E := E) (cd := cdv) S pin e0 (many promise) rel begun
    refine ⟨(e0.mod.nolimit.keeps kept).keeps begun.toInCall.keep, codeAny_func (wpAny_mono (ht.run [] z1 _ H _ I now) (fun way z2 done => ?_) fun _ _ out => out)⟩
    cases way with
    | ret u => exact done.elim fun v h => h.elim fun _ h => h.elim fun H2 h => ⟨v, H2, h.1.os, h.1.bare, h.1.base, h.1.hok, h.2.1, h.2.2⟩
    | next => exact done.elim fun _ h => h.elim fun H2 h => ⟨.non, H2, h.1.os, h.1.bare, h.1.base, h.1.hok, rfl, h.2⟩
    | brk => exact (done.elim fun _ h => h.elim fun _ h => h.2 : False).elim
    | cont => exact (done.elim fun _ h => h.elim fun _ h => h.2 : False).elim
end
section
variable {X : Cx} {CX : CXT} {k : Nat} {f : Addr} {fd : FuncData} {ps : List Str} {sp : SpE} {E : L2.St → XK} {x : Str} {pn pos : Pos} {e : Expr} {es : List Expr} {t : TA} {p : Addr × Obj} {c : Value} {d : Option Addr}
def tCE (sp : SpE) (a : Addr) (c : Value) (d : Option Addr) (E : L2.St → XK) (t : TA) : TE := fun σ H Q => t σ H fun vs H1 => sp a c d vs H1 Q (E σ)
/-- g(e, ..) where p's exception is handled -/
theorem pe_callE (F : FnE X.prog X.w X.K X.mg X.base CX k f fd ps sp) (room : L2H.RoomH k X.A) (hz : Zc c d p.2) (data : ∃ ws, p.2.data = .fields ws) (here : p ∈ X.pn) (hg : Gl X x) (hm : X.mg x = some (.ref f)) (hk : PySem.W.keepIn X.K (.ref f) = true) (hb : Binds X.K fd ps []) (out : ∀ σ, PassesAt CX X σ (E σ))
    (ha : PA X (e :: es) t) (nod : (x == ("__debug__" : Str)) = false := by decide) (each : starEach (e :: es) X.env = (false, eval e X.env) :: starEach es X.env := by rfl) (nostar : (backTo pos (starEach es X.env)).any (·.1) = false := by rfl) :
    PE X (.Call (.Name x pn) (e :: es) [] pos) (tCE sp p.1 c d E t) := by
  constructor
  intro pins z σ H Q I h
  have args := ha.run pos pins z σ H _ I h
  refine wpAny_Call_Name_kw (ld_glob I hg hm (PySem.W.callWith_K (h₀ := X.base) I.ok.mod.kin hk (thn args fun us z1 got => ?_) each nostar) nod)
  obtain ⟨vs, H1, J, rel, promise⟩ := got
  have lens : us.length = ps.length := rel.length ▸ F.many promise
  have bind : BindsTo z1 fd ⟨us, []⟩ (ps.zip us) := by
    have b := hb z1 us J.kIn (by rw [List.append_nil, lens])
    rwa [List.append_nil] at b
  obtain ⟨g1, g2, g3, g4, g5⟩ := J.pin p (List.mem_append_left _ here)
  have pin : L2H.PinOk X.stack H1 z1 p := ⟨g1, g2, fun m => (List.mem_cons.mp (J.stkSub p.1 m)).elim g3 g4, g5⟩
  refine ⟨J.kIn, wpAny_call (codeAny_mono (F.goes hz data room pin J.env0 bind rel promise) fun way z2 done => ?_)⟩
  match way, done with
  | .error er, done => exact out σ pins H1 z1 er z2 J done
  | .ok (.ret u), done => exact J.after done
/-- e.f, e the pinned exception -/
def tXfE (K : PySem.W.Frag) (a : Addr) (cls : Value) (d : Option Addr) (f : Str) (te : TE) : TE := fun σ H Q => te σ H fun x H1 => x = .ref a ∧ ∃ (C dd : Addr) (fs : List (Str × V)) (v : V), cls = .ref C ∧ d = some dd ∧ XfC K C ∧ PySem.W.findIn K (.ref C) f = some none ∧ H1 dd = some (.xd fs) ∧ fs.lookup f = some v ∧ Q v H1
theorem pe_xfE {te : TE} {n : Str} (hz : Zc c d p.2) (data : ∃ vs, p.2.data = .fields vs) (here : p ∈ X.pn) (he : PE X e te) (plain : attributeBase e n X.env (eval e X.env) = eval e X.env := by rfl) : PE X (.Attribute e n pos) (tXfE X.K p.1 c d n te) := by
  constructor
  intro pins z σ H Q I h
  refine attr_of plain (thn (he.run pins z σ H _ I h) fun u z1 got => ?_)
  obtain ⟨y, H1, J, ry, rfl, C, dd, fs, v, rfl, rfl, T, none_, hd, hv, q⟩ := got
  cases (show u = Value.ref p.1 from ry)
  have stands := (J.pin p (List.mem_append_left _ here)).1
  obtain ⟨m, ns, rel⟩ := (show ObjOk X.prog X.w H1 z1.heap dd (.xd fs) from J.hok dd _ hd)
  obtain ⟨od, ho, look⟩ := lookIn_ns ns
  obtain ⟨u, hu, ru⟩ := RelO.some_of (v := v) (o := m n) (hv ▸ rel n)
  obtain ⟨vs, hvs⟩ := data
  have inst : PySem.W.InstAt z1.heap p.1 p.2 C (some od) := ⟨stands, hz.1, (by unfold PySem.W.notCls; rw [hvs] <;> rfl), (by rw [hz.2]; exact ho)⟩
  exact HandSPX.exc_get J.kIn inst T.ga T.gg T.exC (PySem.W.findObj_own T.hdC none_ rfl (by rw [look, hu])) (handed_of ru) ⟨v, H1, J.tok _, ru, q⟩
end
end Rg
namespace Rg
open PySem L2
theorem op_eqU {X : Cx} (K : PySem.W.Frag) (hu : X.A.units + 64 < cLine) (hK : X.K = K := by rfl) : OpR X (compareOp .Eq) (rEqX K) := by
  subst hK
  exact OpR.or op_eq (op_eqD hu)
theorem xfI {K : PySem.W.Frag} {C dd a : Addr} {fs : List (Str × V)} {f : Str} {v : V} {σ : L2.St} {H : Hp} {Q : VK} {i : Nat} (hT : XfC K C) (hn : PySem.W.findIn K (.ref C) f = some none) (hd : H dd = some (.xd fs)) (hl : fs.lookup f = some v) (hs : σ[i]? = some (some (.ref a))) (q : Q v H) :
    tXfE K a (.ref C) (some dd) f (tVar i) σ H Q := ⟨_, hs, rfl, C, dd, fs, v, rfl, rfl, hT, hn, hd, hl, q⟩
end Rg
/-! ### try: .. except (x, y, z) as n: .. -/
namespace Rg
open PySem PySem.Spec PyProof.Rows L2
theorem flies_on {B h h2 : Heap} {l : List Env} {a : Addr} {Z : Obj → Prop} (kept : ∀ b o, h.get? b = some o → h2.get? b = some o) : HandSPX.FlyingZ B l a Z h → HandSPX.FlyingZ B l a Z h2
  | ⟨st, nb, fr, oe, vs, T, oT, ts, g, z, dt, r⟩ => ⟨fun b o e => kept b o (st b o e), nb, fr.of_keeps fun b o e _ => ⟨o, kept b o e, rfl⟩, oe, vs, T, oT, ts, kept _ _ g, z, dt, r.1, r.2.1, r.2.2.1, kept _ _ r.2.2.2.1, r.2.2.2.2⟩
/-- what such a clause wishes of an exception that flies out of the body; slot i is n's -/
def wAs3 (K : PySem.W.Frag) (c1 c2 c3 : Value) (i : Nat) (ts : Addr → Value → Option Addr → TS) (out : WX) (D : Ends) : WX := fun cls d σ H => ∃ b, PySem.W.exmAny K cls [c1, c2, c3] = some b ∧
  (b = false → out cls d σ H) ∧ (b = true → i < σ.length → ∀ a, H a = none → ts a cls d { nx := fun σ2 H2 => D.nx (σ2.set i none) H2, rt := D.rt, bk := fun σ2 H2 => D.bk (σ2.set i none) H2, ct := fun σ2 H2 => D.ct (σ2.set i none) H2 } (σ.set i (some (.ref a))) H)
section
variable {X : Cx} {x1 x2 x3 n : Str} {c1 c2 c3 : Value} {i kt : Nat} {b₀ : Stmt} {body suite : List Stmt} {q1 q2 q3 qt qh pos : Pos} {tb : WX → TS} {ts : Addr → Value → Option Addr → TS} {out : WX}
theorem ld_name {pins : List (Addr × Obj)} {z : Shared} {σ : L2.St} {H : Hp} {x : Str} {c : Value} {np : Pos} {Q Er : Value → Shared → Prop} (I : Inv X pins σ H z) (N : Names X x c) (h : Q c z) : wpAny (model X.prog X.w) X.A (eval (.Name x np) X.env) Q Er z :=
  N.2.2.elim (fun m => ld_glob I N.1 m h N.2.1) fun m => ld_blt I N.1 m.1 m.2.1 h m.2.2 N.2.1
/-- the clause's own tuple -/
theorem ld_three {pins : List (Addr × Obj)} {z : Shared} {σ : L2.St} {H : Hp} {Q Er : Value → Shared → Prop} (I : Inv X pins σ H z) (N1 : Names X x1 c1) (N2 : Names X x2 c2) (N3 : Names X x3 c3)
    (h : Q (.ref z.heap.objs.size) { z with heap := z.heap.push { cls := .type "tuple", data := .seq [c1, c2, c3].toArray } }) : wpAny (model X.prog X.w) X.A (eval (.Tuple [.Name x1 q1, .Name x2 q2, .Name x3 q3] kt qt) X.env) Q Er z := by
  have three : ([c1, c2, c3] : List Value).length ≤ sizeLine := by
    rw [sizeLine_eq]
    show 3 ≤ 16777216
    decide
  exact wpAny_Tuple_spliced (Calls.spliced_cons (ld_name I N1 (Calls.spliced_cons (ld_name I N2 (Calls.spliced_cons (ld_name I N3 (Calls.spliced_nil ⟨three, h⟩)))))))
/-- the suite has run: its name is unbound -/
theorem suite_done {pins : List (Addr × Obj)} {a : Addr} {oe : Obj} {D : Ends} {way : Flow} {z : Shared} (ok : X.Ok) (hN : X.N.Nodup) (hi : X.N[i]? = some n) (hln : X.env.kindOf n = some .local)
    (h : SP (X.suite a ((a, oe) :: (X.pn ++ pins))) [] { nx := fun σ2 H2 => D.nx (σ2.set i none) H2, rt := D.rt, bk := fun σ2 H2 => D.bk (σ2.set i none) H2, ct := fun σ2 H2 => D.ct (σ2.set i none) H2 } way z) :
    wpAny (model X.prog X.w) X.A (do bindName X.env n .none; unbindBehindTheSuite X.env n qh) (fun _ z2 => SP X pins D way z2) X.xe z := by
  have gone : ∀ {σ2 : L2.St} {H2 : Hp} {R : Shared → Prop}, Inv (X.suite a ((a, oe) :: (X.pn ++ pins))) [] σ2 H2 z → (∀ z2, Inv X pins (σ2.set i none) H2 z2 → R z2) → wpAny (model X.prog X.w) X.A (do bindName X.env n .none; unbindBehindTheSuite X.env n qh) (fun _ z2 => R z2) X.xe z :=
    fun J r => gone_ok (J.unsuite ok) hN hi hln r
  match way, h with
  | .ret _, ⟨v, _, _, J, r, q⟩ => exact gone J fun _ J2 => ⟨v, _, _, J2, r, q⟩
  | .next, ⟨_, _, J, q⟩ => exact gone J fun _ J2 => ⟨_, _, J2, q⟩
  | .brk, ⟨_, _, J, q⟩ => exact gone J fun _ J2 => ⟨_, _, J2, q⟩
  | .cont, ⟨_, _, J, q⟩ => exact gone J fun _ J2 => ⟨_, _, J2, q⟩
theorem ps_try_as3 (frames : X.stack = X.env :: X.outer) (lives : X.env.frame = some X.env.locals) (hN : X.N.Nodup) (hi : X.N[i]? = some n) (hln : X.env.kindOf n = some .local) (N1 : Names X x1 c1) (N2 : Names X x2 c2) (N3 : Names X x3 c3) (tk : Takes X out)
    (runs : ∀ (W : WX) (pn : List (Addr × Obj)) (xe : Value → Shared → Prop), Takes (X.tr pn xe) W → PassesOwn (model X.prog X.w) X.A X.env xe → PSs (X.tr pn xe) body (tb W))
    (held : ∀ (a : Addr) (oe : Obj) (cls : Value) (d : Option Addr) (pn : List (Addr × Obj)), Zc cls d oe → (∃ vs, oe.data = .fields vs) → PSs (X.suite a ((a, oe) :: pn)) (b₀ :: suite) (ts a cls d)) :
    PS X (.Try body [.ExceptHandler (some (.Tuple [.Name x1 q1, .Name x2 q2, .Name x3 q3] kt qt)) (some n) (b₀ :: suite) qh] [] [] pos) (fun D σ H => tb (wAs3 X.K c1 c2 c3 i ts out D) D σ H) := by
  constructor
  intro pins z σ H D I h
  have ok := I.ok
  have ours : X.A.frames = some (X.env :: X.outer) := frames ▸ ok.frames
  have takes : Takes (X.tr (X.pn ++ pins) fun e z1 => wpAny (model X.prog X.w) X.A (noteFrame e X.env) (fun _ z2 => wpAny (model X.prog X.w) X.A (setFlight e none) (fun _ z3 =>
      wpAny (model X.prog X.w) X.A (handleBy e X.env [.ExceptHandler (some (.Tuple [.Name x1 q1, .Name x2 q2, .Name x3 q3] kt qt)) (some n) (b₀ :: suite) qh]) (SP X pins D) X.xe z3) X.xe z2) X.xe z1) (wAs3 X.K c1 c2 c3 i ts out D) := by
    rintro _ z1 ⟨a, B, z0, pins0, σ1, H1, cls, d, rfl, J0, base_, slots, sky, na, os, bare, b, hb, no, yes⟩
    have J : Inv X pins σ1 H1 z0 := J0.ofTry ok
    rw [← show X.stack = X.env :: X.outer from frames] at ours
    refine Sky.land Zc.steady (frames ▸ ours) lives (frames ▸ sky) fun h2 flies up2 => ?_
    have J2 : Inv X pins σ1 H1 { z1 with heap := h2 } := J.landed base_ flies.1 (slots.trans up2) os bare
    have apart : ∀ {hh : Heap}, HandSPX.FlyingZ B (X.env :: X.outer) a (Zc cls d) hh → a ∉ frs (X.env :: X.outer) := fun fl m => by
      obtain ⟨oe, vs, g, _, dt⟩ := fl.there
      obtain ⟨_, o, g2, no_⟩ := fl.2.2.1.mem m
      cases g.symm.trans g2
      exact no_ vs dt
    have nL : a ≠ X.env.locals := fun e => apart flies (List.mem_filterMap.mpr ⟨X.env, List.mem_cons_self, lives.trans (congrArg some e.symm)⟩)
    have nF : a ∉ X.fs := fun m => by
      obtain ⟨e, he, q⟩ := List.mem_filterMap.mp m
      exact apart flies (List.mem_filterMap.mpr ⟨e, List.mem_cons_of_mem _ he, q⟩)
    obtain ⟨oe, vs, stands, hz, dt⟩ := flies.there
    -- the clause's test
    have push : ∀ b o, h2.get? b = some o → (h2.push { cls := .type "tuple", data := .seq [c1, c2, c3].toArray }).get? b = some o := fun _ _ g => Heap.get?_push_of_some _ g
    have flies3 := flies_on push flies
    have up3 := slots.trans (up2.trans (Heap.UpToSlots.of_keeps push))
    have J3 : Inv X pins σ1 H1 { z1 with heap := h2.push { cls := .type "tuple", data := .seq [c1, c2, c3].toArray } } := J.landed base_ flies3.1 up3 os bare
    have kind : PySem.W.Looks (model X.prog X.w) (h2.push { cls := .type "tuple", data := .seq [c1, c2, c3].toArray }) (typeOf (.ref a)) cls := fun _ _ _ _ k q => wpAny_typeOf_ref (k _ _ (push _ _ stands)) (by rw [hz.1]; exact q)
    have asked := PySem.W.exm_tup3 (M := model X.prog X.w) J3.kIn kind (Heap.get?_push_size h2 rfl) hb
    refine wpAny_handleBy_cons (codeAny_handlers_test ?_) (fun q => by cases q)
    refine ld_three (X := X.suite a ((a, oe) :: (X.pn ++ pins))) (J2.suite stands dt na nL nF) N1 N2 N3 ?_
    refine asked.here ?_
    cases b with
    | false =>
      show wpAny _ X.A (handleBy (.ref a) X.env []) _ _ _
      refine wpAny_handleBy_nil ?_
      have on : wpAny (model X.prog X.w) X.A (setFlight (.ref a) X.env.frame) (fun _ z4 => wpAny (model X.prog X.w) X.A (throw (.ref a) : Sem Flow) (SP X pins D) X.xe z4) X.xe { z1 with heap := h2.push { cls := .type "tuple", data := .seq [c1, c2, c3].toArray } } := by
        rw [lives]
        exact HandSPX.setFlight_upZ flies3 fun h4 hh4 up4 => wpAny_throw (tk _ _ ⟨a, B, z0, pins, σ1, H1, cls, d, rfl, J, base_, up3.trans up4, .inr (.inr (frames ▸ hh4)), na, os, bare, no rfl⟩)
      obtain ⟨_, _, _, o5, v5, T, _, _, g5, _, d5, f5, _⟩ := id flies3
      unfold PySem.passOn
      refine wpAny_bind (wpAny_field g5 d5 f5 ?_)
      rw [if_neg (show ¬ ((Value.ref T == Value.none) = true) from fun q => by cases q)]
      first
        | exact wpAny_bind on
        | exact wpAny_bind (wpAny_pure (wpAny_bind on))
    | true =>
      refine codeAny_handlers_suite_as (HandSPX.lands_againZ flies3 fun h4 flies4 up4 => ?_)
      obtain ⟨o4, v4, g4, z4, d4⟩ := flies4.there
      have J4 : Inv X pins σ1 H1 { z1 with heap := h4 } := J.landed base_ flies4.1 (up3.trans up4) os bare
      refine store_ok (X := X.suite a ((a, o4) :: (X.pn ++ pins))) (v := .ref a) (J4.suite g4 d4 na nL nF) hN hi (.inl hln) rfl (fun z5 J5 => ?_) (.inr hln)
      exact wpAny_mono ((held a o4 cls d (X.pn ++ pins) z4 ⟨_, d4⟩).run [] z5 _ H1 _ J5 (yes rfl (by rw [J4.len]; exact (List.getElem?_eq_some_iff.mp hi).1) a na)) (fun way z6 done => suite_done ok hN hi hln done) fun _ _ never => never.elim
  refine wpAny_Try_except (wpAny_mono ((runs _ _ _ takes PassesOwn.looking).run [] z σ H D (I.toTry _) h) (fun way z1 done => ?_) fun _ _ e => e)
  match way, done with
  | .next, ⟨_, _, J, q⟩ => exact wpAny_execs_nil ⟨_, _, J.ofTry ok, q⟩
  | .ret _, ⟨v, _, _, J, r, q⟩ => exact ⟨v, _, _, J.ofTry ok, r, q⟩
  | .brk, ⟨_, _, J, q⟩ => exact ⟨_, _, J.ofTry ok, q⟩
  | .cont, ⟨_, _, J, q⟩ => exact ⟨_, _, J.ofTry ok, q⟩
end
end Rg

set_option Elab.async false
set_option linter.all false
set_option maxRecDepth 100000
set_option maxHeartbeats 4000000
/-! ### for i, x in enumerate(a tuple) -/
namespace EnT
open PySem PySem.Spec PyProof.Rows L2
abbrev itO (t : Addr) : Obj := { cls := .type "tuple_iterator", data := .fields #[.ref t, .int 0 0] }
abbrev enO (j : Addr) : Obj := { cls := .type "enumerate", data := .fields #[.none, .bool false, .ref j, rawInt 0, .none, .none] }
abbrev enH (h : Heap) (t : Addr) : Heap := (h.push (itO t)).push (enO h.objs.size)
theorem born (t : Addr) (items : Array Value) :
    Meets (Builtin.«enumerate.__new__» ⟨[.type "enumerate", .ref t], []⟩) (fun _ R z => z.heap.IsTuple t items ∧ R (.ok (.ret (.ref (z.heap.push (itO t)).objs.size))) { z with heap := enH z.heap t }) := by
  refine .of_wp fun prog w A R z hz => ?_
  obtain ⟨hh, gg, dd, tt, oo⟩ := z
  have below := sub_enumerate
  have begun : ∀ {A1 : Around} {E1 Q1 : Value → Shared → Prop}, Q1 (.ref hh.objs.size) ⟨hh.push (itO t), gg, dd, tt, oo⟩ → wpAny (model prog w) A1 (pyIter (.ref t)) Q1 E1 ⟨hh, gg, dd, tt, oo⟩ :=
    fun q1 => wpAny_pyIter_tuple (s := ⟨hh, gg, dd, tt, oo⟩) hz.1 q1
  wp_walk using begun
  refine wpAny_stack_any fun below_ => wpAny_pure ?_
  split
  · rename_i c _ _ _ _ _
    cases (c == Value.type "enumerate") <;> (wp_walk using begun) <;> exact ⟨_, rfl, hz.2⟩
  · wp_walk using begun
    exact ⟨_, rfl, hz.2⟩
theorem makes {prog : Program} {w : World} {B : Around} {Er : Value → Shared → Prop} {z : Shared} {t : Addr} {items : Array Value} {Q : Value → Shared → Prop} (ht : z.heap.IsTuple t items)
    (q : IsEnum (enH z.heap t) (z.heap.objs.size + 1) z.heap.objs.size 0 .none → (enH z.heap t).IsTupleIter z.heap.objs.size t 0 → (∀ b o, z.heap.get? b = some o → (enH z.heap t).get? b = some o) → Q (.ref (z.heap.objs.size + 1)) { z with heap := enH z.heap t }) :
    wpAny (model prog w) B (call (.type "enumerate") [.ref t]) Q Er z := by
  have size1 : (z.heap.push (itO t)).objs.size = z.heap.objs.size + 1 := Heap.size_push ..
  have isE : IsEnum (enH z.heap t) (z.heap.objs.size + 1) z.heap.objs.size 0 .none := by
    have e := Heap.get?_push_size (z.heap.push (itO t)) (o := enO z.heap.objs.size) rfl
    rw [size1] at e
    exact e
  refine callType_new F.called_enumerate (by decide) (F.typeCall_enumerate_1 _) (F.newCall_enumerate_1 _) (fun ob => F.args_object_init_2 ob _) F.entry_enumerate_new (born t items) ⟨ht, ?_⟩
  show _ ∧ _
  rw [size1]
  exact ⟨⟨_, isE, rfl⟩, q isE ⟨_, Heap.get?_push_of_some _ (Heap.get?_push_size _ rfl), rfl, rfl⟩ fun b o g => Heap.get?_push_of_some _ (Heap.get?_push_of_some _ g)⟩
/-- what such a walk gives: new pairs -/
def Iet (K : PySem.W.Frag) (a : Addr) : It where
  go := fun i H => ∃ (xs : List V) (x : V), SqT K H a xs ∧ xs[i]? = some x
  yld := fun i H v H' => ∃ T x, v = .ref T ∧ H T = none ∧ H' = upd H T (.tup [.int (i : Nat), x]) ∧ ∀ xs, SqT K H a xs → xs[i]? = some x
  stop := fun i H => ∃ xs : List V, SqT K H a xs ∧ xs.length ≤ i
theorem apart {h : Heap} {a e it : Addr} {items : Array Value} {i : Nat} {j : Int} {old : Value} (ht : h.IsTuple a items) (hi : h.IsTupleIter it a i) (he : IsEnum h e it j old) : a ≠ it ∧ e ≠ a := by
  obtain ⟨o, g, c, n, d⟩ := ht
  refine ⟨fun z => ?_, fun z => ?_⟩
  · obtain ⟨o2, g2, c2, d2⟩ := hi
    rw [← z, g] at g2
    obtain rfl := Option.some.inj g2
    rw [d] at d2
    cases d2
  · have g2 : h.get? e = _ := he
    rw [z, g] at g2
    obtain rfl := Option.some.inj g2
    cases d
theorem turns {P : Program} {w : World} {K : PySem.W.Frag} {elts : List Expr} {kk : Nat} {tp : Pos} (a e it : Addr) :
    Turn P w K (.Tuple elts kk tp) (Iet K a) [e, it] e (fun i h => (∃ old, IsEnum h e it ((i : Nat) : Int) old) ∧ h.IsTupleIter it a i ∧ e ≠ it) where
  mem := List.mem_cons_self
  obj := fun i h st b hb => by
    obtain ⟨⟨old, he⟩, ⟨o, g, _, d⟩, _⟩ := st
    rcases List.mem_cons.mp hb with rfl | hb
    · exact ⟨_, he, fun v z => nomatch z⟩
    · rw [List.mem_singleton.mp hb]
      refine ⟨o, g, fun v z => ?_⟩
      rw [d] at z
      cases z
  keep := fun i h h' st kp => by
    obtain ⟨⟨old, he⟩, hi, ne⟩ := st
    exact ⟨⟨old, kp e List.mem_cons_self _ he⟩, hi.at fun o g => kp it (by simp) o g, ne⟩
  item := by
    intro X eP eW eK calm i pins z σ H Er I free st more
    subst eP eW eK
    obtain ⟨⟨old, he⟩, hi, ne⟩ := st
    obtain ⟨xs, x, seq, hx⟩ := more
    obtain ⟨its, rel, tup, _⟩ := I.tuple seq
    obtain ⟨u, hu, ru⟩ := rel.get hx
    have ht : z.heap.IsTuple a its.toArray := tup
    obtain ⟨n1, n2⟩ := apart ht hi he
    have lt : i < its.toArray.size := by
      obtain ⟨lt, _⟩ := List.getElem?_eq_some_iff.mp hu
      simpa using lt
    have le : e < z.heap.objs.size := Heap.lt_size he
    have li : it < z.heap.objs.size := by
      obtain ⟨_, g, _⟩ := hi
      exact Heap.lt_size g
    refine wpAny_pyNext_enum_itemD (Draws.tuple (prog := X.prog) (w := X.w) (A := X.A.in1) (I.ok.hd calm) it a n1 its.toArray) he ⟨hi, ht⟩ lt ne (by simp [ne, n2]) fun v h1 tk1 hv out hi1 mk _ kp => ?_
    obtain rfl : u = v := Option.some.inj ((by simpa using hu : its.toArray[i]? = some u).symm.trans hv)
    refine ⟨_, rfl, wpAny_letOwnedTupleGo_enum (s := { z with heap := h1, toks := tk1 + 1 }) out fun h2 isE same => ?_⟩
    have mk2 := (same.2 z.heap.objs.size (Nat.ne_of_gt le)).trans mk
    have ok2 : ObjOk X.prog X.w (upd H z.heap.objs.size (.tup [.int (i : Nat), x])) h2 z.heap.objs.size (.tup [.int (i : Nat), x]) := ⟨(by decide : 2 ≤ sizeLine), [.int i tk1, u], .cons ⟨_, rfl⟩ (.cons ru .nil), ⟨_, mk2, rfl, _, rfl⟩⟩
    have J := I.turnedNew (t' := tk1 + 1) (ch := [e, it]) (h' := h2) (fun b o nb g => (same.2 b fun c => nb (c ▸ List.mem_cons_self)).trans (kp b o (fun c => nb (c ▸ List.mem_cons_self)) (fun c => nb (by simp [c])) g)) free (Nat.le_refl _) ok2
    refine ⟨_, _, J, show RelV (.ref z.heap.objs.size) _ from rfl, ⟨_, x, rfl, I.hok.fresh (Nat.le_refl _), rfl, fun ys hy => (I.tuple_inj hy seq) ▸ hx⟩, ⟨⟨u, ?_⟩, hi1.1.at fun o g => (same.2 it ne.symm).trans g, ne⟩, fun b hb => ?_⟩
    · rw [show ((i + 1 : Nat) : Int) = (i : Int) + 1 from Int.natCast_succ i]
      exact isE
    · have lb : b < z.heap.objs.size := (List.mem_cons.mp hb).elim (fun c => c ▸ le) fun hb => List.mem_singleton.mp hb ▸ li
      rw [upd_ne (Nat.ne_of_lt lb)]
      exact (free b hb).1
  done := by
    intro X eP eW eK calm i pins z σ H Er I free st over
    subst eP eW eK
    obtain ⟨⟨old, he⟩, hi, ne⟩ := st
    obtain ⟨xs, seq, hx⟩ := over
    obtain ⟨its, rel, tup, _⟩ := I.tuple seq
    have ht : z.heap.IsTuple a its.toArray := tup
    obtain ⟨n1, n2⟩ := apart ht hi he
    have len := rel.length
    obtain ⟨f0, f1, f2, f3, f4, f5⟩ := free it (by simp)
    have big : its.toArray[i]? = none := by
      simp only [List.getElem?_toArray, List.getElem?_eq_none_iff]
      omega
    have ends : ∀ (z2 : Shared) (Q2 : Value → Shared → Prop) (E2 : Value → Shared → Prop), z2.heap.IsTupleIter it a i ∧ z2.heap.IsTuple a its.toArray → (∀ h' e2, Heap.ExtBut it z2.heap h' → (∃ o, h'.get? e2 = some o ∧ o.cls = .type "StopIteration") → E2 (.ref e2) { z2 with heap := h' }) →
        wpAny (model X.prog X.w) X.A.in1 (Builtin.SmallTypes.nextOf (.ref it)) Q2 E2 z2 := fun z2 Q2 E2 st2 hE => wpAny_nextOf_tuple_end (I.ok.hd calm) st2.1 st2.2 big hE
    refine wpAny_pyNext_enum_endD (n := i) (P := fun _ _ => True) (St := fun j h => j = i ∧ h.IsTupleIter it a i ∧ h.IsTuple a its.toArray) (fp := [it, a]) ⟨?_, ?_, ?_, ?_⟩ he ⟨rfl, hi, ht⟩ fun h' same => ⟨rfl, I.turned (t' := z.toks) (fun b o nb g => same b o nb g) f0 f1 f3 f4 f5⟩
    · exact fun j h st2 => st2.2.1.elim fun o g => ⟨o, g.1⟩
    · exact fun j h h' st2 kp => ⟨st2.1, st2.2.1.at fun o g => kp it (by simp) o g, st2.2.2.at fun o g => kp a (by simp) o g⟩
    · exact fun j z2 Q2 E2 lt st2 _ => absurd lt (by rw [st2.1]; exact Nat.lt_irrefl _)
    · exact fun z2 Q2 E2 st2 hE => ends z2 Q2 E2 st2.2 hE
  self := fun A i z Q E st h => st.1.elim fun _ he => wpAny_pyIter_enum he h
end EnT
namespace Rg
open PySem L2 PySem.Spec PyProof.Rows
/-- enumerate of a list or of a tuple -/
def iEnX (K : PySem.W.Frag) (ta : TA) : TI := fun σ H R => ta σ H fun vs H1 => ∃ a xs, vs = [.ref a] ∧ ((SqL K H1 a xs ∧ R (Ite K a) H1) ∨ (SqT K H1 a xs ∧ R (EnT.Iet K a) H1))
theorem pi_enX {X : Cx} (K : PySem.W.Frag) {e : Expr} {ta : TA} {p pos tp : Pos} {elts : List Expr} {kk : Nat} (hg : Gl X "enumerate") (hm : X.mg "enumerate" = none) (ha : PA X [e] ta) (hK : X.K = K := by rfl) (hs : starEach [e] X.env = [(false, eval e X.env)] := by rfl) :
    PI X (.Tuple elts kk tp) (.Call (.Name "enumerate" p) [e] [] pos) (iEnX K ta) := by
  subst hK
  have old := fun (ta' : TA) (ha' : PA X [e] ta') => pi_enum (p := p) (pos := pos) (tpos := tp) (elts := elts) (kk := kk) hg hm ha' hs
  constructor
  intro pins z σ H R I h
  refine Call_ (ld_blt I hg hm boot_enumerate (PyProof.Rows.callWith_type1 (thn (ha.run pos pins z σ H _ I h) fun us z1 got => ?_) hs rfl))
  obtain ⟨vs, H1, I1, rel, a, xs, rfl, q⟩ := got
  match us, rel with
  | [_], .cons r .nil =>
  cases r
  rcases q with ⟨seq, q⟩ | ⟨seq, q⟩
  · obtain ⟨its, rv, lst, _⟩ := I1.list seq
    refine call_enumerate_list lst.isList fun h' isE isI size kp => wpAny_pyIter_enum isE ?_
    have J : Inv X pins σ H1 { z1 with heap := h' } := I1.kept (t' := z1.toks) kp
    refine ⟨_, _, _, _, H1, rfl, J, turn_enum a (z1.heap.objs.size + 1) z1.heap.objs.size, ⟨⟨.none, isE⟩, isI, Nat.succ_ne_self _⟩, fun b hb => ?_, q⟩
    have big : z1.heap.objs.size ≤ b := (List.mem_cons.mp hb).elim (fun c => c ▸ Nat.le_succ _) fun hb => List.mem_singleton.mp hb ▸ Nat.le_refl _
    exact I1.fpOk big (I1.hok.fresh big)
  · obtain ⟨its, rv, tup, _⟩ := I1.tuple seq
    refine EnT.makes (items := its.toArray) (show z1.heap.IsTuple a its.toArray from tup) fun isE isI kp => wpAny_pyIter_enum isE ?_
    have J : Inv X pins σ H1 { z1 with heap := EnT.enH z1.heap a } := I1.kept (t' := z1.toks) kp
    refine ⟨_, _, _, _, H1, rfl, J, EnT.turns a (z1.heap.objs.size + 1) z1.heap.objs.size, ⟨⟨.none, isE⟩, isI, Nat.succ_ne_self _⟩, fun b hb => ?_, q⟩
    have big : z1.heap.objs.size ≤ b := (List.mem_cons.mp hb).elim (fun c => c ▸ Nat.le_succ _) fun hb => List.mem_singleton.mp hb ▸ Nat.le_refl _
    exact I1.fpOk big (I1.hok.fresh big)
theorem walk_enT {K : PySem.W.Frag} {a : Addr} {xs : List V} : Walk (EnT.Iet K a) xs.length (fun H => SqT K H a xs) (YPair (fun i => some (.int (i : Nat))) (fun i => xs[i]?)) where
  goes := fun i H hi g => ⟨xs, xs[i], g, List.getElem?_eq_getElem hi⟩
  stops := fun H g => ⟨xs, g, Nat.le_refl _⟩
  yields := fun i H v H' hi g y => by
    obtain ⟨T, x, e1, e2, e3, e4⟩ := y
    exact ⟨T, .int (i : Nat), x, e1, e2, e3, rfl, e4 xs g⟩
theorem ie {K : PySem.W.Frag} {σ : L2.St} {H : Hp} {aa : TA} {R : It → Hp → Prop} (q : aa σ H fun vs H1 => ∃ a xs, vs = [.ref a] ∧ ((SqL K H1 a xs ∧ R (Ite K a) H1) ∨ (SqT K H1 a xs ∧ R (EnT.Iet K a) H1))) : iEnX K aa σ H R := q
/-! ### defs that may raise -/
structure CalR (P : Program) (w : World) (K : PySem.W.Frag) (mg : Str → Option Value) (base : Heap) (k : Nat) (x : Str) (sp : Sp) : Prop where
  ex : ∃ (f : Addr) (fd : FuncData) (ps : List Str), FnOk P w K mg base (L2.CX P w) k f fd ps sp ∧ mg x = some (.ref f) ∧ PySem.W.keepIn K (.ref f) = true ∧ Binds K fd ps []
structure CalRK (P : Program) (w : World) (K : PySem.W.Frag) (mg : Str → Option Value) (base : Heap) (k : Nat) (x : Str) (ks : List Str) (gV : List V → List V → List V) (sp : Sp) : Prop where
  ex : ∃ (f : Addr) (fd : FuncData) (ps : List Str) (g : List Value → List Value → List Value), FnOk P w K mg base (L2.CX P w) k f fd ps sp ∧ mg x = some (.ref f) ∧ PySem.W.keepIn K (.ref f) = true ∧ KBinds K fd ps ks g gV
def tCR (sp : Sp) (W : WX) (t : TA) : TE := fun σ H Q => t σ H fun vs H1 => sp vs H1 Q fun cls d H2 => W cls d σ H2
def tCRK (sp : Sp) (gV : List V → List V → List V) (E : XK) (tk : TA) : TE := fun σ H Q => tk σ H fun zs H1 => sp (gV [] zs) H1 Q E
section
variable {X : Cx} {k j : Nat} {x : Str} {sp : Sp} {p pos : Pos} {e : Expr} {es : List Expr} {t tk : TA} {ks : List Str} {gV : List V → List V → List V} {kws : List Keyword} {W : WX} {E : XK}
theorem pe_cR (tk : Takes X W) (c : CalR X.prog X.w X.K X.mg X.base k x sp) (hr : Room j X.A) (hk : k ≤ j) (hg : Gl X x) (ha : PA X (e :: es) t) (hdb : (x == ("__debug__" : Str)) = false := by decide)
    (he : starEach (e :: es) X.env = (false, eval e X.env) :: starEach es X.env := by rfl) (hpl : (backTo pos (starEach es X.env)).any (·.1) = false := by rfl) : PE X (.Call (.Name x p) (e :: es) [] pos) (tCR sp W t) := by
  obtain ⟨f, fd, ps, F, hm, hkp, hb⟩ := c.ex
  exact pe_callS (E := WE W) F (hr.mono hk) hg hm hkp hb (fun σ => passAt tk σ) ha hdb he hpl
theorem pe_cRK (hx : Passes (L2.CX X.prog X.w) X E) (c : CalRK X.prog X.w X.K X.mg X.base k x ks gV sp) (hr : Room j X.A) (hk : k ≤ j) (hg : Gl X x) (hkw : PK X kws tk) (hall : (backToKw pos (keywordEach kws X.env)).all (·.1.isSome) = true := by rfl) (hks : (backToKw pos (keywordEach kws X.env)).filterMap (·.1) = ks := by rfl)
    (hdb : (x == ("__debug__" : Str)) = false := by decide)
    (hpl : ((backTo pos (starEach [] X.env)).any (·.1) || (backToKw pos (keywordEach kws X.env)).any (·.1.isNone)) = false := by rfl) : PE X (.Call (.Name x p) [] kws pos) (tCRK sp gV E tk) := by
  obtain ⟨f, fd, ps, g, F, hm, hkp, hb⟩ := c.ex
  constructor
  intro pins z σ H Q I h
  refine wpAny_Call_Name_kw (ld_glob I hg hm ?_ hdb)
  refine PySem.W.callWith_KW0 (h₀ := X.base) I.ok.mod.kin hkp hall ?_ hpl
  refine thn (hkw.run pos pins z σ H _ I h) fun ws z2 got => ?_
  obtain ⟨zs, H2, I2, rz, q2⟩ := got
  refine ⟨I2.kIn, ?_⟩
  rw [hks]
  exact run_fnk (us := []) (vs := []) F (hr.mono hk) hb hx I2 .nil rz q2
end
/-! ### raise C(..), C an own class over ValueError with its own __init__ -/
/-- what is known of such a class -/
structure ErrC (P : Program) (w : World) (K : PySem.W.Frag) (mg : Str → Option Value) (base : Heap) (x : Str) (C : Addr) (n : Nat) (sp : Sp) : Prop where
  T : OexC K C
  gC : mg x = some (.ref C)
  i : ∃ (fI : Addr) (fd : FuncData) (ps : List Str), PySem.W.findIn K (.ref C) "__init__" = some (some (.ref fI)) ∧ PySem.W.typeIn K (.ref fI) = some (.type "function") ∧ FnOk P w K mg base CX0 1 fI fd ps sp ∧ Binds K fd ps []
theorem pass00 {X : Cx} : Passes CX0 X (fun _ _ _ => False) := fun _ _ _ _ _ _ _ h => h.elim
def tRaise (C : Addr) (sp : Sp) (E : XK) (ta : TA) : TS := fun _ σ H => tMkO C sp [] ta σ H E
section
variable {X : Cx} {x : Str} {C : Addr} {n j : Nat} {sp : Sp} {p pos pos2 : Pos} {e : Expr} {es : List Expr} {ta : TA} {E : XK}
theorem ps_rz (hc : X.calm = true) (tk : Takes X fun cls d _ H => E cls d H) (c : ErrC X.prog X.w X.K X.mg X.base x C n sp) (hr : Room j X.A) (hj : 2 ≤ j) (hg : Gl X x) (ha : PA X (e :: es) ta)
    (hdb : (x == ("__debug__" : Str)) = false := by decide) (he : starEach (e :: es) X.env = (false, eval e X.env) :: starEach es X.env := by rfl) (hpl : (backTo pos (starEach es X.env)).any (·.1) = false := by rfl) :
    PS X (.Raise (some (.Call (.Name x p) (e :: es) [] pos)) none pos2) (tRaise C sp E ta) := by
  obtain ⟨fI, fd, ps, iC, tI, F, hb⟩ := c.i
  exact ps_raise hc tk (pmk_oex (dvs := []) (ds := []) c.T iC tI F (hr.mono hj) hb .nil pass00 hg c.gC ha hdb he hpl)
end
theorem rz {C : Addr} {sp : Sp} {E : XK} {ta : TA} {D : Ends} {σ : L2.St} {H : Hp} (q : ta σ H fun vs H1 => vs.length ≤ 1000 ∧ ∀ a, H1 a = none → sp (.ref a :: vs) (upd H1 a (exo a C none))
    (fun v H2 => v = .non ∧ ∃ (d : Addr) (fs : List (Str × V)), H2 a = some (exo a C (some d)) ∧ H2 d = some (exd d fs) ∧ H1 d = none ∧ E (.ref C) (some d) (upd (del H2 a) d (.xd fs))) (fun _ _ _ => False)) : tRaise C sp E ta D σ H := by
  show ta σ H _
  simp only [List.append_nil]
  exact q
/-- __init__(self, v): self.code = code; self.f = v -/
def spIni (K : PySem.W.Frag) (code fld : Str) : Sp := fun vs H Q _ => ∃ (a C : Addr) (v : V), vs = [.ref a, v] ∧ OexC K C ∧ PySem.W.findIn K (.ref C) "code" = some none ∧ PySem.W.findIn K (.ref C) fld = some none ∧ H a = some (exo a C none) ∧
  ∀ d H', H d = none → d ≠ a → H' a = some (exo a C (some d)) → H' d = some (exd d [(fld, v), (("code" : Str), V.str code)]) → (∀ b o, H b = some o → b ≠ a → H' b = some o) → Q .non H'
theorem ost {K : PySem.W.Frag} {f : Str} {to te : TE} {D : Ends} {σ : L2.St} {H : Hp} (q : te σ H fun y H1 => to σ H1 fun x H2 => ∃ a C : Addr, x = .ref a ∧ OexC K C ∧ PySem.W.findIn K (.ref C) f = some none ∧
  ((H2 a = some (exo a C none) ∧ ∀ dx, H2 dx = none → dx ≠ a → D.nx σ (upd (upd H2 dx (exd dx [(f, y)])) a (exo a C (some dx)))) ∨
    ∃ (dx : Addr) (fs : List (Str × V)), H2 a = some (exo a C (some dx)) ∧ H2 dx = some (exd dx fs) ∧ fs.length ≤ 900 ∧ D.nx σ (upd H2 dx (exd dx ((f, y) :: fs))))) : tOst K f to te D σ H := q
section
variable {P : Program} {w : World} {K : PySem.W.Frag} {mg : Str → Option Value} {base : Heap}
theorem ok_ini {qual code fld : Str} {st : Stmt} {f : Addr} {fd : FuncData} (F : Fun K "__init__" qual st f fd) (S : FnScope ["self", fld] ["self", fld] (defScope st))
    (hb : ∀ (cdv : Value) (A : Around) (outer : List Env) (s : Shared) (H : Hp) (E : XK), PSs (cxOf CX0 P w K mg base ["self", fld] qual (defScope st) f cdv A outer s H E).nox (defBody st) (tSeq (tOst K "code" (tVar 0) (tC (.str code))) (tOst K fld (tVar 0) (tVar 1)))) :
    FnOk P w K mg base CX0 1 f fd ["self", fld] (spIni K code fld) := by
  refine F.ok S (fun vs H Q E h => ?_) (fun cdv A outer s H vs Q E hr h => ?_)
  · obtain ⟨a, C, v, rfl, _⟩ := h
    rfl
  · obtain ⟨a, C, v, rfl, T, n1, n2, ha, q⟩ := h
    refine ⟨_, hb cdv A outer s H E, ?_⟩
    refine ⟨.ref a, rfl, a, C, rfl, T, n1, .inl ⟨ha, fun dx nd ne => ?_⟩⟩
    refine ⟨v, rfl, .ref a, rfl, a, C, rfl, T, n2, .inr ⟨dx, [(("code" : Str), V.str code)], upd_same, ?_, Nat.le_of_ble_eq_true rfl, ?_⟩⟩
    · rw [upd_ne ne, upd_same]
    · refine q dx _ nd ne ?_ upd_same fun b o hbo nba => ?_
      · rw [upd_ne ne.symm, upd_same]
      · rw [upd_ne (ne_of_none hbo nd), upd_ne nba, upd_ne (ne_of_none hbo nd)]
        exact hbo
end
end Rg
/-! ### the end where the law makes lambdas: its table of code objects -/
namespace Rg
open PySem PySem.Spec PyProof.Rows L2
theorem tabIn_mk {K : PySem.W.Frag} {x : Str} {f c P : Addr} {o1 o2 o3 : Option Addr} {v1 v2 : Value} {fd : FuncData} {vs : Array Value} {s1 s2 : Array (Option Value)} (a : PySem.W.nsIn K mainGlobals x = some (some (.ref f))) (l : K.lookup f = some ⟨v1, o1, .func fd, s1⟩) (hc : fd.code = .ref c)
    (lc : K.lookup c = some ⟨v2, o2, .fields vs, s2⟩) (e : vs[11]? = some (.ref P)) : PySem.W.tabIn K x = some (c, P) := by
  unfold PySem.W.tabIn
  simp only [a, l, hc, lc, e]
theorem noTab {K : PySem.W.Frag} {h : Heap} {P : Addr} {ps : Array Value} (X : K.In h) (nt : PySem.W.noTabs K = true) (hP : h.get? P = some { cls := .none, data := .fields ps }) : K.lookup P = none := by
  cases e : K.lookup P with
  | none => rfl
  | some o =>
    have e2 := X P o e
    rw [hP] at e2
    obtain rfl := Option.some.inj e2
    exact absurd (List.all_eq_true.mp nt _ (PySem.W.mem_of_lookupK e)) Bool.false_ne_true
theorem walk_tab {l : PySem.W.OpenLaw} {n k : Nat} {q : Program} {loose : List Str} {XP : (Str → Option Value) → Heap → Prop} {YP : World → Heap → Prop} {d : DefRec} {K : Params → PySem.W.Frag} {x : Str} {sp : World → Addr → Sp}
    (hn : l.most = some n) (hn2 : n ≤ sizeLine) (hdf : d.params.defaults = []) (room : Room k callerA) (hY : ∀ (w : World) (h : Heap), YP w h → (K w.params).In h) (law : d.name = "law") (found : (recsOf q).find? (fun e => e.name == ("law" : Str)) = some d)
    (F : ∀ (w : World) (mg : Str → Option Value) (fa : Addr) (h : Heap), (K w.params).In h → h.Ns mainGlobals mg → mg "law" = some (.ref fa) →
      ∃ (fd : FuncData) (c P : Addr), PySem.W.tabIn (K w.params) "law" = some (c, P) ∧ PySem.W.noTabs (K w.params) = true ∧ (∀ (s : Shared) (u : Value), BindsTo s fd ⟨[u], []⟩ [(x, u)]) ∧
        ∀ base : Heap, (K w.params).In base → base.Ns mainGlobals mg → LamX.TabB base mg c P → FnOk l.prog w (K w.params) mg base CX0 k fa fd [x] (sp w P))
    (S : ∀ (w : World) (H : Hp) (P a : Addr) (ns : List Int), ns.length ≤ n → H P = some (.tbl #[]) → SqL (K w.params) H a (ns.map V.int) → sp w P [.ref a] H (fun v _ => v = .bl true) fun _ _ _ => False) :
    PySem.W.WalkO q loose XP YP l.row.toRowW d [] (fun f vs => PySem.call f vs) := by
  refine Att.attach_callB hn hdf fun w z0 z mg mb fa o pm cd doc a vs ns ground Y ho hd hcd hmg hobj hints hlen hbits hg => ?_
  have KX := hY w _ Y
  rw [law] at hmg
  obtain ⟨fd, c, P, tab, nt, bind, prom⟩ := F w mg fa _ KX ground.T.g hmg
  obtain ⟨code, obj⟩ := PySem.W.tab_of ground.T KX found tab
  exact LamX.law_callTs (cs := [(c, P)]) KX ground.T.g ground.T.b ground.T.builtins ground.T.nolimit hg (fun p hp => List.mem_singleton.mp hp ▸ obj) (fun p hp => List.mem_singleton.mp hp ▸ noTab KX nt obj) (fun p hp => List.mem_singleton.mp hp ▸ code) ground.T.bmain hobj hints
    (Nat.le_trans hlen hn2) room (fun base h1 h2 h3 => prom base h1 h2 (h3 (c, P) (List.mem_singleton.mpr rfl))) bind (fun H hH hS => S w H P a ns hlen (hH (c, P) (List.mem_singleton.mpr rfl)) hS) fun _ _ _ z => z
/-! which clause an error meets -/
theorem exm1 {K : PySem.W.Frag} {cls : Value} {c : Addr} {b : Bool} (h1 : PySem.W.subIn K (.ref c) (.type "BaseException") = some true) (h2 : PySem.W.isClsIn K c = true) (h3 : PySem.W.typeIn K (.ref c) = some (.type "type")) (h4 : PySem.W.subIn K cls (.ref c) = some b) :
    PySem.W.exmOne K cls (.ref c) = some b := by
  have e1 : (PySem.W.subIn K (.ref c) (.type "BaseException") == some true) = true := by rw [h1]; rfl
  have e2 : ((PySem.W.clsIn K c).isSome && PySem.W.typeIn K (.ref c) == some (.type "type")) = true := by
    rw [show (PySem.W.clsIn K c).isSome = true from h2, h3]
    rfl
  unfold PySem.W.exmOne
  rw [if_pos e1]
  show (if _ = true then _ else _) = _
  rw [if_pos e2]
  exact h4
theorem exm3 {K : PySem.W.Frag} {cls c1 c2 c3 : Value} {b1 b2 b3 : Bool} (h1 : PySem.W.exmOne K cls c1 = some b1) (h2 : PySem.W.exmOne K cls c2 = some b2) (h3 : PySem.W.exmOne K cls c3 = some b3) : PySem.W.exmAny K cls [c1, c2, c3] = some (b1 || (b2 || (b3 || false))) := by
  simp only [PySem.W.exmAny, h1, h2, h3]
theorem Tabs.but {T : List (Addr × Str)} {H H' : Hp} {b : Addr} {l : List V} (t : LamX.Tabs T H) (s : But b H H') (hb : H b = some (.lst l)) : LamX.Tabs T H' := by
  intro p hp
  obtain ⟨ps, h1, h2, h3⟩ := t p hp
  refine ⟨ps, s _ _ h1 (fun z => by rw [z, hb] at h1; cases h1), h2, fun pos cv hc => ?_⟩
  obtain ⟨c, e1, e2⟩ := h3 pos cv hc
  refine ⟨c, e1, s _ _ e2 fun z => ?_⟩
  rw [z, hb] at e2
  have e3 : HO.ext _ = HO.lst l := (Option.some.inj e2).symm
  cases e3
end Rg
namespace Rg
open PySem L2
theorem addT {K : PySem.W.Frag} {a p : Addr} {xs ys : List V} {H : Hp} {Q : VK} (h1 : H a = some (.tup xs)) (h2 : H p = some (.tup ys)) (h : xs.length + ys.length ≤ sizeLine) (q : ∀ r H', Same H H' → H' r = some (.tup (xs ++ ys)) → Q (.ref r) H') : rAddX K (.ref a) (.ref p) H Q := by
  refine .inr (.inr (.inr ⟨a, p, xs, ys, rfl, rfl, SqT.of h1, SqT.of h2, h, fun e => ?_, fun _ e => ?_, fun _ _ r n => q r _ (same_upd n) upd_same⟩))
  · exact q p H (Same.refl H) (by rw [e]; exact h2)
  · exact q a H (Same.refl H) (by rw [e, List.append_nil]; exact h1)
theorem cut_all {xs : List V} {lo hi : Option Int} (h : HT.sIx xs.length 0 lo = 0 ∧ HT.sIx xs.length xs.length hi = xs.length) : cutV xs lo hi = xs := by
  unfold cutV
  rw [h.1, h.2, List.drop_zero, Nat.sub_zero, List.take_length]
theorem slTX {K : PySem.W.Frag} {a : Addr} {xs : List V} {lo hi : Option Int} {H : Hp} {Q : VK} (h : H a = some (.tup xs)) (q : ∀ r H', Same H H' → H' r = some (.tup (cutV xs lo hi)) → Q (.ref r) H') : rSlX K (.ref a) lo hi H Q :=
  slT (SqT.of h) (fun e => q a H (Same.refl H) (by rw [cut_all e]; exact h)) fun _ r n => q r _ (same_upd n) upd_same
theorem cutV_take {xs : List V} {i : Nat} (h : i ≤ xs.length) : cutV xs none (some (i : Int)) = xs.take i := by
  unfold cutV
  show ((xs.drop 0).take (HT.sIx xs.length xs.length (some (i : Int)) - 0)) = _
  rw [List.drop_zero, Nat.sub_zero]
  congr 1
  unfold HT.sIx
  simp
  rw [if_neg (show ¬ ((i : Int) < 0) by omega)]
  omega
theorem cutV_drop {xs : List V} {i : Nat} (h : i ≤ xs.length) : cutV xs (some (i : Int)) none = xs.drop i := by
  unfold cutV
  have e : HT.sIx xs.length 0 (some (i : Int)) = i := by
    unfold HT.sIx
    simp
    rw [if_neg (show ¬ ((i : Int) < 0) by omega)]
    omega
  show ((xs.drop (HT.sIx xs.length 0 (some (i : Int)))).take (xs.length - HT.sIx xs.length 0 (some (i : Int)))) = _
  rw [e]
  exact List.take_of_length_le (by rw [List.length_drop]; exact Nat.le_refl _)
end Rg
namespace Rg
open PySem L2
theorem crR {sp : Sp} {W : WX} {t : TA} {σ : L2.St} {H : Hp} {Q : VK} (q : t σ H fun vs H1 => sp vs H1 Q fun cls d H2 => W cls d σ H2) : tCR sp W t σ H Q := q
theorem crK {sp : Sp} {gV : List V → List V → List V} {E : XK} {tk : TA} {σ : L2.St} {H : Hp} {Q : VK} (q : tk σ H fun zs H1 => sp (gV [] zs) H1 Q E) : tCRK sp gV E tk σ H Q := q
end Rg

set_option Elab.async false
set_option linter.all false
set_option maxRecDepth 100000
set_option maxHeartbeats 4000000
/-! ### lambdas as values: lists of lambda: e and lambda x=i: e, handed to a def that calls them -/
namespace LamV
open PySem PySem.Spec PyProof.Rows L2 LamX
/-- a lambda value: its text, the closure, its code object, the tuple of its defaults -/
structure LK where
  qual : Str
  params : Arguments
  body : Expr
  scope : Scope
  clo : List (Str × Addr)
  code : Addr
  dflt : Option Addr
/-- the value of its defaults -/
def dvOf : Option Addr → Value
  | none => .none
  | some t => .ref t
def LamO (f : Addr) (F : LK) : HO := .ext fun h => ∃ doc pm ctv : Value, h.get? f = some (PySem.W.kdv_obj "<lambda>" F.qual F.params (.expr F.body) F.scope F.clo (dvOf F.dflt) doc pm F.code ctv)
theorem lamO_ok {P : Program} {w : World} {H : Hp} {h : Heap} {f : Addr} {F : LK} {doc pm ctv : Value} (g : h.get? f = some (PySem.W.kdv_obj "<lambda>" F.qual F.params (.expr F.body) F.scope F.clo (dvOf F.dflt) doc pm F.code ctv)) : ObjOk P w H h f (LamO f F) :=
  ⟨⟨doc, pm, ctv, g⟩, ⟨_, g⟩, fun _ _ ⟨doc, pm, ctv, g⟩ k => ⟨doc, pm, ctv, k _ g⟩⟩
theorem lamO_tbl {f : Addr} {F : LK} (ps : Array Value) : LamO f F ≠ .tbl ps := fun z => by
  unfold LamO at z
  cases z
/-- the names of a lambda: captured ones, globals, and parameters that no slot of the maker bears -/
structure LamN (N : List Str) (sc scope : Scope) (ps : List Str) : Prop where
  kind : scope.kind = .function
  co : scope.isCoroutine = false
  gen : scope.isGenerator = false
  cell : ∀ y ∈ scope.names, y.2 ≠ .cell
  own : ∀ y ∈ scope.names, y.2 = .local → y.1 ∉ N
  free : ∀ y ∈ scope.names, y.2 = .free → sc.names.lookup y.1 = some .cell ∨ sc.names.lookup y.1 = some .free
  par : ∀ p ∈ ps, scope.names.lookup p = some .local
def lamNB (N : List Str) (sc scope : Scope) (ps : List Str) : Bool :=
  decide (scope.kind = .function) && (!scope.isCoroutine && (!scope.isGenerator && (scope.names.all (fun y => !decide (y.2 = .cell) && ((!decide (y.2 = .local) || !decide (y.1 ∈ N)) && (!decide (y.2 = .free) || (decide (sc.names.lookup y.1 = some .cell) || decide (sc.names.lookup y.1 = some .free))))) &&
    ps.all fun p => decide (scope.names.lookup p = some .local))))
theorem lamN_by {N : List Str} {sc scope : Scope} {ps : List Str} (h : lamNB N sc scope ps = true) : LamN N sc scope ps := by
  unfold lamNB at h
  simp only [Bool.and_eq_true, Bool.or_eq_true, Bool.not_eq_true', decide_eq_true_eq, decide_eq_false_iff_not, List.all_eq_true] at h
  obtain ⟨h1, h2, h3, h4, h5⟩ := h
  exact ⟨h1, h2, h3, fun y m => (h4 y m).1, fun y m e => (h4 y m).2.1.resolve_left fun z => z e, fun y m e => (h4 y m).2.2.resolve_left fun z => z e, h5⟩
section
variable {X : Cx} {pins : List (Addr × Obj)} {σ : L2.St} {H HZ : Hp} {s s1 : Shared}
theorem LamN.has {scope : Scope} {ps : List Str} (L : LamN X.N X.env.scope scope ps) (ok : X.Ok) (y : Str × NameKind) (m : y ∈ scope.names) (e : y.2 = .free) : ∃ c, X.env.cells.lookup y.1 = some c :=
  (L.free y m e).elim (fun k => ok.has _ (.inl k)) fun k => ok.has _ (.inr k)
/-- the tail of the making: the function's object -/
theorem tail_ok {T : List (Addr × Str)} {c P : Addr} {params : Arguments} {body : Expr} {scope : Scope} {pos : Pos} {E : Value → Shared → Prop} {Q : Value → Shared → Prop} {d : Option Addr} (I : Inv X pins σ H s) (TB : TabB X.base X.mg c P) (hcode : X.env.code = .ref c)
    (mem : (P, X.env.qual ++ "<lambda>") ∈ T) (one : ∀ p ∈ T, p.1 = P → p.2 = X.env.qual ++ "<lambda>") (hT : Tabs T H) (free : ∀ y ∈ scope.names, y.2 = .free → ∃ c, X.env.cells.lookup y.1 = some c)
    (h : ∀ (f c' : Addr) (H1 : Hp) (z : Shared), Inv X pins σ H1 z → ExtN H H1 → Tabs T H1 → H f = none → H1 c' = some (CodeO c' (X.env.qual ++ "<lambda>")) → H1 f = some (LamO f ⟨X.env.qual ++ "<lambda>", params, body, scope, cloFrom X.env.cells scope.names [], c', d⟩) → Q (.ref f) z) :
    wpAny (model X.prog X.w) X.A (makeTail "<lambda>" (X.env.qual ++ "<lambda>") params (.expr body) scope X.env (dvOf d) .none none pos pos.line) Q E s := by
  obtain ⟨ps, hP, trip, all⟩ := hT _ mem
  have bP : s.heap.BuiltinsAt X.mg P := TB.bm.keeps I.bk
  have tabP : s.heap.get? P = some { cls := .none, data := .fields ps } := I.hok P _ hP
  cases found : codeAmong pos ps.toList with
  | none =>
    refine PySem.W.kdv_makeTail (mg := X.mg) (c := c) (P := P) (ps := ps) (closure_ok free) I.ok.glob (I.mod.glob.keeps I.bk) hcode (TB.code.keeps I.bk) tabP trip found TB.gP bP fun c' ctv doc h' tk same big less rec_ grown => ?_
    obtain ⟨c2, oc, vs, t, e2, goc, dat, nam⟩ := rec_
    cases e2
    have fresh : H c' = none := I.hok.fresh big
    have sizes : s.heap.objs.size ≤ h'.objs.size := Nat.le_trans big (Nat.le_of_lt less)
    have J := inv_table (t' := tk) (q := X.env.qual ++ "<lambda>") (more := #[rawInt pos.line, rawInt pos.col, .ref c']) (h' := h') I hP (fun b o nb g => same b o nb g) grown big ⟨oc, vs, t, goc, dat, nam⟩
    have nPc : P ≠ c' := ne_of_none hP fresh
    have grow : ExtN H (upd (upd H P (.tbl (ps ++ #[rawInt pos.line, rawInt pos.col, .ref c']))) c' (CodeO c' (X.env.qual ++ "<lambda>"))) := fun b o g notab => by
      rw [upd_ne (ne_of_none g fresh), upd_ne fun z => notab ps (Option.some.inj (g.symm.trans (by rw [z]; exact hP)))]
      exact g
    have atC : upd (upd H P (.tbl (ps ++ #[rawInt pos.line, rawInt pos.col, .ref c']))) c' (CodeO c' (X.env.qual ++ "<lambda>")) c' = some (CodeO c' (X.env.qual ++ "<lambda>")) := upd_same
    have atP : upd (upd H P (.tbl (ps ++ #[rawInt pos.line, rawInt pos.col, .ref c']))) c' (CodeO c' (X.env.qual ++ "<lambda>")) P = some (.tbl (ps ++ #[rawInt pos.line, rawInt pos.col, .ref c'])) := by
      rw [upd_ne nPc, upd_same]
    have others : ∀ b, b ≠ P → b ≠ c' → upd (upd H P (.tbl (ps ++ #[rawInt pos.line, rawInt pos.col, .ref c']))) c' (CodeO c' (X.env.qual ++ "<lambda>")) b = H b := fun b n1 n2 => by rw [upd_ne n2, upd_ne n1]
    have freeF : H h'.objs.size = none := I.hok.fresh sizes
    have freeF2 := J.hok.fresh (Nat.le_refl h'.objs.size)
    generalize upd (upd H P (.tbl (ps ++ #[rawInt pos.line, rawInt pos.col, .ref c']))) c' (CodeO c' (X.env.qual ++ "<lambda>")) = H1 at J grow atC atP others freeF2
    have gF : (h'.push (PySem.W.kdv_obj "<lambda>" (X.env.qual ++ "<lambda>") params (.expr body) scope (cloFrom X.env.cells scope.names []) (dvOf d) doc ((X.mg "__name__").getD .none) c' ctv)).get? h'.objs.size = some _ := Heap.get?_push_size _ rfl
    have J2 := J.laid (t' := tk) (a := h'.objs.size) (o := LamO h'.objs.size ⟨X.env.qual ++ "<lambda>", params, body, scope, cloFrom X.env.cells scope.names [], c', d⟩) (fun b o g => Heap.get?_push_of_some _ g) (Nat.le_refl _) (lamO_ok gF)
    have sm := Rg.same_upd (o := LamO h'.objs.size ⟨X.env.qual ++ "<lambda>", params, body, scope, cloFrom X.env.cells scope.names [], c', d⟩) freeF2
    refine h h'.objs.size c' _ _ J2 (grow.trans (ExtN.of sm)) (fun p hp => ?_) freeF (sm _ _ atC) upd_same
    by_cases hb : p.1 = P
    · rw [one p hp hb, hb]
      refine TabS.ext ⟨_, atP, ?_, fun p' cv hc => ?_⟩ sm
      · rw [show (ps ++ #[rawInt pos.line, rawInt pos.col, Value.ref c']).toList = ps.toList ++ [rawInt pos.line, rawInt pos.col, .ref c'] by simp]
        exact PySem.TriplesOk_snoc _ _ _ _ trip
      · rw [show (ps ++ #[rawInt pos.line, rawInt pos.col, Value.ref c']).toList = ps.toList ++ [rawInt pos.line, rawInt pos.col, .ref c'] by simp] at hc
        rcases among_app _ trip hc with z | z
        · obtain ⟨c0, e1, e2⟩ := all p' cv z
          exact ⟨c0, e1, grow _ _ e2 codeO_ne⟩
        · exact ⟨c', z, atC⟩
    · obtain ⟨ps', a1, a2, a3⟩ := hT p hp
      refine TabS.ext ⟨ps', by rw [others _ hb (ne_of_none a1 fresh)]; exact a1, a2, fun p' cv hc => ?_⟩ sm
      obtain ⟨c0, e1, e2⟩ := a3 p' cv hc
      exact ⟨c0, e1, grow _ _ e2 codeO_ne⟩
  | some cv =>
    obtain ⟨c', rfl, atC⟩ := all pos cv found
    refine PySem.W.kdv_makeTailHit (mg := X.mg) (c := c) (P := P) (ps := ps) (closure_ok free) I.ok.glob (I.mod.glob.keeps I.bk) hcode (TB.code.keeps I.bk) tabP trip found bP fun ctv doc h' tk same sizes => ?_
    have J : Inv X pins σ H { s with heap := h', toks := tk } := I.kept same
    have freeF := J.hok.fresh (Nat.le_refl h'.objs.size)
    have gF : (h'.push (PySem.W.kdv_obj "<lambda>" (X.env.qual ++ "<lambda>") params (.expr body) scope (cloFrom X.env.cells scope.names []) (dvOf d) doc ((X.mg "__name__").getD .none) c' ctv)).get? h'.objs.size = some _ := Heap.get?_push_size _ rfl
    have J2 := J.laid (t' := tk) (a := h'.objs.size) (o := LamO h'.objs.size ⟨X.env.qual ++ "<lambda>", params, body, scope, cloFrom X.env.cells scope.names [], c', d⟩) (fun b o g => Heap.get?_push_of_some _ g) (Nat.le_refl _) (lamO_ok gF)
    have sm := Rg.same_upd (o := LamO h'.objs.size ⟨X.env.qual ++ "<lambda>", params, body, scope, cloFrom X.env.cells scope.names [], c', d⟩) freeF
    exact h h'.objs.size c' _ _ J2 (ExtN.of sm) (hT.ext sm) freeF (sm _ _ atC) upd_same
end
section
variable {X : Cx} {pins : List (Addr × Obj)} {σ : L2.St} {H HZ : Hp} {s s1 : Shared}
/-- the lambda's frame is laid: its body's context -/
theorem begun {A : Around} {outer : List Env} {E : XK} {scope : Scope} {ps : List Str} {f c' : Addr} {g : Heap} {tk : Nat} {m : Str → Option Value} (I : Inv X pins σ H s) (L : LamN X.N X.env.scope scope ps) (e0 : Env0 X.prog X.w X.K X.mg X.base A outer s1 HZ) (calm : A.handled = none)
    (since : Un (frs X.stack) [] H HZ s.heap s1.heap) (frame : g.Ns s1.heap.objs.size m) (kept : ∀ b o, s1.heap.get? b = some o → g.get? b = some o) : Inv (lamCx X A outer s1 HZ E scope f c') [] σ HZ { s1 with heap := g, toks := tk } := by
  have back : ∀ {y : Str} {c : Addr}, (cloFrom X.env.cells scope.names []).lookup y = some c → X.env.cells.lookup y = some c := by
    intro y c e
    rcases cloFrom_mem (PySem.mem_of_lookup e) with z | ⟨z1, z2⟩
    · cases z
    · obtain ⟨c1, e1⟩ := L.has I.ok _ z1 rfl
      have e1 : X.env.cells.lookup y = some c1 := e1
      rw [e1] at z2
      rw [show c = c1 from z2]
      exact e1
  have forth : ∀ {y : Str}, scope.names.lookup y = some .free → ∃ c, (cloFrom X.env.cells scope.names []).lookup y = some c := fun {y} e => mem_lookup (cloFrom_has (cells := X.env.cells) (acc := []) (show (y, NameKind.free) ∈ scope.names from PySem.mem_of_lookup e))
  have cells : ∀ {c : Addr} {v : Option Value}, H c = none → s.heap.IsCell c v → g.IsCell c v := by
    rintro c v n ⟨o, g1, d1⟩
    obtain ⟨sl, g2⟩ := since.any g1 n List.not_mem_nil
    exact ⟨_, kept _ _ g2, d1⟩
  have noEx : ∀ b : Addr, b ∉ (lamCx X A outer s1 HZ E scope f c').ex := fun b z => List.not_mem_nil (show b ∈ ([] : List Addr) from z)
  exact {
    ok := {
      mod := e0.mod
      kind := L.kind
      glob := rfl
      blt := rfl
      above := Nat.le_refl _
      inj := fun x y c e1 e2 => I.ok.inj x y c (back e1) (back e2)
      has := fun x hx => by
        have hx : scope.names.lookup x = some .cell ∨ scope.names.lookup x = some .free := hx
        exact hx.elim (fun z => absurd rfl (L.cell _ (PySem.mem_of_lookup z))) forth
      cab := fun _ _ z _ => by cases (show false = true from z)
      hd := fun _ => calm
      frames := Around.frames_deeper e0.frames
      stk := .inr ⟨rfl, rfl⟩
      exf := fun b z => absurd z (noEx b)
      bs := e0.bs
      bsz := e0.bsz
      noex := fun b _ _ => noEx b
      exfs := fun b z => absurd z (noEx b)
      funs := e0.funs
      frf := e0.frf }
    os := rfl
    bare := e0.bare
    base := Un.kept kept
    loc := ⟨m, frame, fun i y v e1 e2 vis => by
      have vis : Vis scope y := vis
      have inN : y ∈ X.N := List.mem_of_getElem? e1
      rcases vis with z | z | z
      · exact absurd inN (L.own _ (PySem.mem_of_lookup z) rfl)
      · exact absurd rfl (L.cell _ (PySem.mem_of_lookup z))
      · obtain ⟨m0, _, look⟩ := I.loc
        have up := L.free _ (PySem.mem_of_lookup z) rfl
        obtain ⟨u, ru, at_⟩ := look i y v e1 e2 (up.elim (fun k => .inr (.inl k)) fun k => .inr (.inr k))
        obtain ⟨c2, e3⟩ := forth z
        refine ⟨u, ru, .inr ⟨.inr z, c2, e3, ?_⟩⟩
        have e4 := back e3
        rcases at_ with ⟨k, _⟩ | ⟨_, c3, e5, cell⟩
        · have k : X.env.scope.names.lookup y = some .local := k
          rcases up with k2 | k2 <;> rw [show X.env.scope.names.lookup y = _ from k2] at k <;> cases k
        · rw [e4] at e5
          cases e5
          exact cells (I.freeC y _ e4) cell⟩
    cell := fun y c e => by
      obtain ⟨v, cell⟩ := I.cell y c (back e)
      exact ⟨v, cells (I.freeC y c (back e)) cell⟩
    free := e0.hok.fresh (Nat.le_refl _)
    freeC := fun y c e => by
      obtain ⟨v, o, g1, _⟩ := I.cell y c (back e)
      exact since.free c o g1 (I.freeC y c (back e)) List.not_mem_nil
    pin := fun q hq => absurd (show q ∈ ([] : List (Addr × Obj)) ++ [] from hq) (by simp)
    hok := e0.hok.kept kept
    len := I.len }
/-- the function data of a lambda value -/
def fdOf (F : LK) (doc pm ctv : Value) : FuncData := PySem.W.kdv_fn "<lambda>" F.qual F.params (.expr F.body) F.scope F.clo (dvOf F.dflt) doc pm (.ref F.code) ctv
/-- how its arguments bind when nothing is passed -/
def BindL (F : LK) (HD : Hp → Prop) : Prop := ∀ (X : Cx) (pins : List (Addr × Obj)) (σ : L2.St) (H : Hp) (s : Shared) (doc pm ctv : Value), Inv X pins σ H s → HD H →
  ∃ binds : List (Str × Value), (∀ y ∈ binds, F.scope.names.lookup y.1 = some .local) ∧ BindsTo s (fdOf F doc pm ctv) ⟨[], []⟩ binds
theorem bindL0 {F : LK} (h : ∀ doc pm ctv : Value, bindArgs (fdOf F doc pm ctv) ⟨[], []⟩ = pure []) : BindL F fun _ => True :=
  fun _ _ _ _ _ doc pm ctv _ _ => ⟨[], fun y m => (absurd m List.not_mem_nil), BindsTo.of_eq (h doc pm ctv)⟩
theorem bindL1 {F : LK} {t : Addr} {i : Int} {x : Str} {k : Option (Array Value) → Sem (List (Str × Value))} (ht : F.dflt = some t) (loc : F.scope.names.lookup x = some .local)
    (h1 : ∀ doc pm ctv : Value, bindArgs (fdOf F doc pm ctv) ⟨[], []⟩ = seqItems? (fdOf F doc pm ctv).defaults >>= k) (h2 : ∀ v : Value, k (some [v].toArray) = pure [(x, v)]) : BindL F fun H => H t = some (.tup [.int i]) := by
  intro X pins σ H s doc pm ctv I hD
  obtain ⟨its, rel, tup, _⟩ := I.tuple (SqT.of hD)
  obtain ⟨v, rfl⟩ : ∃ v, its = [v] := by
    have len := rel.length
    match its, len with
    | [v], _ => exact ⟨v, rfl⟩
  obtain ⟨o, g, _, n, d⟩ := tup
  have hd : (fdOf F doc pm ctv).defaults = .ref t := by
    show dvOf F.dflt = _
    rw [ht]
    rfl
  exact ⟨[(x, v)], fun y m => (by rw [List.mem_singleton.mp m]; exact loc), BindsTo.of_defaults hd g d (h1 doc pm ctv) (h2 v)⟩
/-- x(), in the def that got the lambda value -/
theorem pe_actV {CXg : CXT} {Eg : XK} {Ng : List Str} {qg : Str} {sg : Scope} {g f : Addr} {cdg : Value} {F : LK} {HD : Hp → Prop} {ps : List Str} {k i : Nat} {a : Str} {pn : List (Addr × Obj)} {xe : Value → Shared → Prop} {W : WX} {E : XK} {tb : TE} {p1 p2 : Pos}
    (I : Inv X pins σ H s) (L : LamN X.N X.env.scope F.scope ps) (hq : F.qual = X.env.qual ++ "<lambda>") (hclo : F.clo = cloFrom X.env.cells F.scope.names []) (bind : BindL F HD)
    (tk : Takes ((cxOf CXg X.prog X.w X.K X.mg X.base Ng qg sg g cdg X.A X.stack s H Eg).tr pn xe) W) (out : ∀ cls d σ' H', E cls d H' → W cls d σ' H') (room : Room (k + 1) (X.A.deeper (envOfC qg sg s.heap.objs.size g cdg)))
    (body : ∀ (A : Around) (outer : List Env) (s : Shared) (H : Hp), Room k (A.deeper (lamEnv X F.scope s.heap.objs.size f F.code)) → PE (lamCx X A outer s H E F.scope f F.code) F.body tb)
    (hN : Ng[i]? = some a) (hv : Vis sg a) (hd : (a == ("__debug__" : Str)) = false := by decide) (hcd : (a == ("__classdict__" : Str)) = false := by decide) :
    PE ((cxOf CXg X.prog X.w X.K X.mg X.base Ng qg sg g cdg X.A X.stack s H Eg).tr pn xe) (.Call (.Name a p1) [] [] p2)
      (fun σZ HZ Q => σZ[i]? = some (some (.ref f)) ∧ HZ F.code = some (CodeO F.code F.qual) ∧ HZ f = some (LamO f F) ∧ HD HZ ∧ tb σ HZ Q) := by
  constructor
  intro pinsZ sZ σZ HZ Q IZ h
  obtain ⟨slot, code, lam, dflt, promise⟩ := h
  have name := (pe_var (pos := p1) (i := i) hN hv hd hcd).run pinsZ sZ σZ HZ (fun v H1 => v = .ref f ∧ H1 = HZ) IZ ⟨.ref f, slot, rfl, rfl⟩
  refine wpAny_Call_Name_kw (thn name fun u z got => ?_)
  obtain ⟨v, H1, J, ru, rfl, rfl⟩ := got
  obtain rfl : u = Value.ref f := ru
  have fobj : ObjOk X.prog X.w H1 z.heap f (LamO f F) := J.hok f _ lam
  obtain ⟨⟨doc, pm, ctv, gf⟩, _, _⟩ := fobj
  have cobj : ObjOk X.prog X.w H1 z.heap F.code (CodeO F.code F.qual) := J.hok F.code _ code
  obtain ⟨⟨oc, vs, tq, gc, dc, vc⟩, _, _⟩ := cobj
  obtain ⟨binds, loc, bound⟩ := bind _ _ _ _ _ doc pm ctv J dflt
  refine PySem.W.callWith_F0 ⟨_, _, _, _, gf⟩ ?_
  have since : Un (frs X.stack) [] H H1 s.heap z.heap := J.base
  have runs : codeAny (model X.prog X.w) (X.A.deeper (envOfC qg sg s.heap.objs.size g cdg)) (.call (.ref f) ⟨[], []⟩) (CR (L2.CX X.prog X.w) (envOfC qg sg s.heap.objs.size g cdg :: X.stack) X.prog X.w H1 z Q E) z := by
    refine PySem.W.kla_callFunE room.depth gf rfl L.co L.gen rfl ⟨F.code, oc, vs, tq, rfl, gc, dc, vc⟩ (bound _ _ _ _ ?_)
    refine wpAny_newFunctionEnv L.cell loc (fun h1 frame same => ⟨J.nolimit.fresh _ same, ?_⟩) L.kind
    have kept : ∀ b o, z.heap.get? b = some o → h1.get? b = some o := fun b o e => same.extBut b o (Nat.ne_of_lt (Heap.lt_size e)) (Heap.get?_push_of_some _ e)
    have JL := begun (E := E) (f := f) (c' := F.code) (tk := z.toks + binds.length) I L J.env0 room.hd since frame kept
    rw [hclo, hq]
    refine PySem.W.kla_codeExpr (wpAny_mono ((body _ _ z H1 (room.deeper _)).run [] _ _ H1 Q JL promise) (fun v2 z2 got => ?_) fun _ _ no => no)
    obtain ⟨w2, H2, J2, rv, q⟩ := got
    exact ⟨w2, H2, J2.os, J2.bare, J2.base, J2.hok, rv, q⟩
  have passes : Passes (L2.CX X.prog X.w) ((cxOf CXg X.prog X.w X.K X.mg X.base Ng qg sg g cdg X.A X.stack s H Eg).tr pn xe) E := passes_call tk out
  refine wpAny_call (codeAny_mono runs fun r z2 done => ?_)
  match r, done with
  | .error er, done => exact passes pinsZ σZ H1 z er z2 J done
  | .ok (.ret u2), done => exact J.after done
end
/-! ### lambda: e and lambda x=i: e as values -/
def tLam0 (T : List (Addr × Str)) (q : Str) (mk : Addr → Option Addr → LK) : TE := fun _ H Q => Tabs T H ∧ ∀ (f c' : Addr) (H1 : Hp), ExtN H H1 → Tabs T H1 → H f = none → H1 c' = some (CodeO c' q) → H1 f = some (LamO f (mk c' none)) → Q (.ref f) H1
def tLamD (T : List (Addr × Str)) (q : Str) (mk : Addr → Option Addr → LK) (i : Int) : TE := fun _ H Q => Tabs T H ∧ ∀ (f c' t : Addr) (H1 : Hp), ExtN H H1 → Tabs T H1 → H f = none → H1 c' = some (CodeO c' q) → H1 t = some (.tup [.int i]) → H1 f = some (LamO f (mk c' (some t))) → Q (.ref f) H1
section
variable {X : Cx} {T : List (Addr × Str)} {c P : Addr} {params : Arguments} {body : Expr} {scope : Scope} {pos : Pos} {ps : List Str}
theorem pe_lam0 (TB : TabB X.base X.mg c P) (hcode : X.env.code = .ref c) (mem : (P, X.env.qual ++ "<lambda>") ∈ T) (one : ∀ p ∈ T, p.1 = P → p.2 = X.env.qual ++ "<lambda>") (L : LamN X.N X.env.scope scope ps) (hdef : defaultsOf params X.env = ([], [])) :
    PE X (.Lambda params body scope pos) (tLam0 T (X.env.qual ++ "<lambda>") fun c' d => ⟨X.env.qual ++ "<lambda>", params, body, scope, cloFrom X.env.cells scope.names [], c', d⟩) := by
  constructor
  intro pins z σ H Q I h
  obtain ⟨hT, h⟩ := h
  refine PySem.W.kla_eval hdef ?_
  rw [makeFunction_eq]
  simp only [List.zip_nil_right, List.filterMap_nil, List.isEmpty_nil, if_true, pure_bind]
  exact tail_ok (d := none) I TB hcode mem one hT (L.has I.ok) fun f c' H1 z1 J grow T1 nf hc hf => ⟨.ref f, H1, J, rfl, h f c' H1 grow T1 nf hc hf⟩
theorem pe_lamD {e : Expr} {i : Int} (TB : TabB X.base X.mg c P) (hcode : X.env.code = .ref c) (mem : (P, X.env.qual ++ "<lambda>") ∈ T) (one : ∀ p ∈ T, p.1 = P → p.2 = X.env.qual ++ "<lambda>") (L : LamN X.N X.env.scope scope ps) (hdl : params.defaults = [e]) (hk0 : params.kw_defaults = []) (he : PE X e (tC (.int i))) :
    PE X (.Lambda params body scope pos) (tLamD T (X.env.qual ++ "<lambda>") (fun c' d => ⟨X.env.qual ++ "<lambda>", params, body, scope, cloFrom X.env.cells scope.names [], c', d⟩) i) := by
  constructor
  intro pins z σ H Q I h
  obtain ⟨hT, h⟩ := h
  refine PySem.W.kdv_lam (by rw [hdl]; rfl) hk0 ?_
  rw [hdl]
  refine PySem.W.kdv_all1 (thn (he.run pins z σ H (fun v H1 => v = .int i ∧ H1 = H) I ⟨rfl, rfl⟩) fun u z1 got => ?_)
  obtain ⟨v, H1, J, ru, rfl, rfl⟩ := got
  refine PySem.W.kdv_all0 ?_
  rw [makeFunction_eq]
  simp only [List.zip_nil_right, List.filterMap_nil, List.isEmpty_nil, if_true, pure_bind, List.isEmpty_cons, Bool.false_eq_true, if_false]
  refine wpAny_bind (wpAny_newTextTuple ?_)
  have new : H1 z1.heap.objs.size = none := J.hok.fresh (Nat.le_refl _)
  have J2 := J.laid (t' := z1.toks) (a := z1.heap.objs.size) (o := .tup [V.int i]) (h' := z1.heap.push (PySem.W.kdv_tup [u])) (fun b o g => Heap.get?_push_of_some _ g) (Nat.le_refl _)
    ⟨(by decide : 1 ≤ sizeLine), [u], .cons ru .nil, ⟨_, Heap.get?_push_size _ rfl, rfl, _, rfl⟩⟩
  have sm := Rg.same_upd (o := .tup [V.int i]) new
  refine tail_ok (d := some z1.heap.objs.size) J2 TB hcode mem one (hT.ext sm) (L.has I.ok) fun f c' H2 z2 J3 grow T1 nf hc hf => ⟨.ref f, H2, J3, rfl, h f c' z1.heap.objs.size H2 ((ExtN.of sm).trans grow) T1 (Rg.un0 nf) hc (grow _ _ upd_same fun ps z => by cases z) hf⟩
end
end LamV
/-! ### a written dict of the module's top: d.get(k, x) -/
namespace Rg
open PySem PySem.Spec PyProof.Rows L2
def KTab (K : PySem.W.Frag) (w : World) (a : Addr) (kvs : List (Str × V)) : Prop :=
  ∃ es n, K.lookup a = some ⟨.type "dict", none, .dict es n, #[]⟩ ∧ PySem.W.KeysLit w.params es.toList ∧ (a == sysModules) = false ∧ ∀ z, RelO (kvs.lookup z) (findBy Value.isStrOf es z)
def tKGet (K : PySem.W.Frag) (w : World) (to te tf : TE) : TE := fun σ H Q => to σ H fun x H1 => ∃ a kvs, x = .ref a ∧ KTab K w a kvs ∧ te σ H1 fun y H2 => tf σ H2 fun z H3 => ∃ s, y = .str s ∧ Q ((kvs.lookup s).getD z) H3
theorem relO_getD {o : Option V} {o' : Option Value} {d : V} {r : Value} (h : RelO o o') (hd : RelV d r) : RelV (o.getD d) (o'.getD r) := by
  cases o <;> cases o'
  · exact hd
  · exact h.elim
  · exact h.elim
  · exact h
theorem pe_kget2 {X : Cx} (K : PySem.W.Frag) (w : World) {o e f : Expr} {to te tf : TE} {apos cpos : Pos} (ho : PE X o to) (he : PE X e te) (hf : PE X f tf) (m : M2 X o "get" apos e f cpos) (hK : X.K = K := by rfl) (hw : X.w = w := by rfl) : PE X (.Call (.Attribute o "get" apos) [e, f] [] cpos) (tKGet K w to te tf) := by
  subst hK hw
  constructor
  intro pins z σ H Q I h
  refine wpAny_Call_method m.base m.few m.line PySem.F.plainAttrs_dict PySem.F.slot_dict_get PySem.F.type_dict_get (thn (ho.run pins z σ H _ I h) fun u z1 got => ?_)
  obtain ⟨x, H1, I1, rx, a, kvs, rfl, ⟨es, n, hl, lit, low, rel⟩, q1⟩ := got
  obtain rfl : u = Value.ref a := rx
  have map1 := PySem.W.mapOf_K (prog := X.prog) (w := X.w) I1.kIn hl lit
  refine ⟨map1.typeIs, fun b eb => ?_, ?_⟩
  · cases eb
    exact ⟨_, I1.kIn _ _ hl, rfl⟩
  rw [m.trees]
  refine Calls.callWith_builtin rfl (Calls.evalArgs_plain (Calls.spliced_cons (thn (he.run pins z1 σ H1 _ I1 q1) fun kv z2 got2 => Calls.spliced_cons ?_)))
  obtain ⟨y, H2, I2, ry, q2⟩ := got2
  refine thn (hf.run pins z2 σ H2 _ I2 q2) fun fv z3 got3 => Calls.spliced_nil ?_
  obtain ⟨d, H3, I3, rd, s, rfl, q3⟩ := got3
  obtain ⟨tk, rfl⟩ := (show ∃ tk, kv = Value.str s tk from ry)
  have map3 := PySem.W.mapOf_K (prog := X.prog) (w := X.w) I3.kIn hl lit
  exact call_meetsIn PySem.F.slot_dict_get map3.typeIs PySem.F.entry_dict_get (PySem.F.args_dict_get_3 _ _ _) (meets_dict_get_default (strKind X.prog X.w) a (strKind_is X.prog X.w s tk) low fv) ⟨_, map3, _, H3, I3.tok _, relO_getD (rel s) rd, q3⟩
theorem kget {K : PySem.W.Frag} {w : World} {to te tf : TE} {σ : L2.St} {H : Hp} {Q : VK} (q : to σ H fun x H1 => ∃ a kvs, x = .ref a ∧ KTab K w a kvs ∧ te σ H1 fun y H2 => tf σ H2 fun z H3 => ∃ s, y = .str s ∧ Q ((kvs.lookup s).getD z) H3) : tKGet K w to te tf σ H Q := q
end Rg


namespace Pf
open PySem L2 Rg
local macro_rules | `(tactic| k_extra "hp") => `(tactic| first
  | assumption
  | exact SqL.of (by assumption) | exact SqT.of (by assumption) | exact SqL.of upd_same | exact SqT.of upd_same
  | exact upd_same
  | exact Or.inl (SqL.of (by assumption)) | exact Or.inl (SqL.of upd_same) | exact Or.inl (by assumption) | exact Or.inr (by assumption)
  | exact Or.inr (SqT.of (by assumption)) | exact Or.inr (SqT.of upd_same))
local macro_rules | `(tactic| k_extra "sz") => `(tactic| first | assumption | exact Nat.le_of_ble_eq_true rfl | (simp only [sizeLine_eq]; omega) | (rw [sizeLine_eq]; decide) | omega | decide)
local macro_rules | `(tactic| k_extra "ar") => `(tactic| first | assumption | omega | decide | (exact ⟨by omega, by omega⟩) | (exact Or.inl ⟨by omega, by omega⟩) | (exact Or.inr ⟨by omega, by omega⟩))
local macro_rules | `(tactic| k_extra "ty") => `(tactic| first | assumption | exact .base (.str _) | exact .base (.int _) | exact .base (.bl _) | exact .base .non | exact tyx_L (by assumption) | exact tyx_T (by assumption) | exact .base (.tup (by assumption)) | exact .base (.lst (by assumption)) | exact .base (.tup upd_same) | exact .base (.lst upd_same))
local macro_rules | `(tactic| k_extra "kb") => `(tactic| first | exact kit_ty kB_NoneType_str | exact kit_ty kB_NoneType_bool | exact kit_ty kB_NoneType_int | exact kit_ty kB_NoneType_dict | exact kit_ty kB_NoneType_tuple | exact kit_ty kB_NoneType_list | exact kit_ty kB_bool_str | exact kit_ty kB_bool_bool | exact kit_ty kB_bool_int | exact kit_ty kB_bool_dict | exact kit_ty kB_bool_tuple | exact kit_ty kB_bool_list | exact kit_ty kB_int_str | exact kit_ty kB_int_bool | exact kit_ty kB_int_int | exact kit_ty kB_int_dict | exact kit_ty kB_int_tuple | exact kit_ty kB_int_list | exact kit_ty kB_str_str | exact kit_ty kB_str_bool | exact kit_ty kB_str_int | exact kit_ty kB_str_dict | exact kit_ty kB_str_tuple | exact kit_ty kB_str_list | exact kit_ty kB_list_str | exact kit_ty kB_list_bool | exact kit_ty kB_list_int | exact kit_ty kB_list_dict | exact kit_ty kB_list_tuple | exact kit_ty kB_list_list | exact kit_ty kB_tuple_str | exact kit_ty kB_tuple_bool | exact kit_ty kB_tuple_int | exact kit_ty kB_tuple_dict | exact kit_ty kB_tuple_tuple | exact kit_ty kB_tuple_list | exact kit_ty kB_dict_str | exact kit_ty kB_dict_bool | exact kit_ty kB_dict_int | exact kit_ty kB_dict_dict | exact kit_ty kB_dict_tuple | exact kit_ty kB_dict_list)
local macro_rules | `(tactic| k_extra "r1") => `(tactic| with_reducible first
  | refine Rg.seq ?_ | refine Rg.asg ?_ | refine Rg.gname ?_ | refine Rg.cst ?_ | refine Rg.op ?_ | refine Rg.un ?_ | refine Rg.chain ?_
  | refine Rg.exbl ?_ | refine Rg.exint ?_ | refine Rg.expair ?_ | refine Rg.exstr ?_
  | refine Rg.eqI ?_ | refine Rg.neI ?_ | refine Rg.eqStr ?_ | refine Rg.neStr ?_ | refine Rg.eqB_truetrue ?_ | refine Rg.neB_truetrue ?_ | refine Rg.eqB_truefalse ?_ | refine Rg.neB_truefalse ?_ | refine Rg.eqB_falsetrue ?_ | refine Rg.neB_falsetrue ?_ | refine Rg.eqB_falsefalse ?_ | refine Rg.neB_falsefalse ?_ | refine Rg.eqB ?_ | refine Rg.neB ?_ | refine Rg.iI0 ?_ | refine Rg.iU ?_ | refine Rg.addI ?_ | refine Rg.leI ?_ | refine Rg.leS ?_ | refine Rg.inS ?_ | refine Rg.ninS ?_ | refine Rg.isN_int ?_ | refine Rg.notN_int ?_ | refine Rg.isN_str ?_ | refine Rg.notN_str ?_ | refine Rg.isN_bl ?_ | refine Rg.notN_bl ?_ | refine Rg.isN_ref ?_ | refine Rg.notN_ref ?_ | refine Rg.isN_non ?_ | refine Rg.notN_non ?_ | refine Rg.isN ?_ | refine Rg.notN ?_
  | refine Rg.sl ?_ | refine Rg.noPart ?_ | refine Rg.part ?_ | refine Rg.test ?_ | refine Rg.tb_ ?_ | refine Rg.tand ?_ | refine Rg.tor ?_ | refine Rg.tnot ?_
  | refine Rg.andV ?_ | refine Rg.orV ?_ | refine Rg.notV ?_ | refine Rg.ife ?_
  | refine Rg.nxt ?_ | refine Rg.brk ?_ | refine Rg.cnt ?_ | refine Rg.drp ?_ | refine Rg.ret ?_ | refine Rg.retN ?_ | refine Rg.ifS ?_ | refine Rg.par ?_ | refine Rg.gsub ?_
  | refine Rg.gcons ?_ | refine Rg.gnil ?_ | refine Rg.anil ?_ | refine Rg.acons ?_ | refine Rg.callC ?_ | refine Rg.callK ?_ | refine Rg.callB ?_ | refine Rg.intI ?_
  | refine Rg.lc ?_ | refine Rg.pnil ?_ | refine Rg.pcons ?_ | refine Rg.dget2 ?_ | refine Rg.tyes ?_ | refine Rg.lst_ ?_ | refine Rg.tup_ ?_ | refine Rg.m1 ?_ | refine Rg.isStr ?_ | refine Rg.for_ ?_ | refine Rg.bm ?_ | refine Rg.bm0 ?_ | refine Rg.il ?_ | refine Rg.ir1 ?_ | refine Rg.is_ ?_ | refine Rg.iz ?_
  | refine Rg.crR ?_ | refine Rg.crK ?_ | refine Rg.ie ?_ | refine Rg.revL ?_ | refine Rg.revT ?_ | refine Rg.star ?_ | refine Rg.iT ?_ | refine Rg.ipI2 ?_ | refine Rg.par3 ?_ | refine Rg.extrip ?_ | refine Rg.fm ?_ | refine Rg.jc ?_ | refine Rg.jn ?_
  | refine iteT ?_ | refine iteF ?_ | refine Rg.iteNt ?_ | refine Rg.iteNf ?_)
local macro_rules | `(tactic| k_extra "r") => `(tactic| first
  | ((with_reducible refine' Rg.mkNx ?h ?_); (case h => exact rfl))
  | ((with_reducible refine' Rg.mkRt ?h ?_); (case h => exact rfl))
  | ((with_reducible refine' Rg.mkCt ?h ?_); (case h => exact rfl))
  | ((with_reducible refine' Rg.mkBk ?h ?_); (case h => exact rfl))
  | k_extra "r1"
  | ((with_reducible refine' Rg.var ?h ?_); (case h => exact rfl))
  | ((with_reducible refine' Rg.aug ?h ?_); (case h => exact rfl))
  | ((with_reducible refine' Rg.ipS2 ?h ?_); (case h => k_extra "sz"))
  | ((with_reducible refine' Rg.ipL2 ?h ?h2 ?h3 ?_); (case h => k_extra "hp"); (case h2 => k_extra "hp"); (case h3 => k_extra "sz"))
  | ((with_reducible refine' Rg.iI ?h ?_); (case h => k_extra "ar"))
  | ((with_reducible refine' Rg.mulI ?h ?_); (case h => k_extra "ar"))
  | ((with_reducible refine' Rg.eqS ?h ?_); (case h => exact rfl))
  | ((with_reducible refine' Rg.neS ?h ?_); (case h => exact rfl))
  | ((with_reducible refine' Rg.addS ?h ?_); (case h => k_extra "sz"))
  | ((with_reducible refine' Rg.isi ?h ?h1 ?_); (case h => k_extra "ty"); (case h1 => with_reducible k_extra "kb"))
  | ((with_reducible refine' Rg.lenS ?h ?_); (case h => k_extra "sz"))
  | ((with_reducible refine' Rg.lenL ?h ?_); (case h => k_extra "hp"))
  | ((with_reducible refine' Rg.lenT ?h ?_); (case h => k_extra "hp"))
  | ((with_reducible refine' Rg.ixL ?h ?h1 ?_); (case h => k_extra "hp"); (case h1 => exact rfl))
  | ((with_reducible refine' Rg.ixT ?h ?h1 ?_); (case h => k_extra "hp"); (case h1 => exact rfl))
  | ((with_reducible refine' Rg.setL ?h ?h1 ?_); (case h => k_extra "hp"); (case h1 => exact rfl))
  | ((with_reducible refine' Rg.slS ?h ?_); (case h => k_extra "sz"))
  | ((with_reducible refine' Rg.exl ?h ?_); (case h => exact ⟨_, by k_extra "hp"⟩))
  | ((with_reducible refine' Rg.exr1 ?h1 ?h2 ?_); (case h1 => omega); (case h2 => omega))
  | ((with_reducible refine' Rg.gtup ?h ?h1 ?_); (case h => k_extra "hp"); (case h1 => exact rfl)))
local macro_rules | `(tactic| k_extra "rr") => `(tactic| repeat (k_extra "r"))
local macro_rules | `(tactic| k_extra "ri") => `(tactic| repeat ((fail_if_success (with_reducible refine Rg.ife ?_)); k_extra "r"))
local macro_rules | `(tactic| k_extra "rl") => `(tactic| repeat ((fail_if_success (with_reducible refine Rg.lst_ ?_)); k_extra "r"))

def top (i : Nat) : Stmt := PySem.Challenge.pw_rubgrove_k08_texts_that_are_no_documents.main.body.getD i (.Pass ⟨0, 0, 0, 0⟩)
abbrev s_is_sign : Stmt := top 9
abbrev s_spaced : Stmt := top 11
abbrev s_document_text : Stmt := top 12
abbrev s_read_kind : Stmt := top 13
abbrev s_read_quoted : Stmt := top 14
abbrev s_read_document : Stmt := top 15
abbrev s_law_bag : Stmt := top 17
abbrev s_law_take : Stmt := top 18
abbrev s_law_of : Stmt := top 19
abbrev s_law_words : Stmt := top 20
abbrev s_law_names : Stmt := top 21
abbrev s_law_sign_text : Stmt := top 22
abbrev s_law_nested : Stmt := top 23
abbrev s_law_document : Stmt := top 24
abbrev s_law_field : Stmt := top 25
abbrev s_law_why : Stmt := top 26
abbrev s_law_alike : Stmt := top 27
abbrev s_law_read_fault : Stmt := top 28
abbrev s_law : Stmt := top 29
theorem sc_is_sign : FnScope ["sign"] ["sign"] (defScope s_is_sign) := ⟨rfl, rfl, rfl, by decide +kernel, rfl, by decide +kernel, by decide +kernel⟩
theorem sc_spaced : FnScope ["row", "found", "node"] ["row"] (defScope s_spaced) := ⟨rfl, rfl, rfl, by decide +kernel, rfl, by decide +kernel, by decide +kernel⟩
theorem sc_document_text : FnScope ["document", "found", "left", "thing", "kind", "text", "inner"] ["document"] (defScope s_document_text) := ⟨rfl, rfl, rfl, by decide +kernel, rfl, by decide +kernel, by decide +kernel⟩
theorem sc_read_kind : FnScope ["text", "at", "end"] ["text", "at"] (defScope s_read_kind) := ⟨rfl, rfl, rfl, by decide +kernel, rfl, by decide +kernel, by decide +kernel⟩
theorem sc_read_quoted : FnScope ["text", "at", "end"] ["text", "at"] (defScope s_read_quoted) := ⟨rfl, rfl, rfl, by decide +kernel, rfl, by decide +kernel, by decide +kernel⟩
theorem sc_read_document : FnScope ["text", "rows", "heads", "at", "kind", "word", "inner"] ["text"] (defScope s_read_document) := ⟨rfl, rfl, rfl, by decide +kernel, rfl, by decide +kernel, by decide +kernel⟩
theorem sc_law_bag : FnScope ["_law_script", "_law_row", "_law_mark", "_law_cell"] ["_law_script"] (defScope s_law_bag) := ⟨rfl, rfl, rfl, by decide +kernel, rfl, by decide +kernel, by decide +kernel⟩
theorem sc_law_take : FnScope ["_law_bag_z", "_law_many", "_law_cell", "_law_mixed", "_law_found"] ["_law_bag_z", "_law_many"] (defScope s_law_take) := ⟨rfl, rfl, rfl, by decide +kernel, rfl, by decide +kernel, by decide +kernel⟩
theorem sc_law_of : FnScope ["_law_bag_z", "_law_things"] ["_law_bag_z", "_law_things"] (defScope s_law_of) := ⟨rfl, rfl, rfl, by decide +kernel, rfl, by decide +kernel, by decide +kernel⟩
theorem sc_law_words : FnScope ["_law_bag_z", "_law_many", "_law_most", "_law_letters", "_law_stem", "_law_at", "_law_start", "_law_found", "_law_fixed", "_law_k", "_law_word"] ["_law_bag_z", "_law_many", "_law_most"] (defScope s_law_words) := ⟨rfl, rfl, rfl, by decide +kernel, rfl, by decide +kernel, by decide +kernel⟩
theorem sc_law_names : FnScope ["_law_bag_z"] ["_law_bag_z"] (defScope s_law_names) := ⟨rfl, rfl, rfl, by decide +kernel, rfl, by decide +kernel, by decide +kernel⟩
theorem sc_law_sign_text : FnScope ["_law_bag_z", "_law_most", "_law_signs", "_law_k"] ["_law_bag_z", "_law_most"] (defScope s_law_sign_text) := ⟨rfl, rfl, rfl, by decide +kernel, rfl, by decide +kernel, by decide +kernel⟩
theorem sc_law_nested : FnScope ["_law_state", "_law_rows", "_law_opened", "_law_mark", "_law_inner"] ["_law_state"] (defScope s_law_nested) := ⟨rfl, rfl, rfl, by decide +kernel, rfl, by decide +kernel, by decide +kernel⟩
theorem sc_law_document : FnScope ["_law_bag_z", "_law_kinds", "_law_many", "_law_marks", "_law_opened", "_law_some", "_law_texts", "_law_k", "_law_step"] ["_law_bag_z", "_law_kinds", "_law_many"] (defScope s_law_document) := ⟨rfl, rfl, rfl, by decide +kernel, rfl, by decide +kernel, by decide +kernel⟩
theorem sc_law_field : FnScope ["_law_e"] ["_law_e"] (defScope s_law_field) := ⟨rfl, rfl, rfl, by decide +kernel, rfl, by decide +kernel, by decide +kernel⟩
theorem sc_law_why : FnScope ["_law_ask", "_law_e"] ["_law_ask"] (defScope s_law_why) := ⟨rfl, rfl, rfl, by decide +kernel, rfl, by decide +kernel, by decide +kernel⟩
theorem sc_law_alike : FnScope ["_law_found", "_law_due", "_law_key", "_law_one", "_law_two"] ["_law_found", "_law_due"] (defScope s_law_alike) := ⟨rfl, rfl, rfl, by decide +kernel, rfl, by decide +kernel, by decide +kernel⟩
theorem sc_law_read_fault : FnScope ["_law_text", "_law_at", "_law_depth", "_law_end"] ["_law_text"] (defScope s_law_read_fault) := ⟨rfl, rfl, rfl, by decide +kernel, rfl, by decide +kernel, by decide +kernel⟩
theorem sc_law : FnScope ["_law_script", "_law_bag_z", "_law_names_z", "_law_turn", "_law_text", "_law_bend", "_law_at", "_law_sign", "_law_fault", "_law_found", "_law_wrong", "_law_spot"] ["_law_script"] (defScope s_law) := ⟨rfl, rfl, rfl, by decide +kernel, rfl, by decide +kernel, by decide +kernel⟩
abbrev s_ParseError_init : Stmt := inClass (top 2) 0
theorem sc_ParseError_init : FnScope ["self", "at"] ["self", "at"] (defScope s_ParseError_init) := ⟨rfl, rfl, rfl, by decide +kernel, rfl, by decide +kernel, by decide +kernel⟩
/-- what the text's names are -/
structure Txt (mg : Str → Option Value) : Prop where
  len : mg "len" = none
  int : mg "int" = none
  range : mg "range" = none
  isinstance : mg "isinstance" = none
  all : mg "all" = none
  list : mg "list" = none
  tuple : mg "tuple" = none
  str : mg "str" = none
  sorted : mg "sorted" = none
  zip : mg "zip" = none
  min : mg "min" = none
  bool : mg "bool" = none
  dict : mg "dict" = none
  g_SMALL : ∃ u, mg "SMALL" = some u ∧ RelV (.str "abcdefghijklmnopqrstuvwxyz") u
  g_MOST_LETTERS : ∃ u, mg "MOST_LETTERS" = some u ∧ RelV (.int 6) u
  g_MOST_SIGNS : ∃ u, mg "MOST_SIGNS" = some u ∧ RelV (.int 20) u
/-! ### the bag -/
def BagAt (H : Hp) (p r : Addr) : Prop := ∃ (ns : List Int) (i c m : Int), H p = some (.lst [.ref r, .int i, .int c, .int m]) ∧ H r = some (.lst (ns.map V.int)) ∧ ns.length ≤ 63 ∧ 0 ≤ i ∧ 0 ≤ c ∧ 0 ≤ m ∧ m < 2147483629
theorem bag_ne {H : Hp} {p r : Addr} {ns : List Int} {i c m : V} (h : H p = some (.lst [.ref r, i, c, m])) (h' : H r = some (.lst (ns.map V.int))) : r ≠ p := by
  rintro rfl
  rw [h] at h'
  have e := Option.some.inj h'
  injection e with e
  cases ns with
  | nil => cases e
  | cons x l =>
    rw [List.map_cons] at e
    cases e
theorem BagAt.ne_none {H : Hp} {b r p : Addr} (h : BagAt H b r) (e : H p = none) : p ≠ b ∧ p ≠ r := by
  obtain ⟨ns, i, c, m, h1, h2, _⟩ := h
  exact ⟨(ne_of_none h1 e).symm, (ne_of_none h2 e).symm⟩
theorem BagAt.ex {H : Hp} {b r : Addr} (h : BagAt H b r) : ∃ o, H b = some o := by
  obtain ⟨ns, i, c, m, h1, h2, _⟩ := h
  exact ⟨_, h1⟩
theorem BagAt.same {H H' : Hp} {b r : Addr} (h : BagAt H b r) (s : Same H H') : BagAt H' b r := by
  obtain ⟨ns, i, c, m, h1, h2, h3⟩ := h
  exact ⟨ns, i, c, m, s _ _ h1, s _ _ h2, h3⟩
theorem BagAt.new {H : Hp} {b r p : Addr} {o : HO} (h : BagAt H b r) (n : H p = none) : BagAt (upd H p o) b r := h.same (same_upd n)
/-- what was not there when the bag stood there may change -/
theorem BagAt.mut {H H1 : Hp} {b r p : Addr} {o : HO} (h : BagAt H b r) (h1 : BagAt H1 b r) (n : H1 p = none) : BagAt (upd H p o) b r := by
  obtain ⟨n1, n2⟩ := h1.ne_none n
  obtain ⟨ns, i, c, m, h1, h2, h3⟩ := h
  exact ⟨ns, i, c, m, by rw [upd_ne n1.symm]; exact h1, by rw [upd_ne n2.symm]; exact h2, h3⟩
def spBag (K : PySem.W.Frag) : Sp := fun vs H Q _ => ∃ (a : Addr) (ns : List Int), vs = [.ref a] ∧ SqL K H a (ns.map V.int) ∧ ns.length ≤ 63 ∧
  ∀ (H' : Hp) (p r : Addr), Same H H' → H p = none → BagAt H' p r → Q (.ref p) H'
def spTake : Sp := fun vs H Q _ => ∃ (b r : Addr) (many : Int), vs = [.ref b, .int many] ∧ BagAt H b r ∧ 1 ≤ many ∧ many < 1073741824 ∧
  ∀ (k : Int) (H' : Hp), But b H H' → BagAt H' b r → 0 ≤ k → k < many → Q (.int k) H'
section
variable {P : Program} {w : World} {K : PySem.W.Frag} {mg : Str → Option Value} {base : Heap} {f : Addr} {fd : FuncData}
theorem ok_law_bag (F : Fun K "_law_bag" "_law_bag" s_law_bag f fd) (T : Txt mg) : FnOk P w K mg base CX0 1 f fd ["_law_script"] (spBag K) := by
  refine F.ok sc_law_bag (fun vs H Q E h => ?_) (fun cdv A outer s H vs Q E hr h => ?_)
  · obtain ⟨a, ns, rfl, _⟩ := h
    rfl
  · obtain ⟨a, ns, rfl, hS, hl, q⟩ := h
    refine ⟨_, (pss_cons (ps_set (i := 1) sc_law_bag.nd rfl (.inl rfl) (pe_callTy (cr_list K) (by rfl) T.list (by decide +kernel) (pa_cons (pe_slice (sl_X K) (pv 0) po_none (po_some pe_int)) pa_nil)))
      (pss_cons (ps_set (i := 2) sc_law_bag.nd rfl (.inl rfl) (pe_op (op_addX K) pe_int (pe_op op_mulX pe_int (pe_callB (call_lenX K) (by rfl) T.len PySem.boot_len (pa_cons (pv 1) pa_nil)))))
      (pss_cons (ps_for PassesOwn.never rfl (pi_listX K (pv 1)) (pg_name (i := 3) sc_law_bag.nd rfl (.inl rfl)) (pss_one (ps_set (i := 2) sc_law_bag.nd rfl (.inl rfl) (pe_op op_mod (pe_callTy cr_int (by rfl) T.int (by decide +kernel) (pa_cons (pe_op (op_addX K) (pe_op (op_addX K) (pe_op op_mulX (pv 2) pe_int) (pe_op op_mod (pe_callTy cr_int (by rfl) T.int (by decide +kernel) (pa_cons (pv 3) pa_nil)) pe_int)) pe_int) pa_nil)) pe_int))))
      (pss_one (ps_ret (pe_lst (pa_cons (pv 1) (pa_cons pe_int (pa_cons pe_int (pa_cons (pv 2) pa_nil)))))))))), ?_⟩
    change (_ : TS) _ [some (V.ref a), none, none, none] _
    k_extra "rr"
    refine slL hS fun l nl => ?_
    obtain ⟨ms, em, hm⟩ := cut_map ns none (some 63)
    rw [em]
    k_extra "rr"
    refine listL (SqL.of upd_same) fun r nr => ?_
    have nrl : l ≠ r := ne_of_none upd_same nr
    have nr0 : H r = none := un0 nr
    k_extra "rr"
    have hm63 : ms.length ≤ 63 := by omega
    have elen : ((ms.map V.int).length : Int) ≤ 63 := by rw [List.length_map]; omega
    have s2 : Same H (upd (upd H l (.lst (ms.map V.int))) r (.lst (ms.map V.int))) := (same_upd nl).trans (same_upd nr)
    refine for_list (K := K) (a := r) (xs := ms.map V.int) (fun i σ H' => ∃ (m : Int) (v : Option V), σ = [some (.ref a), some (.ref r), some (.int m), v] ∧ 0 ≤ m ∧ m < 2147483629 ∧ H' = upd (upd H l (.lst (ms.map V.int))) r (.lst (ms.map V.int)))
      ⟨_, none, rfl, by omega, by omega, rfl⟩ (fun i σ H' _ ⟨_, _, _, _, _, e⟩ => by rw [e]; exact SqL.of upd_same) ?_ ?_
    · rintro i y σ H' hi ⟨m, v, rfl, m0, m1, rfl⟩
      obtain ⟨u, hu, rfl⟩ := map_at hi
      k_extra "rr"
      have h1 := Int.emod_nonneg (m * 45161 + u % 2147483423 + 11) (show (2147483549 : Int) ≠ 0 by decide)
      have h2 := Int.emod_lt_of_pos (m * 45161 + u % 2147483423 + 11) (show (0 : Int) < 2147483549 by decide)
      exact ⟨_, _, rfl, h1, by omega, rfl⟩
    · rintro σ H' ⟨m, v, rfl, m0, m1, rfl⟩
      k_extra "rr"
      refine ⟨by k_extra "sz", fun p np => ?_⟩
      k_extra "rr"
      have nrp : r ≠ p := ne_of_none upd_same np
      refine q _ p r (s2.trans (same_upd np)) (s2.free np) ⟨ms, 0, 0, m, upd_same, upd2 nrp upd_same, hm63, by decide, by decide, m0, m1⟩
end

section
variable {P : Program} {w : World} {K : PySem.W.Frag} {mg : Str → Option Value} {base : Heap} {f : Addr} {fd : FuncData}
theorem ok_law_take (F : Fun K "_law_take" "_law_take" s_law_take f fd) (T : Txt mg) : FnOk P w K mg base CX0 1 f fd ["_law_bag_z", "_law_many"] spTake := by
  refine F.ok sc_law_take (fun vs H Q E h => ?_) (fun cdv A outer s H vs Q E hr h => ?_)
  · obtain ⟨b, r, many, rfl, _⟩ := h
    rfl
  · obtain ⟨b, r, many, rfl, ⟨ns, i, c, m, hb, hn, hl, i0, c0, m0, m1⟩, k1, k2, q⟩ := h
    refine ⟨_, (C8.pss_cut (ps_if (PW.pt (pw_and (pt_cmpR (op_eqX K hr) (pe_ix (ix_X K) (pv 0) pe_int (fun _ _ => rfl)) pe_int (nomark _)) (pw_and1 (pt_cmpR op_lt (pe_ix (ix_X K) (pv 0) pe_int (fun _ _ => rfl)) (pe_callB (call_lenX K) (by rfl) T.len PySem.boot_len (pa_cons (pe_ix (ix_X K) (pv 0) pe_int (fun _ _ => rfl)) pa_nil)) (nomark _))))) (pss_cons (ps_set (i := 2) sc_law_take.nd rfl (.inl rfl) (pe_ix (ix_X K) (pe_ix (ix_X K) (pv 0) pe_int (fun _ _ => rfl)) (pe_ix (ix_X K) (pv 0) pe_int (fun _ _ => rfl)) (fun _ _ => rfl)))
      (pss_cons (ps_asg (pe_op (op_addX K) (pe_ix (ix_X K) (pv 0) pe_int (fun _ _ => rfl)) pe_int) (pg_sub (pv 0) pe_int set_list))
      (pss_one (ps_if (pt_cmpR op_ge (pv 2) (pe_op op_pow pe_int pe_int) (nomark _)) (pss_one (ps_asg (pv 2) (pg_sub (pv 0) pe_int set_list))) (pss_cons (ps_set (i := 3) sc_law_take.nd rfl (.inl rfl) (pe_op (op_addX K) (pe_op op_mulX (pe_ix (ix_X K) (pv 0) pe_int (fun _ _ => rfl)) pe_int) (pe_op op_mod (pe_callTy cr_int (by rfl) T.int (by decide +kernel) (pa_cons (pv 2) pa_nil)) pe_int)))
      (pss_one (ps_asg (pe_op op_mod (pe_callTy cr_int (by rfl) T.int (by decide +kernel) (pa_cons (pe_op (op_addX K) (pv 3) (pe_ix (ix_X K) (pv 0) pe_int (fun _ _ => rfl))) pa_nil)) pe_int) (pg_sub (pv 0) pe_int set_list)))))))) pss_nil)
      (pss_cons (ps_if (pt_cmpR op_gt (pe_ix (ix_X K) (pv 0) pe_int (fun _ _ => rfl)) pe_int (nomark _)) (pss_cons (ps_set (i := 4) sc_law_take.nd rfl (.inl rfl) (pe_op op_mod (pe_callTy cr_int (by rfl) T.int (by decide +kernel) (pa_cons (pe_ix (ix_X K) (pv 0) pe_int (fun _ _ => rfl)) pa_nil)) (pv 1)))
      (pss_cons (ps_asg (pe_op op_fdivN (pe_ix (ix_X K) (pv 0) pe_int (fun _ _ => rfl)) (pv 1)) (pg_sub (pv 0) pe_int set_list))
      (pss_one (ps_ret (pv 4))))) pss_nil)
      (pss_cons (ps_asg (pe_op op_mod (pe_callTy cr_int (by rfl) T.int (by decide +kernel) (pa_cons (pe_op (op_addX K) (pe_op op_mulX (pe_ix (ix_X K) (pv 0) pe_int (fun _ _ => rfl)) pe_int) pe_int) pa_nil)) pe_int) (pg_sub (pv 0) pe_int set_list))
      (pss_one (ps_ret (pe_op op_mod (pe_callTy cr_int (by rfl) T.int (by decide +kernel) (pa_cons (pe_op op_fdivN (pe_op op_mod (pe_callTy cr_int (by rfl) T.int (by decide +kernel) (pa_cons (pe_op op_mulX (pe_ix (ix_X K) (pv 0) pe_int (fun _ _ => rfl)) (pe_ix (ix_X K) (pv 0) pe_int (fun _ _ => rfl))) pa_nil)) pe_int) pe_int) pa_nil)) (pv 1))))))), ?_⟩
    change (_ : TS) _ [some (V.ref b), some (.int many), none, none, none] _
    have nrb := bag_ne hb hn
    refine Rg.cut (fun σ H' => ∃ (i' c' m' : Int) (v2 v3 : Option V), σ = [some (V.ref b), some (.int many), v2, v3, none] ∧ H' b = some (.lst [.ref r, .int i', .int c', .int m']) ∧ But b H H' ∧ 0 ≤ i' ∧ 0 ≤ c' ∧ 0 ≤ m' ∧ m' < 2147483629) ?_ ?_
    · k_extra "rr"
      refine iteD (fun ec => ?_) (fun ec => ?_)
      · k_extra "rr"
        refine iteD (fun ei => ?_) (fun ei => ?_)
        · k_extra "rr"
          have hin : i.toNat < ns.length := by
            rw [List.length_map] at ei
            omega
          refine ixL (SqL.of hn) (v := .int ns[i.toNat]) ?_ ?_
          · exact at_of (j := i.toNat) (by omega) (by rw [List.getElem?_map, List.getElem?_eq_getElem hin]; rfl)
          k_extra "rr"
          refine iteD (fun eb => ?_) (fun eb => ?_)
          · k_extra "rr"
            refine ⟨i + 1, ns[i.toNat], m, some (.int ns[i.toNat]), none, rfl, upd_same, But.trans But.upd But.upd, by omega, ?_, m0, m1⟩
            have e18 : (0 : Int) ≤ 10 ^ Int.toNat 18 := by decide
            omega
          · k_extra "rr"
            have h1 := Int.emod_nonneg (m * 40087 + ns[i.toNat] % 1999999913 + (i + 1)) (show (2147483629 : Int) ≠ 0 by decide)
            have h2 := Int.emod_lt_of_pos (m * 40087 + ns[i.toNat] % 1999999913 + (i + 1)) (show (0 : Int) < 2147483629 by decide)
            exact ⟨i + 1, c, _, some (.int ns[i.toNat]), some (.int (m * 40087 + ns[i.toNat] % 1999999913)), rfl, upd_same, But.trans But.upd But.upd, by omega, c0, h1, h2⟩
        · k_extra "rr"
          exact ⟨i, c, m, none, none, rfl, hb, But.refl _ _, i0, c0, m0, m1⟩
      · k_extra "rr"
        exact ⟨i, c, m, none, none, rfl, hb, But.refl _ _, i0, c0, m0, m1⟩
    · rintro σ H' ⟨i', c', m', v2, v3, rfl, hb', bb, i0', c0', m0', m1'⟩
      have hn' : H' r = some (.lst (ns.map V.int)) := bb _ _ hn nrb
      k_extra "rr"
      refine iteD (fun ec => ?_) (fun ec => ?_)
      · k_extra "rr"
        refine q (c' % many) _ (bb.trans But.upd) ⟨ns, i', c'.fdiv many, m', upd_same, upd2 nrb hn', hl, i0', ?_, m0', m1'⟩ (Int.emod_nonneg _ (by omega)) (Int.emod_lt_of_pos _ (by omega))
        rw [Int.fdiv_eq_ediv_of_nonneg _ (by omega)]
        exact Int.ediv_nonneg c0' (by omega)
      · k_extra "rr"
        have h1 := Int.emod_nonneg (m' * 48271033 + 37) (show (2147483629 : Int) ≠ 0 by decide)
        have h2 := Int.emod_lt_of_pos (m' * 48271033 + 37) (show (0 : Int) < 2147483629 by decide)
        refine q _ _ (bb.trans But.upd) ⟨ns, i', c', _, upd_same, upd2 nrb hn', hl, i0', c0', h1, h2⟩ (Int.emod_nonneg _ (by omega)) (Int.emod_lt_of_pos _ (by omega))
end

/-! ### drawn things -/
def spOf (K : PySem.W.Frag) : Sp := fun vs H Q _ => ∃ (b r : Addr) (x : V), vs = [.ref b, x] ∧ BagAt H b r ∧
  ((∃ z : Str, x = .str z ∧ 0 < z.length ∧ z.length ≤ 1000 ∧ ∀ (c : Nat) (H' : Hp), c ∈ z.cps.toList → But b H H' → BagAt H' b r → Q (.str ⟨#[c]⟩) H') ∨
   (∃ (p : Addr) (xs : List V), x = .ref p ∧ p ≠ b ∧ SqL K H p xs ∧ 0 < xs.length ∧ xs.length ≤ 1000 ∧ ∀ (i : Nat) (v : V) (H' : Hp), xs[i]? = some v → But b H H' → BagAt H' b r → Q v H'))
theorem at_str {z : Str} {k : Int} (h0 : 0 ≤ k) (h1 : k < z.length) : ∃ c, atI z.cps.toList k = some c ∧ c ∈ z.cps.toList := by
  have hl : k.toNat < z.cps.toList.length := by
    have e : z.cps.toList.length = z.length := by simp [Str.length]
    omega
  refine ⟨z.cps.toList[k.toNat], ?_, List.getElem_mem hl⟩
  have e := atI_nat (xs := z.cps.toList) (j := k.toNat) (v := z.cps.toList[k.toNat]) (List.getElem?_eq_getElem hl)
  rw [show ((k.toNat : Nat) : Int) = k by omega] at e
  exact e
theorem at_lst {xs : List V} {k : Int} (h0 : 0 ≤ k) (h1 : k < xs.length) : ∃ v, atI xs k = some v ∧ xs[k.toNat]? = some v := by
  have hl : k.toNat < xs.length := by omega
  refine ⟨xs[k.toNat], ?_, List.getElem?_eq_getElem hl⟩
  have e := atI_nat (xs := xs) (j := k.toNat) (v := xs[k.toNat]) (List.getElem?_eq_getElem hl)
  rw [show ((k.toNat : Nat) : Int) = k by omega] at e
  exact e
section
variable {P : Program} {w : World} {K : PySem.W.Frag} {mg : Str → Option Value} {base : Heap} {f : Addr} {fd : FuncData}
theorem ok_law_of (F : Fun K "_law_of" "_law_of" s_law_of f fd) (T : Txt mg) (c_law_take : Cal P w K mg base 1 "_law_take" spTake) : FnOk P w K mg base CX0 2 f fd ["_law_bag_z", "_law_things"] (spOf K) := by
  refine F.ok sc_law_of (fun vs H Q E h => ?_) (fun cdv A outer s H vs Q E hr h => ?_)
  · obtain ⟨b, r, x, rfl, _⟩ := h
    rfl
  · obtain ⟨b, r, x, rfl, hb, h⟩ := h
    refine ⟨_, (pss_one (ps_ret (pe_ix (ix_X K) (pv 1) (pe_c c_law_take hr (by omega) (by rfl) (pa_cons (pv 0) (pa_cons (pe_callB (call_lenX K) (by rfl) T.len PySem.boot_len (pa_cons (pv 1) pa_nil)) pa_nil))) (fun _ _ => rfl)))), ?_⟩
    rcases h with ⟨z, rfl, z0, z1, q⟩ | ⟨p, xs, rfl, npb, hx, z0, z1, q⟩
    · change (_ : TS) _ [some (V.ref b), some (V.str z)] _
      k_extra "rr"
      refine ⟨b, r, _, rfl, hb, by omega, by omega, fun k H' bb hb' k0 k1 => ?_⟩
      obtain ⟨c, e1, e2⟩ := at_str k0 k1
      exact ixS (by k_extra "sz") e1 (q c H' e2 bb hb')
    · change (_ : TS) _ [some (V.ref b), some (V.ref p)] _
      k_extra "rr"
      refine ⟨b, r, _, rfl, hb, by omega, by omega, fun k H' bb hb' k0 k1 => ?_⟩
      obtain ⟨v, e1, e2⟩ := at_lst k0 k1
      exact ixL (SqL.but bb npb hx) e1 (q _ v H' e2 bb hb')
end
/-! a text of letters -/
def letters : List Nat := [97, 98, 99, 100, 101, 102, 103, 104, 105, 106, 107, 108, 109, 110, 111, 112, 113, 114, 115, 116, 117, 118, 119, 120, 121, 122]
theorem letters_eq : Str.ofString "abcdefghijklmnopqrstuvwxyz" = SX.S letters := by decide +kernel
def fixW (w : Str) : Str := if w = "if" then "iff" else if w = "is" then "iss" else if w = "end" then "en" else if w = "rest" then "res" else w
/-- the k-th of the words that differ at a place -/
def wordAt (st : List Nat) (at_ s0 k : Nat) : List Nat := st.take at_ ++ [letters.getD ((s0 + 5 * k) % 26) 0] ++ st.drop at_
theorem wordAt_len (st : List Nat) (at_ s0 k : Nat) : (wordAt st at_ s0 k).length ≤ st.length + 1 := by
  unfold wordAt
  rw [List.length_append, List.length_append, List.length_take, List.length_drop, List.length_singleton]
  omega
def fixed : List (Key × V) := [(.inr "if", .str "iff"), (.inr "is", .str "iss"), (.inr "end", .str "en"), (.inr "rest", .str "res")]
theorem fixed_merge : mergeK [] fixed = fixed := by decide +kernel
theorem fixed_get (w : Str) : (valV fixed (.inr w : Key)).getD (.str w) = .str (fixW w) := by
  unfold fixed fixW
  by_cases h1 : w = "if"
  · rw [if_pos h1, valV_pos (by rw [h1])]
    rfl
  rw [if_neg h1, valV_neg (fun z => h1 (Sum.inr.inj z).symm)]
  by_cases h2 : w = "is"
  · rw [if_pos h2, valV_pos (by rw [h2])]
    rfl
  rw [if_neg h2, valV_neg (fun z => h2 (Sum.inr.inj z).symm)]
  by_cases h3 : w = "end"
  · rw [if_pos h3, valV_pos (by rw [h3])]
    rfl
  rw [if_neg h3, valV_neg (fun z => h3 (Sum.inr.inj z).symm)]
  by_cases h4 : w = "rest"
  · rw [if_pos h4, valV_pos (by rw [h4])]
    rfl
  rw [if_neg h4, valV_neg (fun z => h4 (Sum.inr.inj z).symm), valV_nil]
  rfl
def Words (many most : Int) (ws : List Str) : Prop := ∃ (st : List Nat) (at_ s0 : Nat), (st.length : Int) < most ∧ (∀ c ∈ st, c ∈ letters) ∧ at_ ≤ st.length ∧ s0 < 26 ∧
  ws = (List.range many.toNat).map fun k => fixW (SX.S (wordAt st at_ s0 k))
def spWords : Sp := fun vs H Q _ => ∃ (b r : Addr) (many most : Int), vs = [.ref b, .int many, .int most] ∧ BagAt H b r ∧ 0 ≤ many ∧ many ≤ 100 ∧ 1 ≤ most ∧ most ≤ 100 ∧
  ∀ (ws : List Str) (p : Addr) (H' : Hp), Words many most ws → But b H H' → BagAt H' b r → H p = none → H' p = some (.lst (ws.map V.str)) → p ≠ b → Q (.ref p) H'
section
variable {P : Program} {w : World} {K : PySem.W.Frag} {mg : Str → Option Value} {base : Heap} {f : Addr} {fd : FuncData}
theorem ok_law_words (F : Fun K "_law_words" "_law_words" s_law_words f fd) (T : Txt mg) (c_law_take : Cal P w K mg base 1 "_law_take" spTake) (c_law_of : Cal P w K mg base 2 "_law_of" (spOf K)) : FnOk P w K mg base CX0 3 f fd ["_law_bag_z", "_law_many", "_law_most"] spWords := by
  refine F.ok sc_law_words (fun vs H Q E h => ?_) (fun cdv A outer s H vs Q E hr h => ?_)
  · obtain ⟨b, r, many, most, rfl, _⟩ := h
    rfl
  · obtain ⟨b, r, many, most, rfl, hb, k0, k1, l0, l1, q⟩ := h
    refine ⟨_, (pss_cons (ps_set (i := 3) sc_law_words.nd rfl (.inr rfl) pe_str)
      (pss_cons (ps_set (i := 4) sc_law_words.nd rfl (.inr rfl) (pe_joinX K pe_str (pe_lc (own := [("_law_k", 9)]) (g := gName 9) (tt := tYes) (by rfl) sc_law_words.nd (pi_range1 (by rfl) T.range (pa_cons (pe_c c_law_take hr (by omega) (by rfl) (pa_cons (pv 0) (pa_cons (pv 2) pa_nil))) pa_nil)) (blkOk_by (own := [("_law_k", 9)]) (N := ["_law_bag_z", "_law_many", "_law_most", "_law_letters", "_law_stem", "_law_at", "_law_start", "_law_found", "_law_fixed", "_law_k", "_law_word"]) (sc := defScope s_law_words) (by decide +kernel)) (fun _ _ _ _ _ => pg_name (i := 9) sc_law_words.nd rfl (Or.inl rfl)) (fun _ _ _ _ _ => pts_nil) (fun _ _ _ _ _ => (pe_c c_law_of hr (by omega) (by rfl) (pa_cons (pv 0) (pa_cons (pv 3) pa_nil)))))))
      (pss_cons (ps_asg (pe_tup (pa_cons (pe_c c_law_take hr (by omega) (by rfl) (pa_cons (pv 0) (pa_cons (pe_op (op_addX K) (pe_callB (call_lenX K) (by rfl) T.len PySem.boot_len (pa_cons (pv 4) pa_nil)) pe_int) pa_nil))) (pa_cons (pe_c c_law_take hr (by omega) (by rfl) (pa_cons (pv 0) (pa_cons pe_int pa_nil))) pa_nil))) (pg_tupX K (pg_tup (n := 2) (by rfl) (pgs_cons (pg_name (i := 5) sc_law_words.nd rfl (.inr rfl)) (pgs_cons (pg_name (i := 6) sc_law_words.nd rfl (.inr rfl)) pgs_nil)))))
      (pss_cons (ps_setLc (i := 7) (own := [("_law_k", 9)]) (g := gName 9) (tt := tYes) (by rfl) sc_law_words.nd rfl rfl (sw_true rfl rfl rfl (by decide +kernel)) (pi_range1 (by rfl) T.range (pa_cons (pv 1) pa_nil)) (blkOk_by (own := [("_law_k", 9)]) (N := ["_law_bag_z", "_law_many", "_law_most", "_law_letters", "_law_stem", "_law_at", "_law_start", "_law_found", "_law_fixed", "_law_k", "_law_word"]) (sc := defScope s_law_words) (by decide +kernel)) (fun _ _ _ _ _ => pg_name (i := 9) sc_law_words.nd rfl (Or.inl rfl)) (fun _ _ _ _ _ => pts_nil) (fun _ _ _ _ _ => (pe_op (op_addX K) (pe_op (op_addX K) (pe_slice (sl_X K) (pv 4) po_none (po_some (pv 5))) (pe_ix (ix_X K) (pv 3) (pe_op op_mod (pe_callTy cr_int (by rfl) T.int (by decide +kernel) (pa_cons (pe_op (op_addX K) (pv 6) (pe_op op_mulX pe_int (pv 9))) pa_nil)) pe_int) (fun _ _ => rfl))) (pe_slice (sl_X K) (pv 4) (po_some (pv 5)) po_none))))
      (pss_cons (ps_set (i := 8) sc_law_words.nd rfl (.inr rfl) (pe_disp (pps_cons pe_str pe_str (pps_cons pe_str pe_str (pps_cons pe_str pe_str (pps_cons pe_str pe_str pps_nil)))) (by rfl) (by rfl) (fun z => by cases z) (by decide)))
      (pss_one (ps_ret (pe_lc (own := [("_law_word", 10)]) (g := gName 10) (tt := tYes) (by rfl) sc_law_words.nd (pi_listX K (pv 7)) (blkOk_by (own := [("_law_word", 10)]) (N := ["_law_bag_z", "_law_many", "_law_most", "_law_letters", "_law_stem", "_law_at", "_law_start", "_law_found", "_law_fixed", "_law_k", "_law_word"]) (sc := defScope s_law_words) (by decide +kernel)) (fun _ _ _ _ _ => pg_name (i := 10) sc_law_words.nd rfl (Or.inl rfl)) (fun _ _ _ _ _ => pts_nil) (fun _ _ _ _ _ => (pe_dget2 (hu_of hr) (pv 8) (pv 10) (pv 10) ⟨rfl, rfl, rfl, rfl⟩)))))))))), ?_⟩
    change (_ : TS) _ [some (V.ref b), some (.int many), some (.int most), none, none, none, none, none, none, none, none] _
    k_extra "rr"
    refine ⟨b, r, _, rfl, hb, l0, by omega, fun n1 H1 bb1 hb1 n10 n11 => ?_⟩
    k_extra "rr"
    intro D nD
    refine lc_range (lo := 0) (n := n1.toNat) (fun i H' => ∃ cs : List Nat, cs.length = i ∧ (∀ c ∈ cs, c ∈ letters) ∧ H' D = some (.lst (cs.map fun c => V.str ⟨#[c]⟩)) ∧ But b H1 H' ∧ BagAt H' b r)
      ⟨[], rfl, (fun _ h => by cases h), upd_same, But.new nD, hb1.new nD⟩ ?_ ?_
    · rintro i H' hi ⟨cs, ec, hc, eD, bb, hb'⟩
      k_extra "rr"
      refine ⟨rfl, ?_⟩
      k_extra "rr"
      refine ⟨b, r, _, rfl, hb', .inl ⟨_, rfl, by decide +kernel, by decide +kernel, fun c H2 hc2 bb2 hb2 => ?_⟩⟩
      obtain ⟨nDb, nDr⟩ := hb1.ne_none nD
      refine ⟨_, bb2 _ _ eD nDb, by rw [List.length_map, sizeLine_eq]; omega, cs ++ [c], by rw [List.length_append, ec]; rfl, fun d hd => ?_, ?_, (bb.trans bb2).mutNew nD, hb2.mut hb1 nD⟩
      · rcases List.mem_append.mp hd with h | h
        · exact hc d h
        · rw [List.mem_singleton.mp h]
          rw [letters_eq] at hc2
          exact hc2
      · rw [upd_same, List.map_append]
        rfl
    · rintro H' ⟨cs, ec, hc, eD, bb, hb'⟩
      have eD' : H' D = some (.lst ((cs.map fun c => (⟨#[c]⟩ : Str)).map V.str)) := by
        rw [List.map_map]
        exact eD
      rw [empty_S]
      refine joinL (SqL.of eD') (by rw [len_sg, S_len0, Nat.mul_zero]; omega) ?_
      rw [join_sg]
      have hs : (SX.S cs).length ≤ sizeLine := by rw [SX.S_len, sizeLine_eq]; omega
      k_extra "rr"
      have hs2 : (((SX.S cs).length : Nat) : Int) = cs.length := by rw [SX.S_len]
      refine ⟨b, r, _, rfl, hb', by omega, by omega, fun n2 H2 bb2 hb2 n20 n21 => ?_⟩
      k_extra "rr"
      refine ⟨b, r, _, rfl, hb2, by omega, by omega, fun n3 H3 bb3 hb3 n30 n31 => ?_⟩
      k_extra "rr"
      refine ⟨by k_extra "sz", fun p np => ?_⟩
      k_extra "rr"
      have hbP := hb3.new (o := .tup [V.int n2, V.int n3]) np
      have bbP : But b H (upd H3 p (.tup [V.int n2, V.int n3])) := ((((bb1.trans bb).trans bb2).trans bb3).trans (But.new np))
      generalize upd H3 p (.tup [V.int n2, V.int n3]) = HP at hbP bbP
      intro L nL
      refine lc_range (lo := 0) (n := many.toNat) (fun i H' => H' = upd HP L (.lst ((List.range i).map fun k => V.str (SX.S (wordAt cs n2.toNat n3.toNat k))))) rfl ?_ ?_
      · rintro i H' hi rfl
        k_extra "rr"
        refine ⟨rfl, ?_⟩
        k_extra "rr"
        rw [cut_to cs n20]
        k_extra "rr"
        have hix : ((n3 + 5 * (0 + (i : Int))) % 26) = (((n3.toNat + 5 * i) % 26 : Nat) : Int) := by omega
        have hlt : (n3.toNat + 5 * i) % 26 < letters.length := Nat.mod_lt _ (by decide)
        refine ixS (k := letters.getD ((n3.toNat + 5 * i) % 26) 0) (by decide +kernel) ?_ ?_
        · rw [hix, letters_eq]
          refine atI_nat ?_
          show letters[(n3.toNat + 5 * i) % 26]? = some (letters.getD ((n3.toNat + 5 * i) % 26) 0)
          rw [List.getElem?_eq_getElem hlt, List.getD_eq_getElem?_getD, List.getElem?_eq_getElem hlt]
          rfl
        have h1 : (SX.S (cs.take n2.toNat)).length + (⟨#[letters.getD ((n3.toNat + 5 * i) % 26) 0]⟩ : Str).length ≤ sizeLine := by
          rw [SX.S_len, List.length_take, sizeLine_eq]
          show _ + 1 ≤ _
          omega
        refine addS h1 ?_
        rw [show (⟨#[letters.getD ((n3.toNat + 5 * i) % 26) 0]⟩ : Str) = SX.S [letters.getD ((n3.toNat + 5 * i) % 26) 0] from rfl, SX.S_cat]
        k_extra "rr"
        rw [cut_from cs n20]
        refine addS ?_ ?_
        · rw [SX.S_len, SX.S_len, List.length_append, List.length_take, List.length_drop, sizeLine_eq]
          show _ + 1 + _ ≤ _
          omega
        rw [SX.S_cat]
        refine ⟨_, upd_same, ?_, ?_⟩
        · rw [List.length_map, List.length_range, sizeLine_eq]
          omega
        · rw [upd_upd, List.range_succ, List.map_append]
          rfl
      · rintro H' rfl
        k_extra "rr"
        refine disp fun d nd => ?_
        k_extra "rr"
        refine ⟨upd_same, fixed, rfl, by decide, ?_⟩
        rw [upd_upd, fixed_merge]
        have nLd : L ≠ d := ne_of_none upd_same nd
        have nd0 := un0 nd
        have eL : (upd (upd HP L (.lst ((List.range many.toNat).map fun k => V.str (SX.S (wordAt cs n2.toNat n3.toNat k))))) d (.dK fixed)) L = some (.lst ((List.range many.toNat).map fun k => V.str (SX.S (wordAt cs n2.toNat n3.toNat k)))) := upd2 nLd upd_same
        have bbL : But b H (upd HP L (.lst ((List.range many.toNat).map fun k => V.str (SX.S (wordAt cs n2.toNat n3.toNat k))))) := bbP.trans (But.new nL)
        have hbL := hbP.new (o := .lst ((List.range many.toNat).map fun k => V.str (SX.S (wordAt cs n2.toNat n3.toNat k)))) nL
        have bbD := bbL.trans (But.new (o := .dK fixed) nd)
        have hbD := hbL.new (o := .dK fixed) nd
        have eD2 : (upd (upd HP L (.lst ((List.range many.toNat).map fun k => V.str (SX.S (wordAt cs n2.toNat n3.toNat k))))) d (.dK fixed)) d = some (.dK fixed) := upd_same
        generalize upd (upd HP L (.lst ((List.range many.toNat).map fun k => V.str (SX.S (wordAt cs n2.toNat n3.toNat k))))) d (.dK fixed) = HD at eL eD2 bbD hbD
        k_extra "rr"
        intro R nR
        have nLR : L ≠ R := ne_of_none eL nR
        have ndR : d ≠ R := ne_of_none eD2 nR
        refine lc_list (K := K) (a := L) (xs := (List.range many.toNat).map fun k => V.str (SX.S (wordAt cs n2.toNat n3.toNat k))) (fun i H' => H' = upd HD R (.lst ((List.range i).map fun k => V.str (fixW (SX.S (wordAt cs n2.toNat n3.toNat k)))))) rfl ?_ ?_ ?_
        · rintro i H' _ rfl
          exact SqL.of (upd2 nLR eL)
        · rintro i x H' hi rfl
          obtain ⟨u, hu, rfl⟩ := map_at hi
          obtain ⟨hlt, rfl⟩ := List.getElem?_eq_some_iff.mp hu
          rw [List.length_range] at hlt
          rw [List.getElem_range]
          k_extra "rr"
          refine ⟨rfl, ?_⟩
          k_extra "rr"
          refine ⟨d, rfl, .inl ⟨fixed, .inl (upd2 ndR eD2)⟩, ?_⟩
          k_extra "rr"
          refine ⟨_, DGet.k (k := .inr _) (upd2 ndR eD2), ?_⟩
          rw [fixed_get]
          refine ⟨_, upd_same, ?_, ?_⟩
          · rw [List.length_map, List.length_range, sizeLine_eq]
            omega
          · rw [upd_upd, List.range_succ, List.map_append]
            rfl
        · rintro H' rfl
          k_extra "rr"
          refine q ((List.range many.toNat).map fun k => fixW (SX.S (wordAt cs n2.toNat n3.toNat k))) R _ ⟨cs, n2.toNat, n3.toNat, by omega, hc, by omega, by omega, rfl⟩ (bbD.trans (But.new nR)) (hbD.new nR) (bbD.free hbD.ex nR) ?_ (hbD.ne_none nR).1
          rw [upd_same, List.length_map, List.length_range, List.map_map]
          rfl
end

theorem letters_get {i : Nat} (h : i < 26) : letters.getD i 0 ∈ letters := by
  rw [List.getD_eq_getElem?_getD, List.getElem?_eq_getElem (show i < letters.length from h)]
  exact List.getElem_mem h
theorem wordAt_ok {st : List Nat} {at_ s0 k : Nat} (h : ∀ c ∈ st, c ∈ letters) : (∀ c ∈ wordAt st at_ s0 k, c ∈ letters) ∧ 1 ≤ (wordAt st at_ s0 k).length ∧ (wordAt st at_ s0 k).length ≤ st.length + 1 := by
  refine ⟨fun c hc => ?_, ?_, wordAt_len st at_ s0 k⟩
  · unfold wordAt at hc
    rcases List.mem_append.mp hc with hc | hc
    · rcases List.mem_append.mp hc with hc | hc
      · exact h c (List.mem_of_mem_take hc)
      · rw [List.mem_singleton.mp hc]
        exact letters_get (Nat.mod_lt _ (by decide))
    · exact h c (List.mem_of_mem_drop hc)
  · unfold wordAt
    rw [List.length_append, List.length_append, List.length_singleton]
    omega
theorem fix_ok {l : List Nat} (h : ∀ c ∈ l, c ∈ letters) (h1 : 1 ≤ l.length) : ∃ m : List Nat, fixW (SX.S l) = SX.S m ∧ (∀ c ∈ m, c ∈ letters) ∧ 1 ≤ m.length ∧ (m.length ≤ l.length ∨ m.length = 3) := by
  unfold fixW
  by_cases h2 : SX.S l = "if"
  · rw [if_pos h2]
    exact ⟨[105, 102, 102], by decide +kernel, by decide, by decide, .inr rfl⟩
  rw [if_neg h2]
  by_cases h3 : SX.S l = "is"
  · rw [if_pos h3]
    exact ⟨[105, 115, 115], by decide +kernel, by decide, by decide, .inr rfl⟩
  rw [if_neg h3]
  by_cases h4 : SX.S l = "end"
  · rw [if_pos h4]
    have e : l = [101, 110, 100] := SX.S_inj (h4.trans (by decide +kernel))
    exact ⟨[101, 110], by decide +kernel, by decide, by decide, .inl (by rw [e]; decide)⟩
  rw [if_neg h4]
  by_cases h5 : SX.S l = "rest"
  · rw [if_pos h5]
    exact ⟨[114, 101, 115], by decide +kernel, by decide, by decide, .inr rfl⟩
  rw [if_neg h5]
  exact ⟨l, rfl, h, h1, .inl (Nat.le_refl _)⟩


/-! ### a text of signs -/
def signsL : List Nat := [32, 33, 35, 36, 38, 39, 40, 41, 42, 43, 44, 45, 46, 47, 58, 59, 60, 61, 62, 63, 64, 91, 93, 94, 95, 123, 124, 125, 126, 48, 49, 56, 57, 65, 77, 90, 97, 109, 122]
theorem signs_eq : Str.ofString " !#$&'()*+,-./:;<=>?\x40[]^_{|}~0189AMZamz" = SX.S signsL := by decide +kernel
def spSign : Sp := fun vs H Q _ => ∃ (b r : Addr) (most : Int), vs = [.ref b, .int most] ∧ BagAt H b r ∧ 0 ≤ most ∧ most ≤ 1000 ∧
  ∀ (l : List Nat) (H' : Hp), (l.length : Int) ≤ most → (∀ c ∈ l, c ∈ signsL) → But b H H' → BagAt H' b r → Q (.str (SX.S l)) H'
section
variable {P : Program} {w : World} {K : PySem.W.Frag} {mg : Str → Option Value} {base : Heap} {f : Addr} {fd : FuncData}
theorem ok_law_sign_text (F : Fun K "_law_sign_text" "_law_sign_text" s_law_sign_text f fd) (T : Txt mg) (c_law_take : Cal P w K mg base 1 "_law_take" spTake) : FnOk P w K mg base CX0 2 f fd ["_law_bag_z", "_law_most"] spSign := by
  refine F.ok sc_law_sign_text (fun vs H Q E h => ?_) (fun cdv A outer s H vs Q E hr h => ?_)
  · obtain ⟨b, r, most, rfl, _⟩ := h
    rfl
  · obtain ⟨b, r, most, rfl, hb, k0, k1, q⟩ := h
    refine ⟨_, (pss_cons (ps_set (i := 2) sc_law_sign_text.nd rfl (.inr rfl) pe_str)
      (pss_one (ps_ret (pe_joinX K pe_str (pe_lc (own := [("_law_k", 3)]) (g := gName 3) (tt := tYes) (by rfl) sc_law_sign_text.nd (pi_range1 (by rfl) T.range (pa_cons (pe_c c_law_take hr (by omega) (by rfl) (pa_cons (pv 0) (pa_cons (pe_op (op_addX K) (pv 1) pe_int) pa_nil))) pa_nil)) (blkOk_by (own := [("_law_k", 3)]) (N := ["_law_bag_z", "_law_most", "_law_signs", "_law_k"]) (sc := defScope s_law_sign_text) (by decide +kernel)) (fun _ _ _ _ _ => pg_name (i := 3) sc_law_sign_text.nd rfl (Or.inl rfl)) (fun _ _ _ _ _ => pts_nil) (fun _ _ _ _ _ => (pe_ix (ix_X K) (pv 2) (pe_c c_law_take hr (by omega) (by rfl) (pa_cons (pv 0) (pa_cons (pe_callB (call_lenX K) (by rfl) T.len PySem.boot_len (pa_cons (pv 2) pa_nil)) pa_nil))) (fun _ _ => rfl)))))))), ?_⟩
    change (_ : TS) _ [some (V.ref b), some (.int most), none, none] _
    k_extra "rr"
    refine ⟨b, r, _, rfl, hb, by omega, by omega, fun n1 H1 bb1 hb1 n10 n11 => ?_⟩
    k_extra "rr"
    intro D nD
    obtain ⟨nDb, nDr⟩ := hb1.ne_none nD
    refine lc_range (lo := 0) (n := n1.toNat) (fun i H' => ∃ cs : List Nat, cs.length = i ∧ (∀ c ∈ cs, c ∈ signsL) ∧ H' D = some (.lst (cs.map fun c => V.str ⟨#[c]⟩)) ∧ But b H1 H' ∧ BagAt H' b r)
      ⟨[], rfl, (fun _ h => by cases h), upd_same, But.new nD, hb1.new nD⟩ ?_ ?_
    · rintro i H' hi ⟨cs, ec, hc, eD, bb, hb'⟩
      k_extra "rr"
      refine ⟨rfl, ?_⟩
      k_extra "rr"
      have hsz : (Str.ofString " !#$&'()*+,-./:;<=>?\x40[]^_{|}~0189AMZamz").length = 39 := by decide +kernel
      refine ⟨b, r, _, rfl, hb', by rw [hsz]; decide, by rw [hsz]; decide, fun n2 H2 bb2 hb2 n20 n21 => ?_⟩
      obtain ⟨c, e1, e2⟩ := at_str (z := Str.ofString " !#$&'()*+,-./:;<=>?\x40[]^_{|}~0189AMZamz") n20 n21
      refine ixS (by rw [hsz, sizeLine_eq]; decide) e1 ?_
      refine ⟨_, bb2 _ _ eD nDb, by rw [List.length_map, sizeLine_eq]; omega, cs ++ [c], by rw [List.length_append, ec]; rfl, fun d hd => ?_, ?_, (bb.trans bb2).mutNew nD, hb2.mut hb1 nD⟩
      · rcases List.mem_append.mp hd with h | h
        · exact hc d h
        · rw [List.mem_singleton.mp h]
          rw [signs_eq] at e2
          exact e2
      · rw [upd_same, List.map_append]
        rfl
    · rintro H' ⟨cs, ec, hc, eD, bb, hb'⟩
      have eD' : H' D = some (.lst ((cs.map fun c => (⟨#[c]⟩ : Str)).map V.str)) := by
        rw [List.map_map]
        exact eD
      rw [empty_S]
      refine joinL (SqL.of eD') (by rw [len_sg, S_len0, Nat.mul_zero]; omega) ?_
      rw [join_sg]
      k_extra "rr"
      exact q cs H' (by omega) hc (bb1.trans bb) hb'
end

/-! ### equal and of the same kinds -/
def sca : V → Bool
  | .non => true
  | .bl _ => true
  | .int _ => true
  | .str _ => true
  | _ => false
/-- equal data of the same kinds, nested below n -/
def Alk (K : PySem.W.Frag) (H : Hp) : Nat → V → V → Prop
  | 0 => fun _ _ => False
  | n + 1 => fun x y => (x = y ∧ sca x = true) ∨ ∃ a b xs ys, x = .ref a ∧ y = .ref b ∧ ((SqL K H a xs ∧ SqL K H b ys) ∨ (SqT K H a xs ∧ SqT K H b ys)) ∧ xs.length = ys.length ∧ xs.length ≤ 100000 ∧
      ∀ (i : Nat) (x y : V), xs[i]? = some x → ys[i]? = some y → Alk K H n x y
theorem Alk.same {K : PySem.W.Frag} {H H' : Hp} (s : Same H H') : ∀ {n : Nat} {x y : V}, Alk K H n x y → Alk K H' n x y
  | 0, _, _, h => h
  | n + 1, x, y, h => by
    rcases h with h | ⟨a, b, xs, ys, rfl, rfl, h, hl, hz, k⟩
    · exact .inl h
    · refine .inr ⟨a, b, xs, ys, rfl, rfl, ?_, hl, hz, fun i x y h1 h2 => Alk.same s (k i x y h1 h2)⟩
      rcases h with ⟨h1, h2⟩ | ⟨h1, h2⟩
      · exact .inl ⟨s.seq h1, s.seq h2⟩
      · exact .inr ⟨Rg.Same.seqT s h1, Rg.Same.seqT s h2⟩
def spAlike (K : PySem.W.Frag) (n : Nat) : Sp := fun vs H Q _ => ∃ (x y : V), vs = [x, y] ∧ Alk K H n x y ∧ ∀ H', Same H H' → Q (.bl true) H'
section
variable {P : Program} {w : World} {K : PySem.W.Frag} {mg : Str → Option Value} {base : Heap} {f : Addr} {fd : FuncData}
theorem ok_law_alike0 (F : Fun K "_law_alike" "_law_alike" s_law_alike f fd) : FnOk P w K mg base CX0 1 f fd ["_law_found", "_law_due"] (spAlike K 0) := by
  refine F.ok sc_law_alike (fun vs H Q E h => ?_) (fun cdv A outer s H vs Q E hr h => ?_)
  · obtain ⟨x, y, rfl, _⟩ := h
    rfl
  · obtain ⟨x, y, rfl, h, _⟩ := h
    exact h.elim
theorem ok_law_alike1 (F : Fun K "_law_alike" "_law_alike" s_law_alike f fd) (T : Txt mg) {n : Nat} (c_law_alike : Cal P w K mg base (n + 1) "_law_alike" (spAlike K n)) : FnOk P w K mg base CX0 (n + 2) f fd ["_law_found", "_law_due"] (spAlike K (n + 1)) := by
  refine F.ok sc_law_alike (fun vs H Q E h => ?_) (fun cdv A outer s H vs Q E hr h => ?_)
  · obtain ⟨x, y, rfl, _⟩ := h
    rfl
  · obtain ⟨x, y, rfl, h, q⟩ := h
    refine ⟨_, (pss_cons (ps_if (PW.pt (pw_or (pt_cmpR op_isNn (pv 1) pe_non (nomark _)) (pw_or1 (pt_cmpR op_isNn (pv 0) pe_non (nomark _))))) (pss_one (ps_ret (pe_and (pe_cmpR op_isNn (pv 1) pe_non (nomark _)) (pe_one (pe_cmpR op_isNn (pv 0) pe_non (nomark _)))))) pss_nil)
      (pss_cons (ps_if (PW.pt (pw_or (pt_val (pe_callB (cr_isi K) (by rfl) T.isinstance (by decide +kernel) (pa_cons (pv 1) (pa_cons (pe_bltn (v := .ty "bool") (by rfl) T.bool (by decide +kernel) rfl) pa_nil)))) (pw_or1 (pt_val (pe_callB (cr_isi K) (by rfl) T.isinstance (by decide +kernel) (pa_cons (pv 0) (pa_cons (pe_bltn (v := .ty "bool") (by rfl) T.bool (by decide +kernel) rfl) pa_nil))))))) (pss_one (ps_ret (pe_and (pe_callB (cr_isi K) (by rfl) T.isinstance (by decide +kernel) (pa_cons (pv 1) (pa_cons (pe_bltn (v := .ty "bool") (by rfl) T.bool (by decide +kernel) rfl) pa_nil))) (pe_and (pe_callB (cr_isi K) (by rfl) T.isinstance (by decide +kernel) (pa_cons (pv 0) (pa_cons (pe_bltn (v := .ty "bool") (by rfl) T.bool (by decide +kernel) rfl) pa_nil))) (pe_one (pe_cmpR (op_eqX K hr) (pv 0) (pv 1) (nomark _))))))) pss_nil)
      (pss_cons (ps_if (pt_val (pe_callB (cr_isiT K) (by rfl) T.isinstance (by decide +kernel) (pa_cons (pv 1) (pa_cons (pe_tup (pa_cons (pe_bltn (v := .ty "int") (by rfl) T.int (by decide +kernel) rfl) (pa_cons (pe_bltn (v := .ty "str") (by rfl) T.str (by decide +kernel) rfl) pa_nil))) pa_nil)))) (pss_one (ps_ret (pe_and (pe_callB (cr_isiT K) (by rfl) T.isinstance (by decide +kernel) (pa_cons (pv 0) (pa_cons (pe_tup (pa_cons (pe_bltn (v := .ty "int") (by rfl) T.int (by decide +kernel) rfl) (pa_cons (pe_bltn (v := .ty "str") (by rfl) T.str (by decide +kernel) rfl) pa_nil))) pa_nil))) (pe_and (pe_cmpR (op_eqX K hr) (pe_callB (cr_isi K) (by rfl) T.isinstance (by decide +kernel) (pa_cons (pv 0) (pa_cons (pe_bltn (v := .ty "int") (by rfl) T.int (by decide +kernel) rfl) pa_nil))) (pe_callB (cr_isi K) (by rfl) T.isinstance (by decide +kernel) (pa_cons (pv 1) (pa_cons (pe_bltn (v := .ty "int") (by rfl) T.int (by decide +kernel) rfl) pa_nil))) (nomark _)) (pe_one (pe_cmpR (op_eqX K hr) (pv 0) (pv 1) (nomark _))))))) pss_nil)
      (pss_cons (ps_if (pt_val (pe_callB (cr_isi K) (by rfl) T.isinstance (by decide +kernel) (pa_cons (pv 1) (pa_cons (pe_bltn (v := .ty "dict") (by rfl) T.dict (by decide +kernel) rfl) pa_nil)))) pss_never pss_nil)
      (pss_cons (ps_if (PW.pt (pw_or (pt_cmpR (op_neX K hr) (pe_callB (cr_isi K) (by rfl) T.isinstance (by decide +kernel) (pa_cons (pv 1) (pa_cons (pe_bltn (v := .ty "tuple") (by rfl) T.tuple (by decide +kernel) rfl) pa_nil))) (pe_callB (cr_isi K) (by rfl) T.isinstance (by decide +kernel) (pa_cons (pv 0) (pa_cons (pe_bltn (v := .ty "tuple") (by rfl) T.tuple (by decide +kernel) rfl) pa_nil))) (nomark _)) (pw_or1 (pt_cmpR (op_neX K hr) (pe_callB (cr_isi K) (by rfl) T.isinstance (by decide +kernel) (pa_cons (pv 1) (pa_cons (pe_bltn (v := .ty "list") (by rfl) T.list (by decide +kernel) rfl) pa_nil))) (pe_callB (cr_isi K) (by rfl) T.isinstance (by decide +kernel) (pa_cons (pv 0) (pa_cons (pe_bltn (v := .ty "list") (by rfl) T.list (by decide +kernel) rfl) pa_nil))) (nomark _))))) (pss_one (ps_ret pe_bl)) pss_nil)
      (pss_one (ps_ret (pe_and (pe_cmpR (op_eqX K hr) (pe_callB (call_lenX K) (by rfl) T.len PySem.boot_len (pa_cons (pv 0) pa_nil)) (pe_callB (call_lenX K) (by rfl) T.len PySem.boot_len (pa_cons (pv 1) pa_nil)) (nomark _)) (pe_one (pe_callB (cr_allX K (by rfl)) (by rfl) T.all (by decide +kernel) (pa_cons (pe_lc (own := [("_law_one", 3), ("_law_two", 4)])  (tt := tYes) (by rfl) sc_law_alike.nd (pi_zipX K (RZ.pi_zipA (by rfl) T.zip (pa_cons (pv 0) (pa_cons (pv 1) pa_nil)))) (blkOk_by (own := [("_law_one", 3), ("_law_two", 4)]) (N := ["_law_found", "_law_due", "_law_key", "_law_one", "_law_two"]) (sc := defScope s_law_alike) (by decide +kernel)) (fun _ _ _ _ _ => pg_tupX K (pg_tup (n := 2) (by rfl) (pgs_cons (pg_name (i := 3) sc_law_alike.nd rfl (Or.inl rfl)) (pgs_cons (pg_name (i := 4) sc_law_alike.nd rfl (Or.inl rfl)) pgs_nil)))) (fun _ _ _ _ _ => pts_nil) (fun _ _ _ _ _ => (pe_c c_law_alike hr (by omega) (by rfl) (pa_cons (pv 3) (pa_cons (pv 4) pa_nil))))) pa_nil))))))))))), ?_⟩
    rcases h with ⟨rfl, hx⟩ | ⟨a, b, xs, ys, rfl, rfl, h, hl, hz, k⟩
    · cases x with
      | non =>
        change (_ : TS) _ [some V.non, some V.non, none, none, none] _
        k_extra "rr"
        exact q H (Same.refl H)
      | bl c =>
        change (_ : TS) _ [some (V.bl c), some (V.bl c), none, none, none] _
        k_extra "rr"
        rw [decide_eq_true rfl]
        exact q H (Same.refl H)
      | int i =>
        change (_ : TS) _ [some (V.int i), some (V.int i), none, none, none] _
        k_extra "rr"
        refine ⟨by k_extra "sz", fun t nt => ?_⟩
        k_extra "rr"
        refine isiT (b := true) upd_same (cls2 _ _) (.base (.int _)) (kitAny2 kB_int_int kB_int_str) ?_
        k_extra "rr"
        refine ⟨by k_extra "sz", fun t2 nt2 => ?_⟩
        k_extra "rr"
        refine isiT (b := true) upd_same (cls2 _ _) (.base (.int _)) (kitAny2 kB_int_int kB_int_str) ?_
        k_extra "rr"
        rw [decide_eq_true rfl]
        exact q _ ((same_upd nt).trans (same_upd nt2))
      | str z =>
        change (_ : TS) _ [some (V.str z), some (V.str z), none, none, none] _
        k_extra "rr"
        refine ⟨by k_extra "sz", fun t nt => ?_⟩
        k_extra "rr"
        refine isiT (b := true) upd_same (cls2 _ _) (.base (.str _)) (kitAny2 kB_str_int kB_str_str) ?_
        k_extra "rr"
        refine ⟨by k_extra "sz", fun t2 nt2 => ?_⟩
        k_extra "rr"
        refine isiT (b := true) upd_same (cls2 _ _) (.base (.str _)) (kitAny2 kB_str_int kB_str_str) ?_
        k_extra "rr"
        rw [decide_eq_true rfl]
        exact q _ ((same_upd nt).trans (same_upd nt2))
      | byt _ => cases hx
      | flt _ => cases hx
      | ref _ => cases hx
      | ty _ => cases hx
    · rcases h with ⟨h1, h2⟩ | ⟨h1, h2⟩
      · change (_ : TS) _ [some (V.ref a), some (V.ref b), none, none, none] _
        have t1 := tyx_L h1
        have t2 := tyx_L h2
        k_extra "rr"
        refine ⟨by k_extra "sz", fun t nt => ?_⟩
        have s1 : Same H (upd H t (.tup [V.ty "int", V.ty "str"])) := same_upd nt
        have h1' := Same.seq s1 h1
        have h2' := Same.seq s1 h2
        have t1' := tyx_L h1'
        have t2' := tyx_L h2'
        k_extra "rr"
        refine isiT (b := false) upd_same (cls2 _ _) t2' (kitAny2 kB_list_int kB_list_str) ?_
        generalize upd H t (.tup [V.ty "int", V.ty "str"]) = H1 at s1 h1' h2' t1' t2'
        k_extra "rr"
        rw [hl, decide_eq_true rfl]
        k_extra "rr"
        refine ⟨a, b, xs, ys, rfl, .inl ⟨h1', h2', fun D nD => ?_⟩⟩
        refine lc_it (walk_zip (K := K) (a := a) (b := b) (xs := xs) (ys := ys) (n := xs.length) (by rw [hl, Nat.min_self])) (fun i H' => H' D = some (.lst ((List.replicate i true).map V.bl)) ∧ Same H1 H')
          ⟨upd_same, same_upd nD⟩ (fun i H' _ p => ⟨Same.seq p.2 h1', Same.seq p.2 h2'⟩) ?_ ?_
        · rintro i x H2 H3 hi ⟨eD, s2⟩ ⟨T, x1, y1, rfl, nT, rfl, e1, e2⟩
          k_extra "rr"
          refine ⟨rfl, ?_⟩
          k_extra "rr"
          have s3 : Same H2 (upd H2 T (.tup [x1, y1])) := same_upd nT
          refine ⟨x1, y1, rfl, ((k i x1 y1 e1 e2).same (s1.trans s2)).same s3, fun H4 s4 => ?_⟩
          refine ⟨_, s4 _ _ (s3 _ _ eD), ?_, ?_, fun c o hc => ?_⟩
          · rw [List.length_map, List.length_replicate]
            rw [sizeLine_eq]
            omega
          · rw [upd_same, List.replicate_succ', List.map_append]
            rfl
          · rw [upd_ne (ne_of_none hc nD)]
            exact s4 _ _ (s3 _ _ (s2 _ _ hc))
        · rintro H2 ⟨eD, s2⟩
          k_extra "rr"
          refine all_ (SqL.of eD) ?_
          rw [show (List.replicate xs.length true).all id = true from List.all_eq_true.mpr fun z hz => List.eq_of_mem_replicate hz]
          exact q H2 (s1.trans s2)
      · change (_ : TS) _ [some (V.ref a), some (V.ref b), none, none, none] _
        have t1 := tyx_T h1
        have t2 := tyx_T h2
        k_extra "rr"
        refine ⟨by k_extra "sz", fun t nt => ?_⟩
        have s1 : Same H (upd H t (.tup [V.ty "int", V.ty "str"])) := same_upd nt
        have h1' := Rg.Same.seqT s1 h1
        have h2' := Rg.Same.seqT s1 h2
        have t1' := tyx_T h1'
        have t2' := tyx_T h2'
        k_extra "rr"
        refine isiT (b := false) upd_same (cls2 _ _) t2' (kitAny2 kB_tuple_int kB_tuple_str) ?_
        generalize upd H t (.tup [V.ty "int", V.ty "str"]) = H1 at s1 h1' h2' t1' t2'
        k_extra "rr"
        rw [hl, decide_eq_true rfl]
        k_extra "rr"
        refine ⟨a, b, xs, ys, rfl, .inr ⟨h1', h2', fun D nD => ?_⟩⟩
        refine lc_it (walk_zipT (K := K) (a := a) (b := b) (xs := xs) (ys := ys) (n := xs.length) (by rw [hl, Nat.min_self])) (fun i H' => H' D = some (.lst ((List.replicate i true).map V.bl)) ∧ Same H1 H')
          ⟨upd_same, same_upd nD⟩ (fun i H' _ p => ⟨Rg.Same.seqT p.2 h1', Rg.Same.seqT p.2 h2'⟩) ?_ ?_
        · rintro i x H2 H3 hi ⟨eD, s2⟩ ⟨T, x1, y1, rfl, nT, rfl, e1, e2⟩
          k_extra "rr"
          refine ⟨rfl, ?_⟩
          k_extra "rr"
          have s3 : Same H2 (upd H2 T (.tup [x1, y1])) := same_upd nT
          refine ⟨x1, y1, rfl, ((k i x1 y1 e1 e2).same (s1.trans s2)).same s3, fun H4 s4 => ?_⟩
          refine ⟨_, s4 _ _ (s3 _ _ eD), ?_, ?_, fun c o hc => ?_⟩
          · rw [List.length_map, List.length_replicate]
            rw [sizeLine_eq]
            omega
          · rw [upd_same, List.replicate_succ', List.map_append]
            rfl
          · rw [upd_ne (ne_of_none hc nD)]
            exact s4 _ _ (s3 _ _ (s2 _ _ hc))
        · rintro H2 ⟨eD, s2⟩
          k_extra "rr"
          refine all_ (SqL.of eD) ?_
          rw [show (List.replicate xs.length true).all id = true from List.all_eq_true.mpr fun z hz => List.eq_of_mem_replicate hz]
          exact q H2 (s1.trans s2)
end

/-! ### is_sign -/
def signB (c : Nat) : Bool := decide (32 ≤ c) && (decide (c ≤ 126) && !decide (c = 34))
def spIsSign : Sp := fun vs H Q _ => ∃ (c : Nat), vs = [.str ⟨#[c]⟩] ∧ Q (.bl (signB c)) H
section
variable {P : Program} {w : World} {K : PySem.W.Frag} {mg : Str → Option Value} {base : Heap} {f : Addr} {fd : FuncData}
theorem ok_is_sign (F : Fun K "is_sign" "is_sign" s_is_sign f fd) (T : Txt mg) : FnOk P w K mg base CX0 1 f fd ["sign"] spIsSign := by
  refine F.ok sc_is_sign (fun vs H Q E h => ?_) (fun cdv A outer s H vs Q E hr h => ?_)
  · obtain ⟨c, rfl, _⟩ := h
    rfl
  · obtain ⟨c, rfl, q⟩ := h
    refine ⟨_, (pss_one (ps_ret (pe_and (pe_chain op_leX op_leX pe_str (pv 0) pe_str) (pe_one (pe_cmpR (op_neX K hr) (pv 0) pe_str (nomark _)))))), ?_⟩
    change (_ : TS) _ [some (V.str ⟨#[c]⟩)] _
    have e1 : (!decide ((⟨#[c]⟩ : Str).cps.toList < (Str.ofString " ").cps.toList)) = decide (32 ≤ c) := by
      rw [show (Str.ofString " ").cps.toList = [32] by decide +kernel]
      show (!decide (([c] : List Nat) < [32])) = _
      rw [sgn_lt, ← decide_not]
      exact decide_eq_decide.mpr (by omega)
    have e2 : (!decide ((Str.ofString "~").cps.toList < (⟨#[c]⟩ : Str).cps.toList)) = decide (c ≤ 126) := by
      rw [show (Str.ofString "~").cps.toList = [126] by decide +kernel]
      show (!decide (([126] : List Nat) < [c])) = _
      rw [sgn_lt, ← decide_not]
      exact decide_eq_decide.mpr (by omega)
    have e3 : decide ((⟨#[c]⟩ : Str) = Str.ofString "\"") = decide (c = 34) := by
      rw [show Str.ofString "\"" = (⟨#[34]⟩ : Str) by decide +kernel]
      exact sg_eq c 34
    k_extra "rr"
    rw [e1]
    refine iteD (fun h1 => ?_) (fun h1 => ?_)
    · k_extra "rr"
      rw [e2]
      cases h2 : decide (c ≤ 126) with
      | false =>
        k_extra "rr"
        have e : signB c = false := by
          unfold signB
          rw [h2, Bool.false_and, Bool.and_false]
        rw [← e]
        exact q
      | true =>
        k_extra "rr"
        rw [e3]
        have e : signB c = !decide (c = 34) := by
          unfold signB
          rw [h2, decide_eq_true h1, Bool.true_and, Bool.true_and]
        rw [← e]
        exact q
    · k_extra "rr"
      have e : signB c = false := by
        unfold signB
        rw [decide_eq_false h1, Bool.false_and]
      rw [← e]
      exact q
end

/-! ### kinds and texts -/
def letters' : List Nat := letters
/-- a value that is a text, or is known to be none -/
def StrOr (K : PySem.W.Frag) (H : Hp) (x : V) : Prop := (∃ l : List Nat, x = .str (SX.S l) ∧ l.length ≤ 100000) ∨ ((∀ z, x ≠ .str z) ∧ ∃ T, TyX K H x (.type T) ∧ kitB T "str" = some false)
def wordB (x : V) (most : Int) : Bool := match x with
  | .str z => decide (1 ≤ (z.length : Int)) && (decide ((z.length : Int) ≤ most) && (z.cps.toList.map fun c => decide (c ∈ letters)).all id)
  | _ => false
def textB (x : V) : Bool := match x with
  | .str z => decide ((z.length : Int) ≤ 20) && (z.cps.toList.map signB).all id
  | _ => false
theorem wordB_no {x : V} (h : ∀ z, x ≠ .str z) (m : Int) : wordB x m = false := by
  cases x with
  | str z => exact absurd rfl (h z)
  | _ => rfl
theorem textB_no {x : V} (h : ∀ z, x ≠ .str z) : textB x = false := by
  cases x with
  | str z => exact absurd rfl (h z)
  | _ => rfl
def spWord (K : PySem.W.Frag) : Sp := fun vs H Q _ => ∃ (x : V) (most : Int), vs = [x, .int most] ∧ StrOr K H x ∧ ∀ H', Same H H' → Q (.bl (wordB x most)) H'
def spKind (K : PySem.W.Frag) : Sp := fun vs H Q _ => ∃ (x : V), vs = [x] ∧ StrOr K H x ∧ ∀ H', Same H H' → Q (.bl (wordB x 6)) H'
def spText (K : PySem.W.Frag) : Sp := fun vs H Q _ => ∃ (x : V), vs = [x] ∧ StrOr K H x ∧ ∀ H', Same H H' → Q (.bl (textB x)) H'
section
variable {P : Program} {w : World} {K : PySem.W.Frag} {mg : Str → Option Value} {base : Heap} {f : Addr} {fd : FuncData}
end

/-! ### documents -/
inductive Fo where
  | nil
  | cons (k t : List Nat) (i r : Fo)
namespace Fo
def size : Fo → Nat
  | nil => 0
  | cons _ _ i r => 1 + i.size + r.size
def depth : Fo → Nat
  | nil => 0
  | cons _ _ i r => max (i.depth + 1) r.depth
def len : Fo → Nat
  | nil => 0
  | cons _ _ _ r => r.len + 1
def All (p : List Nat → List Nat → Prop) : Fo → Prop
  | nil => True
  | cons k t i r => p k t ∧ All p i ∧ All p r
def snoc : Fo → List Nat → List Nat → Fo → Fo
  | nil, k, t, i => cons k t i nil
  | cons k' t' i' r, k, t, i => cons k' t' i' (snoc r k t i)
theorem size_snoc (k t : List Nat) (i : Fo) : ∀ f : Fo, (snoc f k t i).size = f.size + i.size + 1
  | nil => by
    show 1 + i.size + 0 = 0 + i.size + 1
    omega
  | cons k' t' i' r => by
    have := size_snoc k t i r
    show 1 + i'.size + (snoc r k t i).size = 1 + i'.size + r.size + i.size + 1
    omega
theorem all_snoc {p : List Nat → List Nat → Prop} {k t : List Nat} {i : Fo} (h : p k t) (hi : i.All p) : ∀ {f : Fo}, f.All p → (snoc f k t i).All p
  | nil, _ => ⟨h, hi, trivial⟩
  | cons _ _ _ _, ⟨h1, h2, h3⟩ => ⟨h1, h2, all_snoc h hi h3⟩
theorem All.imp {p q : List Nat → List Nat → Prop} (h : ∀ k t, p k t → q k t) : ∀ {f : Fo}, f.All p → f.All q
  | nil, _ => trivial
  | cons _ _ _ _, ⟨h1, h2, h3⟩ => ⟨h _ _ h1, All.imp h h2, All.imp h h3⟩
theorem depth_le : ∀ f : Fo, f.depth ≤ f.size
  | nil => Nat.le_refl 0
  | cons k t i r => by
    have h1 := depth_le i
    have h2 := depth_le r
    show max (i.depth + 1) r.depth ≤ 1 + i.size + r.size
    omega
theorem len_le : ∀ f : Fo, f.len ≤ f.size
  | nil => Nat.le_refl 0
  | cons k t i r => by
    have h2 := len_le r
    show r.len + 1 ≤ 1 + i.size + r.size
    omega
end Fo
/-- no tuple is lost -/
def TupLe (H H' : Hp) : Prop := ∀ c xs, H c = some (.tup xs) → H' c = some (.tup xs)
theorem TupLe.refl (H : Hp) : TupLe H H := fun _ _ h => h
theorem TupLe.trans {H H1 H2 : Hp} (a : TupLe H H1) (b : TupLe H1 H2) : TupLe H H2 := fun c xs h => b c xs (a c xs h)
theorem TupLe.same {H H' : Hp} (s : Same H H') : TupLe H H' := fun c xs h => s c _ h
theorem TupLe.but {b : Addr} {H H' : Hp} (s : But b H H') {l : List V} (h : H b = some (.lst l)) : TupLe H H' := fun c xs e => s c _ e fun z => by
  rw [z, h] at e
  cases e
theorem TupLe.new {H : Hp} {p : Addr} {o : HO} (h : H p = none) : TupLe H (upd H p o) := TupLe.same (same_upd h)
theorem TupLe.lst {H : Hp} {p : Addr} {l m : List V} (h : H p = some (.lst l)) : TupLe H (upd H p (.lst m)) := fun c xs e => by
  by_cases z : c = p
  · rw [z, h] at e
    cases e
  · rw [upd_ne z]
    exact e
def Items (H : Hp) : Fo → List V → Prop
  | .nil, xs => xs = []
  | .cons k t i r, xs => ∃ p q ys xs', xs = .ref p :: xs' ∧ H p = some (.tup [.str (SX.S k), .str (SX.S t), .ref q]) ∧ H q = some (.tup ys) ∧ Items H i ys ∧ Items H r xs'
def Doc (H : Hp) (f : Fo) (a : Addr) : Prop := ∃ xs, H a = some (.tup xs) ∧ Items H f xs
theorem Items.le {H H' : Hp} (s : TupLe H H') : ∀ {f : Fo} {xs : List V}, Items H f xs → Items H' f xs
  | .nil, _, h => h
  | .cons _ _ _ _, _, ⟨p, q, ys, xs', e, h1, h2, h3, h4⟩ => ⟨p, q, ys, xs', e, s _ _ h1, s _ _ h2, h3.le s, h4.le s⟩
theorem Doc.le {H H' : Hp} (s : TupLe H H') {f : Fo} {a : Addr} : Doc H f a → Doc H' f a := fun ⟨xs, h, i⟩ => ⟨xs, s _ _ h, i.le s⟩
theorem Items.len {H : Hp} : ∀ {f : Fo} {xs : List V}, Items H f xs → xs.length = f.len
  | .nil, _, h => by rw [show _ = _ from h]; rfl
  | .cons _ _ _ r, _, ⟨p, q, ys, xs', e, h1, h2, h3, h4⟩ => by
    rw [e, List.length_cons, h4.len]
    rfl
theorem Items.snoc {H : Hp} {k t : List Nat} {i : Fo} {p q : Addr} {ys : List V} (hp : H p = some (.tup [.str (SX.S k), .str (SX.S t), .ref q])) (hq : H q = some (.tup ys)) (hi : Items H i ys) :
    ∀ {f : Fo} {xs : List V}, Items H f xs → Items H (f.snoc k t i) (xs ++ [.ref p])
  | .nil, _, h => by
    rw [show _ = _ from h]
    exact ⟨p, q, ys, [], rfl, hp, hq, hi, rfl⟩
  | .cons _ _ _ _, _, ⟨p', q', ys', xs', e, h1, h2, h3, h4⟩ => ⟨p', q', ys', xs' ++ [.ref p], by rw [e]; rfl, h1, h2, h3, Items.snoc hp hq hi h4⟩
/-! as plain data -/
def fdata : Fo → List PyData
  | .nil => []
  | .cons k t i r => .tuple [.str (SX.S k), .str (SX.S t), .tuple (fdata i)] :: fdata r
theorem Items.dp {K : PySem.W.Frag} {H : Hp} : ∀ {f : Fo} {xs : List V}, Items H f xs → DpAll K H xs (fdata f)
  | .nil, _, h => by
    rw [show _ = _ from h]
    exact .nil
  | .cons _ _ _ _, _, ⟨p, q, ys, xs', e, h1, h2, h3, h4⟩ => by
    rw [e]
    exact .cons (.tup (SqT.of h1) (.cons (.str _) (.cons (.str _) (.cons (.tup (SqT.of h2) h3.dp) .nil)))) h4.dp
theorem Doc.dp {K : PySem.W.Frag} {H : Hp} {f : Fo} {a : Addr} : Doc H f a → Dp K H (.ref a) (.tuple (fdata f)) := fun ⟨xs, h, i⟩ => .tup (SqT.of h) i.dp
/-- two documents of one forest are alike, at twice the depth and one -/
theorem Items.alk {K : PySem.W.Frag} {H : Hp} : ∀ {f : Fo} {n : Nat} {xs ys : List V}, f.size ≤ 1000 → 2 * f.depth ≤ n → Items H f xs → Items H f ys → xs.length = ys.length ∧ xs.length ≤ 1000 ∧ ∀ (i : Nat) (x y : V), xs[i]? = some x → ys[i]? = some y → Alk K H n x y
  | .nil, n, _, _, _, _, h1, h2 => by
    rw [show _ = _ from h1, show _ = _ from h2]
    exact ⟨rfl, Nat.zero_le _, fun i x y h => by cases h⟩
  | .cons k t i r, n, _, _, hz, hn, h1, h2 => by
    have hl1 := h1.len
    have hl2 := h2.len
    have hl := Fo.len_le (.cons k t i r)
    obtain ⟨p, q, ys, xs', e, h1, h2', h3, h4⟩ := h1
    obtain ⟨p2, q2, ys2, xs2, e2, g1, g2, g3, g4⟩ := h2
    have hs : 1 + i.size + r.size ≤ 1000 := hz
    have hd : 2 * max (i.depth + 1) r.depth ≤ n := hn
    obtain ⟨a1, a2, a3⟩ := Items.alk (K := K) (n := n) (by omega) (by omega) h4 g4
    obtain ⟨m, rfl⟩ : ∃ m, n = m + 2 := ⟨n - 2, by omega⟩
    obtain ⟨b1, b2, b3⟩ := Items.alk (K := K) (n := m) (by omega) (by omega) h3 g3
    refine ⟨by rw [hl1, hl2], by rw [hl1]; omega, fun j x y hx hy => ?_⟩
    subst e e2
    cases j with
    | succ j => exact a3 j x y hx hy
    | zero =>
      cases hx
      cases hy
      refine .inr ⟨p, p2, _, _, rfl, rfl, .inr ⟨SqT.of h1, SqT.of g1⟩, rfl, (by show 3 ≤ 100000; decide), fun j x y hx hy => ?_⟩
      rcases j with _ | _ | _ | j
      · cases hx
        cases hy
        exact .inl ⟨rfl, rfl⟩
      · cases hx
        cases hy
        exact .inl ⟨rfl, rfl⟩
      · cases hx
        cases hy
        exact .inr ⟨q, q2, _, _, rfl, rfl, .inr ⟨SqT.of h2', SqT.of g2⟩, b1, by omega, b3⟩
      · cases hx
theorem Doc.alk {K : PySem.W.Frag} {H : Hp} {f : Fo} {a b : Addr} {n : Nat} (hz : f.size ≤ 1000) (hn : 2 * f.depth ≤ n) (h1 : Doc H f a) (h2 : Doc H f b) : Alk K H (n + 1) (.ref a) (.ref b) := by
  obtain ⟨xs, e1, i1⟩ := h1
  obtain ⟨ys, e2, i2⟩ := h2
  obtain ⟨l1, l2, k⟩ := Items.alk (K := K) hz hn i1 i2
  exact .inr ⟨a, b, xs, ys, rfl, rfl, .inr ⟨SqT.of e1, SqT.of e2⟩, l1, by omega, k⟩

/-! ### names -/
def restL : List Nat := [114, 101, 115, 116]
theorem rest_S : Str.ofString "rest" = SX.S restL := by decide +kernel
def GoodK (k : List Nat) : Prop := (∀ c ∈ k, c ∈ letters) ∧ 1 ≤ k.length ∧ k.length ≤ 6 ∧ k ≠ restL
theorem fix_rest (w : Str) : fixW w ≠ "rest" := by
  unfold fixW
  by_cases h2 : w = "if"
  · rw [if_pos h2]
    decide +kernel
  rw [if_neg h2]
  by_cases h3 : w = "is"
  · rw [if_pos h3]
    decide +kernel
  rw [if_neg h3]
  by_cases h4 : w = "end"
  · rw [if_pos h4]
    decide +kernel
  rw [if_neg h4]
  by_cases h5 : w = "rest"
  · rw [if_pos h5]
    decide +kernel
  rw [if_neg h5]
  exact h5
theorem words_good {many most : Int} {ws : List Str} (h0 : 0 ≤ many) (h : Words many most ws) (hm : most ≤ 5) : ∃ ks : List (List Nat), ws = ks.map SX.S ∧ (∀ k ∈ ks, GoodK k) ∧ (ks.length : Int) = many := by
  obtain ⟨st, at_, s0, h1, h2, h3, h4, rfl⟩ := h
  refine ⟨((List.range many.toNat).map fun k => fixW (SX.S (wordAt st at_ s0 k))).map fun z => z.cps.toList, ?_, fun k hk => ?_, ?_⟩
  · rw [List.map_map]
    have e : (SX.S ∘ fun z : Str => z.cps.toList) = id := funext fun z => (str_S z).symm
    rw [e, List.map_id]
  · rw [List.map_map] at hk
    obtain ⟨j, hj, rfl⟩ := List.mem_map.mp hk
    obtain ⟨w1, w2, w3⟩ := wordAt_ok (at_ := at_) (s0 := s0) (k := j) h2
    obtain ⟨m, em, m1, m2, m3⟩ := fix_ok w1 w2
    show GoodK (fixW (SX.S (wordAt st at_ s0 j))).cps.toList
    rw [em]
    have e : (SX.S m).cps.toList = m := by simp [SX.S]
    rw [e]
    refine ⟨m1, m2, by omega, fun z => fix_rest (SX.S (wordAt st at_ s0 j)) ?_⟩
    rw [em, z]
    exact rest_S.symm
  · rw [List.length_map, List.length_map, List.length_range]
    omega
theorem digit_len : ∀ k : Fin 10, (Str.ofString (toString ((k.val : Nat) : Int))).length ≤ 2 := by decide +kernel
theorem digit_len' {k : Int} (h0 : 0 ≤ k) (h1 : k < 10) : (Str.ofString (toString k)).length ≤ 2 := by
  have := digit_len ⟨k.toNat, by omega⟩
  have e : ((k.toNat : Nat) : Int) = k := by omega
  rw [show ((((⟨k.toNat, by omega⟩ : Fin 10).val : Nat) : Int)) = k from e] at this
  exact this
def kws (ks : List (List Nat)) : List V := ks.map fun k => V.str (SX.S k)
def spNames : Sp := fun vs H Q _ => ∃ (b r : Addr), vs = [.ref b] ∧ BagAt H b r ∧
  ∀ (p a1 a2 a3 : Addr) (k1 k2 : List (List Nat)) (n : Nat) (H' : Hp), But b H H' → BagAt H' b r → H' p = some (.lst [.ref a1, .ref a2, .ref a3]) → H' a1 = some (.lst (kws k1)) → H' a2 = some (.lst (kws k2)) →
    k1.length = 3 → k2.length = 3 → (∀ k ∈ k1, GoodK k) → (∀ k ∈ k2, GoodK k) → H p = none → H a1 = none → H a2 = none → Q (.ref p) H'
section
variable {P : Program} {w : World} {K : PySem.W.Frag} {mg : Str → Option Value} {base : Heap} {f : Addr} {fd : FuncData}
theorem ok_law_names (F : Fun K "_law_names" "_law_names" s_law_names f fd) (T : Txt mg) (c_law_take : Cal P w K mg base 1 "_law_take" spTake) (c_law_words : Cal P w K mg base 3 "_law_words" spWords) : FnOk P w K mg base CX0 4 f fd ["_law_bag_z"] spNames := by
  refine F.ok sc_law_names (fun vs H Q E h => ?_) (fun cdv A outer s H vs Q E hr h => ?_)
  · obtain ⟨b, r, rfl, _⟩ := h
    rfl
  · obtain ⟨b, r, rfl, hb, q⟩ := h
    refine ⟨_, (pss_one (ps_ret (pe_lst (pa_cons (pe_c c_law_words hr (by omega) (by rfl) (pa_cons (pv 0) (pa_cons pe_int (pa_cons pe_int pa_nil)))) (pa_cons (pe_c c_law_words hr (by omega) (by rfl) (pa_cons (pv 0) (pa_cons pe_int (pa_cons pe_int pa_nil)))) (pa_cons (pe_lst (pa_cons pe_str (pa_cons (pe_op (op_addX K) pe_str (pe_callTy call_str_int (by rfl) T.str (by decide +kernel) (pa_cons (pe_c c_law_take hr (by omega) (by rfl) (pa_cons (pv 0) (pa_cons pe_int pa_nil))) pa_nil))) pa_nil))) pa_nil)))))), ?_⟩
    change (_ : TS) _ [some (V.ref b)] _
    k_extra "rr"
    refine ⟨b, r, 3, 5, rfl, hb, by omega, by omega, by omega, by omega, fun ws1 a1 H1 hw1 bb1 hb1 n1 e1 nb1 => ?_⟩
    k_extra "rr"
    refine ⟨b, r, 3, 3, rfl, hb1, by omega, by omega, by omega, by omega, fun ws2 a2 H2 hw2 bb2 hb2 n2 e2 nb2 => ?_⟩
    k_extra "rr"
    refine ⟨b, r, 10, rfl, hb2, by omega, by omega, fun k H3 bb3 hb3 k0 k1 => ?_⟩
    k_extra "rr"
    have hd : (Str.ofString (toString k)).length ≤ 2 := digit_len' k0 k1
    refine ⟨k, rfl, (by have : k.natAbs < 2 ^ 10 := by omega
                        exact Nat.lt_of_le_of_lt (Nat.log2_le_self _) (by omega)), ?_⟩
    have z1 : (Str.ofString "t").length + (Str.ofString (toString k)).length ≤ sizeLine := by
      rw [sizeLine_eq, show (Str.ofString "t").length = 1 by decide +kernel]
      omega
    k_extra "rr"
    refine ⟨by k_extra "sz", fun a3 n3 => ?_⟩
    k_extra "rr"
    refine ⟨by k_extra "sz", fun p np => ?_⟩
    k_extra "rr"
    obtain ⟨k1, rfl, g1, l1⟩ := words_good (by omega) hw1 (by omega)
    obtain ⟨k2, rfl, g2, l2⟩ := words_good (by omega) hw2 (by omega)
    rw [List.map_map] at e1 e2
    have bb := ((bb1.trans bb2).trans bb3).trans (But.new (o := .lst [.str "", .str ("t" ++ Str.ofString (toString k))]) n3)
    exact q p a1 a2 a3 k1 k2 0 _ (bb.trans (But.new np)) ((hb3.new n3).new np) upd_same (same_upd np _ _ (same_upd n3 _ _ (bb3 _ _ (bb2 _ _ e1 nb1) nb1))) (same_upd np _ _ (same_upd n3 _ _ (bb3 _ _ e2 nb2))) (by omega) (by omega) g1 g2 (bb.free (hb3.new n3).ex np) n1 (bb1.free hb1.ex n2)
end

/-! ### data of any depth, apart from the list at b -/
mutual
def Dq (b : Addr) (H : Hp) : PyData → V → Prop
  | .none, v => v = .non
  | .bool c, v => v = .bl c
  | .int i, v => v = .int i
  | .str z, v => v = .str z
  | .list ds, v => ∃ a l, v = .ref a ∧ a ≠ b ∧ H a = some (.lst l) ∧ DqA b H ds l
  | .tuple ds, v => ∃ a l, v = .ref a ∧ H a = some (.tup l) ∧ DqA b H ds l
  | .dict _, _ => False
def DqA (b : Addr) (H : Hp) : List PyData → List V → Prop
  | [], l => l = []
  | d :: r, l => ∃ v m, l = v :: m ∧ Dq b H d v ∧ DqA b H r m
end
/-- tuples stay, and lists other than b's -/
structure Le (b : Addr) (H H' : Hp) : Prop where
  tup : ∀ c xs, H c = some (.tup xs) → H' c = some (.tup xs)
  lst : ∀ c l, c ≠ b → H c = some (.lst l) → H' c = some (.lst l)
theorem Le.refl (b : Addr) (H : Hp) : Le b H H := ⟨fun _ _ h => h, fun _ _ _ h => h⟩
theorem Le.trans {b : Addr} {H H1 H2 : Hp} (s : Le b H H1) (t : Le b H1 H2) : Le b H H2 := ⟨fun c xs h => t.tup c xs (s.tup c xs h), fun c l n h => t.lst c l n (s.lst c l n h)⟩
theorem Le.same {b : Addr} {H H' : Hp} (s : Same H H') : Le b H H' := ⟨fun c xs h => s c _ h, fun c l _ h => s c _ h⟩
theorem Le.but {b : Addr} {H H' : Hp} (s : But b H H') {l : List V} (h : H b = some (.lst l)) : Le b H H' := ⟨fun c xs e => s c _ e fun z => (by
  rw [z, h] at e
  cases e), fun c l n h => s c _ h n⟩
theorem Le.new {b : Addr} {H : Hp} {p : Addr} {o : HO} (h : H p = none) : Le b H (upd H p o) := Le.same (same_upd h)
theorem Le.ext {b : Addr} {H H' : Hp} (s : LamX.ExtN H H') : Le b H H' := ⟨fun c xs h => s c _ h (fun ps z => by cases z), fun c l _ h => s c _ h (fun ps z => by cases z)⟩
mutual
theorem Dq.le {b : Addr} {H H' : Hp} (s : Le b H H') : ∀ {d : PyData} {v : V}, Dq b H d v → Dq b H' d v
  | .none, _, h => by simpa only [Dq] using h
  | .bool _, _, h => by simpa only [Dq] using h
  | .int _, _, h => by simpa only [Dq] using h
  | .str _, _, h => by simpa only [Dq] using h
  | .list ds, _, h => by
    simp only [Dq] at h ⊢
    obtain ⟨a, l, e, n, h1, h2⟩ := h
    exact ⟨a, l, e, n, s.lst a l n h1, DqA.le s h2⟩
  | .tuple ds, _, h => by
    simp only [Dq] at h ⊢
    obtain ⟨a, l, e, h1, h2⟩ := h
    exact ⟨a, l, e, s.tup a l h1, DqA.le s h2⟩
  | .dict _, _, h => by simp only [Dq] at h
theorem DqA.le {b : Addr} {H H' : Hp} (s : Le b H H') : ∀ {ds : List PyData} {l : List V}, DqA b H ds l → DqA b H' ds l
  | [], _, h => by simpa only [DqA] using h
  | d :: r, _, h => by
    simp only [DqA] at h ⊢
    obtain ⟨v, m, e, h1, h2⟩ := h
    exact ⟨v, m, e, Dq.le s h1, DqA.le s h2⟩
end
theorem DqA.len {b : Addr} {H : Hp} : ∀ {ds : List PyData} {l : List V}, DqA b H ds l → l.length = ds.length
  | [], _, h => by
    simp only [DqA] at h
    rw [h]
    rfl
  | d :: r, _, h => by
    simp only [DqA] at h
    obtain ⟨v, m, rfl, h1, h2⟩ := h
    rw [List.length_cons, List.length_cons, h2.len]
theorem DqA.nil {b : Addr} {H : Hp} : DqA b H [] [] := by simp only [DqA]
theorem DqA.cons {b : Addr} {H : Hp} {d : PyData} {ds : List PyData} {v : V} {l : List V} (h : Dq b H d v) (k : DqA b H ds l) : DqA b H (d :: ds) (v :: l) := by
  simp only [DqA]
  exact ⟨v, l, rfl, h, k⟩
theorem DqA.inv {b : Addr} {H : Hp} {d : PyData} {ds : List PyData} {l : List V} (h : DqA b H (d :: ds) l) : ∃ v m, l = v :: m ∧ Dq b H d v ∧ DqA b H ds m := by
  simpa only [DqA] using h
theorem DqA.inv0 {b : Addr} {H : Hp} {l : List V} (h : DqA b H [] l) : l = [] := by
  simpa only [DqA] using h
theorem DqA.app {b : Addr} {H : Hp} : ∀ {ds es : List PyData} {l m : List V}, DqA b H ds l → DqA b H es m → DqA b H (ds ++ es) (l ++ m)
  | [], _, _, _, h, k => by
    rw [h.inv0]
    exact k
  | d :: r, _, _, _, h, k => by
    obtain ⟨v, m, rfl, h1, h2⟩ := h.inv
    exact .cons h1 (h2.app k)
theorem DqA.get {b : Addr} {H : Hp} : ∀ {ds : List PyData} {l : List V} {i : Nat} {v : V}, DqA b H ds l → l[i]? = some v → ∃ d, ds[i]? = some d ∧ Dq b H d v
  | [], _, i, v, h, e => by
    rw [h.inv0] at e
    cases e
  | d :: r, _, 0, v, h, e => by
    obtain ⟨v, m, rfl, h1, h2⟩ := h.inv
    cases e
    exact ⟨d, rfl, h1⟩
  | d :: r, _, i + 1, v, h, e => by
    obtain ⟨v, m, rfl, h1, h2⟩ := h.inv
    exact h2.get (i := i) e
theorem DqA.at {b : Addr} {H : Hp} : ∀ {ds : List PyData} {l : List V} {i : Nat} {d : PyData}, DqA b H ds l → ds[i]? = some d → ∃ v, l[i]? = some v ∧ Dq b H d v
  | [], _, i, v, h, e => by cases e
  | d :: r, _, 0, v, h, e => by
    obtain ⟨v, m, rfl, h1, h2⟩ := h.inv
    cases e
    exact ⟨v, rfl, h1⟩
  | d :: r, _, i + 1, v, h, e => by
    obtain ⟨v, m, rfl, h1, h2⟩ := h.inv
    exact h2.at (i := i) e
theorem DqA.take {b : Addr} {H : Hp} : ∀ {ds : List PyData} {l : List V} (i : Nat), DqA b H ds l → DqA b H (ds.take i) (l.take i)
  | _, _, 0, h => .nil
  | [], _, i + 1, h => by
    rw [h.inv0]
    exact .nil
  | d :: r, _, i + 1, h => by
    obtain ⟨v, m, rfl, h1, h2⟩ := h.inv
    exact .cons h1 (h2.take i)
theorem DqA.drop {b : Addr} {H : Hp} : ∀ {ds : List PyData} {l : List V} (i : Nat), DqA b H ds l → DqA b H (ds.drop i) (l.drop i)
  | _, _, 0, h => h
  | [], _, i + 1, h => by
    rw [h.inv0]
    exact .nil
  | d :: r, _, i + 1, h => by
    obtain ⟨v, m, rfl, h1, h2⟩ := h.inv
    exact h2.drop i
theorem DqA.rev {b : Addr} {H : Hp} : ∀ {ds : List PyData} {l : List V}, DqA b H ds l → DqA b H ds.reverse l.reverse
  | [], _, h => by
    rw [h.inv0]
    exact .nil
  | d :: r, _, h => by
    obtain ⟨v, m, rfl, h1, h2⟩ := h.inv
    rw [List.reverse_cons, List.reverse_cons]
    exact h2.rev.app (.cons h1 .nil)
/-! as plain data; kinds; equal and alike -/
mutual
theorem Dq.dp {K : PySem.W.Frag} {b : Addr} {H : Hp} : ∀ {d : PyData} {v : V}, Dq b H d v → Dp K H v d
  | .none, _, h => by
    simp only [Dq] at h
    exact h ▸ .non
  | .bool _, _, h => by
    simp only [Dq] at h
    exact h ▸ .bl _
  | .int _, _, h => by
    simp only [Dq] at h
    exact h ▸ .int _
  | .str _, _, h => by
    simp only [Dq] at h
    exact h ▸ .str _
  | .list ds, _, h => by
    simp only [Dq] at h
    obtain ⟨a, l, rfl, n, h1, h2⟩ := h
    exact .lst (SqL.of h1) (DqA.dp h2)
  | .tuple ds, _, h => by
    simp only [Dq] at h
    obtain ⟨a, l, rfl, h1, h2⟩ := h
    exact .tup (SqT.of h1) (DqA.dp h2)
  | .dict _, _, h => by simp only [Dq] at h
theorem DqA.dp {K : PySem.W.Frag} {b : Addr} {H : Hp} : ∀ {ds : List PyData} {l : List V}, DqA b H ds l → DpAll K H l ds
  | [], _, h => by
    rw [h.inv0]
    exact .nil
  | d :: r, _, h => by
    obtain ⟨v, m, rfl, h1, h2⟩ := h.inv
    exact .cons (Dq.dp h1) (DqA.dp h2)
end
def tyN : PyData → String
  | .none => "NoneType"
  | .bool _ => "bool"
  | .int _ => "int"
  | .str _ => "str"
  | .list _ => "list"
  | .tuple _ => "tuple"
  | .dict _ => "dict"
theorem Dq.ty {K : PySem.W.Frag} {b : Addr} {H : Hp} : ∀ {d : PyData} {v : V}, Dq b H d v → TyX K H v (.type (tyN d))
  | .none, _, h => by
    simp only [Dq] at h
    exact h ▸ .base .non
  | .bool _, _, h => by
    simp only [Dq] at h
    exact h ▸ .base (.bl _)
  | .int _, _, h => by
    simp only [Dq] at h
    exact h ▸ .base (.int _)
  | .str _, _, h => by
    simp only [Dq] at h
    exact h ▸ .base (.str _)
  | .list ds, _, h => by
    simp only [Dq] at h
    obtain ⟨a, l, rfl, n, h1, h2⟩ := h
    exact .base (.lst h1)
  | .tuple ds, _, h => by
    simp only [Dq] at h
    obtain ⟨a, l, rfl, h1, h2⟩ := h
    exact .base (.tup h1)
  | .dict _, _, h => by simp only [Dq] at h
def isT : PyData → Bool
  | .tuple _ => true
  | _ => false
def isS : PyData → Bool
  | .str _ => true
  | _ => false
theorem kit_isT : ∀ d : PyData, kitB (tyN d) "tuple" = some (isT d)
  | .none => kB_NoneType_tuple
  | .bool _ => kB_bool_tuple
  | .int _ => kB_int_tuple
  | .str _ => kB_str_tuple
  | .list _ => kB_list_tuple
  | .tuple _ => kB_tuple_tuple
  | .dict _ => kB_dict_tuple
theorem kit_isS : ∀ d : PyData, kitB (tyN d) "str" = some (isS d)
  | .none => kB_NoneType_str
  | .bool _ => kB_bool_str
  | .int _ => kB_int_str
  | .str _ => kB_str_str
  | .list _ => kB_list_str
  | .tuple _ => kB_tuple_str
  | .dict _ => kB_dict_str
/-- the value, for one that is a text -/
def vOf : PyData → V
  | .str z => .str z
  | _ => .non
theorem Dq.tup {b : Addr} {H : Hp} {ds : List PyData} {v : V} (h : Dq b H (.tuple ds) v) : ∃ a l, v = .ref a ∧ H a = some (.tup l) ∧ DqA b H ds l := by simpa only [Dq] using h
theorem Dq.tup_mk {b : Addr} {H : Hp} {ds : List PyData} {a : Addr} {l : List V} (h : H a = some (.tup l)) (k : DqA b H ds l) : Dq b H (.tuple ds) (.ref a) := by
  simp only [Dq]
  exact ⟨a, l, rfl, h, k⟩
theorem Dq.lst_mk {b : Addr} {H : Hp} {ds : List PyData} {a : Addr} {l : List V} (n : a ≠ b) (h : H a = some (.lst l)) (k : DqA b H ds l) : Dq b H (.list ds) (.ref a) := by
  simp only [Dq]
  exact ⟨a, l, rfl, n, h, k⟩
theorem Dq.str_mk {b : Addr} {H : Hp} (z : Str) : Dq b H (.str z) (.str z) := by simp only [Dq]
theorem Dq.int_mk {b : Addr} {H : Hp} (i : Int) : Dq b H (.int i) (.int i) := by simp only [Dq]
theorem Dq.non_mk {b : Addr} {H : Hp} : Dq b H .none .non := by simp only [Dq]
theorem Dq.bl_mk {b : Addr} {H : Hp} (c : Bool) : Dq b H (.bool c) (.bl c) := by simp only [Dq]
/-! good data: texts of signs as documents have them, and line feeds -/
def OkC (c : Nat) : Prop := (32 ≤ c ∧ c ≤ 126) ∨ c = 10
instance : DecidablePred OkC := fun c => inferInstanceAs (Decidable ((32 ≤ c ∧ c ≤ 126) ∨ c = 10))
def gS (z : Str) : Bool := decide (z.length ≤ 1000) && z.cps.toList.all fun c => decide (OkC c)
mutual
def gD : PyData → Bool
  | .none => true
  | .bool _ => true
  | .int _ => true
  | .str z => gS z
  | .list ds => gA ds
  | .tuple ds => gA ds
  | .dict _ => false
def gA : List PyData → Bool
  | [] => true
  | d :: r => gD d && gA r
end
theorem gA_mem : ∀ {ds : List PyData} {d : PyData}, gA ds = true → d ∈ ds → gD d = true
  | x :: r, d, h, m => by
    simp only [gA, Bool.and_eq_true] at h
    rcases List.mem_cons.mp m with rfl | m
    · exact h.1
    · exact gA_mem h.2 m
theorem gA_app : ∀ {ds es : List PyData}, gA (ds ++ es) = (gA ds && gA es)
  | [], _ => by simp only [gA, List.nil_append, Bool.true_and]
  | x :: r, es => by
    simp only [gA, List.cons_append, gA_app (ds := r), Bool.and_assoc]
theorem gA_of {ds : List PyData} (h : ∀ d ∈ ds, gD d = true) : gA ds = true := by
  induction ds with
  | nil => simp only [gA]
  | cons x r ih =>
    simp only [gA, Bool.and_eq_true]
    exact ⟨h x List.mem_cons_self, ih fun d m => h d (List.mem_cons_of_mem _ m)⟩
theorem gS_ok {z : Str} (h : gS z = true) : (z.length ≤ 1000) ∧ ∀ c ∈ z.cps.toList, OkC c := by
  unfold gS at h
  simp only [Bool.and_eq_true, decide_eq_true_eq, List.all_eq_true] at h
  exact h
theorem strOk_gS {z : Str} (h : gS z = true) : PyData.strOk z = true := by
  obtain ⟨_, h⟩ := gS_ok h
  unfold PyData.strOk
  rw [← Array.all_toList]
  refine List.all_eq_true.mpr fun c hc => ?_
  have := h c hc
  unfold OkC at this
  exact decide_eq_true (by omega)
mutual
theorem lay_gD : ∀ {d : PyData}, gD d = true → PyData.canLay0 d = true
  | .none, _ => by simp only [PyData.canLay0]
  | .bool _, _ => by simp only [PyData.canLay0]
  | .int _, _ => by simp only [PyData.canLay0]
  | .str z, h => by
    simp only [gD] at h
    simp only [PyData.canLay0]
    exact strOk_gS h
  | .list ds, h => by
    simp only [gD] at h
    simp only [PyData.canLay0]
    exact lay_gA h
  | .tuple ds, h => by
    simp only [gD] at h
    simp only [PyData.canLay0]
    exact lay_gA h
  | .dict _, h => by
    simp only [gD] at h
    cases h
theorem lay_gA : ∀ {ds : List PyData}, gA ds = true → PyData.canLayAll0 ds = true
  | [], _ => by simp only [PyData.canLayAll0]
  | d :: r, h => by
    simp only [gA, Bool.and_eq_true] at h
    simp only [PyData.canLayAll0, Bool.and_eq_true]
    exact ⟨lay_gD h.1, lay_gA h.2⟩
end
theorem shaped_gD {d : PyData} (h : gD d = true) (hd : d.depth ≤ 64) : SeqAt.shaped d = true := by
  unfold SeqAt.shaped
  rw [lay_gD h, decide_eq_true hd]
  rfl
theorem Dq.strOr {K : PySem.W.Frag} {b : Addr} {H : Hp} {d : PyData} {v : V} (h : Dq b H d v) (g : gD d = true) : StrOr K H v := by
  cases d with
  | str z =>
    simp only [Dq] at h
    simp only [gD] at g
    refine .inl ⟨z.cps.toList, ?_, ?_⟩
    · rw [h, SX.S_tl]
    · have := (gS_ok g).1
      have e : z.length = z.cps.toList.length := by simp [Str.length]
      omega
  | none =>
    have t := h.ty (K := K)
    simp only [Dq] at h
    subst h
    exact .inr ⟨fun z e => (by cases e), _, t, kB_NoneType_str⟩
  | bool c =>
    have t := h.ty (K := K)
    simp only [Dq] at h
    subst h
    exact .inr ⟨fun z e => (by cases e), _, t, kB_bool_str⟩
  | int c =>
    have t := h.ty (K := K)
    simp only [Dq] at h
    subst h
    exact .inr ⟨fun z e => (by cases e), _, t, kB_int_str⟩
  | list ds =>
    have t := h.ty (K := K)
    simp only [Dq] at h
    obtain ⟨a, l, rfl, _⟩ := h
    exact .inr ⟨fun z e => (by cases e), _, t, kB_list_str⟩
  | tuple ds =>
    have t := h.ty (K := K)
    simp only [Dq] at h
    obtain ⟨a, l, rfl, _⟩ := h
    exact .inr ⟨fun z e => (by cases e), _, t, kB_tuple_str⟩
  | dict _ => simp only [Dq] at h
theorem Dq.isS {b : Addr} {H : Hp} {d : PyData} {v : V} (h : Dq b H d v) : (isS d = true ∧ ∃ z, d = .str z ∧ v = .str z) ∨ (isS d = false ∧ ∀ z, v ≠ .str z) := by
  cases d <;> simp only [Dq] at h
  case str z => exact .inl ⟨rfl, z, rfl, h⟩
  case list ds =>
    obtain ⟨a, l, rfl, _⟩ := h
    exact .inr ⟨rfl, fun z e => by cases e⟩
  case tuple ds =>
    obtain ⟨a, l, rfl, _⟩ := h
    exact .inr ⟨rfl, fun z e => by cases e⟩
  all_goals exact .inr ⟨rfl, fun z e => by rw [h] at e; cases e⟩
theorem Dq.word {b : Addr} {H : Hp} {d : PyData} {v : V} (h : Dq b H d v) (n : Int) : wordB v n = wordB (vOf d) n := by
  rcases h.isS with ⟨_, z, rfl, rfl⟩ | ⟨e, k⟩
  · rfl
  · rw [wordB_no k, wordB_no]
    cases d <;> first | (intro z q; cases q; done) | cases e
theorem Dq.text {b : Addr} {H : Hp} {d : PyData} {v : V} (h : Dq b H d v) : textB v = textB (vOf d) := by
  rcases h.isS with ⟨_, z, rfl, rfl⟩ | ⟨e, k⟩
  · rfl
  · rw [textB_no k, textB_no]
    cases d <;> first | (intro z q; cases q; done) | cases e
/-! sizes -/
mutual
def sz : PyData → Nat
  | .none => 1
  | .bool _ => 1
  | .int _ => 1
  | .str _ => 1
  | .list ds => 1 + szA ds
  | .tuple ds => 1 + szA ds
  | .dict _ => 1
def szA : List PyData → Nat
  | [] => 0
  | d :: r => sz d + szA r
end
theorem sz_pos : ∀ d : PyData, 1 ≤ sz d := fun d => by cases d <;> simp only [sz] <;> omega
theorem szA_len : ∀ ds : List PyData, ds.length ≤ szA ds
  | [] => Nat.zero_le _
  | d :: r => by
    have := szA_len r
    have := sz_pos d
    simp only [szA, List.length_cons]
    omega
theorem szA_mem : ∀ {ds : List PyData} {d : PyData}, d ∈ ds → sz d ≤ szA ds
  | x :: r, d, m => by
    simp only [szA]
    rcases List.mem_cons.mp m with rfl | m
    · omega
    · have := szA_mem m
      omega
theorem szA_app : ∀ {ds es : List PyData}, szA (ds ++ es) = szA ds + szA es
  | [], _ => by simp only [szA, List.nil_append]; omega
  | x :: r, es => by
    simp only [szA, List.cons_append, szA_app (ds := r)]
    omega
/-- two values of one datum are alike -/
theorem Dq.alk {K : PySem.W.Frag} {b b' : Addr} {H : Hp} : ∀ (n : Nat) {d : PyData} {v u : V}, d.depth ≤ n → sz d ≤ 100000 → Dq b H d v → Dq b' H d u → Alk K H (n + 1) v u := by
  intro n
  induction n with
  | zero =>
    intro d v u hd hs h k
    cases d <;> simp only [Dq] at h k
    all_goals first
      | (rw [h, k]; exact .inl ⟨rfl, rfl⟩)
      | (simp only [PyData.depth] at hd; omega)
  | succ n ih =>
    intro d v u hd hs h k
    cases d <;> simp only [Dq] at h k
    case list ds =>
      obtain ⟨a, l, rfl, _, h1, h2⟩ := h
      obtain ⟨a', l', rfl, _, k1, k2⟩ := k
      simp only [PyData.depth] at hd
      simp only [sz] at hs
      refine .inr ⟨a, a', l, l', rfl, rfl, .inl ⟨SqL.of h1, SqL.of k1⟩, by rw [h2.len, k2.len], by have := szA_len ds; have := h2.len; omega, fun i x y hx hy => ?_⟩
      obtain ⟨d1, e1, f1⟩ := h2.get hx
      obtain ⟨d2, e2, f2⟩ := k2.get hy
      obtain rfl : d1 = d2 := Option.some.inj (e1.symm.trans e2)
      have m := List.mem_of_getElem? e1
      exact ih (by have := PyData.depth_le_depthAll _ _ m; omega) (by have := szA_mem m; omega) f1 f2
    case tuple ds =>
      obtain ⟨a, l, rfl, h1, h2⟩ := h
      obtain ⟨a', l', rfl, k1, k2⟩ := k
      simp only [PyData.depth] at hd
      simp only [sz] at hs
      refine .inr ⟨a, a', l, l', rfl, rfl, .inr ⟨SqT.of h1, SqT.of k1⟩, by rw [h2.len, k2.len], by have := szA_len ds; have := h2.len; omega, fun i x y hx hy => ?_⟩
      obtain ⟨d1, e1, f1⟩ := h2.get hx
      obtain ⟨d2, e2, f2⟩ := k2.get hy
      obtain rfl : d1 = d2 := Option.some.inj (e1.symm.trans e2)
      have m := List.mem_of_getElem? e1
      exact ih (by have := PyData.depth_le_depthAll _ _ m; omega) (by have := szA_mem m; omega) f1 f2
    all_goals (rw [h, k]; exact .inl ⟨rfl, rfl⟩)
theorem DqA.unsnoc {b : Addr} {H : Hp} {d : PyData} : ∀ {ds : List PyData} {l : List V}, DqA b H (ds ++ [d]) l → ∃ m v, l = m ++ [v] ∧ DqA b H ds m ∧ Dq b H d v
  | [], _, h => by
    obtain ⟨v, m, rfl, h1, h2⟩ := h.inv
    rw [h2.inv0]
    exact ⟨[], v, rfl, .nil, h1⟩
  | x :: r, _, h => by
    obtain ⟨v, m, rfl, h1, h2⟩ := h.inv
    obtain ⟨m2, v2, rfl, h3, h4⟩ := h2.unsnoc
    exact ⟨v :: m2, v2, rfl, .cons h1 h3, h4⟩
theorem shaped_lst {ds : List PyData} (g : gA ds = true) (hd : ∀ d ∈ ds, d.depth ≤ 63) : SeqAt.shaped (.list ds) = true := by
  have e : PyData.depthAll ds ≤ 63 := by
    clear g
    induction ds with
    | nil => simp [PyData.depthAll]
    | cons x r ih =>
      have h1 := hd x List.mem_cons_self
      have h2 := ih fun d m => hd d (List.mem_cons_of_mem _ m)
      simp only [PyData.depthAll]
      omega
  refine shaped_gD (by simpa only [gD] using g) ?_
  simp only [PyData.depth]
  omega
/-- a path: ints in a tuple -/
def pathD (p : List Int) : PyData := .tuple (p.map PyData.int)
theorem DqA.ints {b : Addr} {H : Hp} : ∀ (p : List Int), DqA b H (p.map PyData.int) (p.map V.int)
  | [] => .nil
  | i :: r => .cons (Dq.int_mk i) (DqA.ints r)
theorem DqA.ints_inv {b : Addr} {H : Hp} : ∀ {p : List Int} {l : List V}, DqA b H (p.map PyData.int) l → l = p.map V.int
  | [], _, h => h.inv0
  | i :: r, _, h => by
    obtain ⟨v, m, rfl, h1, h2⟩ := h.inv
    simp only [Dq] at h1
    rw [h1, h2.ints_inv]
    rfl
theorem gA_ints : ∀ p : List Int, gA (p.map PyData.int) = true
  | [] => by simp only [List.map_nil, gA]
  | i :: r => by simp only [List.map_cons, gA, gD, gA_ints r, Bool.and_self]
theorem depth_path (p : List Int) : (pathD p).depth = 1 := by
  unfold pathD
  have e : ∀ q : List Int, PyData.depthAll (q.map PyData.int) = 0 := fun q => by
    induction q with
    | nil => simp [PyData.depthAll]
    | cons i r ih => simp only [List.map_cons, PyData.depthAll, ih, PyData.depth, Nat.max_self]
  simp only [PyData.depth, e]
theorem sz_path (p : List Int) : sz (pathD p) = 1 + p.length := by
  unfold pathD
  have e : ∀ q : List Int, szA (q.map PyData.int) = q.length := fun q => by
    induction q with
    | nil => rfl
    | cons i r ih =>
      simp only [List.map_cons, szA, ih, sz, List.length_cons]
      omega
  simp only [sz, e]
theorem Le.set {b : Addr} {H : Hp} {l m : List V} (h : H b = some (.lst l)) : Le b H (upd H b (.lst m)) := by
  refine ⟨fun c xs e => ?_, fun c l n e => ?_⟩
  · rw [upd_ne fun z => ?_]
    · exact e
    · rw [z, h] at e
      cases e
  · rw [upd_ne n]
    exact e
mutual
/-- what is not there is no part of it -/
theorem Dq.free {b x : Addr} {H : Hp} (n : H x = none) : ∀ {d : PyData} {v : V}, Dq b H d v → Dq x H d v
  | .none, _, h => by simpa only [Dq] using h
  | .bool _, _, h => by simpa only [Dq] using h
  | .int _, _, h => by simpa only [Dq] using h
  | .str _, _, h => by simpa only [Dq] using h
  | .list ds, _, h => by
    simp only [Dq] at h ⊢
    obtain ⟨a, l, e, _, h1, h2⟩ := h
    exact ⟨a, l, e, ne_of_none h1 n, h1, DqA.free n h2⟩
  | .tuple ds, _, h => by
    simp only [Dq] at h ⊢
    obtain ⟨a, l, e, h1, h2⟩ := h
    exact ⟨a, l, e, h1, DqA.free n h2⟩
  | .dict _, _, h => by simp only [Dq] at h
theorem DqA.free {b x : Addr} {H : Hp} (n : H x = none) : ∀ {ds : List PyData} {l : List V}, DqA b H ds l → DqA x H ds l
  | [], _, h => by simpa only [DqA] using h
  | d :: r, _, h => by
    simp only [DqA] at h ⊢
    obtain ⟨v, m, e, h1, h2⟩ := h
    exact ⟨v, m, e, Dq.free n h1, DqA.free n h2⟩
end

/-! ### _law_field, called while its exception is handled -/
/-- the field that the code names -/
def fldOf (code : Str) : Option Str := if code ∈ (["BadShape", "ParseError"] : List Str) then some "at"
  else if code ∈ (["TooMany", "Full"] : List Str) then some "most"
  else if code ∈ (["BadName", "DuplicateName", "WrongKind", "UnknownName"] : List Str) then some "name"
  else if code = "BadDocument" then some "path"
  else if code = "BadScript" then some "line"
  else if code = "BadLimit" then some "given"
  else if code = "BadCommand" then some "word"
  else if code = "UnknownHand" then some "hand"
  else if code = "Quarrel" then some "shown"
  else none
theorem inV_codes (x : Str) : ∀ l : List Str, inV (V.str x) (l.map V.str) = decide (x ∈ l)
  | [] => by simp [inV]
  | y :: r => by
    have ih := inV_codes x r
    unfold inV at ih ⊢
    simp only [List.map_cons, List.any_cons, List.mem_cons] at ih ⊢
    rw [ih, show eqV (V.str y) (V.str x) = (y == x) from rfl]
    by_cases h : x = y
    · subst h
      simp
    · have h2 : ¬ y = x := fun z => h z.symm
      simp [h, h2]
theorem inC {K : PySem.W.Frag} {x : Str} {l : List Str} {p : Addr} {H : Hp} {Q : VK} (h : H p = some (.lst (l.map V.str))) (q : Q (.bl (decide (x ∈ l))) H) : rInX K (.str x) (.ref p) H Q := by
  refine .inr ⟨p, _, rfl, .inl (SqL.of h), rfl, ?_, ?_⟩
  · rw [List.all_map]
    exact List.all_eq_true.mpr fun _ _ => rfl
  · show Q (.bl (inV (V.str x) (l.map V.str))) H
    rw [inV_codes]
    exact q
def spField (K : PySem.W.Frag) : SpE := fun a c d vs H Q _ => ∃ (C dd : Addr) (fs : List (Str × V)) (code : Str), vs = [.ref a] ∧ c = .ref C ∧ d = some dd ∧ XfC K C ∧ H dd = some (.xd fs) ∧ fs.lookup ("code" : Str) = some (V.str code) ∧ PySem.W.findIn K (.ref C) "code" = some none ∧
  ((∃ f v, fldOf code = some f ∧ PySem.W.findIn K (.ref C) f = some none ∧ fs.lookup f = some v ∧ ∀ H', Same H H' → Q v H') ∨ (fldOf code = none ∧ ∀ H', Same H H' → Q .non H'))
section
variable {P : Program} {w : World} {K : PySem.W.Frag} {mg : Str → Option Value} {base : Heap} {f : Addr} {fd : FuncData}
theorem ok_law_field (F : Fun K "_law_field" "_law_field" s_law_field f fd) : FnE P w K mg base CX0 1 f fd ["_law_e"] (spField K) := by
  obtain ⟨oc, od, kV, doc, pm, an, cdv, ct, osl, rfl, lk, hcd⟩ := F.ex
  refine FnE.of lk hcd sc_law_field (fun h => ?_) (fun {A outer z H vs Q E p c d} hz hdat room h => ?_)
  · obtain ⟨C, dd, fs, code, rfl, _⟩ := h
    rfl
  · obtain ⟨C, dd, fs, code, rfl, rfl, rfl, hT, hd, hc, hnc, q⟩ := h
    have hin : p ∈ [p] := List.mem_singleton.mpr rfl
    have hu : (A.deeper (PyProof.Rows.envOfC "_law_field" (defScope s_law_field) z.heap.objs.size f cdv)).units + 64 < cLine := by
      have := room.un
      omega
    refine ⟨_, (pss_cons (ps_if (pt_cmpR (op_inX K) (pe_xfE hz hdat hin (pv 0)) (pe_lst (pa_cons pe_str (pa_cons pe_str pa_nil))) (by rfl)) (pss_one (ps_ret (pe_xfE hz hdat hin (pv 0)))) pss_nil)
      (pss_cons (ps_if (pt_cmpR (op_inX K) (pe_xfE hz hdat hin (pv 0)) (pe_lst (pa_cons pe_str (pa_cons pe_str pa_nil))) (by rfl)) (pss_one (ps_ret (pe_xfE hz hdat hin (pv 0)))) pss_nil)
      (pss_cons (ps_if (pt_cmpR (op_inX K) (pe_xfE hz hdat hin (pv 0)) (pe_lst (pa_cons pe_str (pa_cons pe_str (pa_cons pe_str (pa_cons pe_str pa_nil))))) (by rfl)) (pss_one (ps_ret (pe_xfE hz hdat hin (pv 0)))) pss_nil)
      (pss_cons (ps_if (pt_cmpR (op_eqU K hu) (pe_xfE hz hdat hin (pv 0)) pe_str (nomark _)) (pss_one (ps_ret (pe_xfE hz hdat hin (pv 0)))) pss_nil)
      (pss_cons (ps_if (pt_cmpR (op_eqU K hu) (pe_xfE hz hdat hin (pv 0)) pe_str (nomark _)) (pss_one (ps_ret (pe_xfE hz hdat hin (pv 0)))) pss_nil)
      (pss_cons (ps_if (pt_cmpR (op_eqU K hu) (pe_xfE hz hdat hin (pv 0)) pe_str (nomark _)) (pss_one (ps_ret (pe_xfE hz hdat hin (pv 0)))) pss_nil)
      (pss_cons (ps_if (pt_cmpR (op_eqU K hu) (pe_xfE hz hdat hin (pv 0)) pe_str (nomark _)) (pss_one (ps_ret (pe_xfE hz hdat hin (pv 0)))) pss_nil)
      (pss_cons (ps_if (pt_cmpR (op_eqU K hu) (pe_xfE hz hdat hin (pv 0)) pe_str (nomark _)) (pss_one (ps_ret (pe_xfE hz hdat hin (pv 0)))) pss_nil)
      (pss_one (ps_ret (pe_ifExp (pt_cmpR (op_eqU K hu) (pe_xfE hz hdat hin (pv 0)) pe_str (nomark _)) (pe_xfE hz hdat hin (pv 0)) pe_non))))))))))), ?_⟩
    change (_ : TS) _ [some (V.ref p.1)] _
    k_extra "rr"
    refine xfI hT hnc hd hc rfl ?_
    k_extra "rr"
    refine ⟨by k_extra "sz", fun p0 n0 => ?_⟩
    have s0 := (Same.refl H).trans (same_upd (o := .lst ([.str "BadShape", .str "ParseError"] : List V)) n0)
    k_extra "rr"
    refine inC (l := ["BadShape", "ParseError"]) upd_same ?_
    by_cases h0 : code ∈ (["BadShape", "ParseError"] : List Str)
    · rw [decide_eq_true h0]
      k_extra "rr"
      have ef : fldOf code = some ("at" : Str) := by
        unfold fldOf
        rw [if_pos h0]
      rcases q with ⟨g, v, e2, hn, hl, k⟩ | ⟨e2, _⟩
      · obtain rfl : g = ("at" : Str) := Option.some.inj (e2.symm.trans ef)
        refine xfI hT hn (s0 _ _ hd) hl rfl ?_
        k_extra "rr"
        exact k _ s0
      · cases e2.symm.trans ef
    rw [decide_eq_false h0]
    k_extra "rr"
    refine xfI hT hnc (s0 _ _ hd) hc rfl ?_
    k_extra "rr"
    refine ⟨by k_extra "sz", fun p1 n1 => ?_⟩
    have s1 := s0.trans (same_upd (o := .lst ([.str "TooMany", .str "Full"] : List V)) n1)
    k_extra "rr"
    refine inC (l := ["TooMany", "Full"]) upd_same ?_
    by_cases h1 : code ∈ (["TooMany", "Full"] : List Str)
    · rw [decide_eq_true h1]
      k_extra "rr"
      have ef : fldOf code = some ("most" : Str) := by
        unfold fldOf
        rw [if_neg h0, if_pos h1]
      rcases q with ⟨g, v, e2, hn, hl, k⟩ | ⟨e2, _⟩
      · obtain rfl : g = ("most" : Str) := Option.some.inj (e2.symm.trans ef)
        refine xfI hT hn (s1 _ _ hd) hl rfl ?_
        k_extra "rr"
        exact k _ s1
      · cases e2.symm.trans ef
    rw [decide_eq_false h1]
    k_extra "rr"
    refine xfI hT hnc (s1 _ _ hd) hc rfl ?_
    k_extra "rr"
    refine ⟨by k_extra "sz", fun p2 n2 => ?_⟩
    have s2 := s1.trans (same_upd (o := .lst ([.str "BadName", .str "DuplicateName", .str "WrongKind", .str "UnknownName"] : List V)) n2)
    k_extra "rr"
    refine inC (l := ["BadName", "DuplicateName", "WrongKind", "UnknownName"]) upd_same ?_
    by_cases h2 : code ∈ (["BadName", "DuplicateName", "WrongKind", "UnknownName"] : List Str)
    · rw [decide_eq_true h2]
      k_extra "rr"
      have ef : fldOf code = some ("name" : Str) := by
        unfold fldOf
        rw [if_neg h0, if_neg h1, if_pos h2]
      rcases q with ⟨g, v, e2, hn, hl, k⟩ | ⟨e2, _⟩
      · obtain rfl : g = ("name" : Str) := Option.some.inj (e2.symm.trans ef)
        refine xfI hT hn (s2 _ _ hd) hl rfl ?_
        k_extra "rr"
        exact k _ s2
      · cases e2.symm.trans ef
    rw [decide_eq_false h2]
    k_extra "rr"
    refine xfI hT hnc (s2 _ _ hd) hc rfl ?_
    k_extra "rr"
    by_cases h3 : code = "BadDocument"
    · rw [decide_eq_true h3]
      k_extra "rr"
      have ef : fldOf code = some ("path" : Str) := by
        unfold fldOf
        rw [if_neg h0, if_neg h1, if_neg h2, if_pos h3]
      rcases q with ⟨g, v, e2, hn, hl, k⟩ | ⟨e2, _⟩
      · obtain rfl : g = ("path" : Str) := Option.some.inj (e2.symm.trans ef)
        refine xfI hT hn (s2 _ _ hd) hl rfl ?_
        k_extra "rr"
        exact k _ s2
      · cases e2.symm.trans ef
    rw [decide_eq_false h3]
    k_extra "rr"
    refine xfI hT hnc (s2 _ _ hd) hc rfl ?_
    k_extra "rr"
    by_cases h4 : code = "BadScript"
    · rw [decide_eq_true h4]
      k_extra "rr"
      have ef : fldOf code = some ("line" : Str) := by
        unfold fldOf
        rw [if_neg h0, if_neg h1, if_neg h2, if_neg h3, if_pos h4]
      rcases q with ⟨g, v, e2, hn, hl, k⟩ | ⟨e2, _⟩
      · obtain rfl : g = ("line" : Str) := Option.some.inj (e2.symm.trans ef)
        refine xfI hT hn (s2 _ _ hd) hl rfl ?_
        k_extra "rr"
        exact k _ s2
      · cases e2.symm.trans ef
    rw [decide_eq_false h4]
    k_extra "rr"
    refine xfI hT hnc (s2 _ _ hd) hc rfl ?_
    k_extra "rr"
    by_cases h5 : code = "BadLimit"
    · rw [decide_eq_true h5]
      k_extra "rr"
      have ef : fldOf code = some ("given" : Str) := by
        unfold fldOf
        rw [if_neg h0, if_neg h1, if_neg h2, if_neg h3, if_neg h4, if_pos h5]
      rcases q with ⟨g, v, e2, hn, hl, k⟩ | ⟨e2, _⟩
      · obtain rfl : g = ("given" : Str) := Option.some.inj (e2.symm.trans ef)
        refine xfI hT hn (s2 _ _ hd) hl rfl ?_
        k_extra "rr"
        exact k _ s2
      · cases e2.symm.trans ef
    rw [decide_eq_false h5]
    k_extra "rr"
    refine xfI hT hnc (s2 _ _ hd) hc rfl ?_
    k_extra "rr"
    by_cases h6 : code = "BadCommand"
    · rw [decide_eq_true h6]
      k_extra "rr"
      have ef : fldOf code = some ("word" : Str) := by
        unfold fldOf
        rw [if_neg h0, if_neg h1, if_neg h2, if_neg h3, if_neg h4, if_neg h5, if_pos h6]
      rcases q with ⟨g, v, e2, hn, hl, k⟩ | ⟨e2, _⟩
      · obtain rfl : g = ("word" : Str) := Option.some.inj (e2.symm.trans ef)
        refine xfI hT hn (s2 _ _ hd) hl rfl ?_
        k_extra "rr"
        exact k _ s2
      · cases e2.symm.trans ef
    rw [decide_eq_false h6]
    k_extra "rr"
    refine xfI hT hnc (s2 _ _ hd) hc rfl ?_
    k_extra "rr"
    by_cases h7 : code = "UnknownHand"
    · rw [decide_eq_true h7]
      k_extra "rr"
      have ef : fldOf code = some ("hand" : Str) := by
        unfold fldOf
        rw [if_neg h0, if_neg h1, if_neg h2, if_neg h3, if_neg h4, if_neg h5, if_neg h6, if_pos h7]
      rcases q with ⟨g, v, e2, hn, hl, k⟩ | ⟨e2, _⟩
      · obtain rfl : g = ("hand" : Str) := Option.some.inj (e2.symm.trans ef)
        refine xfI hT hn (s2 _ _ hd) hl rfl ?_
        k_extra "rr"
        exact k _ s2
      · cases e2.symm.trans ef
    rw [decide_eq_false h7]
    k_extra "rr"
    refine xfI hT hnc (s2 _ _ hd) hc rfl ?_
    k_extra "rr"
    by_cases h8 : code = "Quarrel"
    · rw [decide_eq_true h8]
      k_extra "rr"
      have ef : fldOf code = some ("shown" : Str) := by
        unfold fldOf
        rw [if_neg h0, if_neg h1, if_neg h2, if_neg h3, if_neg h4, if_neg h5, if_neg h6, if_neg h7, if_pos h8]
      rcases q with ⟨g, v, e2, hn, hl, k⟩ | ⟨e2, _⟩
      · obtain rfl : g = ("shown" : Str) := Option.some.inj (e2.symm.trans ef)
        refine xfI hT hn (s2 _ _ hd) hl rfl ?_
        k_extra "rr"
        exact k _ s2
      · cases e2.symm.trans ef
    rw [decide_eq_false h8]
    k_extra "rr"
    have ef : fldOf code = none := by
      unfold fldOf
      rw [if_neg h0, if_neg h1, if_neg h2, if_neg h3, if_neg h4, if_neg h5, if_neg h6, if_neg h7, if_neg h8]
    rcases q with ⟨g, v, e2, hn, hl, k⟩ | ⟨_, k⟩
    · cases e2.symm.trans ef
    · exact k _ s2
end

/-! ### _law_why: what it makes of the lambda that it gets -/
/-- no exception: ('', what came); one of the three classes: (its code, its field) -/
def TTwhy (K : PySem.W.Frag) (c1 c2 c3 : Value) : (XK → Hp → VK → Prop) → Hp → VK → Prop := fun tl H Q =>
  tl (fun cls d H1 => PySem.W.exmAny K cls [c1, c2, c3] = some true ∧ ∃ (C dd : Addr) (fs : List (Str × V)) (code : V), cls = .ref C ∧ d = some dd ∧ XfC K C ∧ PySem.W.findIn K (.ref C) "code" = some none ∧ H1 dd = some (.xd fs) ∧ fs.lookup ("code" : Str) = some code ∧
      ∀ a, H1 a = none → spField K a cls d [.ref a] H1 (fun v H2 => ([code, v] : List V).length ≤ sizeLine ∧ ∀ p, H2 p = none → Q (.ref p) (upd H2 p (.tup [code, v]))) E0)
    H fun v H1 => ([V.str "", v] : List V).length ≤ sizeLine ∧ ∀ p, H1 p = none → Q (.ref p) (upd H1 p (.tup [.str "", v]))
section
variable {X : Cx} {K : PySem.W.Frag} {g ff : Addr} {cdg c1 c2 c3 : Value} {q : Str} {ffd : FuncData} {k : Nat}
theorem why_gives (hK : X.K = K) (hr : Room (k + 3) X.A) (N1 : X.mg "GroveError" = some c1) (N2 : X.mg "Missing" = some c2) (N3 : X.mg "NothingLeft" = some c3)
    (F : FnE X.prog X.w K X.mg X.base CX0 1 ff ffd ["_law_e"] (spField K)) (m : X.mg "_law_field" = some (.ref ff)) (hk : PySem.W.keepIn K (.ref ff) = true) (hb : Binds K ffd ["_law_e"] []) :
    LamX.GivesTo X ["_law_ask", "_law_e"] "_law_why" (defScope s_law_why) g cdg (defBody s_law_why) "_law_ask" q (TTwhy K c1 c2 c3) := by
  subst hK
  intro f c' s H Q tl act hc h
  refine ⟨_, pss_one (ps_try_as3 (X := (cxOf C8.CX0 X.prog X.w X.K X.mg X.base ["_law_ask", "_law_e"] "_law_why" (defScope s_law_why) g cdg X.A X.stack s H C8.E0).nox) (i := 1) (c1 := c1) (c2 := c2) (c3 := c3) (n := "_law_e")
    (tb := fun W D σ H => ∃ Ech : XK, (∀ cls d σ' H', Ech cls d H' → W cls d σ' H') ∧ σ[0]? = some (some (.ref f)) ∧ H c' = some (LamX.CodeO c' q) ∧ tl Ech H fun v H1 => ([V.str "", v] : List V).length ≤ sizeLine ∧ ∀ p, H1 p = none → D.rt (.ref p) (upd H1 p (.tup [.str "", v])))
    (ts := fun a cls d => tRet (tTup (tCons (tXfE X.K a cls d "code" (tVar 1)) (tCons (tCE (spField X.K) a cls d (fun _ => E0) (tCons (tVar 1) tNil)) tNil))))
    rfl rfl sc_law_why.nd rfl rfl ⟨rfl, rfl, .inl N1⟩ ⟨rfl, rfl, .inl N2⟩ ⟨rfl, rfl, .inl N3⟩ LamX.takes0 (fun W pn xe tk _ => ?_) (fun a oe cls d pn hz hdat => ?_)), ?_⟩
  · refine ⟨fun pins s' σ H' D I h' => ?_⟩
    obtain ⟨Ech, hW, h1, h2, h3⟩ := h'
    refine' PSs.run ?hq pins s' σ H' D I ?hr
    case hq => exact pss_one (ps_ret (pe_tup (pa_cons pe_str (pa_cons (act W pn xe Ech _ _ tk hW) pa_nil))))
    case hr => exact ⟨h1, h2, h3⟩
  · have hin : (a, oe) ∈ (a, oe) :: pn := List.mem_cons_self ..
    have rm := hr.deeper (PyProof.Rows.envOfC "_law_why" (defScope s_law_why) s.heap.objs.size g cdg)
    have rm1 := rm.mono (j := 1) (by omega)
    exact pss_one (ps_ret (pe_tup (pa_cons (pe_xfE (p := (a, oe)) hz hdat hin (pv 1)) (pa_cons (pe_callE (p := (a, oe)) F ⟨rm1.dp, rm1.un⟩ hz hdat hin (by rfl) m hk hb (fun _ _ _ _ _ _ _ z => z.elim) (pa_cons (pv 1) pa_nil)) pa_nil))))
  · refine ⟨_, fun cls d σ' H' e => ?_, rfl, hc, h⟩
    obtain ⟨e1, C, dd, fs, code, rfl, rfl, hT, hn, hd, hl, k⟩ := e
    refine ⟨true, e1, (fun z => by cases z), fun _ hlen a na => ?_⟩
    have hs : (σ'.set 1 (some (V.ref a)))[1]? = some (some (V.ref a)) := by
      rw [List.getElem?_set_self hlen]
    exact ⟨_, hs, rfl, C, dd, fs, code, rfl, rfl, hT, hn, hd, hl, _, hs, k a na⟩
end

/-! ### _law_why(lambda: ..) -/
structure WhyC (P : Program) (w : World) (K : PySem.W.Frag) (mg : Str → Option Value) (base : Heap) (c1 c2 c3 : Value) : Prop where
  ex : ∃ (g : Addr) (fd : FuncData), Fun K "_law_why" "_law_why" s_law_why g fd ∧ mg "_law_why" = some (.ref g) ∧ PySem.W.keepIn K (.ref g) = true ∧ Binds K fd ["_law_ask"] []
  N1 : mg "GroveError" = some c1
  N2 : mg "Missing" = some c2
  N3 : mg "NothingLeft" = some c3
  F : ∃ (ff : Addr) (ffd : FuncData), FnE P w K mg base CX0 1 ff ffd ["_law_e"] (spField K) ∧ mg "_law_field" = some (.ref ff) ∧ PySem.W.keepIn K (.ref ff) = true ∧ Binds K ffd ["_law_e"] []
theorem pe_why {X : Cx} {c1 c2 c3 : Value} {c P : Addr} {j : Nat} {params : Arguments} {body : Expr} {scope : Scope} {t : XK → TE} {p lpos pos : Pos} (k : Nat) (hW : WhyC X.prog X.w X.K X.mg X.base c1 c2 c3) (TB : LamX.TabB X.base X.mg c P) (hcode : X.env.code = .ref c) (hr : Room j X.A) (hk : k + 3 ≤ j) (L : LamX.LamS X.env.scope scope)
    (hbind : ∀ (q : Str) (cl : List (Str × Addr)) (pm cv ctv : Value), bindArgs (PySem.W.kla_fn "<lambda>" q params body scope cl pm cv ctv) ⟨[], []⟩ = pure [])
    (hbody : ∀ (A : Around) (outer : List Env) (s : Shared) (H : Hp) (E : XK) (f c' : Addr), Room k (A.deeper (LamX.lamEnv X scope s.heap.objs.size f c')) → PE (LamX.lamCx X A outer s H E scope f c') body (t E))
    (hg : Gl X "_law_why" := by rfl) (hdef : defaultsOf params X.env = ([], []) := by rfl) :
    PE X (.Call (.Name "_law_why" p) [.Lambda params body scope lpos] [] pos) (LamX.tLam [(P, X.env.qual ++ "<lambda>")] (TTwhy X.K c1 c2 c3) t) := by
  obtain ⟨g, fd, F, mW, kW, bW⟩ := hW.ex
  obtain ⟨oc, od, kV, doc, pm, an, cdv, ct, osl, rfl, lk, hcd⟩ := F.ex
  obtain ⟨ff, ffd, FF, mF, kF, bF⟩ := hW.F
  exact LamX.pe_lamcall (T := [(P, X.env.qual ++ "<lambda>")]) (Ng := ["_law_ask", "_law_e"]) (a := "_law_ask") hg mW kW lk hcd bW sc_law_why rfl (.inl rfl) (why_gives (k := k) rfl (hr.mono hk) hW.N1 hW.N2 hW.N3 FF mF kF bF) TB hcode (List.mem_singleton.mpr rfl)
    (fun p hp _ => by rw [List.mem_singleton.mp hp]) (hr.mono (by omega)) L hdef hbind hbody
/-- what such a call wishes of an exception -/
def whyX (K : PySem.W.Frag) (c1 c2 c3 : Value) (Q : VK) : XK := fun cls d H1 => PySem.W.exmAny K cls [c1, c2, c3] = some true ∧ ∃ (C dd : Addr) (fs : List (Str × V)) (code : V), cls = .ref C ∧ d = some dd ∧ XfC K C ∧ PySem.W.findIn K (.ref C) "code" = some none ∧ H1 dd = some (.xd fs) ∧ fs.lookup ("code" : Str) = some code ∧
      ∀ a, H1 a = none → spField K a cls d [.ref a] H1 (fun v H2 => ([code, v] : List V).length ≤ sizeLine ∧ ∀ p, H2 p = none → Q (.ref p) (upd H2 p (.tup [code, v]))) E0
def ErrAt (H : Hp) (d : Addr) (fld code : Str) (v : V) : Prop := H d = some (.xd [(fld, v), (("code" : Str), V.str code)])
theorem why_ {K : PySem.W.Frag} {c1 c2 c3 : Value} {T : List (Addr × Str)} {t : XK → TE} {σ : St} {H : Hp} {Q : VK} (hT : LamX.Tabs T H) (q : ∀ H1, LamX.ExtN H H1 → LamX.Tabs T H1 → t (whyX K c1 c2 c3 Q) σ H1 fun v H2 => ([V.str "", v] : List V).length ≤ sizeLine ∧ ∀ p, H2 p = none → Q (.ref p) (upd H2 p (.tup [.str "", v]))) :
    LamX.tLam T (TTwhy K c1 c2 c3) t σ H Q := ⟨hT, q⟩
theorem why_x {K : PySem.W.Frag} {c1 c2 c3 : Value} {C dd : Addr} {fld code : Str} {v : V} {H1 : Hp} {Q : VK} (exm : PySem.W.exmAny K (.ref C) [c1, c2, c3] = some true) (xf : XfC K C) (n1 : PySem.W.findIn K (.ref C) "code" = some none) (n2 : PySem.W.findIn K (.ref C) fld = some none)
    (hc : fldOf code = some fld) (hne : (("code" : Str) == fld) = false) (hd : ErrAt H1 dd fld code v) (q : ∀ p H2, Same H1 H2 → H2 p = some (.tup [.str code, v]) → Q (.ref p) H2) : whyX K c1 c2 c3 Q (.ref C) (some dd) H1 := by
  have e1 : List.lookup ("code" : Str) [(fld, v), (("code" : Str), V.str code)] = some (V.str code) := by
    simp [List.lookup, hne]
  have e2 : List.lookup fld [(fld, v), (("code" : Str), V.str code)] = some v := by simp [List.lookup]
  refine ⟨exm, C, dd, _, _, rfl, rfl, xf, n1, hd, e1, fun a na => ?_⟩
  exact ⟨C, dd, _, code, rfl, rfl, rfl, xf, hd, e1, n1, .inl ⟨fld, v, hc, n2, e2, fun H' s => ⟨Nat.le_of_ble_eq_true rfl, fun p np => q p _ (s.trans (same_upd np)) upd_same⟩⟩⟩
theorem ext_lst {H H1 : Hp} {a : Addr} {l : List V} (e : LamX.ExtN H H1) (h : H a = some (.lst l)) : H1 a = some (.lst l) := e a _ h fun ps z => by cases z
theorem BagAt.ext {H H' : Hp} {b r : Addr} (h : BagAt H b r) (e : LamX.ExtN H H') : BagAt H' b r := by
  obtain ⟨ns, i, c, m, h1, h2, h3⟩ := h
  exact ⟨ns, i, c, m, ext_lst e h1, ext_lst e h2, h3⟩
/-! ### an own error is made and raised -/
theorem ini_ok {K : PySem.W.Frag} {code fld : Str} {C a : Addr} {v : V} {H1 : Hp} {Ex : XK} (T : OexC K C) (n1 : PySem.W.findIn K (.ref C) "code" = some none) (n2 : PySem.W.findIn K (.ref C) fld = some none) (na : H1 a = none)
    (k : ∀ d H', Same H1 H' → H' d = some (.xd [(fld, v), (("code" : Str), V.str code)]) → Ex (.ref C) (some d) H') :
    spIni K code fld [.ref a, v] (upd H1 a (exo a C none)) (fun r H2 => r = .non ∧ ∃ (d : Addr) (fs : List (Str × V)), H2 a = some (exo a C (some d)) ∧ H2 d = some (exd d fs) ∧ H1 d = none ∧ Ex (.ref C) (some d) (upd (del H2 a) d (.xd fs))) (fun _ _ _ => False) := by
  refine ⟨a, C, v, rfl, T, n1, n2, upd_same, fun d H' nd ne h1 h2 kp => ⟨rfl, d, _, h1, h2, un0 nd, k d _ (fun b o hb => ?_) upd_same⟩⟩
  have nbd : b ≠ d := ne_of_none hb (un0 nd)
  have nba : b ≠ a := ne_of_none hb na
  rw [upd_ne nbd, del_ne nba]
  exact kp b o (by rw [upd_ne nba]; exact hb) nba

/-! ### _law_why(lambda: e) within a comprehension: its reading names nothing of the comprehension's own context -/
theorem pe_whyC {X : Cx} {Pr : Program} {w : World} {K : PySem.W.Frag} {mg : Str → Option Value} {base : Heap} {c1 c2 c3 : Value} {c P : Addr} {j : Nat} {params : Arguments} {body : Expr} {scope : Scope} {t : XK → TE} {p lpos pos : Pos} (q : Str) (k : Nat) (hW : WhyC Pr w K mg base c1 c2 c3) (TB : LamX.TabB base mg c P) (hcode : X.env.code = .ref c) (hr : Room j X.A) (hk : k + 3 ≤ j) (L : LamX.LamS X.env.scope scope)
    (hbind : ∀ (q : Str) (cl : List (Str × Addr)) (pm cv ctv : Value), bindArgs (PySem.W.kla_fn "<lambda>" q params body scope cl pm cv ctv) ⟨[], []⟩ = pure [])
    (hbody : ∀ (A : Around) (outer : List Env) (s : Shared) (H : Hp) (E : XK) (f c' : Addr), Room k (A.deeper (LamX.lamEnv X scope s.heap.objs.size f c')) → PE (LamX.lamCx X A outer s H E scope f c') body (t E))
    (e1 : X.prog = Pr := by rfl) (e2 : X.w = w := by rfl) (e3 : X.K = K := by rfl) (e4 : X.mg = mg := by rfl) (e5 : X.base = base := by rfl) (e7 : X.env.qual = q := by rfl)
    (hg : Gl X "_law_why" := by rfl) (hdef : defaultsOf params X.env = ([], []) := by rfl) :
    PE X (.Call (.Name "_law_why" p) [.Lambda params body scope lpos] [] pos) (LamX.tLam [(P, q ++ "<lambda>")] (TTwhy K c1 c2 c3) t) := by
  subst e1 e2 e3 e4 e5 e7
  exact pe_why k hW TB hcode hr hk L hbind hbody hg hdef

/-! ### read_kind over any text: what it gives, and where it raises -/
theorem cut_mid (l : List Nat) {a b : Int} {i j : Nat} (ha : a = (i : Int)) (hb : b = (j : Int)) : cutS (SX.S l) (some a) (some b) = SX.S ((l.drop i).take (j - i)) := by
  subst ha hb
  unfold cutS
  rw [HT.sIx_nat, HT.sIx_nat, SX.S_len]
  have e : (SX.S l).cps.toList = l := by simp [SX.S]
  rw [e]
  refine congrArg SX.S ?_
  by_cases h : i ≤ l.length
  · have m1 : min i l.length = i := Nat.min_eq_left h
    rw [m1]
    by_cases h2 : j ≤ l.length
    · have m2 : min j l.length = j := Nat.min_eq_left h2
      rw [m2]
    · have m2 : min j l.length = l.length := Nat.min_eq_right (by omega)
      rw [m2, List.take_of_length_le (by rw [List.length_drop]; exact Nat.le_refl _), List.take_of_length_le (by rw [List.length_drop]; omega)]
  · have m1 : min i l.length = l.length := Nat.min_eq_right (by omega)
    rw [m1, List.drop_length, List.take_nil, List.drop_eq_nil_of_le (by omega), List.take_nil]
theorem S_toList (l : List Nat) : (SX.S l).cps.toList = l := by simp [SX.S]
theorem at_mid (pre k rest : List Nat) {j : Nat} {c : Nat} (h : (k ++ rest)[j]? = some c) : atI (SX.S (pre ++ (k ++ rest))).cps.toList ((pre.length + j : Nat) : Int) = some c := by
  rw [S_toList]
  refine atI_nat ?_
  rw [List.getElem?_append_right (by omega), show pre.length + j - pre.length = j by omega]
  exact h
theorem cut_one (l : List Nat) (i : Nat) : cutS (SX.S l) (some (i : Int)) (some ((i : Int) + 1)) = SX.S ((l.drop i).take 1) := by
  rw [cut_mid l (i := i) (j := i + 1) rfl (by omega), show i + 1 - i = 1 by omega]
theorem S_one (l : List Nat) (c : Nat) : decide (SX.S (l.take 1) = SX.S [c]) = decide (l.head? = some c) := by
  refine decide_eq_decide.mpr ⟨fun h => ?_, fun h => ?_⟩
  · have e : l.take 1 = [c] := by
      have := congrArg (fun z : Str => z.cps.toList) h
      simpa [SX.S] using this
    cases l with
    | nil => cases e
    | cons d r =>
      have e2 : [d] = [c] := e
      injection e2 with e3
      rw [e3]
      rfl
  · cases l with
    | nil => cases h
    | cons d r =>
      cases h
      rfl
def spRKx (C : Addr) : Sp := fun vs H Q E => ∃ (pre k rest : List Nat), vs = [.str (SX.S (pre ++ (k ++ rest))), .int (pre.length : Int)] ∧ (pre ++ (k ++ rest)).length ≤ 100000 ∧ (∀ c ∈ k, c ∈ letters) ∧ (∀ c, rest.head? = some c → c ∉ letters) ∧
  (1 ≤ k.length → k.length ≤ 6 → ∀ p H', Same H H' → H' p = some (.tup [.str (SX.S k), .int ((pre ++ k).length : Int)]) → Q (.ref p) H') ∧
  (k.length = 0 ∨ 6 < k.length → ∀ H' dd, Same H H' → ErrAt H' dd "at" "ParseError" (.int ((pre.length + min k.length 6 : Nat) : Int)) → E (.ref C) (some dd) H')
section
variable {P : Program} {w : World} {K : PySem.W.Frag} {mg : Str → Option Value} {base : Heap} {f C : Addr} {fd : FuncData}
theorem ok_read_kindX (F : Fun K "read_kind" "read_kind" s_read_kind f fd) (T : Txt mg)
    (err_ParseError : ErrC P w K mg base "ParseError" C 2 (spIni K "ParseError" "at")) (n1 : PySem.W.findIn K (.ref C) "code" = some none) (n2 : PySem.W.findIn K (.ref C) "at" = some none) : FnOk P w K mg base (L2.CX P w) 3 f fd ["text", "at"] (spRKx C) := by
  refine F.okX sc_read_kind (fun vs H Q E h => ?_) (fun cdv A outer s H vs Q E hr h => ?_)
  · obtain ⟨pre, k, rest, rfl, _⟩ := h
    rfl
  · obtain ⟨pre, k, rest, rfl, hl, hk, hrest, q, qx⟩ := h
    refine ⟨_, (pss_cons (ps_set (i := 2) sc_read_kind.nd rfl (.inl rfl) (pv 1))
      (pss_cons (ps_while (passes_of rfl) (PW.pt (pw_and (pt_cmpR op_lt (pv 2) (pe_callB (call_lenX K) (by rfl) T.len PySem.boot_len (pa_cons (pv 0) pa_nil)) (nomark _)) (pw_and1 (pt_cmpR (op_inX K) (pe_ix (ix_X K) (pv 0) (pv 2) (fun _ _ => rfl)) (pe_gc (by rfl) T.g_SMALL) (by rfl))))) (pss_one (ps_aug (i := 2) sc_read_kind.nd rfl (.inl rfl) pe_int ip_X)))
      (pss_cons (ps_if (PW.pt (pw_or (pt_cmpR (op_eqX K hr) (pv 2) (pv 1) (nomark _)) (pw_or1 (pt_cmpR op_gt (pe_op op_sub (pv 2) (pv 1)) (pe_gc (by rfl) T.g_MOST_LETTERS) (nomark _))))) (pss_one (ps_rz rfl (takes_of rfl rfl rfl rfl) err_ParseError hr (by omega) (by rfl) (pa_cons (pe_callB (call_min2 (by rfl)) (by rfl) T.min (by decide +kernel) (pa_cons (pv 2) (pa_cons (pe_op (op_addX K) (pv 1) (pe_gc (by rfl) T.g_MOST_LETTERS)) pa_nil))) pa_nil))) pss_nil)
      (pss_one (ps_ret (pe_tup (pa_cons (pe_slice (sl_X K) (pv 0) (po_some (pv 1)) (po_some (pv 2))) (pa_cons (pv 2) pa_nil)))))))), ?_⟩
    change (_ : TS) _ [some (V.str (SX.S (pre ++ (k ++ rest)))), some (.int (pre.length : Int)), none] _
    have hsl : (SX.S (pre ++ (k ++ rest))).length ≤ sizeLine := by rw [SX.S_len, sizeLine_eq]; omega
    have hlen : (pre ++ (k ++ rest)).length = pre.length + (k.length + rest.length) := by rw [List.length_append, List.length_append]
    k_extra "rr"
    refine ⟨fun m σ H' => ∃ j, j ≤ k.length ∧ m = k.length - j ∧ σ = [some (V.str (SX.S (pre ++ (k ++ rest)))), some (.int (pre.length : Int)), some (.int ((pre.length + j : Nat) : Int))] ∧ H' = H, ⟨k.length, 0, Nat.zero_le _, rfl, rfl, rfl⟩, ?_⟩
    rintro m σ H' ⟨j, hj, rfl, rfl, rfl⟩
    k_extra "rr"
    have eS : (SX.S (pre ++ (k ++ rest))).length = pre.length + (k.length + rest.length) := by rw [SX.S_len, hlen]
    by_cases hjk : j < k.length
    · rw [decide_eq_true (by rw [eS]; omega)]
      k_extra "rr"
      refine ixS hsl (at_mid pre k rest (j := j) (c := k[j]) (by rw [List.getElem?_append_left hjk]; exact List.getElem?_eq_getElem hjk)) ?_
      k_extra "rr"
      rw [letters_eq, S_toList, decide_eq_true (hk _ (List.getElem_mem hjk))]
      k_extra "rr"
      refine ⟨_, fun _ _ h => h, ?_⟩
      k_extra "rr"
      refine ⟨k.length - (j + 1), by omega, j + 1, by omega, rfl, ?_, rfl⟩
      have e : ((pre.length + j : Nat) : Int) + 1 = ((pre.length + (j + 1) : Nat) : Int) := by omega
      rw [e]
      rfl
    · have hjk2 : j = k.length := by omega
      rcases rest with _ | ⟨c, r⟩
      case' nil =>
        rw [decide_eq_false (by rw [eS, List.length_nil]; omega)]
      case' cons =>
        rw [decide_eq_true (by rw [eS, List.length_cons]; omega)]
        k_extra "rr"
        refine ixS hsl (at_mid pre k (c :: r) (j := j) (c := c) (by rw [List.getElem?_append_right (by omega), hjk2, Nat.sub_self]; rfl)) ?_
        k_extra "rr"
        rw [letters_eq, S_toList, decide_eq_false (hrest c rfl)]
      all_goals
        k_extra "rr"
        by_cases z0 : k.length = 0
        case' pos =>
          rw [decide_eq_true (by omega)]
          k_extra "rr"
        case' neg =>
          rw [decide_eq_false (by omega)]
          k_extra "rr"
          by_cases z6 : 6 < k.length
          case' pos =>
            rw [decide_eq_true (by omega)]
            k_extra "rr"
          case' neg =>
            rw [decide_eq_false (by omega)]
            k_extra "rr"
            refine ⟨by k_extra "sz", fun p np => ?_⟩
            k_extra "rr"
            refine q (by omega) (by omega) p _ (same_upd np) ?_
            rw [upd_same, cut_mid _ (i := pre.length) (j := pre.length + j) rfl rfl, List.drop_left, show pre.length + j - pre.length = k.length by omega, List.take_left, List.length_append, hjk2]
      all_goals
        refine rz ?_
        k_extra "rr"
        refine ⟨_, _, rfl, ?_⟩
        k_extra "rr"
        refine ⟨Nat.le_of_ble_eq_true rfl, fun a na2 => ini_ok err_ParseError.T n1 n2 na2 fun dd H' s6 h6 => ?_⟩
        refine qx (by omega) H' dd s6 ?_
        have e : (if (pre.length : Int) + 6 < ((pre.length + j : Nat) : Int) then (pre.length : Int) + 6 else ((pre.length + j : Nat) : Int)) = ((pre.length + min k.length 6 : Nat) : Int) := by split <;> omega
        rw [e] at h6
        exact h6
end

/-! ### read_quoted over any text -/
def rqF : Nat → List Nat → Bool × Nat
  | j, [] => (false, j)
  | j, c :: r => if c = 34 then (true, j) else if (signB c && decide (j < 20)) = true then rqF (j + 1) r else (false, j)
def spRQx (C : Addr) : Sp := fun vs H Q E => ∃ (pre r0 : List Nat), vs = [.str (SX.S (pre ++ r0)), .int (pre.length : Int)] ∧ (pre ++ r0).length ≤ 100000 ∧
  (r0.head? ≠ some 34 → ∀ p H', Same H H' → H' p = some (.tup [.str "", .int (pre.length : Int)]) → Q (.ref p) H') ∧
  (∀ r j, r0 = 34 :: r → rqF 0 r = (true, j) → 1 ≤ j → ∀ p H', Same H H' → H' p = some (.tup [.str (SX.S (r.take j)), .int ((pre.length + j + 2 : Nat) : Int)]) → Q (.ref p) H') ∧
  (∀ r j b, r0 = 34 :: r → rqF 0 r = (b, j) → (b = false ∨ j = 0) → ∀ H' dd, Same H H' → ErrAt H' dd "at" "ParseError" (.int ((pre.length + 1 + j : Nat) : Int)) → E (.ref C) (some dd) H')
section
variable {P : Program} {w : World} {K : PySem.W.Frag} {mg : Str → Option Value} {base : Heap} {f C : Addr} {fd : FuncData}
theorem ok_read_quotedX (F : Fun K "read_quoted" "read_quoted" s_read_quoted f fd) (T : Txt mg) (c_is_sign : Cal P w K mg base 1 "is_sign" spIsSign)
    (err_ParseError : ErrC P w K mg base "ParseError" C 2 (spIni K "ParseError" "at")) (n1 : PySem.W.findIn K (.ref C) "code" = some none) (n2 : PySem.W.findIn K (.ref C) "at" = some none) : FnOk P w K mg base (L2.CX P w) 3 f fd ["text", "at"] (spRQx C) := by
  refine F.okX sc_read_quoted (fun vs H Q E h => ?_) (fun cdv A outer s H vs Q E hr h => ?_)
  · obtain ⟨pre, r0, rfl, _⟩ := h
    rfl
  · obtain ⟨pre, r0, rfl, hl, q0, q1, qx⟩ := h
    refine ⟨_, (pss_cons (ps_if (pt_cmpR (op_neX K hr) (pe_slice (sl_X K) (pv 0) (po_some (pv 1)) (po_some (pe_op (op_addX K) (pv 1) pe_int))) pe_str (nomark _)) (pss_one (ps_ret (pe_tup (pa_cons pe_str (pa_cons (pv 1) pa_nil))))) pss_nil)
      (pss_cons (ps_set (i := 2) sc_read_quoted.nd rfl (.inl rfl) (pe_op (op_addX K) (pv 1) pe_int))
      (pss_cons (ps_while (passes_of rfl) (pt_cmpR (op_neX K hr) (pe_slice (sl_X K) (pv 0) (po_some (pv 2)) (po_some (pe_op (op_addX K) (pv 2) pe_int))) pe_str (nomark _)) (pss_cons (ps_if (PW.pt (pw_or (pt_cmpR (op_eqX K hr) (pv 2) (pe_callB (call_lenX K) (by rfl) T.len PySem.boot_len (pa_cons (pv 0) pa_nil)) (nomark _)) (pw_or (pt_not (pt_val (pe_c c_is_sign hr (by omega) (by rfl) (pa_cons (pe_ix (ix_X K) (pv 0) (pv 2) (fun _ _ => rfl)) pa_nil)))) (pw_or1 (pt_cmpR op_gt (pe_op op_sub (pv 2) (pv 1)) (pe_gc (by rfl) T.g_MOST_SIGNS) (nomark _)))))) (pss_one (ps_rz rfl (takes_of rfl rfl rfl rfl) err_ParseError hr (by omega) (by rfl) (pa_cons (pv 2) pa_nil))) pss_nil)
      (pss_one (ps_aug (i := 2) sc_read_quoted.nd rfl (.inl rfl) pe_int ip_X))))
      (pss_cons (ps_if (pt_cmpR (op_eqX K hr) (pv 2) (pe_op (op_addX K) (pv 1) pe_int) (nomark _)) (pss_one (ps_rz rfl (takes_of rfl rfl rfl rfl) err_ParseError hr (by omega) (by rfl) (pa_cons (pv 2) pa_nil))) pss_nil)
      (pss_one (ps_ret (pe_tup (pa_cons (pe_slice (sl_X K) (pv 0) (po_some (pe_op (op_addX K) (pv 1) pe_int)) (po_some (pv 2))) (pa_cons (pe_op (op_addX K) (pv 2) pe_int) pa_nil))))))))), ?_⟩
    change (_ : TS) _ [some (V.str (SX.S (pre ++ r0))), some (.int (pre.length : Int)), none] _
    have hsl : (SX.S (pre ++ r0)).length ≤ sizeLine := by rw [SX.S_len, sizeLine_eq]; omega
    have eQ : Str.ofString "\"" = SX.S [34] := by decide +kernel
    k_extra "rr"
    rw [cut_one, List.drop_left, eQ, S_one]
    by_cases hz : r0.head? = some 34
    case neg =>
      rw [decide_eq_false hz, Bool.not_false]
      k_extra "rr"
      refine ⟨by k_extra "sz", fun p np => ?_⟩
      k_extra "rr"
      exact q0 hz p _ (same_upd np) upd_same
    case pos =>
      obtain ⟨r, rfl⟩ : ∃ r, r0 = 34 :: r := by
        cases r0 with
        | nil => cases hz
        | cons c r =>
          cases hz
          exact ⟨r, rfl⟩
      have hlen : (pre ++ 34 :: r).length = pre.length + 1 + r.length := by
        rw [List.length_append, List.length_cons]
        omega
      rw [decide_eq_true hz, Bool.not_true]
      k_extra "rr"
      refine ⟨fun m σ H' => ∃ j, j ≤ r.length ∧ m = r.length - j ∧ σ = [some (V.str (SX.S (pre ++ 34 :: r))), some (.int (pre.length : Int)), some (.int ((pre.length + 1 + j : Nat) : Int))] ∧ H' = H ∧ rqF j (r.drop j) = rqF 0 r, ⟨r.length, 0, Nat.zero_le _, rfl, rfl, rfl, rfl⟩, ?_⟩
      rintro m σ H' ⟨j, hj, rfl, rfl, rfl, hq⟩
      have eS : (SX.S (pre ++ 34 :: r)).length = pre.length + 1 + r.length := by rw [SX.S_len, hlen]
      have esp : pre ++ 34 :: r = (pre ++ [34]) ++ ([] ++ r) := by simp
      have epl : (pre ++ [34]).length = pre.length + 1 := by rw [List.length_append, List.length_singleton]
      k_extra "rr"
      rw [cut_one, S_one]
      have hat : ((pre ++ 34 :: r).drop (pre.length + 1 + j)).head? = r[j]? := by
        rw [esp, List.head?_drop, ← epl, List.getElem?_append_right (by omega), Nat.add_sub_cancel_left, List.nil_append]
      rw [hat]
      by_cases hjr : j < r.length
      · have hc : r[j]? = some r[j] := List.getElem?_eq_getElem hjr
        have hdr : r.drop j = r[j] :: r.drop (j + 1) := List.drop_eq_getElem_cons hjr
        rw [hdr] at hq
        rw [hc]
        by_cases h34 : r[j] = 34
        · have hq2 : rqF 0 r = (true, j) := by
            rw [← hq]
            simp only [rqF, h34, if_true]
          rw [decide_eq_true (congrArg some h34), Bool.not_true]
          k_extra "rr"
          by_cases hj0 : j = 0
          · rw [decide_eq_true (by omega)]
            k_extra "rr"
            refine rz ?_
            k_extra "rr"
            refine ⟨Nat.le_of_ble_eq_true rfl, fun a na2 => ini_ok err_ParseError.T n1 n2 na2 fun dd H' s6 h6 => ?_⟩
            exact qx r j true rfl hq2 (.inr hj0) H' dd s6 h6
          · rw [decide_eq_false (by omega)]
            k_extra "rr"
            refine ⟨by k_extra "sz", fun p np => ?_⟩
            k_extra "rr"
            refine q1 r j rfl hq2 (by omega) p _ (same_upd np) ?_
            rw [upd_same, cut_mid _ (i := pre.length + 1) (j := pre.length + 1 + j) (by omega) rfl]
            have e1 : (List.take (pre.length + 1 + j - (pre.length + 1)) (List.drop (pre.length + 1) (pre ++ 34 :: r))) = r.take j := by
              rw [esp, ← epl, List.drop_left, Nat.add_sub_cancel_left, List.nil_append]
            have e2 : ((pre.length + 1 + j : Nat) : Int) + 1 = ((pre.length + j + 2 : Nat) : Int) := by omega
            rw [e1, e2]
        · rw [decide_eq_false (fun z => h34 (Option.some.inj z)), Bool.not_false]
          k_extra "rr"
          refine ⟨_, fun _ _ h => h, ?_⟩
          k_extra "rr"
          rw [decide_eq_false (by rw [eS]; omega)]
          k_extra "rr"
          refine ixS hsl (k := r[j]) (by rw [esp]; have e := at_mid (pre ++ [34]) [] r (j := j) hc; rw [epl] at e; exact e) ?_
          k_extra "rr"
          refine ⟨r[j], rfl, ?_⟩
          by_cases hsg : (signB r[j] && decide (j < 20)) = true
          · obtain ⟨g1, g2⟩ := Bool.and_eq_true_iff.mp hsg
            have g2 := of_decide_eq_true g2
            rw [g1]
            k_extra "rr"
            rw [decide_eq_false (by omega)]
            k_extra "rr"
            refine ⟨r.length - (j + 1), by omega, j + 1, by omega, rfl, ?_, rfl, ?_⟩
            · have e : ((pre.length + 1 + j : Nat) : Int) + 1 = ((pre.length + 1 + (j + 1) : Nat) : Int) := by omega
              rw [e]
              rfl
            · rw [← hq]
              simp only [rqF, if_neg h34, if_pos hsg]
          · have hq2 : rqF 0 r = (false, j) := by
              rw [← hq]
              simp only [rqF, if_neg h34, if_neg hsg]
            cases hs : signB r[j] with
            | false =>
              k_extra "rr"
              refine rz ?_
              k_extra "rr"
              refine ⟨Nat.le_of_ble_eq_true rfl, fun a na2 => ini_ok err_ParseError.T n1 n2 na2 fun dd H' s6 h6 => ?_⟩
              exact qx r j false rfl hq2 (.inl rfl) H' dd s6 h6
            | true =>
              rw [hs, Bool.true_and, decide_eq_true_eq] at hsg
              k_extra "rr"
              rw [decide_eq_true (by omega)]
              k_extra "rr"
              refine rz ?_
              k_extra "rr"
              refine ⟨Nat.le_of_ble_eq_true rfl, fun a na2 => ini_ok err_ParseError.T n1 n2 na2 fun dd H' s6 h6 => ?_⟩
              exact qx r j false rfl hq2 (.inl rfl) H' dd s6 h6
      · have hjr2 : j = r.length := by omega
        have hc : r[j]? = none := by rw [hjr2]; simp
        have hq2 : rqF 0 r = (false, j) := by
          rw [← hq, hjr2, List.drop_length]
          rfl
        rw [hc, decide_eq_false (fun z => by cases z), Bool.not_false]
        k_extra "rr"
        refine ⟨_, fun _ _ h => h, ?_⟩
        k_extra "rr"
        rw [decide_eq_true (by rw [eS]; omega)]
        k_extra "rr"
        refine rz ?_
        k_extra "rr"
        refine ⟨Nat.le_of_ble_eq_true rfl, fun a na2 => ini_ok err_ParseError.T n1 n2 na2 fun dd H' s6 h6 => ?_⟩
        exact qx r j false rfl hq2 (.inl rfl) H' dd s6 h6
end

/-! ### _law_nested -/
def ivs (ms : List Int) : List V := ms.map V.int
/-- the rows (the last one first) and the forests that they hold -/
def RowsR (H : Hp) : List Addr → List Fo → Prop
  | [], [] => True
  | r :: rs, f :: fs => (∃ xs, H r = some (.lst xs) ∧ Items H f xs) ∧ RowsR H rs fs
  | _, _ => False
def sizes (fs : List Fo) : Nat := (fs.map Fo.size).sum
theorem RowsR.len {H : Hp} : ∀ {rs : List Addr} {fs : List Fo}, RowsR H rs fs → rs.length = fs.length
  | [], [], _ => rfl
  | _ :: _, _ :: _, h => by rw [List.length_cons, List.length_cons, h.2.len]
theorem RowsR.keep {H H' : Hp} (t : TupLe H H') : ∀ {rs : List Addr} {fs : List Fo}, (∀ r ∈ rs, ∀ xs, H r = some (.lst xs) → H' r = some (.lst xs)) → RowsR H rs fs → RowsR H' rs fs
  | [], [], _, _ => trivial
  | r :: rs, f :: fs, k, ⟨⟨xs, h, i⟩, q⟩ => ⟨⟨xs, k r (List.mem_cons_self ..) _ h, i.le t⟩, RowsR.keep t (fun r' m => k r' (List.mem_cons_of_mem _ m)) q⟩
theorem RowsR.mem {H : Hp} : ∀ {rs : List Addr} {fs : List Fo}, RowsR H rs fs → ∀ r ∈ rs, ∃ xs, H r = some (.lst xs)
  | _ :: _, _ :: _, ⟨⟨xs, h, _⟩, q⟩, r, m => by
    rcases List.mem_cons.mp m with rfl | m
    · exact ⟨xs, h⟩
    · exact q.mem r m
theorem RowsR.at {H : Hp} : ∀ {rs : List Addr} {fs : List Fo}, RowsR H rs fs → ∀ r ∈ rs, ∃ f xs, f ∈ fs ∧ H r = some (.lst xs) ∧ Items H f xs
  | _ :: _, _ :: _, ⟨⟨xs, h, i⟩, q⟩, r, m => by
    rcases List.mem_cons.mp m with rfl | m
    · exact ⟨_, xs, List.mem_cons_self .., h, i⟩
    · obtain ⟨f, ys, h1, h2, h3⟩ := q.at r m
      exact ⟨f, ys, List.mem_cons_of_mem _ h1, h2, h3⟩
theorem sizes_mem {f : Fo} : ∀ {fs : List Fo}, f ∈ fs → f.size ≤ sizes fs
  | g :: r, m => by
    have e : sizes (g :: r) = g.size + sizes r := rfl
    rcases List.mem_cons.mp m with rfl | m
    · omega
    · have := sizes_mem m
      omega
theorem ints_ne {K : PySem.W.Frag} {H : Hp} : ∀ (os : List Int), DpAll K H (ivs os) (os.map PyData.int)
  | [] => .nil
  | i :: r => .cons (.int i) (ints_ne r)
theorem lay_ints : ∀ os : List Int, PyData.canLayAll0 (os.map PyData.int) = true
  | [] => by simp [PyData.canLayAll0]
  | i :: r => by
    rw [List.map_cons]
    unfold PyData.canLayAll0
    rw [lay_ints r]
    simp [PyData.canLay0]
theorem depth_ints : ∀ os : List Int, PyData.depthAll (os.map PyData.int) = 0
  | [] => by simp [PyData.depthAll]
  | i :: r => by
    rw [List.map_cons]
    unfold PyData.depthAll
    rw [depth_ints r]
    simp [PyData.depth]
theorem shaped_ints (os : List Int) : SeqAt.shaped (.list (os.map PyData.int)) = true := by
  unfold SeqAt.shaped
  have h1 : PyData.canLay0 (.list (os.map PyData.int)) = true := by
    unfold PyData.canLay0
    exact lay_ints os
  have h2 : PyData.depth (.list (os.map PyData.int)) = 1 := by
    unfold PyData.depth
    rw [depth_ints]
  rw [h1, h2]
  rfl
theorem shaped_nilL : SeqAt.shaped (.list []) = true := by decide +kernel
theorem shaped_nilT : SeqAt.shaped (.tuple []) = true := by decide +kernel
theorem eqv_nilL : ∀ ds : List PyData, PyData.eqv (.list ds) (.list []) = ds.isEmpty
  | [] => by simp [PyData.eqv, PyData.eqvAll]
  | d :: r => by simp [PyData.eqv, PyData.eqvAll]
theorem eqv_nilT : ∀ ds : List PyData, PyData.eqv (.tuple ds) (.tuple []) = ds.isEmpty
  | [] => by simp [PyData.eqv, PyData.eqvAll]
  | d :: r => by simp [PyData.eqv, PyData.eqvAll]
theorem emp_map {α β : Type} (f : α → β) (l : List α) : (l.map f).isEmpty = l.isEmpty := by cases l <;> rfl
structure NI (H : Hp) (R O : Addr) (p : List Nat → List Nat → Prop) (i : Nat) (osr : List Int) (rs : List Addr) (fs : List Fo) (H' : Hp) : Prop where
  same : Same H H'
  fR : H R = none
  fO : H O = none
  hR : H' R = some (.lst (rs.reverse.map V.ref))
  hO : H' O = some (.lst (ivs osr.reverse))
  rows : RowsR H' rs fs
  len : rs.length = osr.length + 1
  nd : rs.Nodup
  nR : R ∉ rs
  nO : O ∉ rs
  RO : R ≠ O
  fresh : ∀ r ∈ rs, H r = none
  sz : 2 * sizes fs + osr.length ≤ i
  all : ∀ f ∈ fs, f.All p
theorem NI.new {H : Hp} {R O : Addr} {p : List Nat → List Nat → Prop} {i : Nat} {osr : List Int} {rs : List Addr} {fs : List Fo} {H' : Hp} {x : Addr} {o : HO} (h : NI H R O p i osr rs fs H') (n : H' x = none) : NI H R O p i osr rs fs (upd H' x o) :=
  { h with
    same := h.same.trans (same_upd n)
    hR := same_upd n _ _ h.hR
    hO := same_upd n _ _ h.hO
    rows := h.rows.keep (TupLe.new n) fun r _ xs e => same_upd n _ _ e }
theorem NI.open {H : Hp} {R O : Addr} {p : List Nat → List Nat → Prop} {i : Nat} {osr : List Int} {rs : List Addr} {fs : List Fo} {H' : Hp} {e : Addr} {mk : Int} (h : NI H R O p i osr rs fs H') (n : upd H' O (.lst (ivs osr.reverse ++ [.int mk])) e = none) :
    NI H R O p (i + 1) (mk :: osr) (e :: rs) (.nil :: fs) (upd (upd (upd H' O (.lst (ivs osr.reverse ++ [.int mk]))) e (.lst [])) R (.lst (rs.reverse.map V.ref ++ [.ref e]))) := by
  have n1 : H' e = none := un0 n
  have eO : e ≠ O := fun z => by
    rw [z, upd_same] at n
    cases n
  have eR : e ≠ R := (ne_of_none h.hR n1).symm
  have er : e ∉ rs := fun m => by
    obtain ⟨xs, q⟩ := h.rows.mem e m
    rw [n1] at q
    cases q
  have he : H e = none := by
    cases q : H e with
    | none => rfl
    | some o =>
      rw [h.same _ _ q] at n1
      cases n1
  have t1 : TupLe H' (upd H' O (.lst (ivs osr.reverse ++ [.int mk]))) := TupLe.lst h.hO
  have t2 := t1.trans (TupLe.new (o := .lst []) n)
  have hR2 : upd (upd H' O (.lst (ivs osr.reverse ++ [.int mk]))) e (.lst []) R = some (.lst (rs.reverse.map V.ref)) := same_upd n _ _ (upd2 h.RO h.hR)
  have t3 := t2.trans (TupLe.lst (m := rs.reverse.map V.ref ++ [.ref e]) hR2)
  refine {
    same := same_mut ((same_mut h.same h.fO).trans (same_upd n)) h.fR
    fR := h.fR
    fO := h.fO
    hR := ?_
    hO := ?_
    rows := ⟨⟨[], ?_, rfl⟩, h.rows.keep t3 fun r m xs q => ?_⟩
    len := (by rw [List.length_cons, List.length_cons, h.len])
    nd := List.nodup_cons.mpr ⟨er, h.nd⟩
    nR := fun m => ?_
    nO := fun m => ?_
    RO := h.RO
    fresh := fun r m => ?_
    sz := ?_
    all := fun f m => ?_ }
  · rw [upd_same, List.reverse_cons, List.map_append]
    rfl
  · rw [upd_ne h.RO.symm, upd_ne eO.symm, upd_same, List.reverse_cons]
    unfold ivs
    rw [List.map_append]
    rfl
  · rw [upd_ne eR, upd_same]
  · have mR : r ≠ R := fun z => h.nR (z ▸ m)
    have mO : r ≠ O := fun z => h.nO (z ▸ m)
    have me : r ≠ e := fun z => er (z ▸ m)
    rw [upd_ne mR, upd_ne me, upd_ne mO]
    exact q
  · rcases List.mem_cons.mp m with z | m
    · exact eR z.symm
    · exact h.nR m
  · rcases List.mem_cons.mp m with z | m
    · exact eO z.symm
    · exact h.nO m
  · rcases List.mem_cons.mp m with rfl | m
    · exact he
    · exact h.fresh r m
  · have := h.sz
    show 2 * (0 + sizes fs) + (osr.length + 1) ≤ i + 1
    omega
  · rcases List.mem_cons.mp m with rfl | m
    · trivial
    · exact h.all f m
theorem NI.close {H : Hp} {R O : Addr} {p : List Nat → List Nat → Prop} {i : Nat} {o : Int} {os : List Int} {rl rp : Addr} {rest : List Addr} {fl fp : Fo} {fr : List Fo} {H' : Hp} {q pn : Addr} {xl xp : List V} {k t : List Nat} (h : NI H R O p i (o :: os) (rl :: rp :: rest) (fl :: fp :: fr) H')
    (hl : H' rl = some (.lst xl)) (hp : H' rp = some (.lst xp)) (il : Items H' fl xl) (ip : Items H' fp xp) (hkt : p k t)
    (nq : upd (upd H' O (.lst (ivs os.reverse))) R (.lst ((rp :: rest).reverse.map V.ref)) q = none)
    (npn : upd (upd (upd H' O (.lst (ivs os.reverse))) R (.lst ((rp :: rest).reverse.map V.ref))) q (.tup xl) pn = none) :
    NI H R O p (i + 1) os (rp :: rest) (fp.snoc k t fl :: fr) (upd (upd (upd (upd (upd H' O (.lst (ivs os.reverse))) R (.lst ((rp :: rest).reverse.map V.ref))) q (.tup xl)) pn (.tup [.str (SX.S k), .str (SX.S t), .ref q])) rp (.lst (xp ++ [.ref pn]))) := by
  have nd := List.nodup_cons.mp h.nd
  have nd2 := List.nodup_cons.mp nd.2
  have mp_ : rp ∈ rl :: rp :: rest := List.mem_cons_of_mem _ (List.mem_cons_self ..)
  have pR : rp ≠ R := fun z => h.nR (z ▸ mp_)
  have pO : rp ≠ O := fun z => h.nO (z ▸ mp_)
  have t1 : TupLe H' (upd H' O (.lst (ivs os.reverse))) := TupLe.lst h.hO
  have hR1 : upd H' O (.lst (ivs os.reverse)) R = some (.lst ((rl :: rp :: rest).reverse.map V.ref)) := upd2 h.RO h.hR
  have t2 := t1.trans (TupLe.lst (m := (rp :: rest).reverse.map V.ref) hR1)
  have t3 := t2.trans (TupLe.new (o := .tup xl) nq)
  have t4 := t3.trans (TupLe.new (o := .tup [.str (SX.S k), .str (SX.S t), .ref q]) npn)
  have hp2 : upd (upd H' O (.lst (ivs os.reverse))) R (.lst ((rp :: rest).reverse.map V.ref)) rp = some (.lst xp) := upd2 pR (upd2 pO hp)
  have hp4 := same_upd (o := .tup [.str (SX.S k), .str (SX.S t), .ref q]) npn _ _ (same_upd (o := .tup xl) nq _ _ hp2)
  have t5 := t4.trans (TupLe.lst (m := xp ++ [.ref pn]) hp4)
  have t45 : TupLe _ _ := TupLe.lst (m := xp ++ [.ref pn]) hp4
  have hq4 : upd (upd (upd (upd H' O (.lst (ivs os.reverse))) R (.lst ((rp :: rest).reverse.map V.ref))) q (.tup xl)) pn (.tup [.str (SX.S k), .str (SX.S t), .ref q]) q = some (.tup xl) := same_upd npn _ _ upd_same
  obtain ⟨_, _, hrows⟩ := h.rows
  have qO : H O = none := h.fO
  have keepR : ∀ {c : Addr} {u : HO}, c ≠ rp → upd (upd H' O (.lst (ivs os.reverse))) R (.lst ((rp :: rest).reverse.map V.ref)) c = some u →
      upd (upd (upd (upd (upd H' O (.lst (ivs os.reverse))) R (.lst ((rp :: rest).reverse.map V.ref))) q (.tup xl)) pn (.tup [.str (SX.S k), .str (SX.S t), .ref q])) rp (.lst (xp ++ [.ref pn])) c = some u := fun nc e => upd2 nc (same_upd npn _ _ (same_upd nq _ _ e))
  refine {
    same := same_mut (((same_mut (same_mut h.same h.fO) h.fR).trans (same_upd nq)).trans (same_upd npn)) (h.fresh rp mp_)
    fR := h.fR
    fO := h.fO
    hR := keepR pR.symm upd_same
    hO := keepR pO.symm (upd2 h.RO.symm upd_same)
    rows := ⟨⟨xp ++ [.ref pn], upd_same, Items.snoc (t45 _ _ upd_same) (t45 _ _ hq4) (il.le t5) (ip.le t5)⟩, hrows.keep t5 fun r m xs e => ?_⟩
    len := ?_
    nd := nd.2
    nR := fun m => h.nR (List.mem_cons_of_mem _ m)
    nO := fun m => h.nO (List.mem_cons_of_mem _ m)
    RO := h.RO
    fresh := fun r m => h.fresh r (List.mem_cons_of_mem _ m)
    sz := ?_
    all := fun f m => ?_ }
  · have m2 : r ∈ rl :: rp :: rest := List.mem_cons_of_mem _ (List.mem_cons_of_mem _ m)
    exact keepR (fun z => nd2.1 (z ▸ m)) (upd2 (fun z => h.nR (z ▸ m2)) (upd2 (fun z => h.nO (z ▸ m2)) e))
  · have := h.len
    rw [List.length_cons, List.length_cons, List.length_cons] at this
    rw [List.length_cons]
    omega
  · have := h.sz
    have e : sizes (fl :: fp :: fr) = fl.size + (fp.size + sizes fr) := rfl
    have e2 : sizes (fp.snoc k t fl :: fr) = (fp.snoc k t fl).size + sizes fr := rfl
    rw [e, List.length_cons] at this
    rw [e2, Fo.size_snoc]
    omega
  · rcases List.mem_cons.mp m with rfl | m
    · exact Fo.all_snoc hkt (h.all fl (List.mem_cons_self ..)) (h.all fp (List.mem_cons_of_mem _ (List.mem_cons_self ..)))
    · exact h.all f (List.mem_cons_of_mem _ (List.mem_cons_of_mem _ m))
def spNested : Sp := fun vs H Q _ => ∃ (st m so tx : Addr) (ms : List Int) (ks ts : List (List Nat)) (p : List Nat → List Nat → Prop), vs = [.ref st] ∧ H st = some (.lst [.ref m, .ref so, .ref tx]) ∧ H m = some (.lst (ivs ms)) ∧ H so = some (.lst (kws ks)) ∧ H tx = some (.lst (kws ts)) ∧
  ms.length ≤ 100000 ∧ (∀ x ∈ ms, 0 ≤ x ∧ x < 2 ^ 62 ∧ ∃ k t, ks[x.toNat]? = some k ∧ ts[x.toNat]? = some t ∧ p k t) ∧
  ∀ (f : Fo) (a : Addr) (H' : Hp), Same H H' → Doc H' f a → 2 * f.size ≤ ms.length → f.All p → Q (.ref a) H'
section
variable {P : Program} {w : World} {K : PySem.W.Frag} {mg : Str → Option Value} {base : Heap} {f : Addr} {fd : FuncData}
theorem ok_law_nested (F : Fun K "_law_nested" "_law_nested" s_law_nested f fd) (T : Txt mg) : FnOk P w K mg base CX0 1 f fd ["_law_state"] spNested := by
  refine F.ok sc_law_nested (fun vs H Q E h => ?_) (fun cdv A outer s H vs Q E hr h => ?_)
  · obtain ⟨st, m, so, tx, ms, ks, ts, p, rfl, _⟩ := h
    rfl
  · obtain ⟨st, m, so, tx, ms, ks, ts, p, rfl, hst, hm, hso, htx, hl, hms, q⟩ := h
    refine ⟨_, (pss_cons (ps_par (i := 1) (j := 2) (by rfl) sc_law_nested.nd rfl rfl (by decide) rfl rfl (pa_cons (pe_lst (pa_cons (pe_lst pa_nil) pa_nil)) (pa_cons (pe_lst pa_nil) pa_nil)) (by rfl))
      (pss_cons (ps_for PassesOwn.never rfl (pi_listX K (pe_ix (ix_X K) (pv 0) pe_int (fun _ _ => rfl))) (pg_name (i := 3) sc_law_nested.nd rfl (.inl rfl)) (pss_one (ps_if (PW.pt (pw_and (pt_cmpR (op_neX K hr) (pv 2) (pe_lst pa_nil) (nomark _)) (pw_and1 (pt_cmpR (op_eqX K hr) (pe_ix (ix_X K) (pv 2) (pe_un un_neg pe_int) (fun _ _ => rfl)) (pv 3) (nomark _))))) (pss_cons (ps_expr (pe_bm0X K (pe_bm0 PySem.F.plainAttrs_list PySem.F.slot_list_pop PySem.F.type_list_pop mt_pop (pv 2))))
      (pss_cons (ps_set (i := 4) sc_law_nested.nd rfl (.inl rfl) (pe_callTy (cr_tuple K) (by rfl) T.tuple (by decide +kernel) (pa_cons (pe_bm0X K (pe_bm0 PySem.F.plainAttrs_list PySem.F.slot_list_pop PySem.F.type_list_pop mt_pop (pv 1))) pa_nil)))
      (pss_one (ps_expr (pe_bmX K (pe_bm PySem.F.plainAttrs_list PySem.F.slot_list_append PySem.F.type_list_append mt_append (pe_ix (ix_X K) (pv 1) (pe_un un_neg pe_int) (fun _ _ => rfl)) (pa_cons (pe_tup (pa_cons (pe_ix (ix_X K) (pe_ix (ix_X K) (pv 0) pe_int (fun _ _ => rfl)) (pv 3) (fun _ _ => rfl)) (pa_cons (pe_ix (ix_X K) (pe_ix (ix_X K) (pv 0) pe_int (fun _ _ => rfl)) (pv 3) (fun _ _ => rfl)) (pa_cons (pv 4) pa_nil)))) pa_nil))))))) (pss_cons (ps_expr (pe_bmX K (pe_bm PySem.F.plainAttrs_list PySem.F.slot_list_append PySem.F.type_list_append mt_append (pv 2) (pa_cons (pv 3) pa_nil))))
      (pss_one (ps_expr (pe_bmX K (pe_bm PySem.F.plainAttrs_list PySem.F.slot_list_append PySem.F.type_list_append mt_append (pv 1) (pa_cons (pe_lst pa_nil) pa_nil)))))))))
      (pss_one (ps_ret (pe_callTy (cr_tuple K) (by rfl) T.tuple (by decide +kernel) (pa_cons (pe_ix (ix_X K) (pv 1) pe_int (fun _ _ => rfl)) pa_nil)))))), ?_⟩
    change (_ : TS) _ [some (V.ref st), none, none, none, none] _
    k_extra "rr"
    refine ⟨by k_extra "sz", fun r0 nr0 => ?_⟩
    k_extra "rr"
    refine ⟨by k_extra "sz", fun R nR => ?_⟩
    k_extra "rr"
    refine ⟨by k_extra "sz", fun O nO => ?_⟩
    k_extra "rr"
    refine ixL (SqL.of (same_upd nO _ _ (same_upd nR _ _ (same_upd nr0 _ _ hst)))) rfl ?_
    have i0 : NI H R O p 0 [] [r0] [.nil] (upd (upd (upd H r0 (.lst [])) R (.lst [.ref r0])) O (.lst [])) := {
      same := ((same_upd nr0).trans (same_upd nR)).trans (same_upd nO)
      fR := un0 nR
      fO := un0 (un0 nO)
      hR := upd2 (ne_of_none upd_same nO) upd_same
      hO := upd_same
      rows := ⟨⟨[], same_upd nO _ _ (same_upd nR _ _ upd_same), rfl⟩, trivial⟩
      len := rfl
      nd := (by simp)
      nR := fun z => ne_of_none upd_same nR (List.mem_singleton.mp z).symm
      nO := fun z => ne_of_none (same_upd nR _ _ upd_same) nO (List.mem_singleton.mp z).symm
      RO := ne_of_none upd_same nO
      fresh := fun r z => (by rw [List.mem_singleton.mp z]; exact nr0)
      sz := Nat.le_refl _
      all := fun f z => (by rw [List.mem_singleton.mp z]; trivial) }
    refine ⟨m, rfl, ⟨_, SqL.of (i0.same _ _ hm)⟩, for_list (K := K) (a := m) (xs := ivs ms) (fun i σ H' => ∃ (rs : List Addr) (fs : List Fo) (osr : List Int) (v3 v4 : Option V), σ = [some (.ref st), some (.ref R), some (.ref O), v3, v4] ∧ NI H R O p i osr rs fs H')
      ⟨_, _, _, _, _, rfl, i0⟩ (fun i σ H' _ ⟨_, _, _, _, _, _, I⟩ => SqL.of (I.same _ _ hm)) ?_ ?_⟩
    · rintro i x σ H' hx ⟨rs, fs, osr, v3, v4, rfl, I⟩
      obtain ⟨mk, hmk, rfl⟩ := map_at hx
      obtain ⟨mk0, mk1, k, t, ek, et, hkt⟩ := hms mk (List.mem_of_getElem? hmk)
      k_extra "rr"
      refine ⟨by k_extra "sz", fun e0 ne0 => ?_⟩
      k_extra "rr"
      have I1 := I.new (o := .lst []) ne0
      refine neDd (d := .list (osr.reverse.map .int)) (e := .list []) (.lst (SqL.of I1.hO) (ints_ne _)) (.lst (SqL.of upd_same) .nil) (shaped_ints _) shaped_nilL ?_
      rw [eqv_nilL, emp_map]
      clear I
      have il : i < ms.length := (List.getElem?_eq_some_iff.mp hmk).1
      have hsz := I1.sz
      have hlen := I1.len
      rcases osr with _ | ⟨o, os⟩
      · rw [show (!([] : List Int).reverse.isEmpty) = false from rfl]
        rw [List.length_nil] at hsz hlen
        k_extra "rr"
        refine ⟨tyvL I1.hO, ?_⟩
        k_extra "rr"
        refine app I1.hO (by unfold ivs; rw [List.length_map, List.length_reverse, sizeLine_eq]; first | omega | (rw [List.length_nil]; omega) | (rw [List.length_cons]; omega)) ?_
        k_extra "rr"
        refine ⟨tyvL (upd2 I1.RO I1.hR), ?_⟩
        k_extra "rr"
        refine ⟨by k_extra "sz", fun e ne => ?_⟩
        k_extra "rr"
        refine app (same_upd ne _ _ (upd2 I1.RO I1.hR)) (by rw [List.length_map, List.length_reverse, sizeLine_eq]; omega) ?_
        k_extra "rr"
        exact ⟨_, _, _, _, _, rfl, I1.open ne⟩
      · rw [show (!(o :: os).reverse.isEmpty) = true by simp]
        rw [List.length_cons] at hsz hlen
        k_extra "rr"
        have hO2 : upd H' e0 (.lst []) O = some (.lst (ivs os.reverse ++ [.int o])) := by
          have := I1.hO
          rw [List.reverse_cons] at this
          unfold ivs at this
          rw [List.map_append] at this
          exact this
        refine ixL (SqL.of hO2) atI_last ?_
        k_extra "rr"
        by_cases z : o = mk
        · subst z
          rw [decide_eq_true rfl]
          k_extra "rr"
          refine ⟨tyvL hO2, popL hO2 ?_⟩
          k_extra "rr"
          obtain ⟨rl, rp, rest, rfl⟩ : ∃ rl rp rest, rs = rl :: rp :: rest := by
            match rs, hlen with
            | a :: b :: r, _ => exact ⟨a, b, r, rfl⟩
          obtain ⟨fl, fp, fr, rfl⟩ : ∃ fl fp fr, fs = fl :: fp :: fr := by
            have := I1.rows.len
            match fs, this with
            | a :: b :: r, _ => exact ⟨a, b, r, rfl⟩
          obtain ⟨⟨xl, hxl, ixl⟩, ⟨xp, hxp, ixp⟩, _⟩ := id I1.rows
          have mp_ : rp ∈ rl :: rp :: rest := List.mem_cons_of_mem _ (List.mem_cons_self ..)
          have ml_ : rl ∈ rl :: rp :: rest := List.mem_cons_self ..
          have pR : rp ≠ R := fun z => I1.nR (z ▸ mp_)
          have pO : rp ≠ O := fun z => I1.nO (z ▸ mp_)
          have lR : rl ≠ R := fun z => I1.nR (z ▸ ml_)
          have lO : rl ≠ O := fun z => I1.nO (z ▸ ml_)
          have hR1 : upd (upd H' e0 (.lst [])) O (.lst (ivs os.reverse)) R = some (.lst ((rp :: rest).reverse.map V.ref ++ [V.ref rl])) := by
            have := I1.hR
            rw [List.reverse_cons, List.map_append] at this
            exact upd2 I1.RO this
          refine ⟨tyvL hR1, popL hR1 ?_⟩
          k_extra "rr"
          refine tupL (SqL.of (upd2 lR (upd2 lO hxl))) fun q0 nq => ?_
          k_extra "rr"
          have hR3 : upd (upd (upd (upd H' e0 (.lst [])) O (.lst (ivs os.reverse))) R (.lst ((rp :: rest).reverse.map V.ref))) q0 (.tup xl) R = some (.lst (rest.reverse.map V.ref ++ [V.ref rp])) := by
            rw [same_upd nq _ _ upd_same, List.reverse_cons, List.map_append]
            rfl
          refine ixL (SqL.of hR3) atI_last ?_
          have hp3 := same_upd (o := .tup xl) nq _ _ (upd2 (o := .lst ((rp :: rest).reverse.map V.ref)) pR (upd2 (o := .lst (ivs os.reverse)) pO hxp))
          refine ⟨tyvL hp3, ?_⟩
          k_extra "rr"
          have sm : Same H (upd (upd (upd (upd H' e0 (.lst [])) O (.lst (ivs os.reverse))) R (.lst ((rp :: rest).reverse.map V.ref))) q0 (.tup xl)) := (same_mut (same_mut I1.same I1.fO) I1.fR).trans (same_upd nq)
          refine ixL (SqL.of (sm _ _ hst)) rfl ?_
          k_extra "rr"
          have ek' : atI (kws ks) o = some (.str (SX.S k)) := by
            have e := atI_nat (xs := kws ks) (j := o.toNat) (v := .str (SX.S k)) (by unfold kws; rw [List.getElem?_map, ek]; rfl)
            rw [show ((o.toNat : Nat) : Int) = o by omega] at e
            exact e
          have et' : atI (kws ts) o = some (.str (SX.S t)) := by
            have e := atI_nat (xs := kws ts) (j := o.toNat) (v := .str (SX.S t)) (by unfold kws; rw [List.getElem?_map, et]; rfl)
            rw [show ((o.toNat : Nat) : Int) = o by omega] at e
            exact e
          refine ixL (SqL.of (sm _ _ hso)) ek' ?_
          k_extra "rr"
          refine ixL (SqL.of (sm _ _ hst)) rfl ?_
          k_extra "rr"
          refine ixL (SqL.of (sm _ _ htx)) et' ?_
          k_extra "rr"
          refine ⟨by k_extra "sz", fun pn npn => ?_⟩
          k_extra "rr"
          have hlp := ixp.len
          have hfp : fp.len ≤ fp.size := Fo.len_le fp
          have hss : sizes (fl :: fp :: fr) = fl.size + (fp.size + sizes fr) := rfl
          refine app (same_upd npn _ _ hp3) (by rw [sizeLine_eq]; omega) ?_
          k_extra "rr"
          exact ⟨_, _, _, _, _, rfl, I1.close hxl hxp ixl ixp hkt nq npn⟩
        · rw [decide_eq_false z]
          k_extra "rr"
          refine ⟨tyvL I1.hO, ?_⟩
          k_extra "rr"
          refine app I1.hO (by unfold ivs; rw [List.length_map, List.length_reverse, sizeLine_eq]; first | omega | (rw [List.length_nil]; omega) | (rw [List.length_cons]; omega)) ?_
          k_extra "rr"
          refine ⟨tyvL (upd2 I1.RO I1.hR), ?_⟩
          k_extra "rr"
          refine ⟨by k_extra "sz", fun e ne => ?_⟩
          k_extra "rr"
          refine app (same_upd ne _ _ (upd2 I1.RO I1.hR)) (by rw [List.length_map, List.length_reverse, sizeLine_eq]; omega) ?_
          k_extra "rr"
          exact ⟨_, _, _, _, _, rfl, I1.open ne⟩
    · rintro σ H' ⟨rs, fs, osr, v3, v4, rfl, I⟩
      k_extra "rr"
      have hlen := I.len
      obtain ⟨g, r0', hg⟩ : ∃ g r0', rs.reverse = g :: r0' := by
        cases e : rs.reverse with
        | nil =>
          rw [List.reverse_eq_nil_iff.mp e] at hlen
          cases hlen
        | cons a l => exact ⟨a, l, rfl⟩
      have hR2 := I.hR
      rw [hg, List.map_cons] at hR2
      refine ixL (SqL.of hR2) (atI_nat (j := 0) rfl) ?_
      obtain ⟨fg, xs, hfg, hx, ix⟩ := I.rows.at g (by rw [← List.mem_reverse, hg]; exact List.mem_cons_self ..)
      refine tupL (SqL.of hx) fun a na => ?_
      have hsz := I.sz
      unfold ivs at hsz
      rw [List.length_map] at hsz
      have hs2 := sizes_mem hfg
      exact q fg a _ (I.same.trans (same_upd na)) ⟨xs, upd_same, ix.le (TupLe.new na)⟩ (by omega) (I.all fg hfg)
end

/-! ### _law_document -/
def spDocument : Sp := fun vs H Q _ => ∃ (b r ka : Addr) (many : Int) (ks : List (List Nat)), vs = [.ref b, .ref ka, .int many] ∧ BagAt H b r ∧ ka ≠ b ∧ H ka = some (.lst (kws ks)) ∧ 1 ≤ ks.length ∧ ks.length ≤ 1000 ∧ 0 ≤ many ∧ many ≤ 1000 ∧
  ∀ (f : Fo) (a : Addr) (H' : Hp), But b H H' → BagAt H' b r → Doc H' f a → (f.size : Int) ≤ many → f.All (fun k t => k ∈ ks ∧ t.length ≤ 3 ∧ ∀ c ∈ t, c ∈ signsL) → Q (.ref a) H'
structure DI (H : Hp) (b r M O S X : Addr) (ks : List (List Nat)) (j a c : Nat) (ms osr : List Int) (sk tk : List (List Nat)) (H' : Hp) : Prop where
  b0 : BagAt H b r
  but : But b H H'
  bag : BagAt H' b r
  fM : H M = none
  fO : H O = none
  fS : H S = none
  fX : H X = none
  hM : H' M = some (.lst (ivs ms))
  hO : H' O = some (.lst (ivs osr.reverse))
  hS : H' S = some (.lst (kws sk))
  hX : H' X = some (.lst (kws tk))
  MO : M ≠ O
  MS : M ≠ S
  MX : M ≠ X
  OS : O ≠ S
  OX : O ≠ X
  SX_ : S ≠ X
  cnt : ms.length + osr.length = 2 * j
  la : sk.length = a
  lc : tk.length = c
  om : ∀ x ∈ ms, 0 ≤ x ∧ x < j
  oo : ∀ x ∈ osr, 0 ≤ x ∧ x < j
  ok : ∀ k ∈ sk, k ∈ ks
  ot : ∀ t ∈ tk, t.length ≤ 3 ∧ ∀ c ∈ t, c ∈ signsL
section
variable {H H' H2 : Hp} {b r M O S X x : Addr} {ks sk tk : List (List Nat)} {j a c : Nat} {ms osr os : List Int} {o : Int} {u : HO}
theorem DI.bagged (h : DI H b r M O S X ks j a c ms osr sk tk H') (bb : But b H' H2) (hb : BagAt H2 b r) : DI H b r M O S X ks j a c ms osr sk tk H2 :=
  { h with
    but := h.but.trans bb
    bag := hb
    hM := bb _ _ h.hM (h.b0.ne_none h.fM).1
    hO := bb _ _ h.hO (h.b0.ne_none h.fO).1
    hS := bb _ _ h.hS (h.b0.ne_none h.fS).1
    hX := bb _ _ h.hX (h.b0.ne_none h.fX).1 }
theorem DI.new (h : DI H b r M O S X ks j a c ms osr sk tk H') (n : H' x = none) : DI H b r M O S X ks j a c ms osr sk tk (upd H' x u) :=
  h.bagged (But.new n) (h.bag.new n)
/-- what is new to the start may change -/
theorem bag_mut {m : List V} {l : List V} (b0 : BagAt H b r) (fx : H x = none) (hb : BagAt H' b r) (hx : H' x = some (.lst l)) : BagAt (upd H' x (.lst m)) b r := by
  obtain ⟨n1, n2⟩ := b0.ne_none fx
  obtain ⟨ns, i, c, m, h1, h2, h3⟩ := hb
  exact ⟨ns, i, c, m, upd2 n1.symm h1, upd2 n2.symm h2, h3⟩
theorem DI.move (h : DI H b r M O S X ks j a c ms (o :: os) sk tk H') : DI H b r M O S X ks j a c (ms ++ [o]) os sk tk (upd (upd H' O (.lst (ivs os.reverse))) M (.lst (ivs ms ++ [.int o]))) :=
  { h with
    but := (h.but.mutNew h.fO).mutNew h.fM
    bag := bag_mut h.b0 h.fM (bag_mut h.b0 h.fO h.bag h.hO) (upd2 h.MO h.hM)
    hM := (by rw [upd_same]; unfold ivs; rw [List.map_append]; rfl)
    hO := upd2 h.MO.symm upd_same
    hS := upd2 h.MS.symm (upd2 h.OS.symm h.hS)
    hX := upd2 h.MX.symm (upd2 h.OX.symm h.hX)
    cnt := (by
      have := h.cnt
      rw [List.length_cons] at this
      rw [List.length_append, List.length_singleton]
      omega)
    om := fun x hx => (by
      rcases List.mem_append.mp hx with hx | hx
      · exact h.om x hx
      · rw [List.mem_singleton.mp hx]
        exact h.oo o (List.mem_cons_self ..))
    oo := fun x hx => h.oo x (List.mem_cons_of_mem _ hx) }
theorem DI.mark (h : DI H b r M O S X ks j a c ms osr sk tk H') (ho : o = (j : Int)) : DI H b r M O S X ks (j + 1) a c (ms ++ [o]) (o :: osr) sk tk (upd (upd H' M (.lst (ivs ms ++ [.int o]))) O (.lst (ivs osr.reverse ++ [.int o]))) :=
  { h with
    but := (h.but.mutNew h.fM).mutNew h.fO
    bag := bag_mut h.b0 h.fO (bag_mut h.b0 h.fM h.bag h.hM) (upd2 h.MO.symm h.hO)
    hM := (by rw [upd_ne h.MO, upd_same]; unfold ivs; rw [List.map_append]; rfl)
    hO := (by rw [upd_same]; unfold ivs; rw [List.reverse_cons, List.map_append]; rfl)
    hS := upd2 h.OS.symm (upd2 h.MS.symm h.hS)
    hX := upd2 h.OX.symm (upd2 h.MX.symm h.hX)
    cnt := (by
      have := h.cnt
      rw [List.length_append, List.length_singleton, List.length_cons]
      omega)
    om := fun x hx => (by
      rcases List.mem_append.mp hx with hx | hx
      · have := h.om x hx
        omega
      · rw [List.mem_singleton.mp hx]
        omega)
    oo := fun x hx => (by
      rcases List.mem_cons.mp hx with hx | hx
      · rw [hx]
        omega
      · have := h.oo x hx
        omega) }
theorem DI.kind {k : List Nat} (h : DI H b r M O S X ks j a c ms osr sk tk H') (hk : k ∈ ks) : DI H b r M O S X ks j (a + 1) c ms osr (sk ++ [k]) tk (upd H' S (.lst (kws sk ++ [.str (SX.S k)]))) :=
  { h with
    but := h.but.mutNew h.fS
    bag := bag_mut h.b0 h.fS h.bag h.hS
    hM := upd2 h.MS h.hM
    hO := upd2 h.OS h.hO
    hS := (by rw [upd_same]; unfold kws; rw [List.map_append]; rfl)
    hX := upd2 h.SX_.symm h.hX
    la := (by rw [List.length_append, List.length_singleton, h.la])
    ok := fun x hx => (by
      rcases List.mem_append.mp hx with hx | hx
      · exact h.ok x hx
      · rw [List.mem_singleton.mp hx]
        exact hk) }
theorem DI.text {t : List Nat} (h : DI H b r M O S X ks j a c ms osr sk tk H') (ht : t.length ≤ 3 ∧ ∀ c ∈ t, c ∈ signsL) : DI H b r M O S X ks j a (c + 1) ms osr sk (tk ++ [t]) (upd H' X (.lst (kws tk ++ [.str (SX.S t)]))) :=
  { h with
    but := h.but.mutNew h.fX
    bag := bag_mut h.b0 h.fX h.bag h.hX
    hM := upd2 h.MX h.hM
    hO := upd2 h.OX h.hO
    hS := upd2 h.SX_ h.hS
    hX := (by rw [upd_same]; unfold kws; rw [List.map_append]; rfl)
    lc := (by rw [List.length_append, List.length_singleton, h.lc])
    ot := fun x hx => (by
      rcases List.mem_append.mp hx with hx | hx
      · exact h.ot x hx
      · rw [List.mem_singleton.mp hx]
        exact ht) }
end
section
variable {P : Program} {w : World} {K : PySem.W.Frag} {mg : Str → Option Value} {base : Heap} {f : Addr} {fd : FuncData}
theorem ok_law_document (F : Fun K "_law_document" "_law_document" s_law_document f fd) (T : Txt mg) (c_law_take : Cal P w K mg base 1 "_law_take" spTake) (c_law_of : Cal P w K mg base 2 "_law_of" (spOf K)) (c_law_sign_text : Cal P w K mg base 2 "_law_sign_text" spSign) (c_law_nested : Cal P w K mg base 1 "_law_nested" spNested) :
    FnOk P w K mg base CX0 3 f fd ["_law_bag_z", "_law_kinds", "_law_many"] spDocument := by
  refine F.ok sc_law_document (fun vs H Q E h => ?_) (fun cdv A outer s H vs Q E hr h => ?_)
  · obtain ⟨b, r, ka, many, ks, rfl, _⟩ := h
    rfl
  · obtain ⟨b, r, ka, many, ks, rfl, hb, nkb, hka, k0, k1, m0, m1, q⟩ := h
    refine ⟨_, (pss_cons (ps_asg (pe_tup (pa_cons (pe_lst pa_nil) (pa_cons (pe_lst pa_nil) (pa_cons (pe_lst pa_nil) (pa_cons (pe_lst pa_nil) pa_nil))))) (pg_tupX K (pg_tup (n := 4) (by rfl) (pgs_cons (pg_name (i := 3) sc_law_document.nd rfl (.inl rfl)) (pgs_cons (pg_name (i := 4) sc_law_document.nd rfl (.inl rfl)) (pgs_cons (pg_name (i := 5) sc_law_document.nd rfl (.inl rfl)) (pgs_cons (pg_name (i := 6) sc_law_document.nd rfl (.inl rfl)) pgs_nil)))))))
      (pss_cons (ps_for PassesOwn.never rfl (pi_range1 (by rfl) T.range (pa_cons (pe_c c_law_take hr (by omega) (by rfl) (pa_cons (pv 0) (pa_cons (pe_op (op_addX K) (pv 2) pe_int) pa_nil))) pa_nil)) (pg_name (i := 7) sc_law_document.nd rfl (.inl rfl)) (pss_cons (ps_for PassesOwn.never rfl (pi_range1 (by rfl) T.range (pa_cons (pe_c c_law_take hr (by omega) (by rfl) (pa_cons (pv 0) (pa_cons (pe_op (op_addX K) (pe_callB (call_lenX K) (by rfl) T.len PySem.boot_len (pa_cons (pv 4) pa_nil)) pe_int) pa_nil))) pa_nil)) (pg_name (i := 8) sc_law_document.nd rfl (.inl rfl)) (pss_one (ps_expr (pe_bmX K (pe_bm PySem.F.plainAttrs_list PySem.F.slot_list_append PySem.F.type_list_append mt_append (pv 3) (pa_cons (pe_bm0X K (pe_bm0 PySem.F.plainAttrs_list PySem.F.slot_list_pop PySem.F.type_list_pop mt_pop (pv 4))) pa_nil))))))
      (pss_cons (ps_if (pt_cmpR op_gt (pe_callB (call_lenX K) (by rfl) T.len PySem.boot_len (pa_cons (pv 4) pa_nil)) pe_int (nomark _)) (pss_one (ps_expr (pe_bmX K (pe_bm PySem.F.plainAttrs_list PySem.F.slot_list_append PySem.F.type_list_append mt_append (pv 3) (pa_cons (pe_bm0X K (pe_bm0 PySem.F.plainAttrs_list PySem.F.slot_list_pop PySem.F.type_list_pop mt_pop (pv 4))) pa_nil))))) pss_nil)
      (pss_cons (ps_expr (pe_bmX K (pe_bm PySem.F.plainAttrs_list PySem.F.slot_list_append PySem.F.type_list_append mt_append (pv 3) (pa_cons (pv 7) pa_nil))))
      (pss_cons (ps_expr (pe_bmX K (pe_bm PySem.F.plainAttrs_list PySem.F.slot_list_append PySem.F.type_list_append mt_append (pv 4) (pa_cons (pv 7) pa_nil))))
      (pss_cons (ps_expr (pe_bmX K (pe_bm PySem.F.plainAttrs_list PySem.F.slot_list_append PySem.F.type_list_append mt_append (pv 5) (pa_cons (pe_c c_law_of hr (by omega) (by rfl) (pa_cons (pv 0) (pa_cons (pv 1) pa_nil))) pa_nil))))
      (pss_one (ps_expr (pe_bmX K (pe_bm PySem.F.plainAttrs_list PySem.F.slot_list_append PySem.F.type_list_append mt_append (pv 6) (pa_cons (pe_c c_law_sign_text hr (by omega) (by rfl) (pa_cons (pv 0) (pa_cons pe_int pa_nil))) pa_nil)))))))))))
      (pss_one (ps_ret (pe_c c_law_nested hr (by omega) (by rfl) (pa_cons (pe_lst (pa_cons (pe_op (op_addX K) (pv 3) (pe_revLX K (pv 4))) (pa_cons (pv 5) (pa_cons (pv 6) pa_nil)))) pa_nil)))))), ?_⟩
    change (_ : TS) _ [some (V.ref b), some (V.ref ka), some (V.int many), none, none, none, none, none, none] _
    k_extra "rr"
    refine ⟨by k_extra "sz", fun M nM => ?_⟩
    k_extra "rr"
    refine ⟨by k_extra "sz", fun O nO => ?_⟩
    k_extra "rr"
    refine ⟨by k_extra "sz", fun S nS => ?_⟩
    k_extra "rr"
    refine ⟨by k_extra "sz", fun X nX => ?_⟩
    k_extra "rr"
    refine ⟨by k_extra "sz", fun tp ntp => ?_⟩
    have i0 : DI H b r M O S X ks 0 0 0 [] [] [] [] (upd (upd (upd (upd (upd H M (.lst [])) O (.lst [])) S (.lst [])) X (.lst [])) tp (.tup [.ref M, .ref O, .ref S, .ref X])) := by
      have nXX : upd (upd (upd H M (.lst [])) O (.lst [])) S (.lst []) X = none := nX
      refine DI.new ?_ ntp
      refine {
        b0 := hb
        but := (((But.new nM).trans (But.new nO)).trans (But.new nS)).trans (But.new nX)
        bag := (((hb.new nM).new nO).new nS).new nX
        fM := nM
        fO := un0 nO
        fS := un0 (un0 nS)
        fX := un0 (un0 (un0 nX))
        hM := same_upd nX _ _ (same_upd nS _ _ (same_upd nO _ _ upd_same))
        hO := same_upd nX _ _ (same_upd nS _ _ upd_same)
        hS := same_upd nX _ _ upd_same
        hX := upd_same
        MO := ne_of_none upd_same nO
        MS := ne_of_none (same_upd nO _ _ upd_same) nS
        MX := ne_of_none (same_upd nS _ _ (same_upd nO _ _ upd_same)) nX
        OS := ne_of_none upd_same nS
        OX := ne_of_none (same_upd nS _ _ upd_same) nX
        SX_ := ne_of_none upd_same nX
        cnt := rfl
        la := rfl
        lc := rfl
        om := fun x hx => nomatch hx
        oo := fun x hx => nomatch hx
        ok := fun x hx => nomatch hx
        ot := fun x hx => nomatch hx }
    generalize hH5 : upd (upd (upd (upd (upd H M (.lst [])) O (.lst [])) S (.lst [])) X (.lst [])) tp (.tup [.ref M, .ref O, .ref S, .ref X]) = H5 at i0
    have htp : H5 tp = some (.tup [.ref M, .ref O, .ref S, .ref X]) := by
      rw [← hH5, upd_same]
    clear hH5
    k_extra "rr"
    refine ⟨b, r, _, rfl, i0.bag, by omega, by omega, fun n H6 bb6 hb6 n0 n1 => ?_⟩
    have i1 := i0.bagged bb6 hb6
    k_extra "rr"
    refine for_range (lo := 0) (n := n.toNat) (fun i σ H' => ∃ (ms osr : List Int) (sk tk : List (List Nat)) (v7 v8 : Option V), σ = [some (.ref b), some (.ref ka), some (.int many), some (.ref M), some (.ref O), some (.ref S), some (.ref X), v7, v8] ∧ DI H b r M O S X ks i i i ms osr sk tk H')
      ⟨_, _, _, _, _, _, rfl, i1⟩ ?_ ?_
    · rintro i σ H' hi ⟨ms, osr, sk, tk, v7, v8, rfl, I⟩
      rw [Int.zero_add]
      have hil : (i : Int) ≤ many := by omega
      have lenO : ∀ os : List Int, (ivs os.reverse).length = os.length := fun os => by unfold ivs; rw [List.length_map, List.length_reverse]
      have lenM : ∀ os : List Int, (ivs os).length = os.length := fun os => by unfold ivs; rw [List.length_map]
      k_extra "rr"
      refine lenL (SqL.of I.hO) ?_
      rw [lenO]
      have hcnt := I.cnt
      k_extra "rr"
      refine ⟨b, r, _, rfl, I.bag, by omega, by omega, fun t H2 bb2 hb2 t0 t1 => ?_⟩
      have I2 := I.bagged bb2 hb2
      k_extra "rr"
      refine for_range (lo := 0) (n := t.toNat) (fun s σ H' => ∃ (ms1 osr1 : List Int) (v8 : Option V), σ = [some (.ref b), some (.ref ka), some (.int many), some (.ref M), some (.ref O), some (.ref S), some (.ref X), some (.int i), v8] ∧ osr1.length + s = osr.length ∧ DI H b r M O S X ks i i i ms1 osr1 sk tk H')
        ⟨ms, osr, _, rfl, rfl, I2⟩ ?_ ?_
      · rintro s0 σ H3 hs ⟨ms1, osr1, v8', rfl, hl, I3⟩
        have hcnt := I3.cnt
        k_extra "rr"
        refine ⟨tyvL I3.hM, ?_⟩
        k_extra "rr"
        obtain ⟨o, os, rfl⟩ : ∃ o os, osr1 = o :: os := by
          cases osr1 with
          | nil =>
            rw [List.length_nil] at hl
            omega
          | cons o os => exact ⟨o, os, rfl⟩
        have hO2 : H3 O = some (.lst (ivs os.reverse ++ [.int o])) := by
          have := I3.hO
          rw [List.reverse_cons] at this
          unfold ivs at this
          rw [List.map_append] at this
          exact this
        refine ⟨tyvL hO2, popL hO2 ?_⟩
        k_extra "rr"
        refine app (upd2 I3.MO I3.hM) (by rw [lenM, sizeLine_eq]; omega) ?_
        k_extra "rr"
        rw [List.length_cons] at hl
        exact ⟨_, _, _, rfl, by omega, I3.move⟩
      · rintro σ H3 ⟨ms1, osr1, v8', rfl, hl, I3⟩
        k_extra "rr"
        refine lenL (SqL.of I3.hO) ?_
        k_extra "rr"
        rw [lenO]
        refine iteD (fun hc => ?yes) (fun hc => ?no)
        case' yes =>
          have hcnt := I3.cnt
          k_extra "rr"
          refine ⟨tyvL I3.hM, ?_⟩
          k_extra "rr"
          obtain ⟨o, os, rfl⟩ : ∃ o os, osr1 = o :: os := by
            cases osr1 with
            | nil =>
              rw [List.length_nil] at hc
              omega
            | cons o os => exact ⟨o, os, rfl⟩
          have hO2 : H3 O = some (.lst (ivs os.reverse ++ [.int o])) := by
            have := I3.hO
            rw [List.reverse_cons] at this
            unfold ivs at this
            rw [List.map_append] at this
            exact this
          refine ⟨tyvL hO2, popL hO2 ?_⟩
          k_extra "rr"
          refine app (upd2 I3.MO I3.hM) (by rw [lenM, sizeLine_eq]; omega) ?_
          have I4 := I3.move
          generalize upd (upd H3 O (.lst (ivs os.reverse))) M (.lst (ivs ms1 ++ [.int o])) = H4 at I4
        case' no =>
          have I4 := I3
          generalize H3 = H4 at I4
        all_goals
          k_extra "rr"
          have hcnt2 := I4.cnt
          refine ⟨tyvL I4.hM, ?_⟩
          k_extra "rr"
          refine app I4.hM (by rw [lenM, sizeLine_eq]; omega) ?_
          k_extra "rr"
          refine ⟨tyvL (upd2 I4.MO.symm I4.hO), ?_⟩
          k_extra "rr"
          refine app (upd2 I4.MO.symm I4.hO) (by rw [lenO, sizeLine_eq]; omega) ?_
          k_extra "rr"
          have I5 := I4.mark (o := i) rfl
          refine ⟨tyvL I5.hS, ?_⟩
          k_extra "rr"
          refine ⟨b, r, _, rfl, I5.bag, .inr ⟨ka, _, rfl, nkb, SqL.of (I5.but _ _ hka nkb), by unfold kws; rw [List.length_map]; omega, by unfold kws; rw [List.length_map]; omega, fun i2 v2 H6 hv bb6 hb6 => ?_⟩⟩
          obtain ⟨kd, hkd, rfl⟩ := map_at hv
          have I6 := I5.bagged bb6 hb6
          have hla := I6.la
          have hlc := I6.lc
          k_extra "rr"
          refine app I6.hS (by unfold kws; rw [List.length_map, sizeLine_eq]; omega) ?_
          have I7 := I6.kind (List.mem_of_getElem? hkd)
          k_extra "rr"
          refine ⟨tyvL I7.hX, ?_⟩
          k_extra "rr"
          refine ⟨b, r, 3, rfl, I7.bag, by omega, by omega, fun lt H8 hlt hsg bb8 hb8 => ?_⟩
          have I8 := I7.bagged bb8 hb8
          k_extra "rr"
          refine app I8.hX (by unfold kws; rw [List.length_map, sizeLine_eq]; omega) ?_
          have I9 := I8.text (t := lt) ⟨by omega, hsg⟩
          k_extra "rr"
          exact ⟨_, _, _, _, _, _, rfl, I9⟩
    · rintro σ H' ⟨ms, osr, sk, tk, v7, v8, rfl, I⟩
      k_extra "rr"
      refine ⟨O, _, rfl, SqL.of I.hO, fun y ny => ?_⟩
      have I2 := I.new (u := .lst (ivs osr.reverse).reverse) ny
      have hcnt := I.cnt
      have hrr : (ivs osr.reverse).reverse = ivs osr := by unfold ivs; rw [← List.map_reverse, List.reverse_reverse]
      refine addL I2.hM upd_same (by rw [hrr]; unfold ivs; rw [List.length_map, List.length_map, sizeLine_eq]; omega) fun z nz => ?_
      have I3 := I2.new (u := .lst (ivs ms ++ (ivs osr.reverse).reverse)) nz
      k_extra "rr"
      refine ⟨by k_extra "sz", fun st nst => ?_⟩
      have I4 := I3.new (u := .lst [.ref z, .ref S, .ref X]) nst
      k_extra "rr"
      have hz : ivs ms ++ (ivs osr.reverse).reverse = ivs (ms ++ osr) := by rw [hrr]; unfold ivs; rw [List.map_append]
      refine ⟨st, z, S, X, ms ++ osr, sk, tk, fun k t => k ∈ ks ∧ t.length ≤ 3 ∧ ∀ c ∈ t, c ∈ signsL, rfl, upd_same, by rw [← hz]; exact same_upd nst _ _ upd_same, I4.hS, I4.hX, by rw [List.length_append]; omega, fun x hx => ?_, fun f a H9 s9 hd hs ha => ?_⟩
      · obtain ⟨x0, x1⟩ : 0 ≤ x ∧ x < n.toNat := by
          rcases List.mem_append.mp hx with hx | hx
          · exact I.om x hx
          · exact I.oo x hx
        have hk : x.toNat < sk.length := by rw [I.la]; omega
        have ht : x.toNat < tk.length := by rw [I.lc]; omega
        exact ⟨x0, by omega, sk[x.toNat], tk[x.toNat], List.getElem?_eq_getElem hk, List.getElem?_eq_getElem ht, I.ok _ (List.getElem_mem hk), I.ot _ (List.getElem_mem ht)⟩
      · rw [List.length_append] at hs
        exact q f a H9 (I4.but.trans (But.of_same s9)) (I4.bag.same s9) hd (by omega) ha
end

/-! ### texts of documents -/
namespace Fo
def isNil : Fo → Bool
  | nil => true
  | cons _ _ _ _ => false
def get : Fo → Nat → Option (List Nat × List Nat × Fo)
  | nil, _ => none
  | cons k t i _, 0 => some (k, t, i)
  | cons _ _ _ r, j + 1 => r.get j
end Fo
def headT (k t : List Nat) : List Nat := k ++ (if t = [] then [] else 34 :: (t ++ [34]))
def sepT : Fo → List Nat → List Nat
  | .nil, _ => []
  | .cons _ _ _ _, w => 32 :: w
def parT : Fo → List Nat → List Nat
  | .nil, _ => []
  | .cons _ _ _ _, w => 40 :: (w ++ [41])
def wr : Fo → List Nat
  | .nil => []
  | .cons k t i r => headT k t ++ parT i (wr i) ++ sepT r (wr r)
def nw (k t : List Nat) (i : Fo) : List Nat := headT k t ++ parT i (wr i)
def nws : Fo → List (List Nat)
  | .nil => []
  | .cons k t i r => nw k t i :: nws r
theorem wr_join : ∀ f : Fo, TL.joinL [32] (nws f) = wr f
  | .nil => rfl
  | .cons k t i .nil => by
    show nw k t i = nw k t i ++ []
    rw [List.append_nil]
  | .cons k t i (.cons k2 t2 i2 r2) => by
    show nw k t i ++ ([32] ++ TL.joinL [32] (nws (.cons k2 t2 i2 r2))) = nw k t i ++ 32 :: wr (.cons k2 t2 i2 r2)
    rw [wr_join (.cons k2 t2 i2 r2)]
    rfl
/-- kinds and texts as the documents have them -/
def GN (k t : List Nat) : Prop := (∀ c ∈ k, c ∈ letters) ∧ 1 ≤ k.length ∧ k.length ≤ 6 ∧ t.length ≤ 20 ∧ ∀ c ∈ t, signB c = true
abbrev GF (f : Fo) : Prop := f.All GN
theorem head_len {k t : List Nat} (h : GN k t) : (headT k t).length ≤ 28 := by
  obtain ⟨_, h1, h2, h3, _⟩ := h
  unfold headT
  rw [List.length_append]
  by_cases z : t = []
  · rw [if_pos z, List.length_nil]
    omega
  · rw [if_neg z, List.length_cons, List.length_append, List.length_singleton]
    omega
theorem wr_len : ∀ {f : Fo}, GF f → (wr f).length ≤ 31 * f.size
  | .nil, _ => Nat.le_refl 0
  | .cons k t i r, ⟨h1, h2, h3⟩ => by
    have a1 := head_len h1
    have a2 := wr_len h2
    have a3 := wr_len h3
    have b2 : (parT i (wr i)).length ≤ (wr i).length + 2 := by
      cases i with
      | nil => exact Nat.zero_le _
      | cons _ _ _ _ =>
        show (40 :: (_ ++ [41])).length ≤ _
        rw [List.length_cons, List.length_append, List.length_singleton]
        omega
    have b3 : (sepT r (wr r)).length ≤ (wr r).length + 1 := by
      cases r with
      | nil => exact Nat.zero_le _
      | cons _ _ _ _ => exact Nat.le_refl _
    show (headT k t ++ parT i (wr i) ++ sepT r (wr r)).length ≤ 31 * (1 + i.size + r.size)
    rw [List.length_append, List.length_append]
    omega
theorem nw_len {k t : List Nat} {i : Fo} (h : GN k t) (hi : GF i) : (nw k t i).length ≤ 31 * i.size + 30 := by
  have a1 := head_len h
  have a2 := wr_len hi
  unfold nw
  rw [List.length_append]
  cases i with
  | nil =>
    show _ + 0 ≤ _
    omega
  | cons _ _ _ _ =>
    show _ + (40 :: (_ ++ [41])).length ≤ _
    rw [List.length_cons, List.length_append, List.length_singleton]
    omega
theorem nws_sum : ∀ {f : Fo}, GF f → ((nws f).map List.length).sum ≤ 31 * f.size ∧ (nws f).length = f.len
  | .nil, _ => ⟨Nat.le_refl 0, rfl⟩
  | .cons k t i r, ⟨h1, h2, h3⟩ => by
    obtain ⟨a1, a2⟩ := nws_sum h3
    have a3 := nw_len h1 h2
    constructor
    · show (nw k t i).length + ((nws r).map List.length).sum ≤ 31 * (1 + i.size + r.size)
      omega
    · show (nws r).length + 1 = r.len + 1
      rw [a2]
theorem get_nws : ∀ {f : Fo} {j : Nat} {k t : List Nat} {i : Fo}, f.get j = some (k, t, i) → (nws f)[j]? = some (nw k t i)
  | .cons _ _ _ _, 0, _, _, _, h => by
    cases h
    rfl
  | .cons _ _ _ r, j + 1, _, _, _, h => get_nws (f := r) h
theorem get_depth : ∀ {f : Fo} {j : Nat} {k t : List Nat} {i : Fo}, f.get j = some (k, t, i) → i.depth + 1 ≤ f.depth ∧ i.size + 1 ≤ f.size
  | .cons _ _ i r, 0, _, _, _, h => by
    cases h
    constructor
    · show _ ≤ max (i.depth + 1) r.depth
      omega
    · show _ ≤ 1 + i.size + r.size
      omega
  | .cons _ _ i r, j + 1, _, _, i2, h => by
    obtain ⟨a, b⟩ := get_depth (f := r) h
    constructor
    · show _ ≤ max (i.depth + 1) r.depth
      omega
    · show _ ≤ 1 + i.size + r.size
      omega
theorem get_all {p : List Nat → List Nat → Prop} : ∀ {f : Fo} {j : Nat} {k t : List Nat} {i : Fo}, f.All p → f.get j = some (k, t, i) → p k t ∧ i.All p
  | .cons _ _ _ _, 0, _, _, _, ⟨h1, h2, h3⟩, h => by
    cases h
    exact ⟨h1, h2⟩
  | .cons _ _ _ r, j + 1, _, _, _, ⟨h1, h2, h3⟩, h => get_all (f := r) h3 h
theorem Items.get {H : Hp} : ∀ {f : Fo} {xs : List V} {j : Nat} {x : V}, Items H f xs → xs[j]? = some x → ∃ k t i p q, f.get j = some (k, t, i) ∧ x = .ref p ∧ H p = some (.tup [.str (SX.S k), .str (SX.S t), .ref q]) ∧ Doc H i q
  | .nil, _, _, _, h, hx => by
    rw [show _ = _ from h] at hx
    cases hx
  | .cons k t i r, _, j, _, ⟨p, q, ys, xs', e, h1, h2, h3, h4⟩, hx => by
    subst e
    cases j with
    | zero =>
      cases hx
      exact ⟨k, t, i, p, q, rfl, rfl, h1, ys, h2, h3⟩
    | succ j =>
      have e := Items.get h4 hx
      exact e
/-! shapes -/
theorem sign_small {c : Nat} (h : signB c = true) : c < 1114112 := by
  unfold signB at h
  simp only [Bool.and_eq_true, decide_eq_true_eq] at h
  omega
theorem letters_small : ∀ c ∈ letters, c < 1114112 := by decide
theorem ok_S {l : List Nat} (h : ∀ c ∈ l, c < 1114112) : PyData.strOk (SX.S l) = true := by
  unfold PyData.strOk
  show (l.toArray.all (· < 0x110000)) = true
  rw [List.all_toArray]
  exact List.all_eq_true.mpr fun c hc => decide_eq_true (h c hc)
theorem lay_fdata : ∀ {f : Fo}, GF f → PyData.canLayAll0 (fdata f) = true
  | .nil, _ => by simp [fdata, PyData.canLayAll0]
  | .cons k t i r, ⟨⟨h1, _, _, _, h2⟩, h3, h4⟩ => by
    have a1 := lay_fdata h3
    have a2 := lay_fdata h4
    have b1 := ok_S fun c hc => letters_small c (h1 c hc)
    have b2 := ok_S fun c hc => sign_small (h2 c hc)
    unfold fdata
    simp only [PyData.canLayAll0, PyData.canLay0, a1, a2, b1, b2, Bool.and_self, Bool.and_true]
theorem depth_fdata : ∀ f : Fo, PyData.depthAll (fdata f) ≤ 2 * f.depth
  | .nil => by simp [fdata, PyData.depthAll]
  | .cons k t i r => by
    have a1 := depth_fdata i
    have a2 := depth_fdata r
    unfold fdata
    simp only [PyData.depthAll, PyData.depth]
    show _ ≤ 2 * max (i.depth + 1) r.depth
    omega
theorem shaped_doc {f : Fo} (h : GF f) (hd : f.depth ≤ 31) : SeqAt.shaped (.tuple (fdata f)) = true := by
  have h1 := lay_fdata h
  have h2 := depth_fdata f
  unfold SeqAt.shaped
  simp only [PyData.canLay0, PyData.depth, h1, Bool.true_and]
  exact decide_eq_true (by omega)
theorem fdata_nil : ∀ f : Fo, (fdata f).isEmpty = f.isNil
  | .nil => rfl
  | .cons _ _ _ _ => rfl
/-! ### _law_text -/
def spLText (n : Nat) : Sp := fun vs H Q _ => ∃ (a : Addr) (f : Fo), vs = [.ref a] ∧ Doc H f a ∧ f.depth < n ∧ f.depth ≤ 31 ∧ f.size ≤ 100 ∧ GF f ∧ ∀ H', Same H H' → Q (.str (SX.S (wr f))) H'
section
variable {P : Program} {w : World} {K : PySem.W.Frag} {mg : Str → Option Value} {base : Heap} {f : Addr} {fd : FuncData}
end

/-! ### spaced, document_text -/
def spaceL (xs : List V) : List V := ((xs.reverse.map fun x => [x, V.str " "]).flatten).dropLast
def spSpaced : Sp := fun vs H Q _ => ∃ (a : Addr) (xs : List V), vs = [.ref a] ∧ H a = some (.tup xs) ∧ xs.length ≤ 1000 ∧ ∀ (p : Addr) (H' : Hp), Same H H' → H p = none → H' p = some (.lst (spaceL xs)) → Q (.ref p) H'
theorem flat_len (xs : List V) : ((xs.map fun x => [x, V.str " "]).flatten).length = 2 * xs.length := by
  induction xs with
  | nil => rfl
  | cons x r ih =>
    rw [List.map_cons, List.flatten_cons, List.length_append, ih]
    show 2 + 2 * r.length = 2 * (r.length + 1)
    omega
section
variable {P : Program} {w : World} {K : PySem.W.Frag} {mg : Str → Option Value} {base : Heap} {f : Addr} {fd : FuncData}
theorem ok_spaced (F : Fun K "spaced" "spaced" s_spaced f fd) (T : Txt mg) : FnOk P w K mg base CX0 1 f fd ["row"] spSpaced := by
  refine F.ok sc_spaced (fun vs H Q E h => ?_) (fun cdv A outer s H vs Q E hr h => ?_)
  · obtain ⟨a, xs, rfl, _⟩ := h
    rfl
  · obtain ⟨a, xs, rfl, hx, hl, q⟩ := h
    refine ⟨_, (pss_cons (ps_set (i := 1) sc_spaced.nd rfl (.inl rfl) (pe_lst pa_nil))
      (pss_cons (ps_for PassesOwn.never rfl (pi_tupX K (pe_revT K (pv 0))) (pg_name (i := 2) sc_spaced.nd rfl (.inl rfl)) (pss_one (ps_aug (i := 1) sc_spaced.nd rfl (.inl rfl) (pe_lst (pa_cons (pv 2) (pa_cons pe_str pa_nil))) ip_X)))
      (pss_one (ps_ret (pe_slice (sl_X K) (pv 1) po_none (po_some (pe_un un_neg pe_int))))))), ?_⟩
    change (_ : TS) _ [some (V.ref a), none, none] _
    k_extra "rr"
    refine ⟨by k_extra "sz", fun W nW => ?_⟩
    k_extra "rr"
    have nW0 := same_upd (o := .lst []) nW
    refine ⟨a, xs, rfl, SqT.of (nW0 _ _ hx), fun p np => ⟨p, rfl, ⟨_, SqT.of upd_same⟩, for_tup (K := K) (a := p) (xs := xs.reverse) (fun j σ H' => ∃ v2, σ = [some (.ref a), some (.ref W), v2] ∧ Same H H' ∧ H' p = some (.tup xs.reverse) ∧ H' W = some (.lst (((xs.reverse.take j).map fun x => [x, V.str " "]).flatten)))
      ⟨_, rfl, nW0.trans (same_upd np), upd_same, same_upd np _ _ upd_same⟩ (fun j σ H' _ ⟨_, _, _, h, _⟩ => SqT.of h) ?_ ?_⟩⟩
    · rintro j x σ H' hj ⟨v2, rfl, s1, h1, h2⟩
      k_extra "rr"
      refine ⟨by k_extra "sz", fun e ne => ?_⟩
      have hjl : j < xs.length := by
        have := (List.getElem?_eq_some_iff.mp hj).1
        rwa [List.length_reverse] at this
      k_extra "rr"
      refine ipL2 (same_upd ne _ _ h2) upd_same (by rw [flat_len, List.length_take, sizeLine_eq]; show _ + 2 ≤ _; omega) ?_
      k_extra "rr"
      have nWp : p ≠ W := fun z => by
        rw [z, h2] at h1
        cases h1
      refine ⟨_, rfl, same_mut (s1.trans (same_upd ne)) nW, upd2 nWp (same_upd ne _ _ h1), ?_⟩
      rw [upd_same, List.take_add_one, hj, List.map_append, List.flatten_append]
      rfl
    · rintro σ H' ⟨v2, rfl, s1, h1, h2⟩
      k_extra "rr"
      rw [List.length_reverse] at h2
      rw [show xs.reverse.take xs.length = xs.reverse from List.take_of_length_le (by rw [List.length_reverse]; exact Nat.le_refl _)] at h2
      refine slL (SqL.of h2) fun l nl => ?_
      rw [cut_m1]
      refine q l _ (s1.trans (same_upd nl)) ?_ upd_same
      cases e : H l with
      | none => rfl
      | some o =>
        rw [s1 _ _ e] at nl
        cases nl
end

/-! ### document_text: its stack -/
inductive Tk where
  | s (l : List Nat)
  | n (k t : List Nat) (i : Fo)
def TkAt (H : Hp) : Tk → V → Prop
  | .s l, v => v = .str (SX.S l)
  | .n k t i, v => ∃ p q, v = .ref p ∧ H p = some (.tup [.str (SX.S k), .str (SX.S t), .ref q]) ∧ Doc H i q
def tkT : Tk → List Nat
  | .s l => l
  | .n k t i => nw k t i
def tksT (ts : List Tk) : List Nat := (ts.map tkT).flatten
def wt : Fo → Nat
  | .nil => 0
  | .cons _ _ i r => 4 + wt i + wt r
def tkW : Tk → Nat
  | .s _ => 1
  | .n _ _ i => 3 + wt i
def tksW (ts : List Tk) : Nat := (ts.map tkW).sum
def TkG : Tk → Prop
  | .s l => l.length ≤ 1 ∧ ∀ c ∈ l, c < 1114112
  | .n k t i => GN k t ∧ GF i ∧ i.depth ≤ 30
def toks2 : Fo → List Tk
  | .nil => []
  | .cons k t i r => .s [32] :: .n k t i :: toks2 r
def toks (f : Fo) : List Tk := (toks2 f).tail
theorem toks2_T : ∀ f : Fo, tksT (toks2 f) = sepT f (wr f)
  | .nil => rfl
  | .cons k t i r => by
    have ih := toks2_T r
    show 32 :: (nw k t i ++ tksT (toks2 r)) = 32 :: (nw k t i ++ sepT r (wr r))
    rw [ih]
theorem toks_T : ∀ f : Fo, tksT (toks f) = wr f
  | .nil => rfl
  | .cons k t i r => by
    have ih := toks2_T r
    show nw k t i ++ tksT (toks2 r) = nw k t i ++ sepT r (wr r)
    rw [ih]
theorem toks2_W : ∀ f : Fo, tksW (toks2 f) = wt f
  | .nil => rfl
  | .cons k t i r => by
    have ih := toks2_W r
    show 1 + (3 + wt i + tksW (toks2 r)) = 4 + wt i + wt r
    rw [ih]
    omega
theorem toks_W : ∀ f : Fo, tksW (toks f) ≤ wt f
  | .nil => Nat.le_refl 0
  | .cons k t i r => by
    have ih := toks2_W r
    show 3 + wt i + tksW (toks2 r) ≤ 4 + wt i + wt r
    rw [ih]
    omega
theorem wt_le : ∀ f : Fo, wt f ≤ 4 * f.size
  | .nil => Nat.le_refl 0
  | .cons k t i r => by
    have h1 := wt_le i
    have h2 := wt_le r
    show 4 + wt i + wt r ≤ 4 * (1 + i.size + r.size)
    omega
theorem len_wt : ∀ f : Fo, f.len ≤ wt f
  | .nil => Nat.le_refl 0
  | .cons k t i r => by
    have h2 := len_wt r
    show r.len + 1 ≤ 4 + wt i + wt r
    omega
theorem toks2_G : ∀ {f : Fo}, GF f → f.depth ≤ 31 → ∀ t ∈ toks2 f, TkG t
  | .nil, _, _, _, h => nomatch h
  | .cons k t i r, ⟨h1, h2, h3⟩, hd, x, h => by
    have hd2 : max (i.depth + 1) r.depth ≤ 31 := hd
    rcases List.mem_cons.mp h with rfl | h
    · exact ⟨Nat.le_refl 1, by decide⟩
    · rcases List.mem_cons.mp h with rfl | h
      · exact ⟨h1, h2, by omega⟩
      · exact toks2_G h3 (by omega) x h
theorem toks_G {f : Fo} (h : GF f) (hd : f.depth ≤ 31) : ∀ t ∈ toks f, TkG t := fun t m => toks2_G h hd t (List.mem_of_mem_tail m)
theorem len_W : ∀ ts : List Tk, ts.length ≤ tksW ts
  | [] => Nat.le_refl 0
  | t :: r => by
    have := len_W r
    have h : 1 ≤ tkW t := by
      cases t with
      | s l => exact Nat.le_refl 1
      | n k t i =>
        show 1 ≤ 3 + wt i
        omega
    show r.length + 1 ≤ tkW t + tksW r
    omega
theorem TkAt.le {H H' : Hp} (s : TupLe H H') : ∀ {t : Tk} {v : V}, TkAt H t v → TkAt H' t v
  | .s _, _, h => h
  | .n _ _ _, _, ⟨p, q, e, h, d⟩ => ⟨p, q, e, s _ _ h, d.le s⟩
def TksAt (H : Hp) : List Tk → List V → Prop
  | [], [] => True
  | t :: ts, v :: vs => TkAt H t v ∧ TksAt H ts vs
  | _, _ => False
theorem TksAt.le {H H' : Hp} (s : TupLe H H') : ∀ {ts : List Tk} {vs : List V}, TksAt H ts vs → TksAt H' ts vs
  | [], [], _ => trivial
  | _ :: _, _ :: _, ⟨h, r⟩ => ⟨h.le s, r.le s⟩
theorem TksAt.len {H : Hp} : ∀ {ts : List Tk} {vs : List V}, TksAt H ts vs → vs.length = ts.length
  | [], [], _ => rfl
  | _ :: _, _ :: _, ⟨h, r⟩ => by rw [List.length_cons, List.length_cons, r.len]
theorem TksAt.app {H : Hp} : ∀ {ts us : List Tk} {vs ws : List V}, TksAt H ts vs → TksAt H us ws → TksAt H (ts ++ us) (vs ++ ws)
  | [], _, [], _, _, h => h
  | _ :: _, _, _ :: _, _, ⟨h, r⟩, q => ⟨h, r.app q⟩
theorem Items.toks2 {H : Hp} : ∀ {f : Fo} {xs : List V}, Items H f xs → TksAt H (toks2 f) ((xs.map fun x => [V.str " ", x]).flatten)
  | .nil, _, h => by
    rw [show _ = _ from h]
    trivial
  | .cons k t i r, _, ⟨p, q, ys, xs', e, h1, h2, h3, h4⟩ => by
    subst e
    exact ⟨congrArg V.str (by decide +kernel), ⟨p, q, rfl, h1, ys, h2, h3⟩, Items.toks2 h4⟩
theorem space_rev (xs : List V) : (spaceL xs).reverse = ((xs.map fun x => [V.str " ", x]).flatten).tail := by
  unfold spaceL
  rw [← List.tail_reverse]
  congr 1
  rw [List.reverse_flatten, List.map_map, List.map_reverse, List.reverse_reverse]
  rfl
theorem TksAt.tail {H : Hp} : ∀ {ts : List Tk} {vs : List V}, TksAt H ts vs → TksAt H ts.tail vs.tail
  | [], [], _ => trivial
  | _ :: _, _ :: _, ⟨_, r⟩ => r
theorem Items.toks {H : Hp} {f : Fo} {xs : List V} (h : Items H f xs) : TksAt H (toks f) (spaceL xs).reverse := by
  rw [space_rev]
  exact (Items.toks2 h).tail
/-! as plain data -/
def tkD : Tk → PyData
  | .s l => .str (SX.S l)
  | .n k t i => .tuple [.str (SX.S k), .str (SX.S t), .tuple (fdata i)]
theorem TkAt.dp {K : PySem.W.Frag} {H : Hp} : ∀ {t : Tk} {v : V}, TkAt H t v → Dp K H v (tkD t)
  | .s _, _, h => by
    rw [show _ = _ from h]
    exact .str _
  | .n _ _ _, _, ⟨p, q, e, h, d⟩ => by
    subst e
    exact .tup (SqT.of h) (.cons (.str _) (.cons (.str _) (.cons d.dp .nil)))
theorem dp_snoc {K : PySem.W.Frag} {H : Hp} {v : V} {d : PyData} (h : Dp K H v d) : ∀ {vs : List V} {ds : List PyData}, DpAll K H vs ds → DpAll K H (vs ++ [v]) (ds ++ [d])
  | _, _, .nil => .cons h .nil
  | _, _, .cons a b => .cons a (dp_snoc h b)
theorem TksAt.dp {K : PySem.W.Frag} {H : Hp} : ∀ {ts : List Tk} {vs : List V}, TksAt H ts vs → DpAll K H vs.reverse (ts.map tkD).reverse
  | [], [], _ => .nil
  | _ :: _, _ :: _, ⟨h, r⟩ => by
    rw [List.map_cons, List.reverse_cons, List.reverse_cons]
    exact dp_snoc h.dp r.dp
theorem TkG.data : ∀ {t : Tk}, TkG t → (tkD t).canLay0 = true ∧ (tkD t).depth ≤ 63
  | .s l, ⟨_, h⟩ => ⟨by
      have := ok_S h
      simpa [tkD, PyData.canLay0] using this, by simp [tkD, PyData.depth]⟩
  | .n k t i, ⟨⟨h1, _, _, _, h2⟩, h3, h4⟩ => by
    have a1 := lay_fdata h3
    have b1 := ok_S fun c hc => letters_small c (h1 c hc)
    have b2 := ok_S fun c hc => sign_small (h2 c hc)
    have a2 := depth_fdata i
    constructor
    · unfold tkD
      simp only [PyData.canLayAll0, PyData.canLay0, a1, b1, b2, Bool.and_self, Bool.and_true]
    · unfold tkD
      simp only [PyData.depthAll, PyData.depth]
      omega
theorem shaped_all : ∀ {ds : List PyData}, (∀ d ∈ ds, d.canLay0 = true ∧ d.depth ≤ 63) → PyData.canLayAll0 ds = true ∧ PyData.depthAll ds ≤ 63
  | [], _ => by simp [PyData.canLayAll0, PyData.depthAll]
  | d :: r, h => by
    obtain ⟨a1, a2⟩ := shaped_all fun x m => h x (List.mem_cons_of_mem _ m)
    obtain ⟨b1, b2⟩ := h d (List.mem_cons_self ..)
    simp only [PyData.canLayAll0, PyData.depthAll, a1, b1, Bool.and_self, true_and]
    omega
theorem shaped_list {ds : List PyData} (h : ∀ d ∈ ds, d.canLay0 = true ∧ d.depth ≤ 63) : SeqAt.shaped (.list ds) = true := by
  obtain ⟨h1, h2⟩ := shaped_all h
  unfold SeqAt.shaped
  simp only [PyData.canLay0, PyData.depth, h1, Bool.true_and]
  exact decide_eq_true (by omega)
theorem shaped_tks {ts : List Tk} (h : ∀ t ∈ ts, TkG t) : SeqAt.shaped (.list (ts.map tkD).reverse) = true := shaped_list fun d m => by
  rw [List.mem_reverse] at m
  obtain ⟨t, ht, rfl⟩ := List.mem_map.mp m
  exact (h t ht).data
def spDText : Sp := fun vs H Q _ => ∃ (a : Addr) (f : Fo), vs = [.ref a] ∧ Doc H f a ∧ f.depth ≤ 31 ∧ f.size ≤ 100 ∧ GF f ∧ ∀ H', Same H H' → Q (.str (SX.S (wr f))) H'
section
variable {P : Program} {w : World} {K : PySem.W.Frag} {mg : Str → Option Value} {base : Heap} {f : Addr} {fd : FuncData}
theorem ok_document_text (F : Fun K "document_text" "document_text" s_document_text f fd) (T : Txt mg) (c_spaced : Cal P w K mg base 1 "spaced" spSpaced) : FnOk P w K mg base CX0 2 f fd ["document"] spDText := by
  refine F.ok sc_document_text (fun vs H Q E h => ?_) (fun cdv A outer s H vs Q E hr h => ?_)
  · obtain ⟨a, fo, rfl, _⟩ := h
    rfl
  · obtain ⟨a, fo, rfl, hd, h31, hsz, hg, q⟩ := h
    refine ⟨_, (pss_cons (ps_set (i := 1) sc_document_text.nd rfl (.inl rfl) pe_str)
      (pss_cons (ps_set (i := 2) sc_document_text.nd rfl (.inl rfl) (pe_c c_spaced hr (by omega) (by rfl) (pa_cons (pv 0) pa_nil)))
      (pss_cons (ps_while PassesOwn.never (pt_cmpR (op_neX K hr) (pv 2) (pe_lst pa_nil) (nomark _)) (pss_cons (ps_set (i := 3) sc_document_text.nd rfl (.inl rfl) (pe_bm0X K (pe_bm0 PySem.F.plainAttrs_list PySem.F.slot_list_pop PySem.F.type_list_pop mt_pop (pv 2))))
      (pss_one (ps_if (pt_val (pe_callB (cr_isi K) (by rfl) T.isinstance (by decide +kernel) (pa_cons (pv 3) (pa_cons (pe_bltn (v := .ty "str") (by rfl) T.str (by decide +kernel) rfl) pa_nil)))) (pss_one (ps_aug (i := 1) sc_document_text.nd rfl (.inl rfl) (pv 3) ip_X)) (pss_cons (ps_asg (pv 3) (pg_tupX K (pg_tup (n := 3) (by rfl) (pgs_cons (pg_name (i := 4) sc_document_text.nd rfl (.inl rfl)) (pgs_cons (pg_name (i := 5) sc_document_text.nd rfl (.inl rfl)) (pgs_cons (pg_name (i := 6) sc_document_text.nd rfl (.inl rfl)) pgs_nil))))))
      (pss_cons (ps_aug (i := 1) sc_document_text.nd rfl (.inl rfl) (pe_ifExp (pt_cmpR (op_eqX K hr) (pv 5) pe_str (nomark _)) (pv 4) (pe_joined (PJ.cons (pe_fmt (pv 4)) (PJ.cons pe_str (PJ.cons (pe_fmt (pv 5)) (PJ.cons pe_str PJ.nil)))))) ip_X)
      (pss_one (ps_if (pt_cmpR (op_neX K hr) (pv 6) (pe_tup pa_nil) (nomark _)) (pss_one (ps_aug (i := 2) sc_document_text.nd rfl (.inl rfl) (pe_lst (pa_cons pe_str (pa_starX K (pe_c c_spaced hr (by omega) (by rfl) (pa_cons (pv 6) pa_nil)) (pa_cons pe_str pa_nil)))) ip_X)) pss_nil))))))))
      (pss_one (ps_ret (pv 1)))))), ?_⟩
    change (_ : TS) _ [some (V.ref a), none, none, none, none, none, none] _
    obtain ⟨xs, hx, ix⟩ := hd
    have hfl := Fo.len_le fo
    have hxl := ix.len
    k_extra "rr"
    refine ⟨a, xs, rfl, hx, by omega, fun L H1 s1 nL hL => ?_⟩
    k_extra "rr"
    refine ⟨fun m σ H' => ∃ (out : List Nat) (ts : List Tk) (vs : List V) (v3 v4 v5 v6 : Option V), σ = [some (.ref a), some (.str (SX.S out)), some (.ref L), v3, v4, v5, v6] ∧ Same H H' ∧ H' L = some (.lst vs.reverse) ∧ TksAt H' ts vs ∧ (∀ t ∈ ts, TkG t) ∧ out ++ tksT ts = wr fo ∧ tksW ts = m ∧ m ≤ 400,
      ⟨tksW (toks fo), [], toks fo, (spaceL xs).reverse, _, _, _, _, (by rw [empty_S]; rfl), s1, (by rw [List.reverse_reverse]; exact hL), ix.toks.le (TupLe.same s1), toks_G hg h31, toks_T fo, rfl, (by have := toks_W fo; have := wt_le fo; omega)⟩, ?_⟩
    rintro m σ H' ⟨out, ts, vs, v3, v4, v5, v6, rfl, s2, hL2, hT, hG, ho, hm, hm4⟩
    have hwl := wr_len hg
    have hol : out.length ≤ 3100 := by
      have := congrArg List.length ho
      rw [List.length_append] at this
      omega
    k_extra "rr"
    refine ⟨by k_extra "sz", fun e ne => ?_⟩
    have s3 : Same H (upd H' e (.lst [])) := s2.trans (same_upd ne)
    have hL3 := same_upd (o := .lst []) ne _ _ hL2
    have hT3 := hT.le (TupLe.new (o := .lst []) ne)
    k_extra "rr"
    refine neDd (d := .list (ts.map tkD).reverse) (e := .list []) (.lst (SqL.of hL3) hT3.dp) (.lst (SqL.of upd_same) .nil) (shaped_tks hG) shaped_nilL ?_
    rw [eqv_nilL]
    clear hL2 hT
    generalize upd H' e (.lst []) = H2 at s3 hL3 hT3
    match ts, vs, hT3 with
    | [], [], _ =>
      rw [show (!((([] : List Tk).map tkD).reverse).isEmpty) = false from rfl]
      k_extra "rr"
      have e : out = wr fo := by rw [← ho]; exact (List.append_nil out).symm
      rw [e]
      exact q _ s3
    | t :: ts, v :: vs, ⟨ht, hts⟩ =>
      rw [show (!(((t :: ts).map tkD).reverse).isEmpty) = true by simp]
      k_extra "rr"
      refine ⟨_, fun _ _ h => h, ?_⟩
      k_extra "rr"
      rw [List.reverse_cons] at hL3
      refine ⟨tyvL hL3, popL hL3 ?_⟩
      have s4 : Same H (upd H2 L (.lst vs.reverse)) := same_mut s3 nL
      have t4 : TupLe H2 (upd H2 L (.lst vs.reverse)) := TupLe.lst hL3
      have hts4 := hts.le t4
      have ht4 := ht.le t4
      have hl4 : upd H2 L (.lst vs.reverse) L = some (.lst vs.reverse) := upd_same
      generalize upd H2 L (.lst vs.reverse) = H4 at s4 hts4 ht4 hl4
      have hvl := hts4.len
      have hlw := len_W ts
      have hmt : tkW t + tksW ts = m := hm
      cases t with
      | s l =>
        obtain rfl : v = .str (SX.S l) := ht4
        obtain ⟨hl1, _⟩ := hG _ (List.mem_cons_self ..)
        have hm1 : 1 + tksW ts = m := hmt
        k_extra "rr"
        refine ipS2 (by rw [SX.S_len, SX.S_len, sizeLine_eq]; omega) ?_
        rw [SX.S_cat]
        k_extra "rr"
        refine ⟨tksW ts, by omega, out ++ l, ts, vs, _, _, _, _, rfl, s4, hl4, hts4, fun x m => hG x (List.mem_cons_of_mem _ m), ?_, rfl, by omega⟩
        rw [← ho, List.append_assoc]
        rfl
      | n k t i =>
        obtain ⟨p, q0, rfl, hp, hi⟩ := ht4
        obtain ⟨gk, gi, gd⟩ := hG _ (List.mem_cons_self ..)
        have hm1 : 3 + wt i + tksW ts = m := hmt
        have hhl := head_len gk
        have ekl : k.length ≤ 6 := gk.2.2.1
        have etl : t.length ≤ 20 := gk.2.2.2.1
        have eQ : Str.ofString "\"" = SX.S [34] := by decide +kernel
        k_extra "rr"
        rw [S_emp]
        refine iteD (fun hz => ?yes) (fun hz => ?no)
        case' yes =>
          k_extra "rr"
          have eh : headT k t = k := by
            unfold headT
            rw [if_pos hz, List.append_nil]
          rw [show SX.S k = SX.S (headT k t) by rw [eh]]
        case' no =>
          have eh : SX.S (headT k t) = Str.empty ++ SX.S k ++ SX.S [34] ++ SX.S t ++ SX.S [34] := by
            rw [show Str.empty = SX.S [] from empty_S, SX.S_cat, SX.S_cat, SX.S_cat, SX.S_cat]
            unfold headT
            rw [if_neg hz]
            simp
          have l1 : Str.empty ++ SX.S k = SX.S k := (congrArg (· ++ SX.S k) empty_S).trans (SX.S_cat [] k)
          have l2 : Str.empty ++ SX.S k ++ SX.S [34] = SX.S (k ++ [34]) := by rw [l1, SX.S_cat]
          have l3 : Str.empty ++ SX.S k ++ SX.S [34] ++ SX.S t = SX.S (k ++ [34] ++ t) := by rw [l2, SX.S_cat]
          rw [eQ]
          k_extra "rr"
          refine .inl ⟨_, rfl, by rw [SX.S_len, sizeLine_eq]; omega, ?_⟩
          k_extra "rr"
          refine ⟨by rw [l1, SX.S_len, sizeLine_eq]; omega, ?_⟩
          k_extra "rr"
          refine ⟨by rw [l2, SX.S_len, sizeLine_eq, List.length_append, List.length_singleton]; omega, ?_⟩
          k_extra "rr"
          refine .inl ⟨_, rfl, by rw [SX.S_len, sizeLine_eq]; omega, ?_⟩
          k_extra "rr"
          refine ⟨by rw [l3, SX.S_len, sizeLine_eq, List.length_append, List.length_append, List.length_singleton]; omega, ?_⟩
          k_extra "rr"
          refine ⟨by rw [← eh, SX.S_len, sizeLine_eq]; omega, ?_⟩
          k_extra "rr"
          rw [← eh]
        all_goals
          refine ipS2 (by rw [SX.S_len, SX.S_len, sizeLine_eq]; omega) ?_
          rw [SX.S_cat]
          k_extra "rr"
          refine ⟨by k_extra "sz", fun e ne => ?_⟩
          have hi5 := hi.le (TupLe.new (o := .tup []) ne)
          have s5 := s4.trans (same_upd (o := .tup []) ne)
          have hl5 := same_upd (o := .tup []) ne _ _ hl4
          have hts5 := hts4.le (TupLe.new (o := .tup []) ne)
          k_extra "rr"
          refine neDd hi5.dp (.tup (SqT.of upd_same) .nil) (shaped_doc gi (by omega)) shaped_nilT ?_
          rw [eqv_nilT, fdata_nil]
          generalize upd H4 e (.tup []) = H5 at hi5 s5 hl5 hts5
          cases i with
          | nil =>
            rw [show (!Fo.nil.isNil) = false from rfl]
            k_extra "rr"
            refine ⟨tksW ts, by omega, out ++ headT k t, ts, vs, _, _, _, _, rfl, s5, hl5, hts5, fun x m => hG x (List.mem_cons_of_mem _ m), ?_, rfl, by omega⟩
            rw [← ho, List.append_assoc]
            show _ = out ++ ((headT k t ++ []) ++ tksT ts)
            rw [List.append_nil]
          | cons k2 t2 i2 r2 =>
            rw [show (!(Fo.cons k2 t2 i2 r2).isNil) = true from rfl]
            k_extra "rr"
            obtain ⟨ys, hy, iy⟩ := hi5
            have hyl := iy.len
            have hyl2 := Fo.len_le (Fo.cons k2 t2 i2 r2)
            have hwt := len_wt (Fo.cons k2 t2 i2 r2)
            refine ⟨q0, ys, rfl, hy, by omega, fun p2 H6 s6 n6 h6 => ?_⟩
            refine ⟨p2, _, rfl, .inr (SqL.of h6), ?_⟩
            k_extra "rr"
            have hsl : (spaceL ys).length ≤ 2 * ys.length := by
              unfold spaceL
              rw [List.length_dropLast, flat_len, List.length_reverse]
              omega
            refine ⟨by rw [List.length_cons, List.length_append, sizeLine_eq]; show _ + 1 + 1 ≤ _; omega, fun lp nlp => ?_⟩
            k_extra "rr"
            have hl6 := same_upd (o := .lst (V.str ")" :: (spaceL ys ++ [V.str "("]))) nlp _ _ (s6 _ _ hl5)
            refine ipL2 hl6 upd_same (by rw [List.length_reverse, List.length_cons, List.length_append, sizeLine_eq]; show _ + (_ + 1 + 1) ≤ _; omega) ?_
            k_extra "rr"
            have s7 := (s5.trans s6).trans (same_upd (o := .lst (V.str ")" :: (spaceL ys ++ [V.str "("]))) nlp)
            have t7 : TupLe H5 (upd H6 lp (.lst (V.str ")" :: (spaceL ys ++ [V.str "("])))) := (TupLe.same s6).trans (TupLe.new nlp)
            have t8 := t7.trans (TupLe.lst (m := vs.reverse ++ (V.str ")" :: (spaceL ys ++ [V.str "("]))) hl6)
            have eo : Str.ofString "(" = SX.S [40] := by decide +kernel
            have ec : Str.ofString ")" = SX.S [41] := by decide +kernel
            have hwk := toks_W (Fo.cons k2 t2 i2 r2)
            have hW : tksW (Tk.s [40] :: (toks (Fo.cons k2 t2 i2 r2) ++ Tk.s [41] :: ts)) = 1 + (tksW (toks (Fo.cons k2 t2 i2 r2)) + (1 + tksW ts)) := by
              unfold tksW
              rw [List.map_cons, List.sum_cons, List.map_append, List.sum_append, List.map_cons, List.sum_cons]
              rfl
            refine ⟨_, ?_, out ++ headT k t, Tk.s [40] :: (toks (Fo.cons k2 t2 i2 r2) ++ Tk.s [41] :: ts), V.str "(" :: ((spaceL ys).reverse ++ V.str ")" :: vs), _, _, _, _, rfl, same_mut s7 nL, ?_, ⟨congrArg V.str eo, ?_⟩, fun x m => ?_, ?_, rfl, ?_⟩
            · rw [hW]
              omega
            · rw [upd_same]
              simp
            · exact (iy.toks.le t8).app ⟨congrArg V.str ec, hts5.le t8⟩
            · rcases List.mem_cons.mp m with rfl | m
              · exact ⟨Nat.le_refl 1, by decide⟩
              · rcases List.mem_append.mp m with m | m
                · exact toks_G gi (by omega) x m
                · rcases List.mem_cons.mp m with rfl | m
                  · exact ⟨Nat.le_refl 1, by decide⟩
                  · exact hG x (List.mem_cons_of_mem _ m)
            · have e1 : tksT (Tk.s [40] :: (toks (Fo.cons k2 t2 i2 r2) ++ Tk.s [41] :: ts)) = 40 :: (tksT (toks (Fo.cons k2 t2 i2 r2)) ++ 41 :: tksT ts) := by
                unfold tksT
                rw [List.map_cons, List.flatten_cons, List.map_append, List.flatten_append, List.map_cons, List.flatten_cons]
                rfl
              have e2 : tksT (Tk.n k t (Fo.cons k2 t2 i2 r2) :: ts) = (headT k t ++ 40 :: (wr (Fo.cons k2 t2 i2 r2) ++ [41])) ++ tksT ts := rfl
              rw [e1, toks_T, ← ho, e2]
              simp
            · rw [hW]
              omega
end

/-! ### reading a document from any text, in plain Lean: the place of the fault, or the forest -/
theorem toS {sp : Sp} {vs : List V} {H : Hp} {Q : VK} {E : XK} (M : V → Hp → Prop) (h : ∀ v H', M v H' → Q v H') (k : ∀ Q' : VK, (∀ v H', M v H' → Q' v H') → sp vs H Q' E) : sp vs H Q E := k Q h
def quo (t : List Nat) : List Nat := if t = [] then [] else 34 :: (t ++ [34])
/-- `)` after `)`: how many rows are closed -/
def clF : Nat → List Fo → List (List Nat × List Nat) → List Nat → Nat × List Fo × List (List Nat × List Nat) × List Nat
  | at_, d :: d2 :: ds, kt :: kts, 41 :: r => clF (at_ + 1) (d2.snoc kt.1 kt.2 d :: ds) kts r
  | at_, ds, kts, r => (at_, ds, kts, r)
/-- one node's head: its kind and text, the place after it, the rest; or the fault's place -/
def hdQ (at_ : Nat) (k : List Nat) (r1 : List Nat) : Sum Nat (List Nat × List Nat × Nat × List Nat) := match r1 with
  | [] => .inr (k, [], at_ + k.length, [])
  | c :: r2 => if c = 34 then
      (if (rqF 0 r2).1 = false ∨ (rqF 0 r2).2 = 0 then .inl (at_ + k.length + 1 + (rqF 0 r2).2) else .inr (k, r2.take (rqF 0 r2).2, at_ + k.length + (rqF 0 r2).2 + 2, r2.drop ((rqF 0 r2).2 + 1)))
    else .inr (k, [], at_ + k.length, c :: r2)
def hdF (at_ : Nat) (r : List Nat) : Sum Nat (List Nat × List Nat × Nat × List Nat) :=
  if (r.takeWhile (fun c => decide (c ∈ letters))).length = 0 ∨ 6 < (r.takeWhile (fun c => decide (c ∈ letters))).length then .inl (at_ + min (r.takeWhile (fun c => decide (c ∈ letters))).length 6)
  else hdQ at_ (r.takeWhile (fun c => decide (c ∈ letters))) (r.dropWhile (fun c => decide (c ∈ letters)))
def rdE (go : Nat → List Fo → List (List Nat × List Nat) → List Nat → Sum Nat Fo) : Nat × List Fo × List (List Nat × List Nat) × List Nat → Sum Nat Fo
  | (a, ds, kts, r) => match r with
    | [] => match kts, ds with
      | [], d :: _ => .inr d
      | _, _ => .inl a
    | c :: r4 => if c = 32 then go (a + 1) ds kts r4 else .inl a
def rdF : Nat → Nat → List Fo → List (List Nat × List Nat) → List Nat → Sum Nat Fo
  | 0, at_, _, _, _ => .inl at_
  | n + 1, at_, ds, kts, r => match hdF at_ r with
    | .inl i => .inl i
    | .inr (k, t, at2, r2) => if r2.head? = some 40 then rdF n (at2 + 1) (.nil :: ds) ((k, t) :: kts) r2.tail else match ds with
      | [] => .inl at2
      | d :: ds => rdE (rdF n) (clF at2 (d.snoc k t .nil :: ds) kts r2)
def rdT (T0 : List Nat) : Sum Nat Fo := if T0 = [] then .inr .nil else rdF (T0.length + 1) 0 [.nil] [] T0
theorem rqF_ok : ∀ (r : List Nat) (i j : Nat), i ≤ 20 → rqF i r = (true, j) → i ≤ j ∧ j ≤ 20 ∧ (∀ c ∈ r.take (j - i), signB c = true) ∧ ∃ s, r.drop (j - i) = 34 :: s ∧ r.drop (j - i + 1) = s
  | [], i, j, _, h => by
    unfold rqF at h
    cases h
  | c :: r, i, j, hi, h => by
    unfold rqF at h
    by_cases h34 : c = 34
    · rw [if_pos h34] at h
      cases h
      subst h34
      rw [Nat.sub_self]
      exact ⟨Nat.le_refl _, hi, fun c hc => (by cases hc), r, rfl, rfl⟩
    · rw [if_neg h34] at h
      by_cases hs : (signB c && decide (i < 20)) = true
      · rw [if_pos hs] at h
        obtain ⟨g1, g2⟩ := Bool.and_eq_true_iff.mp hs
        have g2 := of_decide_eq_true g2
        obtain ⟨b1, b2, b3, s, b4, b5⟩ := rqF_ok r (i + 1) j (by omega) h
        have e : j - i = (j - (i + 1)) + 1 := by omega
        rw [e]
        refine ⟨by omega, b2, fun d hd => ?_, s, b4, b5⟩
        rw [List.take_succ_cons] at hd
        rcases List.mem_cons.mp hd with rfl | hd
        · exact g1
        · exact b3 d hd
      · rw [if_neg hs] at h
        cases h
theorem hdQ_ok {a : Nat} {k r1 k' t : List Nat} {a2 : Nat} {r2 : List Nat} (h : hdQ a k r1 = .inr (k', t, a2, r2)) : k' = k ∧ t.length ≤ 20 ∧ (∀ c ∈ t, signB c = true) ∧ r1 = quo t ++ r2 ∧ a2 = a + (k ++ quo t).length := by
  unfold hdQ at h
  cases r1 with
  | nil =>
    cases h
    exact ⟨rfl, Nat.zero_le _, fun c hc => (by cases hc), rfl, (by rw [show quo [] = [] from rfl, List.append_nil])⟩
  | cons c r =>
    have h : (if c = 34 then (if (rqF 0 r).1 = false ∨ (rqF 0 r).2 = 0 then Sum.inl (a + k.length + 1 + (rqF 0 r).2) else .inr (k, r.take (rqF 0 r).2, a + k.length + (rqF 0 r).2 + 2, r.drop ((rqF 0 r).2 + 1))) else .inr (k, [], a + k.length, c :: r)) = Sum.inr (k', t, a2, r2) := h
    by_cases hc : c = 34
    · rw [if_pos hc] at h
      by_cases hb : (rqF 0 r).1 = false ∨ (rqF 0 r).2 = 0
      · rw [if_pos hb] at h
        cases h
      · rw [if_neg hb] at h
        cases h
        have e : rqF 0 r = (true, (rqF 0 r).2) := by
          cases e1 : (rqF 0 r).1 with
          | false => exact absurd (.inl e1) hb
          | true => rw [← e1]
        obtain ⟨_, b2, b3, s, b4, b5⟩ := rqF_ok r 0 _ (by omega) e
        rw [Nat.sub_zero] at b3 b4 b5
        have hlr : (rqF 0 r).2 < r.length := by
          have := congrArg List.length b4
          rw [List.length_drop, List.length_cons] at this
          omega
        have hl : (r.take (rqF 0 r).2).length = (rqF 0 r).2 := by rw [List.length_take]; omega
        have hne : ¬ r.take (rqF 0 r).2 = [] := fun z => by
          have := congrArg List.length z
          rw [hl, List.length_nil] at this
          exact hb (.inr this)
        have hq : quo (r.take (rqF 0 r).2) = 34 :: (r.take (rqF 0 r).2 ++ [34]) := by unfold quo; rw [if_neg hne]
        refine ⟨rfl, by rw [hl]; exact b2, b3, ?_, ?_⟩
        · rw [hq, hc, b5]
          show 34 :: r = 34 :: ((r.take (rqF 0 r).2 ++ [34]) ++ s)
          rw [List.append_assoc, List.singleton_append, ← b4, List.take_append_drop]
        · rw [hq, List.length_append, List.length_cons, List.length_append, hl, List.length_singleton]
          omega
    · rw [if_neg hc] at h
      cases h
      exact ⟨rfl, Nat.zero_le _, fun c hc => (by cases hc), rfl, (by rw [show quo [] = [] from rfl, List.append_nil])⟩
theorem takeWhile_mem (p : Nat → Bool) : ∀ (l : List Nat), ∀ c ∈ l.takeWhile p, p c = true
  | [], c, h => by cases h
  | d :: l, c, h => by
    unfold List.takeWhile at h
    cases hp : p d with
    | false =>
      rw [hp] at h
      cases h
    | true =>
      rw [hp] at h
      rcases List.mem_cons.mp h with rfl | h
      · exact hp
      · exact takeWhile_mem p l c h
theorem dropWhile_head (p : Nat → Bool) : ∀ (l : List Nat) (c : Nat), (l.dropWhile p).head? = some c → p c = false
  | [], c, h => by cases h
  | d :: l, c, h => by
    unfold List.dropWhile at h
    cases hp : p d with
    | false =>
      rw [hp] at h
      cases h
      exact hp
    | true =>
      rw [hp] at h
      exact dropWhile_head p l c h
theorem hdF_ok {a : Nat} {r k t : List Nat} {a2 : Nat} {r2 : List Nat} (h : hdF a r = .inr (k, t, a2, r2)) : GN k t ∧ r = (k ++ quo t) ++ r2 ∧ a2 = a + (k ++ quo t).length := by
  unfold hdF at h
  by_cases hk : (r.takeWhile (fun c => decide (c ∈ letters))).length = 0 ∨ 6 < (r.takeWhile (fun c => decide (c ∈ letters))).length
  · rw [if_pos hk] at h
    cases h
  · rw [if_neg hk] at h
    obtain ⟨rfl, h1, h2, h3, h4⟩ := hdQ_ok h
    refine ⟨⟨fun c hc => of_decide_eq_true (takeWhile_mem _ r c hc), by omega, by omega, h1, h2⟩, ?_, h4⟩
    rw [List.append_assoc, ← h3, List.takeWhile_append_dropWhile]
theorem hdF_eq (a : Nat) (r : List Nat) : ∃ k r1, r = k ++ r1 ∧ (∀ c ∈ k, c ∈ letters) ∧ (∀ c, r1.head? = some c → c ∉ letters) ∧ hdF a r = if k.length = 0 ∨ 6 < k.length then .inl (a + min k.length 6) else hdQ a k r1 :=
  ⟨r.takeWhile (fun c => decide (c ∈ letters)), r.dropWhile (fun c => decide (c ∈ letters)), (List.takeWhile_append_dropWhile).symm, fun c hc => of_decide_eq_true (takeWhile_mem (fun c => decide (c ∈ letters)) r c hc), fun c hc => of_decide_eq_false (dropWhile_head (fun c => decide (c ∈ letters)) r c hc), rfl⟩
/-! what the machine has read -/
def preD : Fo → List Nat
  | .nil => []
  | .cons k t i r => wr (.cons k t i r) ++ [32]
theorem preD_ne {d : Fo} (h : d ≠ .nil) : preD d = wr d ++ [32] := by
  cases d with
  | nil => exact absurd rfl h
  | cons _ _ _ _ => rfl
def outT : List Fo → List (List Nat × List Nat) → List Nat
  | d :: ds, kt :: kts => (outT ds kts ++ preD d) ++ ((kt.1 ++ quo kt.2) ++ [40])
  | _, _ => []
theorem wr_snoc (k t : List Nat) (i : Fo) : ∀ d : Fo, wr (d.snoc k t i) = preD d ++ ((k ++ quo t) ++ parT i (wr i))
  | .nil => by
    show headT k t ++ parT i (wr i) ++ [] = _
    rw [List.append_nil]
    rfl
  | .cons k' t' i' .nil => by
    show headT k' t' ++ parT i' (wr i') ++ 32 :: ((k ++ quo t) ++ parT i (wr i) ++ []) = (headT k' t' ++ parT i' (wr i') ++ [] ++ [32]) ++ ((k ++ quo t) ++ parT i (wr i))
    simp only [List.append_nil, List.append_assoc, List.cons_append, List.nil_append]
  | .cons k' t' i' (.cons k2 t2 i2 r2) => by
    have e := wr_snoc k t i (.cons k2 t2 i2 r2)
    have e : wr ((Fo.cons k2 t2 i2 r2).snoc k t i) = (wr (.cons k2 t2 i2 r2) ++ [32]) ++ ((k ++ quo t) ++ parT i (wr i)) := e
    show headT k' t' ++ parT i' (wr i') ++ 32 :: wr ((Fo.cons k2 t2 i2 r2).snoc k t i) = (headT k' t' ++ parT i' (wr i') ++ 32 :: wr (.cons k2 t2 i2 r2) ++ [32]) ++ ((k ++ quo t) ++ parT i (wr i))
    rw [e]
    simp only [List.append_assoc, List.cons_append, List.nil_append]
theorem snoc_ne (k t : List Nat) (i : Fo) : ∀ d : Fo, d.snoc k t i ≠ .nil
  | .nil => fun z => by cases z
  | .cons _ _ _ _ => fun z => by cases z
theorem parT_ne {d : Fo} (h : d ≠ .nil) (w : List Nat) : parT d w = 40 :: (w ++ [41]) := by
  cases d with
  | nil => exact absurd rfl h
  | cons _ _ _ _ => rfl
theorem clF_ok : ∀ (kts : List (List Nat × List Nat)) (ds : List Fo) (d : Fo) (a : Nat) (r : List Nat), ds.length = kts.length → d ≠ .nil → (∀ e ∈ d :: ds, GF e) → (∀ kt ∈ kts, GN kt.1 kt.2) →
    ∃ (a3 : Nat) (d3 : Fo) (ds3 : List Fo) (kts3 : List (List Nat × List Nat)) (r3 : List Nat), clF a (d :: ds) kts r = (a3, d3 :: ds3, kts3, r3) ∧ ds3.length = kts3.length ∧ d3 ≠ .nil ∧ (∀ e ∈ d3 :: ds3, GF e) ∧ (∀ kt ∈ kts3, GN kt.1 kt.2) ∧
      (outT ds kts ++ wr d) ++ r = (outT ds3 kts3 ++ wr d3) ++ r3 ∧ a + r.length = a3 + r3.length
  | [], ds, d, a, r, hl, hd, hg, hk => by
    have e : clF a (d :: ds) [] r = (a, d :: ds, [], r) := by
      unfold clF
      cases ds <;> rfl
    exact ⟨a, d, ds, [], r, e, hl, hd, hg, hk, rfl, rfl⟩
  | kt :: kts, [], d, a, r, hl, hd, hg, hk => by cases hl
  | kt :: kts, d2 :: ds, d, a, [], hl, hd, hg, hk => ⟨a, d, d2 :: ds, kt :: kts, [], by unfold clF; rfl, hl, hd, hg, hk, rfl, rfl⟩
  | kt :: kts, d2 :: ds, d, a, c :: r, hl, hd, hg, hk => by
    by_cases hc : c = 41
    · subst hc
      have gk := hk kt (List.mem_cons_self ..)
      have gd := hg d (List.mem_cons_self ..)
      have gd2 := hg d2 (List.mem_cons_of_mem _ (List.mem_cons_self ..))
      obtain ⟨a3, d3, ds3, kts3, r3, h1, h2, h3, h4, h5, h6, h7⟩ := clF_ok kts ds (d2.snoc kt.1 kt.2 d) (a + 1) r (by rw [List.length_cons, List.length_cons] at hl; omega) (snoc_ne _ _ _ _)
        (fun e m => by
          rcases List.mem_cons.mp m with rfl | m
          · exact Fo.all_snoc gk gd gd2
          · exact hg e (List.mem_cons_of_mem _ (List.mem_cons_of_mem _ m))) (fun x m => hk x (List.mem_cons_of_mem _ m))
      refine ⟨a3, d3, ds3, kts3, r3, by rw [← h1]; rfl, h2, h3, h4, h5, ?_, by rw [List.length_cons]; omega⟩
      rw [← h6, wr_snoc, parT_ne hd]
      show ((outT ds kts ++ preD d2) ++ ((kt.1 ++ quo kt.2) ++ [40]) ++ wr d) ++ 41 :: r = _
      simp only [List.append_assoc, List.cons_append, List.nil_append]
    · exact ⟨a, d, d2 :: ds, kt :: kts, c :: r, by
        unfold clF
        split
        · rename_i h
          cases h
          exact absurd rfl hc
        · rfl, hl, hd, hg, hk, rfl, rfl⟩
theorem rdF_ok : ∀ (n a : Nat) (d : Fo) (ds : List Fo) (kts : List (List Nat × List Nat)) (r : List Nat) (fo : Fo), rdF n a (d :: ds) kts r = .inr fo → ds.length = kts.length → (∀ e ∈ d :: ds, GF e) → (∀ kt ∈ kts, GN kt.1 kt.2) →
    GF fo ∧ fo ≠ .nil ∧ (outT ds kts ++ preD d) ++ r = wr fo
  | 0, a, d, ds, kts, r, fo, h, _, _, _ => by cases h
  | n + 1, a, d, ds, kts, r, fo, h, hl, hg, hk => by
    unfold rdF at h
    cases hh : hdF a r with
    | inl i =>
      rw [hh] at h
      cases h
    | inr q =>
      obtain ⟨k, t, a2, r2⟩ := q
      rw [hh] at h
      obtain ⟨gk, e1, e2⟩ := hdF_ok hh
      have gd := hg d (List.mem_cons_self ..)
      have h : (if r2.head? = some 40 then rdF n (a2 + 1) (.nil :: d :: ds) ((k, t) :: kts) r2.tail else rdE (rdF n) (clF a2 (d.snoc k t .nil :: ds) kts r2)) = .inr fo := h
      by_cases h40 : r2.head? = some 40
      · rw [if_pos h40] at h
        obtain ⟨g1, g2, g3⟩ := rdF_ok n (a2 + 1) .nil (d :: ds) ((k, t) :: kts) r2.tail fo h (by rw [List.length_cons, List.length_cons, hl]) (fun e m => by
          rcases List.mem_cons.mp m with rfl | m
          · exact trivial
          · exact hg e m) (fun x m => by
          rcases List.mem_cons.mp m with rfl | m
          · exact gk
          · exact hk x m)
        refine ⟨g1, g2, ?_⟩
        rw [← g3, e1]
        obtain ⟨r4, rfl⟩ : ∃ r4, r2 = 40 :: r4 := by
          cases r2 with
          | nil => cases h40
          | cons c r4 =>
            cases h40
            exact ⟨r4, rfl⟩
        show _ = (outT ds kts ++ preD d) ++ ((k ++ quo t) ++ [40]) ++ [] ++ r4
        simp only [List.append_assoc, List.cons_append, List.nil_append]
      · rw [if_neg h40] at h
        obtain ⟨a3, d3, ds3, kts3, r3, h1, h2, h3, h4, h5, h6, h7⟩ := clF_ok kts ds (d.snoc k t .nil) a2 r2 hl (snoc_ne _ _ _ _) (fun e m => by
          rcases List.mem_cons.mp m with rfl | m
          · exact Fo.all_snoc (i := .nil) gk trivial gd
          · exact hg e (List.mem_cons_of_mem _ m)) hk
        rw [h1] at h
        rw [wr_snoc] at h6
        have e6 : (outT ds kts ++ preD d) ++ r = (outT ds3 kts3 ++ wr d3) ++ r3 := by
          rw [← h6, e1]
          show _ = outT ds kts ++ (preD d ++ ((k ++ quo t) ++ [])) ++ r2
          simp only [List.append_assoc, List.cons_append, List.nil_append]
        rw [e6]
        cases r3 with
        | nil =>
          cases kts3 with
          | cons kt kts3 => cases h
          | nil =>
            cases h
            have e : outT ds3 [] = [] := by cases ds3 <;> rfl
            rw [e, List.append_nil]
            exact ⟨h4 _ (List.mem_cons_self ..), h3, rfl⟩
        | cons c r4 =>
          have h : (if c = 32 then rdF n (a3 + 1) (d3 :: ds3) kts3 r4 else .inl a3) = .inr fo := h
          by_cases hc : c = 32
          · rw [if_pos hc] at h
            obtain ⟨g1, g2, g3⟩ := rdF_ok n (a3 + 1) d3 ds3 kts3 r4 fo h h2 h4 h5
            refine ⟨g1, g2, ?_⟩
            rw [← g3, preD_ne h3, hc]
            simp only [List.append_assoc, List.cons_append, List.nil_append]
          · rw [if_neg hc] at h
            cases h
theorem rdT_ok {T0 : List Nat} {fo : Fo} (h : rdT T0 = .inr fo) : GF fo ∧ T0 = wr fo := by
  unfold rdT at h
  by_cases hz : T0 = []
  · rw [if_pos hz] at h
    cases h
    exact ⟨trivial, hz⟩
  · rw [if_neg hz] at h
    obtain ⟨g1, _, g3⟩ := rdF_ok _ 0 .nil [] [] T0 fo h rfl (fun e m => by
      rw [List.mem_singleton.mp m]
      exact trivial) (fun x m => by cases m)
    refine ⟨g1, ?_⟩
    rw [← g3]
    rfl

/-! ### read_document: rows and heads -/
def HeadsAt (H : Hp) : List Addr → List (List Nat × List Nat) → Prop
  | [], [] => True
  | c :: cs, kt :: kts => H c = some (.tup [.str (SX.S kt.1), .str (SX.S kt.2)]) ∧ HeadsAt H cs kts
  | _, _ => False
theorem HeadsAt.le {H H' : Hp} (s : TupLe H H') : ∀ {cs : List Addr} {kts : List (List Nat × List Nat)}, HeadsAt H cs kts → HeadsAt H' cs kts
  | [], [], _ => trivial
  | _ :: _, _ :: _, ⟨h, r⟩ => ⟨s _ _ h, r.le s⟩
theorem HeadsAt.len {H : Hp} : ∀ {cs : List Addr} {kts : List (List Nat × List Nat)}, HeadsAt H cs kts → cs.length = kts.length
  | [], [], _ => rfl
  | _ :: _, _ :: _, ⟨h, r⟩ => by rw [List.length_cons, List.length_cons, r.len]
def ktD (kt : List Nat × List Nat) : PyData := .tuple [.str (SX.S kt.1), .str (SX.S kt.2)]
theorem HeadsAt.dp {K : PySem.W.Frag} {H : Hp} : ∀ {cs : List Addr} {kts : List (List Nat × List Nat)}, HeadsAt H cs kts → DpAll K H (cs.reverse.map V.ref) (kts.map ktD).reverse
  | [], [], _ => .nil
  | _ :: _, _ :: _, ⟨h, r⟩ => by
    rw [List.map_cons, List.reverse_cons, List.reverse_cons, List.map_append]
    exact dp_snoc (.tup (SqT.of h) (.cons (.str _) (.cons (.str _) .nil))) r.dp
theorem shaped_kts {kts : List (List Nat × List Nat)} (h : ∀ kt ∈ kts, GN kt.1 kt.2) : SeqAt.shaped (.list (kts.map ktD).reverse) = true := shaped_list fun d m => by
  rw [List.mem_reverse] at m
  obtain ⟨kt, hk, rfl⟩ := List.mem_map.mp m
  obtain ⟨h1, _, _, _, h2⟩ := h kt hk
  have b1 := ok_S fun c hc => letters_small c (h1 c hc)
  have b2 := ok_S fun c hc => sign_small (h2 c hc)
  constructor
  · unfold ktD
    simp only [PyData.canLayAll0, PyData.canLay0, b1, b2, Bool.and_self]
  · unfold ktD
    simp only [PyData.depthAll, PyData.depth]
    omega
structure RI (H : Hp) (R O : Addr) (rs : List Addr) (ds : List Fo) (cs : List Addr) (kts : List (List Nat × List Nat)) (H' : Hp) : Prop where
  same : Same H H'
  fR : H R = none
  fO : H O = none
  hR : H' R = some (.lst (rs.reverse.map V.ref))
  hO : H' O = some (.lst (cs.reverse.map V.ref))
  rows : RowsR H' rs ds
  heads : HeadsAt H' cs kts
  len : rs.length = cs.length + 1
  nd : rs.Nodup
  nR : R ∉ rs
  nO : O ∉ rs
  RO : R ≠ O
  fresh : ∀ r ∈ rs, H r = none
section
variable {H H' : Hp} {R O : Addr} {rs cs : List Addr} {ds : List Fo} {kts : List (List Nat × List Nat)} {x rl rp : Addr} {o : HO}
theorem RI.new (h : RI H R O rs ds cs kts H') (n : H' x = none) : RI H R O rs ds cs kts (upd H' x o) :=
  { h with
    same := h.same.trans (same_upd n)
    hR := same_upd n _ _ h.hR
    hO := same_upd n _ _ h.hO
    rows := h.rows.keep (TupLe.new n) fun r _ xs e => same_upd n _ _ e
    heads := h.heads.le (TupLe.new n) }
theorem RI.row (h : RI H R O rs ds cs kts H') {r : Addr} (m : r ∈ rs) : r ≠ R ∧ r ≠ O := ⟨fun z => h.nR (z ▸ m), fun z => h.nO (z ▸ m)⟩
theorem RI.opened (h : RI H R O rs ds cs kts H') {c e : Addr} {kt : List Nat × List Nat} (hc : H' c = some (.tup [.str (SX.S kt.1), .str (SX.S kt.2)])) (n : upd H' O (.lst (cs.reverse.map V.ref ++ [.ref c])) e = none) :
    RI H R O (e :: rs) (.nil :: ds) (c :: cs) (kt :: kts) (upd (upd (upd H' O (.lst (cs.reverse.map V.ref ++ [.ref c]))) e (.lst [])) R (.lst (rs.reverse.map V.ref ++ [.ref e]))) := by
  have n1 : H' e = none := un0 n
  have eO : e ≠ O := fun z => by
    rw [z, upd_same] at n
    cases n
  have eR : e ≠ R := (ne_of_none h.hR n1).symm
  have er : e ∉ rs := fun m => by
    obtain ⟨xs, q⟩ := h.rows.mem e m
    rw [n1] at q
    cases q
  have he : H e = none := by
    cases q : H e with
    | none => rfl
    | some o =>
      rw [h.same _ _ q] at n1
      cases n1
  have t1 : TupLe H' (upd H' O (.lst (cs.reverse.map V.ref ++ [.ref c]))) := TupLe.lst h.hO
  have t2 := t1.trans (TupLe.new (o := .lst []) n)
  have hR2 : upd (upd H' O (.lst (cs.reverse.map V.ref ++ [.ref c]))) e (.lst []) R = some (.lst (rs.reverse.map V.ref)) := same_upd n _ _ (upd2 h.RO h.hR)
  have t3 := t2.trans (TupLe.lst (m := rs.reverse.map V.ref ++ [.ref e]) hR2)
  refine {
    same := same_mut ((same_mut h.same h.fO).trans (same_upd n)) h.fR
    fR := h.fR
    fO := h.fO
    hR := (by rw [upd_same, List.reverse_cons, List.map_append]; rfl)
    hO := (by rw [upd_ne h.RO.symm, upd_ne eO.symm, upd_same, List.reverse_cons, List.map_append]; rfl)
    rows := ⟨⟨[], (by rw [upd_ne eR, upd_same]), rfl⟩, h.rows.keep t3 fun r m xs q => ?_⟩
    heads := ⟨t3 _ _ hc, h.heads.le t3⟩
    len := (by rw [List.length_cons, List.length_cons, h.len])
    nd := List.nodup_cons.mpr ⟨er, h.nd⟩
    nR := fun m => ?_
    nO := fun m => ?_
    RO := h.RO
    fresh := fun r m => ?_ }
  · have me : r ≠ e := fun z => er (z ▸ m)
    exact upd2 (h.row m).1 (upd2 me (upd2 (h.row m).2 q))
  · rcases List.mem_cons.mp m with z | m
    · exact eR z.symm
    · exact h.nR m
  · rcases List.mem_cons.mp m with z | m
    · exact eO z.symm
    · exact h.nO m
  · rcases List.mem_cons.mp m with rfl | m
    · exact he
    · exact h.fresh r m
theorem RI.add {i d : Fo} {k t : List Nat} {q pn : Addr} {xl ys : List V} (h : RI H R O (rl :: rs) (d :: ds) cs kts H') (hl : H' rl = some (.lst xl)) (il : Items H' d xl) (hq : H' q = some (.tup ys)) (iq : Items H' i ys) (npn : H' pn = none) :
    RI H R O (rl :: rs) (d.snoc k t i :: ds) cs kts (upd (upd H' pn (.tup [.str (SX.S k), .str (SX.S t), .ref q])) rl (.lst (xl ++ [.ref pn]))) := by
  have nd := List.nodup_cons.mp h.nd
  have ml : rl ∈ rl :: rs := List.mem_cons_self ..
  have t1 : TupLe H' (upd H' pn (.tup [.str (SX.S k), .str (SX.S t), .ref q])) := TupLe.new npn
  have hl1 := same_upd (o := .tup [.str (SX.S k), .str (SX.S t), .ref q]) npn _ _ hl
  have t12 : TupLe (upd H' pn (.tup [.str (SX.S k), .str (SX.S t), .ref q])) _ := TupLe.lst (m := xl ++ [.ref pn]) hl1
  have t2 := t1.trans t12
  obtain ⟨_, hrows⟩ := h.rows
  refine {
    same := same_mut (h.same.trans (same_upd npn)) (h.fresh rl ml)
    fR := h.fR
    fO := h.fO
    hR := upd2 (h.row ml).1.symm (same_upd npn _ _ h.hR)
    hO := upd2 (h.row ml).2.symm (same_upd npn _ _ h.hO)
    rows := ⟨⟨_, upd_same, Items.snoc (t12 _ _ upd_same) (t2 _ _ hq) (iq.le t2) (il.le t2)⟩, hrows.keep t2 fun r m xs e => ?_⟩
    heads := h.heads.le t2
    len := h.len
    nd := h.nd
    nR := h.nR
    nO := h.nO
    RO := h.RO
    fresh := h.fresh }
  exact upd2 (fun z => nd.1 (z ▸ m)) (same_upd npn _ _ e)
theorem RI.pop {c : Addr} {kt : List Nat × List Nat} {d d2 : Fo} (h : RI H R O (rl :: rp :: rs) (d :: d2 :: ds) (c :: cs) (kt :: kts) H') :
    RI H R O (rp :: rs) (d2 :: ds) cs kts (upd (upd H' O (.lst (cs.reverse.map V.ref))) R (.lst ((rp :: rs).reverse.map V.ref))) ∧ TupLe H' (upd (upd H' O (.lst (cs.reverse.map V.ref))) R (.lst ((rp :: rs).reverse.map V.ref))) := by
  have nd := List.nodup_cons.mp h.nd
  have t1 : TupLe H' (upd H' O (.lst (cs.reverse.map V.ref))) := TupLe.lst h.hO
  have t2 := t1.trans (TupLe.lst (m := (rp :: rs).reverse.map V.ref) (upd2 h.RO h.hR))
  obtain ⟨_, hrows⟩ := h.rows
  obtain ⟨_, hheads⟩ := h.heads
  refine ⟨{
    same := same_mut (same_mut h.same h.fO) h.fR
    fR := h.fR
    fO := h.fO
    hR := upd_same
    hO := upd2 h.RO.symm upd_same
    rows := hrows.keep t2 fun r m xs e => ?_
    heads := hheads.le t2
    len := ?_
    nd := nd.2
    nR := fun m => h.nR (List.mem_cons_of_mem _ m)
    nO := fun m => h.nO (List.mem_cons_of_mem _ m)
    RO := h.RO
    fresh := fun r m => h.fresh r (List.mem_cons_of_mem _ m) }, t2⟩
  · have m2 := List.mem_cons_of_mem rl m
    exact upd2 (h.row m2).1 (upd2 (h.row m2).2 e)
  · have := h.len
    rw [List.length_cons, List.length_cons, List.length_cons] at this
    rw [List.length_cons]
    omega
end
/-! what is read, what is left -/
structure Fr where
  d : Fo
  k : List Nat
  t : List Nat
  r : Fo
def Fo.app : Fo → Fo → Fo
  | .nil, g => g
  | .cons k t i r, g => .cons k t i (r.app g)
theorem Fo.app_nil : ∀ f : Fo, f.app .nil = f
  | .nil => rfl
  | .cons k t i r => by
    show Fo.cons k t i (r.app .nil) = _
    rw [Fo.app_nil r]
theorem Fo.snoc_app (k t : List Nat) (i g : Fo) : ∀ f : Fo, (f.snoc k t i).app g = f.app (.cons k t i g)
  | .nil => rfl
  | .cons k' t' i' r => by
    show Fo.cons k' t' i' ((r.snoc k t i).app g) = Fo.cons k' t' i' (r.app (.cons k t i g))
    rw [Fo.snoc_app k t i g r]
def plug : Fo → List Fr → Fo
  | c, [] => c
  | c, f :: fs => plug (f.d.app (.cons f.k f.t c f.r)) fs
def closeT : List Fr → List Nat
  | [] => []
  | f :: fs => 41 :: (sepT f.r (wr f.r) ++ closeT fs)
def frW (fs : List Fr) : Nat := (fs.map fun f => f.r.size).sum
def FrG (f : Fr) : Prop := GN f.k f.t ∧ GF f.r
theorem Fo.size_app (g : Fo) : ∀ f : Fo, (f.app g).size = f.size + g.size
  | .nil => by
    show g.size = 0 + g.size
    omega
  | .cons k t i r => by
    have := Fo.size_app g r
    show 1 + i.size + (r.app g).size = 1 + i.size + r.size + g.size
    omega
theorem plug_size : ∀ (fs : List Fr) (c : Fo), c.size + fs.length ≤ (plug c fs).size
  | [], c => Nat.le_refl _
  | f :: fs, c => by
    have h := plug_size fs (f.d.app (.cons f.k f.t c f.r))
    rw [Fo.size_app] at h
    have e : (Fo.cons f.k f.t c f.r).size = 1 + c.size + f.r.size := rfl
    show c.size + (fs.length + 1) ≤ (plug (f.d.app (.cons f.k f.t c f.r)) fs).size
    omega
theorem RI.mono {H H' H2 : Hp} {R O : Addr} {rs cs : List Addr} {ds : List Fo} {kts : List (List Nat × List Nat)} (h : RI H R O rs ds cs kts H') (s : Same H' H2) : RI H R O rs ds cs kts H2 :=
  { h with
    same := h.same.trans s
    hR := s _ _ h.hR
    hO := s _ _ h.hO
    rows := h.rows.keep (TupLe.same s) fun r _ xs e => s _ _ e
    heads := h.heads.le (TupLe.same s) }
theorem head_sep (r : Fo) (fs : List Fr) (c : Nat) (h : (sepT r (wr r) ++ closeT fs).head? = some c) : c = 32 ∨ c = 41 := by
  cases r with
  | nil =>
    cases fs with
    | nil => cases h
    | cons f fs =>
      cases h
      exact .inr rfl
  | cons _ _ _ _ =>
    cases h
    exact .inl rfl
theorem head_par (i r : Fo) (fs : List Fr) (c : Nat) (h : (parT i (wr i) ++ (sepT r (wr r) ++ closeT fs)).head? = some c) : c = 40 ∨ c = 32 ∨ c = 41 := by
  cases i with
  | nil => exact .inr (head_sep r fs c h)
  | cons _ _ _ _ =>
    cases h
    exact .inl rfl
theorem head_quo (t : List Nat) (i r : Fo) (fs : List Fr) (c : Nat) (h : (quo t ++ (parT i (wr i) ++ (sepT r (wr r) ++ closeT fs))).head? = some c) : c ∉ letters := by
  by_cases z : t = []
  · have e : quo t = [] := by unfold quo; rw [if_pos z]
    rw [e] at h
    rcases head_par i r fs c h with rfl | rfl | rfl <;> decide
  · have e : quo t = 34 :: (t ++ [34]) := by unfold quo; rw [if_neg z]
    rw [e] at h
    cases h
    decide
theorem cut1 {T pre rest : List Nat} {n : Nat} (h : T = pre ++ rest) (hn : n = pre.length) : cutS (SX.S T) (some (n : Int)) (some ((n : Int) + 1)) = SX.S (rest.take 1) := by
  rw [cut_one, h, hn, List.drop_left]
def spRD : Sp := fun vs H Q _ => ∃ (f : Fo), vs = [.str (SX.S (wr f))] ∧ GF f ∧ f.size ≤ 100 ∧ ∀ a H', Same H H' → Doc H' f a → Q (.ref a) H'

/-! ### read_document over any text: the walk -/
def spRDx (C : Addr) : Sp := fun vs H Q E => ∃ (T0 : List Nat), vs = [.str (SX.S T0)] ∧ T0.length ≤ 1000 ∧
  (∀ fo, rdT T0 = .inr fo → ∀ a H', Same H H' → Doc H' fo a → Q (.ref a) H') ∧
  (∀ i, rdT T0 = .inl i → ∀ H' dd, Same H H' → ErrAt H' dd "at" "ParseError" (.int (i : Int)) → E (.ref C) (some dd) H')
theorem rdF_inl {n a : Nat} {ds : List Fo} {kts : List (List Nat × List Nat)} {r : List Nat} {i : Nat} (h : hdF a r = .inl i) : rdF (n + 1) a ds kts r = .inl i := by
  unfold rdF
  rw [h]
theorem rdF_open {n a a2 : Nat} {ds : List Fo} {kts : List (List Nat × List Nat)} {r k t r3 : List Nat} (h : hdF a r = .inr (k, t, a2, 40 :: r3)) : rdF (n + 1) a ds kts r = rdF n (a2 + 1) (.nil :: ds) ((k, t) :: kts) r3 := by
  conv => lhs; unfold rdF
  rw [h]
  exact if_pos rfl
theorem rdF_leaf {n a a2 : Nat} {d : Fo} {ds : List Fo} {kts : List (List Nat × List Nat)} {r k t r2 : List Nat} (h : hdF a r = .inr (k, t, a2, r2)) (h40 : ¬ r2.head? = some 40) : rdF (n + 1) a (d :: ds) kts r = rdE (rdF n) (clF a2 (d.snoc k t .nil :: ds) kts r2) := by
  conv => lhs; unfold rdF
  rw [h]
  exact if_neg h40
theorem len_snoc (k t : List Nat) (i : Fo) : ∀ d : Fo, (d.snoc k t i).len = d.len + 1
  | .nil => rfl
  | .cons _ _ _ r => by
    show (r.snoc k t i).len + 1 = r.len + 1 + 1
    rw [len_snoc k t i r]
section
variable {P : Program} {w : World} {K : PySem.W.Frag} {mg : Str → Option Value} {base : Heap} {f C : Addr} {fd : FuncData}
theorem ok_read_documentX (F : Fun K "read_document" "read_document" s_read_document f fd) (T : Txt mg) (c_read_kind : CalR P w K mg base 3 "read_kind" (spRKx C)) (c_read_quoted : CalR P w K mg base 3 "read_quoted" (spRQx C))
    (err_ParseError : ErrC P w K mg base "ParseError" C 2 (spIni K "ParseError" "at")) (n1 : PySem.W.findIn K (.ref C) "code" = some none) (n2 : PySem.W.findIn K (.ref C) "at" = some none) : FnOk P w K mg base (L2.CX P w) 4 f fd ["text"] (spRDx C) := by
  refine F.okX sc_read_document (fun vs H Q E h => ?_) (fun cdv A outer s H vs Q E hr h => ?_)
  · obtain ⟨fo, rfl, _⟩ := h
    rfl
  · obtain ⟨T0, rfl, hsz, q, qx⟩ := h
    refine ⟨_, (pss_cons (ps_if (pt_cmpR (op_eqX K hr) (pv 0) pe_str (nomark _)) (pss_one (ps_ret (pe_tup pa_nil))) pss_nil)
      (pss_cons (ps_par3 (i := 1) (j := 2) (l := 3) (by rfl) sc_read_document.nd rfl rfl rfl (by decide) (by decide) (by decide) rfl rfl rfl (pa_cons (pe_lst (pa_cons (pe_lst pa_nil) pa_nil)) (pa_cons (pe_lst pa_nil) (pa_cons pe_int pa_nil))) (by rfl))
      (pss_one (ps_while (passes_of rfl) (pt_val pe_bl) (pss_cons (ps_asg (pe_cR (takes_of rfl rfl rfl rfl) c_read_kind hr (by omega) (by rfl) (pa_cons (pv 0) (pa_cons (pv 3) pa_nil))) (pg_tupX K (pg_tup (n := 2) (by rfl) (pgs_cons (pg_name (i := 4) sc_read_document.nd rfl (.inl rfl)) (pgs_cons (pg_name (i := 3) sc_read_document.nd rfl (.inl rfl)) pgs_nil)))))
      (pss_cons (ps_asg (pe_cR (takes_of rfl rfl rfl rfl) c_read_quoted hr (by omega) (by rfl) (pa_cons (pv 0) (pa_cons (pv 3) pa_nil))) (pg_tupX K (pg_tup (n := 2) (by rfl) (pgs_cons (pg_name (i := 5) sc_read_document.nd rfl (.inl rfl)) (pgs_cons (pg_name (i := 3) sc_read_document.nd rfl (.inl rfl)) pgs_nil)))))
      (pss_cons (ps_if (pt_cmpR (op_eqX K hr) (pe_slice (sl_X K) (pv 0) (po_some (pv 3)) (po_some (pe_op (op_addX K) (pv 3) pe_int))) pe_str (nomark _)) (pss_cons (ps_expr (pe_bmX K (pe_bm PySem.F.plainAttrs_list PySem.F.slot_list_append PySem.F.type_list_append mt_append (pv 2) (pa_cons (pe_tup (pa_cons (pv 4) (pa_cons (pv 5) pa_nil))) pa_nil))))
      (pss_cons (ps_expr (pe_bmX K (pe_bm PySem.F.plainAttrs_list PySem.F.slot_list_append PySem.F.type_list_append mt_append (pv 1) (pa_cons (pe_lst pa_nil) pa_nil))))
      (pss_cons (ps_aug (i := 3) sc_read_document.nd rfl (.inl rfl) pe_int ip_X)
      (pss_one ps_continue)))) pss_nil)
      (pss_cons (ps_expr (pe_bmX K (pe_bm PySem.F.plainAttrs_list PySem.F.slot_list_append PySem.F.type_list_append mt_append (pe_ix (ix_X K) (pv 1) (pe_un un_neg pe_int) (fun _ _ => rfl)) (pa_cons (pe_tup (pa_cons (pv 4) (pa_cons (pv 5) (pa_cons (pe_tup pa_nil) pa_nil)))) pa_nil))))
      (pss_cons (ps_while (passes_of rfl) (PW.pt (pw_and (pt_cmpR (op_neX K hr) (pv 2) (pe_lst pa_nil) (nomark _)) (pw_and1 (pt_cmpR (op_eqX K hr) (pe_slice (sl_X K) (pv 0) (po_some (pv 3)) (po_some (pe_op (op_addX K) (pv 3) pe_int))) pe_str (nomark _))))) (pss_cons (ps_asg (pe_bm0X K (pe_bm0 PySem.F.plainAttrs_list PySem.F.slot_list_pop PySem.F.type_list_pop mt_pop (pv 2))) (pg_tupX K (pg_tup (n := 2) (by rfl) (pgs_cons (pg_name (i := 4) sc_read_document.nd rfl (.inl rfl)) (pgs_cons (pg_name (i := 5) sc_read_document.nd rfl (.inl rfl)) pgs_nil)))))
      (pss_cons (ps_set (i := 6) sc_read_document.nd rfl (.inl rfl) (pe_callTy (cr_tuple K) (by rfl) T.tuple (by decide +kernel) (pa_cons (pe_bm0X K (pe_bm0 PySem.F.plainAttrs_list PySem.F.slot_list_pop PySem.F.type_list_pop mt_pop (pv 1))) pa_nil)))
      (pss_cons (ps_expr (pe_bmX K (pe_bm PySem.F.plainAttrs_list PySem.F.slot_list_append PySem.F.type_list_append mt_append (pe_ix (ix_X K) (pv 1) (pe_un un_neg pe_int) (fun _ _ => rfl)) (pa_cons (pe_tup (pa_cons (pv 4) (pa_cons (pv 5) (pa_cons (pv 6) pa_nil)))) pa_nil))))
      (pss_one (ps_aug (i := 3) sc_read_document.nd rfl (.inl rfl) pe_int ip_X))))))
      (pss_cons (ps_if (PW.pt (pw_and (pt_cmpR (op_eqX K hr) (pv 3) (pe_callB (call_lenX K) (by rfl) T.len PySem.boot_len (pa_cons (pv 0) pa_nil)) (nomark _)) (pw_and1 (pt_cmpR (op_eqX K hr) (pv 2) (pe_lst pa_nil) (nomark _))))) (pss_one (ps_ret (pe_callTy (cr_tuple K) (by rfl) T.tuple (by decide +kernel) (pa_cons (pe_ix (ix_X K) (pv 1) pe_int (fun _ _ => rfl)) pa_nil)))) pss_nil)
      (pss_cons (ps_if (pt_cmpR (op_neX K hr) (pe_slice (sl_X K) (pv 0) (po_some (pv 3)) (po_some (pe_op (op_addX K) (pv 3) pe_int))) pe_str (nomark _)) (pss_one (ps_rz rfl (takes_of rfl rfl rfl rfl) err_ParseError hr (by omega) (by rfl) (pa_cons (pv 3) pa_nil))) pss_nil)
      (pss_one (ps_aug (i := 3) sc_read_document.nd rfl (.inl rfl) pe_int ip_X))))))))))))), ?_⟩
    change (_ : TS) _ [some (V.str (SX.S T0)), none, none, none, none, none, none] _
    have hTl : (SX.S T0).length ≤ sizeLine := by rw [SX.S_len, sizeLine_eq]; omega
    k_extra "rr"
    rw [S_emp]
    by_cases hz : T0 = []
    · subst hz
      rw [decide_eq_true rfl]
      k_extra "rr"
      refine ⟨by k_extra "sz", fun p np => ?_⟩
      k_extra "rr"
      exact q .nil rfl p _ (same_upd np) ⟨[], upd_same, rfl⟩
    · rw [decide_eq_false hz]
      have hrd : rdT T0 = rdF (T0.length + 1) 0 [.nil] [] T0 := by unfold rdT; rw [if_neg hz]
      generalize hres : rdT T0 = res at q qx hrd
      k_extra "rr"
      refine ⟨by k_extra "sz", fun r0 nr0 => ?_⟩
      k_extra "rr"
      refine ⟨by k_extra "sz", fun R nR => ?_⟩
      k_extra "rr"
      refine ⟨by k_extra "sz", fun O nO => ?_⟩
      k_extra "rr"
      have i0 : RI H R O [r0] [.nil] [] [] (upd (upd (upd H r0 (.lst [])) R (.lst [.ref r0])) O (.lst [])) := {
        same := ((same_upd nr0).trans (same_upd nR)).trans (same_upd nO)
        fR := un0 nR
        fO := un0 (un0 nO)
        hR := upd2 (ne_of_none upd_same nO) upd_same
        hO := upd_same
        rows := ⟨⟨[], same_upd nO _ _ (same_upd nR _ _ upd_same), rfl⟩, trivial⟩
        heads := trivial
        len := rfl
        nd := (by simp)
        nR := fun z => ne_of_none upd_same nR (List.mem_singleton.mp z).symm
        nO := fun z => ne_of_none (same_upd nR _ _ upd_same) nO (List.mem_singleton.mp z).symm
        RO := ne_of_none upd_same nO
        fresh := fun r z => (by rw [List.mem_singleton.mp z]; exact nr0) }
      obtain ⟨W, hW⟩ : ∃ W : Nat → L2.St → Hp → Prop, ∀ m σ H', W m σ H' ↔ ∃ (n : Nat) (pre r : List Nat) (d : Fo) (ds : List Fo) (kts : List (List Nat × List Nat)) (rs cs : List Addr) (v4 v5 v6 : Option V), σ = [some (.str (SX.S T0)), some (.ref R), some (.ref O), some (.int (pre.length : Int)), v4, v5, v6] ∧
        RI H R O rs (d :: ds) cs kts H' ∧ T0 = pre ++ r ∧ m = r.length ∧ r.length < n ∧ res = rdF n pre.length (d :: ds) kts r ∧ (∀ kt ∈ kts, GN kt.1 kt.2) ∧ kts.length ≤ pre.length ∧ (∀ e ∈ d :: ds, e.len ≤ pre.length) := ⟨_, fun _ _ _ => Iff.rfl⟩
      refine ⟨W, ⟨T0.length, (hW _ _ _).mpr ⟨T0.length + 1, [], T0, .nil, [], [], _, _, _, _, _, rfl, i0, rfl, rfl, Nat.lt_succ_self _, hrd, (fun x m => by cases m), Nat.le_refl _, (fun e m => by rw [List.mem_singleton.mp m]; exact Nat.le_refl _)⟩⟩, ?_⟩
      clear i0 hrd
      intro m σ H' hw
      obtain ⟨n, pre, r, d, ds, kts, rs, cs, v4, v5, v6, rfl, I, hT, hm, hn, hgo, hgk, hkl, hdl⟩ := (hW _ _ _).mp hw
      clear hw
      k_extra "rr"
      refine ⟨_, fun _ _ h => h, ?_⟩
      obtain ⟨n, rfl⟩ : ∃ n', n = n' + 1 := ⟨n - 1, by omega⟩
      have hcl := I.heads.len
      have hrl := I.len
      have hTn : T0.length = pre.length + r.length := by rw [hT, List.length_append]
      obtain ⟨k, r1, hkr, hk1, hr1, hhd⟩ := hdF_eq pre.length r
      k_extra "rr"
      refine ⟨pre, k, r1, by rw [← hkr, ← hT], by rw [← hkr, ← hT]; exact Nat.le_trans hsz (by decide), hk1, hr1, fun h1 h6 p1 H1 s1 hp1 => ?_, fun h0 H1 dd s1 he => ?_⟩
      case refine_2 =>
        rw [if_pos h0] at hhd
        rw [rdF_inl hhd] at hgo
        exact qx _ hgo H1 dd (I.same.trans s1) he
      rw [if_neg (by omega)] at hhd
      have I1 := I.mono s1
      clear I
      k_extra "rr"
      have hT2 : T0 = (pre ++ k) ++ r1 := by rw [List.append_assoc, ← hkr]; exact hT
      have hlpk : (pre ++ k).length = pre.length + k.length := List.length_append
      refine toS (sp := spRQx C) (fun x H2 => ∃ (t A0 r2 : List Nat) (p2 : Addr), x = .ref p2 ∧ Same H1 H2 ∧ H2 p2 = some (.tup [.str (SX.S t), .int (A0.length : Int)]) ∧ T0 = A0 ++ r2 ∧ hdF pre.length r = .inr (k, t, A0.length, r2)) (fun x H2 hx => ?_) (fun Q' q' => ?_)
      case refine_2 =>
        refine ⟨pre ++ k, r1, by rw [← hT2], by rw [← hT2]; exact Nat.le_trans hsz (by decide), fun h34 p2 H2 s2 h2 => ?_, fun r' j er hq hj p2 H2 s2 h2 => ?_, fun r' j b er hq hj H2 dd s2 he => ?_⟩
        · refine q' _ H2 ⟨[], pre ++ k, r1, p2, rfl, s2, by rw [← empty_S]; exact h2, hT2, ?_⟩
          rw [hhd, hlpk]
          unfold hdQ
          cases r1 with
          | nil => rfl
          | cons c r2 => exact if_neg (fun z => h34 (by rw [z]; rfl))
        · subst er
          obtain ⟨_, j20, hs, s, e1, e2⟩ := rqF_ok r' 0 j (by omega) hq
          rw [Nat.sub_zero] at hs e1 e2
          have hjl : j < r'.length := by
            have := congrArg List.length e1
            rw [List.length_drop, List.length_cons] at this
            omega
          have hA : ((pre ++ k) ++ (34 :: r'.take (j + 1))).length = (pre ++ k).length + j + 2 := by
            rw [List.length_append, List.length_cons, List.length_take]
            omega
          refine q' _ H2 ⟨r'.take j, (pre ++ k) ++ (34 :: r'.take (j + 1)), r'.drop (j + 1), p2, rfl, s2, by rw [hA]; exact h2, ?_, ?_⟩
          · rw [List.append_assoc, List.cons_append, List.take_append_drop]
            exact hT2
          · rw [hhd, hA, hlpk]
            unfold hdQ
            show (if (34 : Nat) = 34 then _ else _) = _
            rw [if_pos rfl, hq, if_neg (by simp; omega)]
        · subst er
          have hb : hdQ pre.length k (34 :: r') = .inl (pre.length + k.length + 1 + j) := by
            unfold hdQ
            show (if (34 : Nat) = 34 then _ else _) = _
            rw [if_pos rfl, hq]
            exact if_pos hj
          rw [hb] at hhd
          rw [rdF_inl hhd] at hgo
          exact qx _ hgo H2 dd (I1.same.trans s2) (by rw [← hlpk]; exact he)
      obtain ⟨t, A0, r2, p2, rfl, s2, h2, hTA, hh⟩ := hx
      clear hhd hp1
      obtain ⟨gk, er, ea⟩ := hdF_ok hh
      have hA1 : pre.length < A0.length := by rw [ea, List.length_append]; have := gk.2.1; omega
      have I2 := I1.mono s2
      clear I1
      k_extra "rr"
      have eo : Str.ofString "(" = SX.S [40] := by decide +kernel
      have ec : Str.ofString ")" = SX.S [41] := by decide +kernel
      have es : Str.ofString " " = SX.S [32] := by decide +kernel
      rw [cut1 hTA rfl, eo, S_one]
      have hTn2 : T0.length = A0.length + r2.length := by rw [hTA, List.length_append]
      have hsn : ∀ l : List Addr, l.length ≤ 2000 → (l.reverse.map V.ref).length < sizeLine := fun l h => by rw [List.length_map, List.length_reverse, sizeLine_eq]; omega
      by_cases h40 : r2.head? = some 40
      · obtain ⟨r3, rfl⟩ : ∃ r3, r2 = 40 :: r3 := by
          cases r2 with
          | nil => cases h40
          | cons c r3 =>
            cases h40
            exact ⟨r3, rfl⟩
        rw [decide_eq_true h40]
        k_extra "rr"
        refine ⟨tyvL I2.hO, ?_⟩
        k_extra "rr"
        refine ⟨by k_extra "sz", fun c nc => ?_⟩
        have I3 := I2.new (o := .tup [.str (SX.S k), .str (SX.S t)]) nc
        have hc3 : upd H2 c (.tup [.str (SX.S k), .str (SX.S t)]) c = some (.tup [.str (SX.S k), .str (SX.S t)]) := upd_same
        generalize upd H2 c (.tup [.str (SX.S k), .str (SX.S t)]) = H3 at I3 hc3
        k_extra "rr"
        refine app I3.hO (hsn cs (by omega)) ?_
        k_extra "rr"
        refine ⟨tyvL (upd2 I3.RO I3.hR), ?_⟩
        k_extra "rr"
        refine ⟨by k_extra "sz", fun e ne => ?_⟩
        k_extra "rr"
        refine app (same_upd ne _ _ (upd2 I3.RO I3.hR)) (hsn rs (by omega)) ?_
        k_extra "rr"
        have I4 := I3.opened (kt := (k, t)) hc3 ne
        have e1 : ((A0 ++ [40]).length : Int) = (A0.length : Int) + 1 := by rw [List.length_append, List.length_singleton]; omega
        have e2 : (A0 ++ [40]).length = A0.length + 1 := by rw [List.length_append, List.length_singleton]
        rw [List.length_cons] at hTn2
        refine ⟨r3.length, by omega, (hW _ _ _).mpr ⟨n, A0 ++ [40], r3, .nil, d :: ds, (k, t) :: kts, _, _, some (.str (SX.S k)), some (.str (SX.S t)), v6, ?_, I4, ?_, rfl, by omega, ?_, fun x m => ?_, ?_, fun e m => ?_⟩⟩
        · rw [e1]
          rfl
        · rw [hTA, List.append_assoc]
          rfl
        · rw [hgo, rdF_open hh, e2]
        · rcases List.mem_cons.mp m with rfl | m
          · exact gk
          · exact hgk x m
        · rw [List.length_cons, e2]
          omega
        · rw [e2]
          rcases List.mem_cons.mp m with rfl | m
          · exact Nat.zero_le _
          · have := hdl e m
            omega
      · rw [decide_eq_false h40]
        k_extra "rr"
        rw [rdF_leaf hh h40] at hgo
        obtain ⟨rl, rs', rfl⟩ : ∃ rl rs', rs = rl :: rs' := by
          match rs, hrl with
          | a :: b, _ => exact ⟨a, b, rfl⟩
        have hR2 := I2.hR
        rw [List.reverse_cons, List.map_append] at hR2
        refine ixL (SqL.of hR2) atI_last ?_
        obtain ⟨⟨xl, hxl, ixl⟩, _⟩ := id I2.rows
        refine ⟨tyvL hxl, ?_⟩
        k_extra "rr"
        refine ⟨by k_extra "sz", fun q0 nq => ?_⟩
        have I3 := I2.new (o := .tup []) nq
        have hq3 : upd H2 q0 (.tup []) q0 = some (.tup []) := upd_same
        have hxl3 := same_upd (o := .tup []) nq _ _ hxl
        have ixl3 := ixl.le (TupLe.new (o := .tup []) nq)
        generalize upd H2 q0 (.tup []) = H3 at I3 hq3 hxl3 ixl3
        k_extra "rr"
        refine ⟨by k_extra "sz", fun pn npn => ?_⟩
        k_extra "rr"
        have hd0 := hdl d (List.mem_cons_self ..)
        have hxll := ixl.len
        refine app (same_upd npn _ _ hxl3) (by rw [sizeLine_eq]; omega) ?_
        have I4 := I3.add (k := k) (t := t) (i := .nil) hxl3 ixl3 hq3 rfl npn
        generalize upd (upd H3 pn (.tup [.str (SX.S k), .str (SX.S t), .ref q0])) rl (.lst (xl ++ [.ref pn])) = H5 at I4
        k_extra "rr"
        have hdl2 : ∀ e ∈ d.snoc k t .nil :: ds, e.len ≤ A0.length := fun e m => by
          rcases List.mem_cons.mp m with rfl | m
          · rw [len_snoc]
            omega
          · have := hdl e (List.mem_cons_of_mem _ m)
            omega
        obtain ⟨W2, hW2⟩ : ∃ W2 : Nat → L2.St → Hp → Prop, ∀ m2 σ H', W2 m2 σ H' ↔ ∃ (pre r : List Nat) (d : Fo) (ds : List Fo) (kts : List (List Nat × List Nat)) (rs cs : List Addr) (v4 v5 v6 : Option V), σ = [some (.str (SX.S T0)), some (.ref R), some (.ref O), some (.int (pre.length : Int)), v4, v5, v6] ∧
          RI H R O rs (d :: ds) cs kts H' ∧ T0 = pre ++ r ∧ r.length < m ∧ res = rdE (rdF n) (clF pre.length (d :: ds) kts r) ∧ (∀ kt ∈ kts, GN kt.1 kt.2) ∧ kts.length ≤ pre.length ∧ (∀ e ∈ d :: ds, e.len ≤ pre.length) ∧ m2 = kts.length := ⟨_, fun _ _ _ => Iff.rfl⟩
        refine ⟨W2, ⟨_, (hW2 _ _ _).mpr ⟨A0, r2, d.snoc k t .nil, ds, kts, _, _, _, _, _, rfl, I4, hTA, by omega, hgo, hgk, by omega, hdl2, rfl⟩⟩, ?_⟩
        clear hgo I4 hdl2 hgk hkl hdl hd0 hxll ixl3 hxl3 hq3 I3 hxl ixl hR2 I2
        intro m2 σ H' hw
        obtain ⟨pre2, r, d, ds, kts, rs2, cs2, v4', v5', v6', rfl, J, hU, hrm, hgo, hgk, hkl, hdl, hmm⟩ := (hW2 _ _ _).mp hw
        clear hw
        have hcl2 := J.heads.len
        have hrl2 := J.len
        have hUn : T0.length = pre2.length + r.length := by rw [hU, List.length_append]
        k_extra "rr"
        refine ⟨by k_extra "sz", fun e ne => ?_⟩
        have J2 := J.new (o := .lst []) ne
        k_extra "rr"
        refine neDd (d := .list (kts.map ktD).reverse) (e := .list []) (.lst (SqL.of J2.hO) J2.heads.dp) (.lst (SqL.of upd_same) .nil) (shaped_kts hgk) shaped_nilL ?_
        rw [eqv_nilL]
        generalize upd H' e (.lst []) = H6 at J2
        by_cases hx41 : kts ≠ [] ∧ r.head? = some 41
        case pos =>
          obtain ⟨hkn, h41⟩ := hx41
          obtain ⟨kt, kts, rfl⟩ : ∃ a b, kts = a :: b := by
            cases kts with
            | nil => exact absurd rfl hkn
            | cons a b => exact ⟨a, b, rfl⟩
          obtain ⟨r4, rfl⟩ : ∃ r4, r = 41 :: r4 := by
            cases r with
            | nil => cases h41
            | cons c r4 =>
              cases h41
              exact ⟨r4, rfl⟩
          rw [show (!(((kt :: kts).map ktD).reverse.isEmpty)) = true by simp]
          k_extra "rr"
          rw [cut1 hU rfl, ec, S_one, decide_eq_true h41]
          k_extra "rr"
          refine ⟨_, fun _ _ h => h, ?_⟩
          k_extra "rr"
          obtain ⟨c, cs', rfl⟩ : ∃ c cs', cs2 = c :: cs' := by
            match cs2, hcl2 with
            | a :: b, _ => exact ⟨a, b, rfl⟩
          obtain ⟨rl2, rp, rs', rfl⟩ : ∃ rl rp rs', rs2 = rl :: rp :: rs' := by
            match rs2, hrl2 with
            | a :: b :: r, _ => exact ⟨a, b, r, rfl⟩
          obtain ⟨d2, ds, rfl⟩ : ∃ d2 ds', ds = d2 :: ds' := by
            have := J2.rows.len
            match ds, this with
            | a :: b, _ => exact ⟨a, b, rfl⟩
          have hO6 := J2.hO
          rw [List.reverse_cons, List.map_append] at hO6
          obtain ⟨hc6, _⟩ := id J2.heads
          obtain ⟨⟨xl2, hxl2, ixl2⟩, ⟨xp, hxp, ixp⟩, _⟩ := id J2.rows
          have mp_ : rp ∈ rl2 :: rp :: rs' := List.mem_cons_of_mem _ (List.mem_cons_self ..)
          have ml_ : rl2 ∈ rl2 :: rp :: rs' := List.mem_cons_self ..
          have nd2 := List.nodup_cons.mp J2.nd
          refine ⟨tyvL hO6, popL hO6 ?_⟩
          have hR7 : upd H6 O (.lst (cs'.reverse.map V.ref)) R = some (.lst ((rp :: rs').reverse.map V.ref ++ [V.ref rl2])) := by
            have := J2.hR
            rw [List.reverse_cons, List.map_append] at this
            exact upd2 J2.RO this
          have hc7 : upd H6 O (.lst (cs'.reverse.map V.ref)) c = some (.tup [.str (SX.S kt.1), .str (SX.S kt.2)]) := TupLe.lst hO6 _ _ hc6
          k_extra "rr"
          refine ⟨tyvL hR7, popL hR7 ?_⟩
          k_extra "rr"
          obtain ⟨J3, t3⟩ := J2.pop
          have hxl8 : upd (upd H6 O (.lst (cs'.reverse.map V.ref))) R (.lst ((rp :: rs').reverse.map V.ref)) rl2 = some (.lst xl2) := upd2 (J2.row ml_).1 (upd2 (J2.row ml_).2 hxl2)
          have hxp8 : upd (upd H6 O (.lst (cs'.reverse.map V.ref))) R (.lst ((rp :: rs').reverse.map V.ref)) rp = some (.lst xp) := upd2 (J2.row mp_).1 (upd2 (J2.row mp_).2 hxp)
          have ixl8 := ixl2.le t3
          have ixp8 := ixp.le t3
          clear hc7 hR7
          generalize upd (upd H6 O (.lst (cs'.reverse.map V.ref))) R (.lst ((rp :: rs').reverse.map V.ref)) = H8 at J3 t3 hxl8 hxp8 ixl8 ixp8
          refine tupL (SqL.of hxl8) fun q0 nq => ?_
          have J4 := J3.new (o := .tup xl2) nq
          have hq4 : upd H8 q0 (.tup xl2) q0 = some (.tup xl2) := upd_same
          have t4 : TupLe H8 (upd H8 q0 (.tup xl2)) := TupLe.new nq
          have hxp9 := same_upd (o := .tup xl2) nq _ _ hxp8
          have ixl9 := ixl8.le t4
          have ixp9 := ixp8.le t4
          generalize upd H8 q0 (.tup xl2) = H9 at J4 hq4 hxp9 ixl9 ixp9
          k_extra "rr"
          have hR9 := J4.hR
          rw [List.reverse_cons, List.map_append] at hR9
          refine ixL (SqL.of hR9) atI_last ?_
          refine ⟨tyvL hxp9, ?_⟩
          k_extra "rr"
          refine ⟨by k_extra "sz", fun pn npn => ?_⟩
          k_extra "rr"
          have hxpl := ixp.len
          have hd2l := hdl d2 (List.mem_cons_of_mem _ (List.mem_cons_self ..))
          refine app (same_upd npn _ _ hxp9) (by rw [sizeLine_eq]; omega) ?_
          have J5 := J4.add (k := kt.1) (t := kt.2) (i := d) hxp9 ixp9 hq4 ixl9 npn
          k_extra "rr"
          have e1 : ((pre2 ++ [41]).length : Int) = (pre2.length : Int) + 1 := by rw [List.length_append, List.length_singleton]; omega
          have e2 : (pre2 ++ [41]).length = pre2.length + 1 := by rw [List.length_append, List.length_singleton]
          rw [List.length_cons] at hkl hrm
          refine ⟨kts.length, by rw [hmm, List.length_cons]; omega, (hW2 _ _ _).mpr ⟨pre2 ++ [41], r4, d2.snoc kt.1 kt.2 d, ds, kts, _, _, some (.str (SX.S kt.1)), some (.str (SX.S kt.2)), some (.ref q0), ?_, J5, ?_, by omega, ?_, fun x m => hgk x (List.mem_cons_of_mem _ m), by omega, fun e m => ?_, rfl⟩⟩
          · rw [e1]
            rfl
          · rw [hU, List.append_assoc]
            rfl
          · rw [hgo, e2]
            rfl
          · rw [e2]
            rcases List.mem_cons.mp m with rfl | m
            · rw [len_snoc]
              omega
            · have := hdl e (List.mem_cons_of_mem _ (List.mem_cons_of_mem _ m))
              omega
        case neg =>
          have hcl : clF pre2.length (d :: ds) kts r = (pre2.length, d :: ds, kts, r) := by
            unfold clF
            split
            · exact absurd ⟨(by intro z; cases z), rfl⟩ hx41
            · rfl
          rw [hcl] at hgo
          have hbE : (kts.map ktD).reverse.isEmpty = decide (kts = []) := by cases kts <;> simp
          by_cases hk0 : kts = []
          case' pos =>
            rw [hbE, decide_eq_true hk0, Bool.not_true]
            k_extra "rr"
          case' neg =>
            rw [hbE, decide_eq_false hk0, Bool.not_false]
            k_extra "rr"
            rw [cut1 hU rfl, ec, S_one, decide_eq_false (fun z => hx41 ⟨hk0, z⟩)]
            k_extra "rr"
          all_goals
            cases r with
            | cons c r4 =>
              have hnl : ¬ ((pre2.length : Int) = ((SX.S T0).length : Int)) := fun z => by
                rw [SX.S_len] at z
                rw [List.length_cons] at hUn
                omega
              rw [decide_eq_false hnl]
              k_extra "rr"
              rw [cut1 hU rfl, es, S_one]
              have hgo : res = (if c = 32 then rdF n (pre2.length + 1) (d :: ds) kts r4 else .inl pre2.length) := hgo
              by_cases hc : c = 32
              · rw [if_pos hc] at hgo
                rw [decide_eq_true (show (c :: r4).head? = some 32 from congrArg some hc)]
                k_extra "rr"
                have e1 : ((pre2 ++ [c]).length : Int) = (pre2.length : Int) + 1 := by rw [List.length_append, List.length_singleton]; omega
                have e2 : (pre2 ++ [c]).length = pre2.length + 1 := by rw [List.length_append, List.length_singleton]
                rw [List.length_cons] at hrm hUn
                refine ⟨_, (by omega : r4.length < m), (hW _ _ _).mpr ⟨n, pre2 ++ [c], r4, d, ds, kts, _, _, v4', v5', v6', ?_, J2, ?_, rfl, by omega, ?_, hgk, by omega, fun e m => ?_⟩⟩
                · rw [e1]
                  rfl
                · rw [hU, List.append_assoc]
                  rfl
                · rw [hgo, e2]
                · have := hdl e m
                  omega
              · rw [if_neg hc] at hgo
                rw [decide_eq_false (show ¬ (c :: r4).head? = some 32 from fun z => hc (Option.some.inj z))]
                k_extra "rr"
                refine rz ?_
                k_extra "rr"
                refine ⟨Nat.le_of_ble_eq_true rfl, fun a na2 => ini_ok err_ParseError.T n1 n2 na2 fun dd H' s6 h6 => ?_⟩
                exact qx _ hgo H' dd (J2.same.trans s6) h6
            | nil =>
              have hyl : ((pre2.length : Int) = ((SX.S T0).length : Int)) := by
                rw [SX.S_len, hUn]
                rfl
              rw [decide_eq_true hyl]
              k_extra "rr"
              refine ⟨by k_extra "sz", fun e2 ne2 => ?_⟩
              have J3 := J2.new (o := .lst []) ne2
              k_extra "rr"
              refine eqDd (d := .list (kts.map ktD).reverse) (e := .list []) (.lst (SqL.of J3.hO) J3.heads.dp) (.lst (SqL.of upd_same) .nil) (shaped_kts hgk) shaped_nilL ?_
              rw [eqv_nilL, hbE]
              generalize upd H6 e2 (.lst []) = H7 at J3
              by_cases hk1 : kts = []
              · rw [decide_eq_true hk1]
                k_extra "rr"
                subst hk1
                have hcl2 : cs2.length = 0 := hcl2
                have hdr := J3.rows.len
                obtain ⟨rl2, rfl⟩ : ∃ rl2, rs2 = [rl2] := by
                  match rs2, hrl2 with
                  | [a], _ => exact ⟨a, rfl⟩
                  | a :: b :: c, h =>
                    rw [hcl2] at h
                    cases h
                refine ixL (SqL.of J3.hR) (atI_nat (j := 0) rfl) ?_
                obtain ⟨⟨xl2, hxl2, ixl2⟩, _⟩ := id J3.rows
                refine tupL (SqL.of hxl2) fun a na => ?_
                exact q d hgo a _ (J3.same.trans (same_upd na)) ⟨xl2, upd_same, ixl2.le (TupLe.new na)⟩
              · rw [decide_eq_false hk1]
                k_extra "rr"
                have hgo : res = .inl pre2.length := by
                  rw [hgo]
                  cases kts with
                  | nil => exact absurd rfl hk1
                  | cons a b => rfl
                rw [cut1 hU rfl, es, S_one, decide_eq_false (show ¬ ([] : List Nat).head? = some 32 from fun z => by cases z)]
                k_extra "rr"
                refine rz ?_
                k_extra "rr"
                refine ⟨Nat.le_of_ble_eq_true rfl, fun a na2 => ini_ok err_ParseError.T n1 n2 na2 fun dd H' s6 h6 => ?_⟩
                exact qx _ hgo H' dd (J3.same.trans s6) h6
end

/-! ### the law's own reading: the place of the fault or -1 -/
def clN : Nat → Nat → List Nat → Nat × Nat × List Nat
  | a, dp + 1, 41 :: r => clN (a + 1) dp r
  | a, dp, r => (a, dp, r)
def flE (go : Nat → Nat → List Nat → Option Nat) : Nat × Nat × List Nat → Option Nat
  | (a, dp, r) => match r with
    | [] => if dp = 0 then none else some a
    | c :: r4 => if c = 32 then go (a + 1) dp r4 else some a
def flF : Nat → Nat → Nat → List Nat → Option Nat
  | 0, a, _, _ => some a
  | n + 1, a, dp, r => match hdF a r with
    | .inl i => some i
    | .inr (_, _, a2, r2) => if r2.head? = some 40 then flF n (a2 + 1) (dp + 1) r2.tail else flE (flF n) (clN a2 dp r2)
def flT (T0 : List Nat) : Option Nat := if T0 = [] then none else flF (T0.length + 1) 0 0 T0
def fI : Option Nat → Int
  | none => -1
  | some i => (i : Int)
def rN : Sum Nat Fo → Option Nat
  | .inl i => some i
  | .inr _ => none
theorem clF_len : ∀ (kts : List (List Nat × List Nat)) (ds : List Fo) (d : Fo) (a : Nat) (r : List Nat), ds.length = kts.length →
    ∃ (a3 : Nat) (d3 : Fo) (ds3 : List Fo) (kts3 : List (List Nat × List Nat)) (r3 : List Nat), clF a (d :: ds) kts r = (a3, d3 :: ds3, kts3, r3) ∧ ds3.length = kts3.length ∧ clN a kts.length r = (a3, kts3.length, r3)
  | [], ds, d, a, r, hl => by
    refine ⟨a, d, ds, [], r, ?_, hl, rfl⟩
    unfold clF
    cases ds <;> rfl
  | kt :: kts, [], d, a, r, hl => by cases hl
  | kt :: kts, d2 :: ds, d, a, [], hl => ⟨a, d, d2 :: ds, kt :: kts, [], by unfold clF; rfl, hl, by unfold clN; rfl⟩
  | kt :: kts, d2 :: ds, d, a, c :: r, hl => by
    by_cases hc : c = 41
    · subst hc
      obtain ⟨a3, d3, ds3, kts3, r3, h1, h2, h3⟩ := clF_len kts ds (d2.snoc kt.1 kt.2 d) (a + 1) r (by rw [List.length_cons, List.length_cons] at hl; omega)
      exact ⟨a3, d3, ds3, kts3, r3, by rw [← h1]; rfl, h2, by rw [← h3]; rfl⟩
    · refine ⟨a, d, d2 :: ds, kt :: kts, c :: r, ?_, hl, ?_⟩
      · unfold clF
        split
        · rename_i h
          cases h
          exact absurd rfl hc
        · rfl
      · rw [List.length_cons]
        unfold clN
        split
        · rename_i h
          cases h
          exact absurd rfl hc
        · rfl
theorem fl_rd : ∀ (n a : Nat) (d : Fo) (ds : List Fo) (kts : List (List Nat × List Nat)) (r : List Nat), ds.length = kts.length → flF n a kts.length r = rN (rdF n a (d :: ds) kts r)
  | 0, _, _, _, _, _, _ => rfl
  | n + 1, a, d, ds, kts, r, hl => by
    unfold flF rdF
    cases hh : hdF a r with
    | inl i => rfl
    | inr q =>
      obtain ⟨k, t, a2, r2⟩ := q
      show (if r2.head? = some 40 then flF n (a2 + 1) (kts.length + 1) r2.tail else flE (flF n) (clN a2 kts.length r2)) = rN (if r2.head? = some 40 then rdF n (a2 + 1) (.nil :: d :: ds) ((k, t) :: kts) r2.tail else rdE (rdF n) (clF a2 (d.snoc k t .nil :: ds) kts r2))
      by_cases h40 : r2.head? = some 40
      · rw [if_pos h40, if_pos h40]
        exact fl_rd n (a2 + 1) .nil (d :: ds) ((k, t) :: kts) r2.tail (by rw [List.length_cons, List.length_cons, hl])
      · rw [if_neg h40, if_neg h40]
        obtain ⟨a3, d3, ds3, kts3, r3, h1, h2, h3⟩ := clF_len kts ds (d.snoc k t .nil) a2 r2 hl
        rw [h1, h3]
        cases r3 with
        | nil =>
          cases kts3 with
          | nil => rfl
          | cons x y => rfl
        | cons c r4 =>
          show (if c = 32 then flF n (a3 + 1) kts3.length r4 else some a3) = rN (if c = 32 then rdF n (a3 + 1) (d3 :: ds3) kts3 r4 else .inl a3)
          by_cases hc : c = 32
          · rw [if_pos hc, if_pos hc]
            exact fl_rd n (a3 + 1) d3 ds3 kts3 r4 h2
          · rw [if_neg hc, if_neg hc]
            rfl
theorem flT_rdT (T0 : List Nat) : flT T0 = rN (rdT T0) := by
  unfold flT rdT
  by_cases hz : T0 = []
  · rw [if_pos hz, if_pos hz]
    rfl
  · rw [if_neg hz, if_neg hz]
    exact fl_rd _ 0 .nil [] [] T0 rfl
def okc (c : Nat) : Prop := c = 10 ∨ (32 ≤ c ∧ c ≤ 126)
theorem okc_sign {c : Nat} (h : okc c) (h34 : c ≠ 34) (h10 : c ≠ 10) : signB c = true := by
  rcases h with h | ⟨h1, h2⟩
  · exact absurd h h10
  · unfold signB
    rw [decide_eq_true h1, decide_eq_true h2, decide_eq_false h34]
    rfl
def spRF : Sp := fun vs H Q _ => ∃ (T0 : List Nat), vs = [.str (SX.S T0)] ∧ T0.length ≤ 1000 ∧ (∀ c ∈ T0, okc c) ∧ ∀ H', Same H H' → Q (.int (fI (flT T0))) H'
theorem flF_inl {n a dp : Nat} {r : List Nat} {i : Nat} (h : hdF a r = .inl i) : flF (n + 1) a dp r = some i := by
  unfold flF
  rw [h]
theorem flF_open {n a a2 dp : Nat} {r k t r3 : List Nat} (h : hdF a r = .inr (k, t, a2, 40 :: r3)) : flF (n + 1) a dp r = flF n (a2 + 1) (dp + 1) r3 := by
  conv => lhs; unfold flF
  rw [h]
  exact if_pos rfl
theorem flF_leaf {n a a2 dp : Nat} {r k t r2 : List Nat} (h : hdF a r = .inr (k, t, a2, r2)) (h40 : ¬ r2.head? = some 40) : flF (n + 1) a dp r = flE (flF n) (clN a2 dp r2) := by
  conv => lhs; unfold flF
  rw [h]
  exact if_neg h40
section
variable {P : Program} {w : World} {K : PySem.W.Frag} {mg : Str → Option Value} {base : Heap} {f : Addr} {fd : FuncData}
theorem ok_law_read_fault (F : Fun K "_law_read_fault" "_law_read_fault" s_law_read_fault f fd) (T : Txt mg) : FnOk P w K mg base CX0 1 f fd ["_law_text"] spRF := by
  refine F.ok sc_law_read_fault (fun vs H Q E h => ?_) (fun cdv A outer s H vs Q E hr h => ?_)
  · obtain ⟨T0, rfl, _⟩ := h
    rfl
  · obtain ⟨T0, rfl, hsz, hok, q⟩ := h
    refine ⟨_, (pss_cons (ps_asg (pe_tup (pa_cons pe_int (pa_cons pe_int pa_nil))) (pg_tupX K (pg_tup (n := 2) (by rfl) (pgs_cons (pg_name (i := 1) sc_law_read_fault.nd rfl (.inl rfl)) (pgs_cons (pg_name (i := 2) sc_law_read_fault.nd rfl (.inl rfl)) pgs_nil)))))
      (pss_cons (ps_while PassesOwn.never (PW.pt (pw_and (pt_cmpR op_le (pv 1) (pe_callB (call_lenX K) (by rfl) T.len PySem.boot_len (pa_cons (pv 0) pa_nil)) (nomark _)) (pw_and1 (pt_cmpR (op_neX K hr) (pv 0) pe_str (nomark _))))) (pss_cons (ps_set (i := 3) sc_law_read_fault.nd rfl (.inl rfl) (pv 1))
      (C8.pss_cut (ps_while PassesOwn.never (PW.pt (pw_and (pt_cmpR op_lt (pv 3) (pe_callB (call_lenX K) (by rfl) T.len PySem.boot_len (pa_cons (pv 0) pa_nil)) (nomark _)) (pw_and1 (pt_cmpR (op_inX K) (pe_ix (ix_X K) (pv 0) (pv 3) (fun _ _ => rfl)) pe_str (by rfl))))) (pss_one (ps_set (i := 3) sc_law_read_fault.nd rfl (.inl rfl) (pe_op (op_addX K) (pv 3) pe_int))))
      (pss_cons (ps_if (PW.pt (pw_or (pt_cmpR (op_eqX K hr) (pv 3) (pv 1) (nomark _)) (pw_or1 (pt_cmpR op_gt (pe_op op_sub (pv 3) (pv 1)) pe_int (nomark _))))) (pss_one (ps_ret (pe_callB (call_min2 (by rfl)) (by rfl) T.min (by decide +kernel) (pa_cons (pv 3) (pa_cons (pe_op (op_addX K) (pv 1) pe_int) pa_nil))))) pss_nil)
      (pss_cons (ps_set (i := 1) sc_law_read_fault.nd rfl (.inl rfl) (pv 3))
      (C8.pss_cut (ps_if (pt_cmpR (op_eqX K hr) (pe_slice (sl_X K) (pv 0) (po_some (pv 1)) (po_some (pe_op (op_addX K) (pv 1) pe_int))) pe_str (nomark _)) (pss_cons (ps_set (i := 3) sc_law_read_fault.nd rfl (.inl rfl) (pe_op (op_addX K) (pv 1) pe_int))
      (pss_cons (ps_while PassesOwn.never (pt_cmpR (op_neX K hr) (pe_slice (sl_X K) (pv 0) (po_some (pv 3)) (po_some (pe_op (op_addX K) (pv 3) pe_int))) pe_str (nomark _)) (pss_cons (ps_if (PW.pt (pw_or (pt_cmpR op_ge (pv 3) (pe_callB (call_lenX K) (by rfl) T.len PySem.boot_len (pa_cons (pv 0) pa_nil)) (nomark _)) (pw_or (pt_cmpR (op_eqX K hr) (pe_ix (ix_X K) (pv 0) (pv 3) (fun _ _ => rfl)) pe_str (nomark _)) (pw_or1 (pt_cmpR op_gt (pe_op op_sub (pv 3) (pv 1)) pe_int (nomark _)))))) (pss_one (ps_ret (pv 3))) pss_nil)
      (pss_one (ps_set (i := 3) sc_law_read_fault.nd rfl (.inl rfl) (pe_op (op_addX K) (pv 3) pe_int)))))
      (pss_cons (ps_if (pt_cmpR (op_eqX K hr) (pv 3) (pe_op (op_addX K) (pv 1) pe_int) (nomark _)) (pss_one (ps_ret (pv 3))) pss_nil)
      (pss_one (ps_set (i := 1) sc_law_read_fault.nd rfl (.inl rfl) (pe_op (op_addX K) (pv 3) pe_int)))))) pss_nil)
      (pss_cons (ps_if (pt_cmpR (op_eqX K hr) (pe_slice (sl_X K) (pv 0) (po_some (pv 1)) (po_some (pe_op (op_addX K) (pv 1) pe_int))) pe_str (nomark _)) (pss_cons (ps_par (i := 2) (j := 1) (by rfl) sc_law_read_fault.nd rfl rfl (by decide) rfl rfl (pa_cons (pe_op (op_addX K) (pv 2) pe_int) (pa_cons (pe_op (op_addX K) (pv 1) pe_int) pa_nil)) (by rfl))
      (pss_one ps_continue)) pss_nil)
      (pss_cons (ps_while PassesOwn.never (PW.pt (pw_and (pt_cmpR op_gt (pv 2) pe_int (nomark _)) (pw_and1 (pt_cmpR (op_eqX K hr) (pe_slice (sl_X K) (pv 0) (po_some (pv 1)) (po_some (pe_op (op_addX K) (pv 1) pe_int))) pe_str (nomark _))))) (pss_one (ps_par (i := 2) (j := 1) (by rfl) sc_law_read_fault.nd rfl rfl (by decide) rfl rfl (pa_cons (pe_op op_sub (pv 2) pe_int) (pa_cons (pe_op (op_addX K) (pv 1) pe_int) pa_nil)) (by rfl))))
      (pss_cons (ps_if (PW.pt (pw_and (pt_cmpR (op_eqX K hr) (pv 1) (pe_callB (call_lenX K) (by rfl) T.len PySem.boot_len (pa_cons (pv 0) pa_nil)) (nomark _)) (pw_and1 (pt_cmpR (op_eqX K hr) (pv 2) pe_int (nomark _))))) (pss_one (ps_ret (pe_un un_neg pe_int))) pss_nil)
      (pss_cons (ps_if (pt_cmpR (op_neX K hr) (pe_slice (sl_X K) (pv 0) (po_some (pv 1)) (po_some (pe_op (op_addX K) (pv 1) pe_int))) pe_str (nomark _)) (pss_one (ps_ret (pv 1))) pss_nil)
      (pss_one (ps_set (i := 1) sc_law_read_fault.nd rfl (.inl rfl) (pe_op (op_addX K) (pv 1) pe_int)))))))))))))
      (pss_one (ps_ret (pe_un un_neg pe_int))))), ?_⟩
    change (_ : TS) _ [some (V.str (SX.S T0)), none, none, none] _
    have hTl : (SX.S T0).length ≤ sizeLine := by rw [SX.S_len, sizeLine_eq]; omega
    have eQ : Str.ofString "\"" = SX.S [34] := by decide +kernel
    have eo : Str.ofString "(" = SX.S [40] := by decide +kernel
    have ec : Str.ofString ")" = SX.S [41] := by decide +kernel
    have es : Str.ofString " " = SX.S [32] := by decide +kernel
    have en : Str.ofString "\n" = SX.S [10] := by decide +kernel
    k_extra "rr"
    refine ⟨by k_extra "sz", fun p0 np0 => ?_⟩
    k_extra "rr"
    have q : Q (.int (fI (flT T0))) (upd H p0 (.tup [.int 0, .int 0])) := q _ (same_upd np0)
    generalize upd H p0 (.tup [.int 0, .int 0]) = H0 at q
    by_cases hz : T0 = []
    · subst hz
      refine ⟨fun m σ H' => m = 0 ∧ σ = [some (.str (SX.S [])), some (.int 0), some (.int 0), none] ∧ H' = H0, ⟨0, rfl, rfl, rfl⟩, ?_⟩
      rintro m σ H' ⟨rfl, rfl, hH⟩
      subst H'
      k_extra "rr"
      rw [decide_eq_true (by rw [SX.S_len]; decide)]
      k_extra "rr"
      rw [S_emp, decide_eq_true rfl]
      k_extra "rr"
      exact q
    · have hfl : flT T0 = flF (T0.length + 1) 0 0 T0 := by unfold flT; rw [if_neg hz]
      generalize hres : flT T0 = res at q hfl
      obtain ⟨W, hW⟩ : ∃ W : Nat → L2.St → Hp → Prop, ∀ m σ H', W m σ H' ↔ ∃ (n : Nat) (pre r : List Nat) (dp : Nat) (v3 : Option V), σ = [some (.str (SX.S T0)), some (.int (pre.length : Int)), some (.int (dp : Int)), v3] ∧ H' = H0 ∧ T0 = pre ++ r ∧ m = r.length ∧ r.length < n ∧ res = flF n pre.length dp r := ⟨_, fun _ _ _ => Iff.rfl⟩
      refine ⟨W, ⟨T0.length, (hW _ _ _).mpr ⟨T0.length + 1, [], T0, 0, _, rfl, rfl, rfl, rfl, Nat.lt_succ_self _, hfl⟩⟩, ?_⟩
      clear hfl
      intro m σ H' hw
      obtain ⟨n, pre, r, dp, v3, rfl, hH, hT, hm, hn, hgo⟩ := (hW _ _ _).mp hw
      clear hw
      subst H'
      have hTn : T0.length = pre.length + r.length := by rw [hT, List.length_append]
      have eS : (SX.S T0).length = pre.length + r.length := by rw [SX.S_len, hTn]
      k_extra "rr"
      rw [decide_eq_true (by rw [eS]; omega)]
      k_extra "rr"
      rw [S_emp, decide_eq_false hz, Bool.not_false]
      k_extra "rr"
      refine ⟨_, fun _ _ h => h, ?_⟩
      obtain ⟨n, rfl⟩ : ∃ n', n = n' + 1 := ⟨n - 1, by omega⟩
      obtain ⟨k, rest, hkr, hk, hrest, hhd⟩ := hdF_eq pre.length r
      have hTk : T0 = pre ++ (k ++ rest) := by rw [← hkr]; exact hT
      have hrl : r.length = k.length + rest.length := by rw [hkr, List.length_append]
      k_extra "rr"
      refine Rg.cut (fun σ H' => σ = [some (V.str (SX.S T0)), some (.int (pre.length : Int)), some (.int (dp : Int)), some (.int ((pre.length + k.length : Nat) : Int))] ∧ H' = H0) ?_ ?_
      · k_extra "rr"
        obtain ⟨W2, hW2⟩ : ∃ W2 : Nat → L2.St → Hp → Prop, ∀ m σ H', W2 m σ H' ↔ ∃ j, j ≤ k.length ∧ m = k.length - j ∧ σ = [some (V.str (SX.S T0)), some (.int (pre.length : Int)), some (.int (dp : Int)), some (.int ((pre.length + j : Nat) : Int))] ∧ H' = H0 := ⟨_, fun _ _ _ => Iff.rfl⟩
        refine ⟨W2, ⟨k.length, (hW2 _ _ _).mpr ⟨0, Nat.zero_le _, rfl, rfl, rfl⟩⟩, ?_⟩
        intro m2 σ H' hw
        obtain ⟨j, hj, rfl, rfl, hH⟩ := (hW2 _ _ _).mp hw
        clear hw
        subst H'
        k_extra "rr"
        by_cases hjk : j < k.length
        · rw [decide_eq_true (by rw [eS]; omega)]
          k_extra "rr"
          refine ixS hTl (by rw [hTk]; exact at_mid pre k rest (j := j) (c := k[j]) (by rw [List.getElem?_append_left hjk]; exact List.getElem?_eq_getElem hjk)) ?_
          k_extra "rr"
          rw [letters_eq, S_toList, decide_eq_true (hk _ (List.getElem_mem hjk))]
          k_extra "rr"
          refine ⟨_, fun _ _ h => h, ?_⟩
          k_extra "rr"
          refine ⟨k.length - (j + 1), by omega, (hW2 _ _ _).mpr ⟨j + 1, by omega, rfl, ?_, rfl⟩⟩
          have e : ((pre.length + j : Nat) : Int) + 1 = ((pre.length + (j + 1) : Nat) : Int) := by omega
          rw [e]
          rfl
        have hjk2 : j = k.length := by omega
        subst hjk2
        rcases rest with _ | ⟨c0, r0⟩
        case' nil =>
          rw [decide_eq_false (by rw [eS, hrl, List.length_nil]; omega)]
        case' cons =>
          rw [decide_eq_true (by rw [eS, hrl, List.length_cons]; omega)]
          k_extra "rr"
          refine ixS hTl (by rw [hTk]; exact at_mid pre k (c0 :: r0) (j := k.length) (c := c0) (by rw [List.getElem?_append_right (Nat.le_refl _), Nat.sub_self]; rfl)) ?_
          k_extra "rr"
          rw [letters_eq, S_toList, decide_eq_false (hrest c0 rfl)]
        all_goals
          k_extra "rr"
          exact ⟨rfl, rfl⟩
      rintro σ H' ⟨rfl, hH⟩
      subst H'
      k_extra "rr"
      by_cases hb : k.length = 0 ∨ 6 < k.length
      · rw [if_pos hb] at hhd
        rw [flF_inl hhd] at hgo
        have e6 : (if (pre.length : Int) + 6 < ((pre.length + k.length : Nat) : Int) then (pre.length : Int) + 6 else ((pre.length + k.length : Nat) : Int)) = ((pre.length + min k.length 6 : Nat) : Int) := by split <;> omega
        have q6 : Q (.int ((pre.length + min k.length 6 : Nat) : Int)) H0 := by
          rw [hgo] at q
          exact q
        by_cases z0 : k.length = 0
        · rw [decide_eq_true (by omega)]
          k_extra "rr"
          refine ⟨_, _, rfl, ?_⟩
          k_extra "rr"
          rw [e6]
          exact q6
        · rw [decide_eq_false (by omega)]
          k_extra "rr"
          rw [decide_eq_true (by omega)]
          k_extra "rr"
          refine ⟨_, _, rfl, ?_⟩
          k_extra "rr"
          rw [e6]
          exact q6
      rw [if_neg hb] at hhd
      rw [decide_eq_false (by omega)]
      k_extra "rr"
      rw [decide_eq_false (by omega)]
      k_extra "rr"
      have hT2 : T0 = (pre ++ k) ++ rest := by rw [List.append_assoc]; exact hTk
      have hlpk : (pre ++ k).length = pre.length + k.length := List.length_append
      refine Rg.cut (fun σ H' => H' = H0 ∧ ∃ (t A0 r2 : List Nat) (v3 : Option V), σ = [some (V.str (SX.S T0)), some (.int (A0.length : Int)), some (.int (dp : Int)), v3] ∧ T0 = A0 ++ r2 ∧ hdF pre.length r = .inr (k, t, A0.length, r2)) ?_ ?_
      · k_extra "rr"
        rw [cut1 hT2 hlpk.symm, eQ, S_one]
        by_cases h34 : rest.head? = some 34
        case neg =>
          rw [decide_eq_false h34]
          k_extra "rr"
          refine ⟨rfl, [], pre ++ k, rest, _, (by rw [hlpk]; rfl), hT2, ?_⟩
          rw [hhd, hlpk]
          unfold hdQ
          cases rest with
          | nil => rfl
          | cons c r2 => exact if_neg (fun z => h34 (by rw [z]; rfl))
        case pos =>
          obtain ⟨r', rfl⟩ : ∃ r', rest = 34 :: r' := by
            cases rest with
            | nil => cases h34
            | cons c r' =>
              cases h34
              exact ⟨r', rfl⟩
          have hq34 : ∀ b j, rqF 0 r' = (b, j) → hdF pre.length r = if b = false ∨ j = 0 then .inl (pre.length + k.length + 1 + j) else .inr (k, r'.take j, pre.length + k.length + j + 2, r'.drop (j + 1)) := fun b j e => by
            rw [hhd]
            unfold hdQ
            show (if (34 : Nat) = 34 then _ else _) = _
            rw [if_pos rfl, e]
          rw [decide_eq_true h34]
          k_extra "rr"
          rw [List.length_cons] at hrl
          obtain ⟨W2, hW2⟩ : ∃ W2 : Nat → L2.St → Hp → Prop, ∀ m σ H', W2 m σ H' ↔ ∃ j, j ≤ r'.length ∧ m = r'.length - j ∧ σ = [some (V.str (SX.S T0)), some (.int ((pre.length + k.length : Nat) : Int)), some (.int (dp : Int)), some (.int ((pre.length + k.length + 1 + j : Nat) : Int))] ∧ H' = H0 ∧ rqF j (r'.drop j) = rqF 0 r' := ⟨_, fun _ _ _ => Iff.rfl⟩
          refine ⟨W2, ⟨r'.length, (hW2 _ _ _).mpr ⟨0, Nat.zero_le _, rfl, rfl, rfl, rfl⟩⟩, ?_⟩
          intro m2 σ H' hw
          obtain ⟨j, hj, rfl, rfl, hH, hq⟩ := (hW2 _ _ _).mp hw
          clear hw
          subst H'
          have esp : T0 = (pre ++ k ++ [34]) ++ ([] ++ r') := by rw [hT2]; simp
          have epl : (pre ++ k ++ [34]).length = pre.length + k.length + 1 := by rw [List.length_append, hlpk, List.length_singleton]
          k_extra "rr"
          rw [cut_one, S_one]
          have hat : (T0.drop (pre.length + k.length + 1 + j)).head? = r'[j]? := by
            rw [esp, List.head?_drop, ← epl, List.getElem?_append_right (by omega), Nat.add_sub_cancel_left, List.nil_append]
          rw [hat]
          by_cases hjr : j < r'.length
          · have hc : r'[j]? = some r'[j] := List.getElem?_eq_getElem hjr
            have hcm : r'[j] ∈ T0 := by
              rw [esp, List.nil_append]
              exact List.mem_append_right _ (List.getElem_mem hjr)
            have hdr : r'.drop j = r'[j] :: r'.drop (j + 1) := List.drop_eq_getElem_cons hjr
            rw [hdr] at hq
            rw [hc]
            by_cases h34 : r'[j] = 34
            · have hq2 : rqF 0 r' = (true, j) := by
                rw [← hq]
                simp only [rqF, h34, if_true]
              have hh := hq34 _ _ hq2
              rw [decide_eq_true (congrArg some h34), Bool.not_true]
              k_extra "rr"
              by_cases hj0 : j = 0
              · rw [decide_eq_true (by omega)]
                k_extra "rr"
                rw [if_pos (.inr hj0)] at hh
                rw [flF_inl hh] at hgo
                rw [hgo] at q
                exact q
              · rw [decide_eq_false (by omega)]
                k_extra "rr"
                rw [if_neg (by simp; omega)] at hh
                have hA : ((pre ++ k) ++ (34 :: r'.take (j + 1))).length = pre.length + k.length + j + 2 := by
                  rw [List.length_append, hlpk, List.length_cons, List.length_take]
                  omega
                refine ⟨rfl, r'.take j, (pre ++ k) ++ (34 :: r'.take (j + 1)), r'.drop (j + 1), some (.int ((pre.length + k.length + 1 + j : Nat) : Int)), ?_, ?_, ?_⟩
                · rw [hA, show ((pre.length + k.length + 1 + j : Nat) : Int) + 1 = ((pre.length + k.length + j + 2 : Nat) : Int) by omega]
                  rfl
                · rw [List.append_assoc, List.cons_append, List.take_append_drop]
                  exact hT2
                · rw [hh, hA]
            · rw [decide_eq_false (fun z => h34 (Option.some.inj z)), Bool.not_false]
              k_extra "rr"
              refine ⟨_, fun _ _ h => h, ?_⟩
              k_extra "rr"
              rw [decide_eq_false (by rw [eS]; omega)]
              k_extra "rr"
              refine ixS hTl (k := r'[j]) (by rw [esp]; have e := at_mid (pre ++ k ++ [34]) [] r' (j := j) hc; rw [epl] at e; exact e) ?_
              k_extra "rr"
              rw [en, show SX.S [10] = (⟨#[10]⟩ : Str) from rfl, sg_eq]
              by_cases h10 : r'[j] = 10
              · have hq2 : rqF 0 r' = (false, j) := by
                  rw [← hq]
                  rw [rqF, if_neg h34, h10, show signB 10 = false from rfl, Bool.false_and]
                  rfl
                have hh := hq34 _ _ hq2
                rw [if_pos (.inl rfl)] at hh
                rw [flF_inl hh] at hgo
                rw [decide_eq_true h10]
                k_extra "rr"
                rw [hgo] at q
                exact q
              · rw [decide_eq_false h10]
                k_extra "rr"
                have hsg := okc_sign (hok _ hcm) h34 h10
                by_cases hj20 : j < 20
                · rw [decide_eq_false (by omega)]
                  k_extra "rr"
                  refine ⟨r'.length - (j + 1), by omega, (hW2 _ _ _).mpr ⟨j + 1, by omega, rfl, ?_, rfl, ?_⟩⟩
                  · have e : ((pre.length + k.length + 1 + j : Nat) : Int) + 1 = ((pre.length + k.length + 1 + (j + 1) : Nat) : Int) := by omega
                    rw [e]
                    rfl
                  · rw [← hq]
                    simp only [rqF, if_neg h34, hsg, decide_eq_true hj20, Bool.and_self, if_true]
                · have hq2 : rqF 0 r' = (false, j) := by
                    rw [← hq]
                    simp only [rqF, if_neg h34, hsg, decide_eq_false hj20, Bool.and_false]
                    rfl
                  have hh := hq34 _ _ hq2
                  rw [if_pos (.inl rfl)] at hh
                  rw [flF_inl hh] at hgo
                  rw [decide_eq_true (by omega)]
                  k_extra "rr"
                  rw [hgo] at q
                  exact q
          · have hjr2 : j = r'.length := by omega
            have hc : r'[j]? = none := by rw [hjr2]; simp
            have hq2 : rqF 0 r' = (false, j) := by
              rw [← hq, hjr2, List.drop_length]
              rfl
            have hh := hq34 _ _ hq2
            rw [if_pos (.inl rfl)] at hh
            rw [flF_inl hh] at hgo
            rw [hc, decide_eq_false (fun z => by cases z), Bool.not_false]
            k_extra "rr"
            refine ⟨_, fun _ _ h => h, ?_⟩
            k_extra "rr"
            rw [decide_eq_true (by rw [eS]; omega)]
            k_extra "rr"
            rw [hgo] at q
            exact q
      rintro σ H' ⟨hH, t, A0, r2, v3, rfl, hTA, hh⟩
      subst H'
      obtain ⟨gk, er, ea⟩ := hdF_ok hh
      have hA1 : pre.length < A0.length := by rw [ea, List.length_append]; have := gk.2.1; omega
      have hTn2 : T0.length = A0.length + r2.length := by rw [hTA, List.length_append]
      k_extra "rr"
      rw [cut1 hTA rfl, eo, S_one]
      by_cases h40 : r2.head? = some 40
      · obtain ⟨r3, rfl⟩ : ∃ r3, r2 = 40 :: r3 := by
          cases r2 with
          | nil => cases h40
          | cons c r3 =>
            cases h40
            exact ⟨r3, rfl⟩
        rw [decide_eq_true h40]
        k_extra "rr"
        rw [flF_open hh] at hgo
        have e1 : ((A0 ++ [40]).length : Int) = (A0.length : Int) + 1 := by rw [List.length_append, List.length_singleton]; omega
        have e2 : (A0 ++ [40]).length = A0.length + 1 := by rw [List.length_append, List.length_singleton]
        rw [List.length_cons] at hTn2
        refine ⟨r3.length, by omega, (hW _ _ _).mpr ⟨n, A0 ++ [40], r3, dp + 1, v3, ?_, rfl, ?_, rfl, by omega, ?_⟩⟩
        · rw [e1, show ((dp + 1 : Nat) : Int) = (dp : Int) + 1 by omega]
          rfl
        · rw [hTA, List.append_assoc]
          rfl
        · rw [hgo, e2]
      · rw [decide_eq_false h40]
        k_extra "rr"
        rw [flF_leaf hh h40] at hgo
        obtain ⟨W2, hW2⟩ : ∃ W2 : Nat → L2.St → Hp → Prop, ∀ m2 σ H', W2 m2 σ H' ↔ ∃ (pre r : List Nat) (dp : Nat), σ = [some (V.str (SX.S T0)), some (.int (pre.length : Int)), some (.int (dp : Int)), v3] ∧ H' = H0 ∧ T0 = pre ++ r ∧ r.length < m ∧ res = flE (flF n) (clN pre.length dp r) ∧ m2 = dp := ⟨_, fun _ _ _ => Iff.rfl⟩
        refine ⟨W2, ⟨dp, (hW2 _ _ _).mpr ⟨A0, r2, dp, rfl, rfl, hTA, by omega, hgo, rfl⟩⟩, ?_⟩
        clear hgo
        intro m2 σ H' hw
        obtain ⟨pre2, r, dp, rfl, hH, hU, hrm, hgo, hmm⟩ := (hW2 _ _ _).mp hw
        clear hw
        subst H'
        have hUn : T0.length = pre2.length + r.length := by rw [hU, List.length_append]
        k_extra "rr"
        by_cases hx41 : 0 < dp ∧ r.head? = some 41
        case pos =>
          obtain ⟨hkn, h41⟩ := hx41
          obtain ⟨dp, rfl⟩ : ∃ d, dp = d + 1 := ⟨dp - 1, by omega⟩
          obtain ⟨r4, rfl⟩ : ∃ r4, r = 41 :: r4 := by
            cases r with
            | nil => cases h41
            | cons c r4 =>
              cases h41
              exact ⟨r4, rfl⟩
          rw [decide_eq_true (by omega)]
          k_extra "rr"
          rw [cut1 hU rfl, ec, S_one, decide_eq_true h41]
          k_extra "rr"
          refine ⟨_, fun _ _ h => h, ?_⟩
          k_extra "rr"
          have e1 : ((pre2 ++ [41]).length : Int) = (pre2.length : Int) + 1 := by rw [List.length_append, List.length_singleton]; omega
          have e2 : (pre2 ++ [41]).length = pre2.length + 1 := by rw [List.length_append, List.length_singleton]
          rw [List.length_cons] at hrm
          refine ⟨dp, by omega, (hW2 _ _ _).mpr ⟨pre2 ++ [41], r4, dp, ?_, rfl, ?_, by omega, ?_, rfl⟩⟩
          · rw [e1, show ((dp + 1 : Nat) : Int) - 1 = (dp : Int) by omega]
            rfl
          · rw [hU, List.append_assoc]
            rfl
          · rw [hgo, e2]
            rfl
        case neg =>
          have hcl : clN pre2.length dp r = (pre2.length, dp, r) := by
            unfold clN
            split
            · exact absurd ⟨by omega, rfl⟩ hx41
            · rfl
          rw [hcl] at hgo
          by_cases hk0 : dp = 0
          case' pos =>
            rw [decide_eq_false (by omega)]
            k_extra "rr"
          case' neg =>
            rw [decide_eq_true (by omega)]
            k_extra "rr"
            rw [cut1 hU rfl, ec, S_one, decide_eq_false (fun z => hx41 ⟨by omega, z⟩)]
            k_extra "rr"
          all_goals
            cases r with
            | cons c r4 =>
              have hnl : ¬ ((pre2.length : Int) = ((SX.S T0).length : Int)) := fun z => by
                rw [SX.S_len] at z
                rw [List.length_cons] at hUn
                omega
              rw [decide_eq_false hnl]
              k_extra "rr"
              rw [cut1 hU rfl, es, S_one]
              have hgo : res = (if c = 32 then flF n (pre2.length + 1) dp r4 else some pre2.length) := hgo
              by_cases hc : c = 32
              · rw [if_pos hc] at hgo
                rw [decide_eq_true (show (c :: r4).head? = some 32 from congrArg some hc)]
                k_extra "rr"
                have e1 : ((pre2 ++ [c]).length : Int) = (pre2.length : Int) + 1 := by rw [List.length_append, List.length_singleton]; omega
                have e2 : (pre2 ++ [c]).length = pre2.length + 1 := by rw [List.length_append, List.length_singleton]
                rw [List.length_cons] at hrm hUn
                refine ⟨_, (by omega : r4.length < m), (hW _ _ _).mpr ⟨n, pre2 ++ [c], r4, dp, v3, ?_, rfl, ?_, rfl, by omega, ?_⟩⟩
                · rw [e1]
                  rfl
                · rw [hU, List.append_assoc]
                  rfl
                · rw [hgo, e2]
              · rw [if_neg hc] at hgo
                rw [decide_eq_false (show ¬ (c :: r4).head? = some 32 from fun z => hc (Option.some.inj z))]
                k_extra "rr"
                rw [hgo] at q
                exact q
            | nil =>
              have hyl : ((pre2.length : Int) = ((SX.S T0).length : Int)) := by
                rw [SX.S_len, hUn]
                rfl
              rw [decide_eq_true hyl]
              k_extra "rr"
              have hgo : res = (if dp = 0 then none else some pre2.length) := hgo
              by_cases hk1 : dp = 0
              · rw [if_pos hk1] at hgo
                rw [decide_eq_true (by omega)]
                k_extra "rr"
                rw [hgo] at q
                exact q
              · rw [if_neg hk1] at hgo
                rw [decide_eq_false (by omega)]
                k_extra "rr"
                rw [cut1 hU rfl, es, S_one, decide_eq_false (show ¬ ([] : List Nat).head? = some 32 from fun z => by cases z)]
                k_extra "rr"
                rw [hgo] at q
                exact q
end

/-! ### the law's texts, in plain Lean -/
def okB (c : Nat) : Bool := decide (c = 10) || (decide (32 ≤ c) && decide (c ≤ 126))
theorem okB_ok {c : Nat} (h : okB c = true) : okc c := by
  unfold okB at h
  rcases Bool.or_eq_true_iff.mp h with h | h
  · exact .inl (of_decide_eq_true h)
  · obtain ⟨h1, h2⟩ := Bool.and_eq_true_iff.mp h
    exact .inr ⟨of_decide_eq_true h1, of_decide_eq_true h2⟩
def P3 (k t : List Nat) : Prop := (∀ c ∈ k, c ∈ letters) ∧ k.length ≤ 6 ∧ t.length ≤ 3 ∧ ∀ c ∈ t, signB c = true
structure TOk (n : Nat) (l : List Nat) : Prop where
  len : l.length ≤ 84 + 23 * n
  par : l.count 40 ≤ 24 + n
  ok : ∀ c ∈ l, okc c
theorem letters_ok {c : Nat} (h : c ∈ letters) : c ≠ 40 ∧ okc c := by
  have : ∀ c ∈ letters, c ≠ 40 ∧ okB c = true := by decide
  exact ⟨(this c h).1, okB_ok (this c h).2⟩
theorem sign_okc {c : Nat} (h : signB c = true) : okc c := by
  unfold signB at h
  obtain ⟨h1, h2⟩ := Bool.and_eq_true_iff.mp h
  obtain ⟨h3, _⟩ := Bool.and_eq_true_iff.mp h2
  exact .inr ⟨of_decide_eq_true h1, of_decide_eq_true h3⟩
theorem count_none {l : List Nat} (h : ∀ c ∈ l, c ≠ 40) : l.count 40 = 0 := List.count_eq_zero.mpr fun m => h 40 m rfl
theorem head3 {k t : List Nat} (h : P3 k t) : (headT k t).length ≤ 11 ∧ (headT k t).count 40 ≤ 3 ∧ ∀ c ∈ headT k t, okc c := by
  obtain ⟨h1, h2, h3, h4⟩ := h
  have c0 := count_none fun c m => (letters_ok (h1 c m)).1
  have ct : t.count 40 ≤ t.length := List.count_le_length
  unfold headT
  by_cases z : t = []
  · rw [if_pos z, List.append_nil]
    exact ⟨by omega, by omega, fun c m => (letters_ok (h1 c m)).2⟩
  · rw [if_neg z]
    refine ⟨?_, ?_, fun c m => ?_⟩
    · rw [List.length_append, List.length_cons, List.length_append, List.length_singleton]
      omega
    · rw [List.count_append, c0, List.count_cons, List.count_append, show List.count 40 [34] = 0 by decide]
      simp
      omega
    · rcases List.mem_append.mp m with m | m
      · exact (letters_ok (h1 c m)).2
      · rcases List.mem_cons.mp m with rfl | m
        · exact okB_ok (by decide)
        · rcases List.mem_append.mp m with m | m
          · exact sign_okc (h4 c m)
          · rw [List.mem_singleton.mp m]
            exact okB_ok (by decide)
theorem wr3 : ∀ {f : Fo}, f.All P3 → (wr f).length ≤ 14 * f.size ∧ (wr f).count 40 ≤ 4 * f.size ∧ ∀ c ∈ wr f, okc c
  | .nil, _ => ⟨Nat.le_refl 0, Nat.le_refl 0, fun c m => by cases m⟩
  | .cons k t i r, ⟨h1, h2, h3⟩ => by
    obtain ⟨a1, a2, a3⟩ := head3 h1
    obtain ⟨b1, b2, b3⟩ := wr3 h2
    obtain ⟨c1, c2, c3⟩ := wr3 h3
    have p : (parT i (wr i)).length ≤ (wr i).length + 2 ∧ (parT i (wr i)).count 40 ≤ (wr i).count 40 + 1 ∧ ∀ c ∈ parT i (wr i), okc c := by
      cases i with
      | nil => exact ⟨Nat.zero_le _, Nat.zero_le _, fun c m => by cases m⟩
      | cons _ _ _ _ =>
        refine ⟨?_, ?_, fun c m => ?_⟩
        · show (40 :: (_ ++ [41])).length ≤ _
          rw [List.length_cons, List.length_append, List.length_singleton]
          omega
        · show (40 :: (_ ++ [41])).count 40 ≤ _
          rw [List.count_cons, List.count_append, show List.count 40 [41] = 0 by decide]
          simp
        · rcases List.mem_cons.mp m with rfl | m
          · exact okB_ok (by decide)
          · rcases List.mem_append.mp m with m | m
            · exact b3 c m
            · rw [List.mem_singleton.mp m]
              exact okB_ok (by decide)
    have s : (sepT r (wr r)).length ≤ (wr r).length + 1 ∧ (sepT r (wr r)).count 40 ≤ (wr r).count 40 ∧ ∀ c ∈ sepT r (wr r), okc c := by
      cases r with
      | nil => exact ⟨Nat.zero_le _, Nat.zero_le _, fun c m => by cases m⟩
      | cons _ _ _ _ =>
        refine ⟨Nat.le_refl _, ?_, fun c m => ?_⟩
        · show (32 :: _).count 40 ≤ _
          rw [List.count_cons]
          simp
        · rcases List.mem_cons.mp m with rfl | m
          · exact okB_ok (by decide)
          · exact c3 c m
    obtain ⟨p1, p2, p3⟩ := p
    obtain ⟨s1, s2, s3⟩ := s
    refine ⟨?_, ?_, fun c m => ?_⟩
    · show (headT k t ++ parT i (wr i) ++ sepT r (wr r)).length ≤ 14 * (1 + i.size + r.size)
      rw [List.length_append, List.length_append]
      omega
    · show (headT k t ++ parT i (wr i) ++ sepT r (wr r)).count 40 ≤ 4 * (1 + i.size + r.size)
      rw [List.count_append, List.count_append]
      omega
    · rcases List.mem_append.mp m with m | m
      · rcases List.mem_append.mp m with m | m
        · exact a3 c m
        · exact p3 c m
      · exact s3 c m
theorem tok0 {f : Fo} (h : f.All P3) (hs : f.size ≤ 6) : TOk 0 (wr f) := by
  obtain ⟨a, b, c⟩ := wr3 h
  exact ⟨by omega, by omega, c⟩
theorem TOk.bend {n : Nat} {l sg : List Nat} (h : TOk n l) (h1 : sg.length ≤ 23) (h2 : sg.count 40 ≤ 1) (h3 : ∀ c ∈ sg, okc c) {a b : Nat} (hab : a ≤ b) : TOk (n + 1) ((l.take a ++ sg) ++ l.drop b) := by
  have e1 : (l.take a).length + (l.drop b).length ≤ l.length := by
    rw [List.length_take, List.length_drop]
    omega
  have e2 : (l.take a).count 40 + (l.drop b).count 40 ≤ l.count 40 := by
    have x : (l.drop b).count 40 ≤ (l.drop a).count 40 := by
      have : l.drop b = (l.drop a).drop (b - a) := by rw [List.drop_drop, show a + (b - a) = b by omega]
      rw [this]
      exact (List.drop_sublist _ _).count_le 40
    have y : l.count 40 = (l.take a).count 40 + (l.drop a).count 40 := by
      rw [← List.count_append, List.take_append_drop]
    omega
  have := h.len
  have := h.par
  refine ⟨?_, ?_, fun c m => ?_⟩
  · rw [List.length_append, List.length_append]
    omega
  · rw [List.count_append, List.count_append]
    omega
  · rcases List.mem_append.mp m with m | m
    · rcases List.mem_append.mp m with m | m
      · exact h.ok c (List.mem_of_mem_take m)
      · exact h3 c m
    · exact h.ok c (List.mem_of_mem_drop m)
theorem size_wr : ∀ {f : Fo}, GF f → 2 * f.size ≤ (wr f).length + 1 ∧ (f ≠ .nil → 1 ≤ (wr f).length)
  | .nil, _ => ⟨Nat.zero_le _, fun h => absurd rfl h⟩
  | .cons k t i r, ⟨h1, h2, h3⟩ => by
    obtain ⟨b1, b2⟩ := size_wr h2
    obtain ⟨c1, c2⟩ := size_wr h3
    have hk := h1.2.1
    have hh : 1 ≤ (headT k t).length := by
      unfold headT
      rw [List.length_append]
      omega
    have p : 2 * i.size ≤ (parT i (wr i)).length := by
      cases i with
      | nil => exact Nat.zero_le _
      | cons a b c d =>
        show _ ≤ (40 :: (_ ++ [41])).length
        rw [List.length_cons, List.length_append, List.length_singleton]
        omega
    have s : 2 * r.size ≤ (sepT r (wr r)).length := by
      cases r with
      | nil => exact Nat.zero_le _
      | cons a b c d => exact c1
    have e : (wr (.cons k t i r)).length = (headT k t).length + (parT i (wr i)).length + (sepT r (wr r)).length := by
      show (headT k t ++ parT i (wr i) ++ sepT r (wr r)).length = _
      rw [List.length_append, List.length_append]
    rw [e]
    refine ⟨?_, fun _ => by omega⟩
    show 2 * (1 + i.size + r.size) ≤ _
    omega
theorem depth_wr : ∀ {f : Fo}, f.depth ≤ (wr f).count 40 + 1
  | .nil => Nat.zero_le _
  | .cons k t i r => by
    have b1 := depth_wr (f := i)
    have c1 := depth_wr (f := r)
    have e : (wr (.cons k t i r)).count 40 = (headT k t).count 40 + (parT i (wr i)).count 40 + (sepT r (wr r)).count 40 := by
      show (headT k t ++ parT i (wr i) ++ sepT r (wr r)).count 40 = _
      rw [List.count_append, List.count_append]
    have p : i.depth ≤ (parT i (wr i)).count 40 := by
      cases i with
      | nil => exact Nat.zero_le _
      | cons a b c d =>
        have : (parT (.cons a b c d) (wr (.cons a b c d))).count 40 = (wr (.cons a b c d)).count 40 + 1 := by
          show (40 :: (_ ++ [41])).count 40 = _
          rw [List.count_cons, List.count_append, show List.count 40 [41] = 0 by decide]
          simp
        omega
    have s : r.depth ≤ (sepT r (wr r)).count 40 + 1 := by
      cases r with
      | nil => exact Nat.zero_le _
      | cons a b c d =>
        have : (sepT (.cons a b c d) (wr (.cons a b c d))).count 40 = (wr (.cons a b c d)).count 40 := by
          show (32 :: _).count 40 = _
          rw [List.count_cons]
          simp
        omega
    rw [e]
    show max (i.depth + 1) r.depth ≤ _
    omega
theorem TOk.read {n : Nat} {l : List Nat} {fo : Fo} (h : TOk n l) (hn : n ≤ 2) (e : rdT l = .inr fo) : GF fo ∧ l = wr fo ∧ fo.depth ≤ 31 ∧ fo.size ≤ 100 := by
  obtain ⟨g, rfl⟩ := rdT_ok e
  have h1 := size_wr g
  have h2 := depth_wr (f := fo)
  have h3 := h.len
  have h4 := h.par
  exact ⟨g, rfl, by omega, by omega⟩
def bendsS : List Str := ["", "(", ")", "\"", " ", "a", "A", "\n", "1", "abcdefg", "\"ttttttttttttttttttttt\"", "\"\" ", "b(c) "]
def bendB (z : Str) : Bool := decide (z.cps.toList.length ≤ 23) && (decide (z.cps.toList.count 40 ≤ 1) && z.cps.toList.all okB)
theorem bends_ok : ∀ z ∈ bendsS, bendB z = true := by decide +kernel
theorem bend_of {z : Str} (h : z ∈ bendsS) : z = SX.S z.cps.toList ∧ z.cps.toList.length ≤ 23 ∧ z.cps.toList.count 40 ≤ 1 ∧ ∀ c ∈ z.cps.toList, okc c := by
  have b := bends_ok z h
  unfold bendB at b
  obtain ⟨b1, b2⟩ := Bool.and_eq_true_iff.mp b
  obtain ⟨b2, b3⟩ := Bool.and_eq_true_iff.mp b2
  exact ⟨str_S z, of_decide_eq_true b1, of_decide_eq_true b2, fun c m => okB_ok (List.all_eq_true.mp b3 c m)⟩
/-! the written texts -/
def wrongS : List (Str × Int) := [(" ", 0), ("a ", 2), ("a  b", 2), ("a()", 2), ("a(", 2), ("a(b", 3), ("a)", 1), ("a\"\"", 2), ("a\"x", 3), ("abcdefg", 6),
  ("a(b)c", 4), ("\"x\"", 0), ("a \"x\"", 2), ("aB", 1), ("a\"x\"(b))", 7), ("a\"ttttttttttttttttttttt\"", 22), ("a(b )", 4)]
def wrongB (p : Str × Int) : Bool := decide (0 ≤ p.2) && (decide (p.1.cps.toList.length ≤ 1000) && decide (flT p.1.cps.toList = some p.2.toNat))
theorem wrongs_ok : ∀ p ∈ wrongS, wrongB p = true := by decide +kernel
theorem wrong_of {p : Str × Int} (h : p ∈ wrongS) : p.1 = SX.S p.1.cps.toList ∧ p.1.cps.toList.length ≤ 1000 ∧ rdT p.1.cps.toList = .inl p.2.toNat ∧ ((p.2.toNat : Nat) : Int) = p.2 := by
  have b := wrongs_ok p h
  unfold wrongB at b
  obtain ⟨b1, b2⟩ := Bool.and_eq_true_iff.mp b
  obtain ⟨b2, b3⟩ := Bool.and_eq_true_iff.mp b2
  have b1 := of_decide_eq_true b1
  have b3 := of_decide_eq_true b3
  rw [flT_rdT] at b3
  refine ⟨str_S _, of_decide_eq_true b2, ?_, by omega⟩
  cases e : rdT p.1.cps.toList with
  | inl i =>
    rw [e] at b3
    exact congrArg _ (Option.some.inj b3)
  | inr f =>
    rw [e] at b3
    cases b3
def PrsAt (H : Hp) : List (Str × Int) → List V → Prop
  | [], [] => True
  | p :: ps, x :: xs => (∃ q, x = .ref q ∧ H q = some (.tup [.str p.1, .int p.2])) ∧ PrsAt H ps xs
  | _, _ => False
theorem PrsAt.le {H H' : Hp} (s : TupLe H H') : ∀ {ps : List (Str × Int)} {xs : List V}, PrsAt H ps xs → PrsAt H' ps xs
  | [], [], _ => trivial
  | _ :: _, _ :: _, ⟨⟨q, e, h⟩, r⟩ => ⟨⟨q, e, s _ _ h⟩, r.le s⟩
theorem PrsAt.snoc {H : Hp} {z : Str} {i : Int} {q : Addr} (h : H q = some (.tup [.str z, .int i])) : ∀ {ps : List (Str × Int)} {xs : List V}, PrsAt H ps xs → PrsAt H (ps ++ [(z, i)]) (xs ++ [.ref q])
  | [], [], _ => ⟨⟨q, rfl, h⟩, trivial⟩
  | _ :: _, _ :: _, ⟨a, r⟩ => ⟨a, PrsAt.snoc h r⟩
theorem PrsAt.app {H : Hp} : ∀ {ps ps2 : List (Str × Int)} {xs xs2 : List V}, PrsAt H ps xs → PrsAt H ps2 xs2 → PrsAt H (ps ++ ps2) (xs ++ xs2)
  | [], _, [], _, _, h => h
  | _ :: _, _, _ :: _, _, ⟨a, r⟩, h => ⟨a, PrsAt.app r h⟩
theorem PrsAt.get {H : Hp} : ∀ {ps : List (Str × Int)} {xs : List V} {j : Nat} {x : V}, PrsAt H ps xs → xs[j]? = some x → ∃ p q, ps[j]? = some p ∧ x = .ref q ∧ H q = some (.tup [.str p.1, .int p.2])
  | [], [], j, x, _, h => by cases h
  | p :: _, y :: _, 0, x, ⟨⟨q, e, h1⟩, _⟩, h => by
    cases h
    exact ⟨p, q, rfl, e, h1⟩
  | p :: ps, y :: ys, j + 1, x, ⟨_, r⟩, h => PrsAt.get (j := j) r h
theorem PrsAt.len {H : Hp} : ∀ {ps : List (Str × Int)} {xs : List V}, PrsAt H ps xs → xs.length = ps.length
  | [], [], _ => rfl
  | _ :: _, _ :: _, ⟨_, r⟩ => by rw [List.length_cons, List.length_cons, r.len]
theorem PrsAt.nx {H : Hp} {T : List (Addr × Str)} {z : Str} {i : Int} {q : Addr} {ps : List (Str × Int)} {xs : List V} (n : H q = none) (w : PrsAt H ps xs) (hT : LamX.Tabs T H) : PrsAt (upd H q (.tup [.str z, .int i])) (ps ++ [(z, i)]) (xs ++ [.ref q]) ∧ LamX.Tabs T (upd H q (.tup [.str z, .int i])) :=
  ⟨(w.le (TupLe.new n)).snoc upd_same, hT.ext fun c o h => same_upd n c o h⟩
def errD (i : Int) : PyData := .tuple [.str "ParseError", .int i]
def errP (p : Str × Int) : Str × Int := ("ParseError", p.2)
theorem PrsAt.dp {K : PySem.W.Frag} {H : Hp} : ∀ {ps : List (Str × Int)} {xs : List V}, PrsAt H (ps.map errP) xs → DpAll K H xs (ps.map fun p => errD p.2)
  | [], [], _ => .nil
  | _ :: _, _ :: _, ⟨⟨q, e, h⟩, r⟩ => by
    subst e
    exact .cons (.tup (SqT.of h) (.cons (.str _) (.cons (.int _) .nil))) (PrsAt.dp r)
theorem errs_sh : ∀ (ps : List (Str × Int)), (∀ p ∈ ps, 0 ≤ p.2 ∧ p.2 ≤ 1000) → SeqAt.shaped (.list (ps.map fun p => errD p.2)) = true := fun ps h => shaped_list fun d m => by
  obtain ⟨p, hp, rfl⟩ := List.mem_map.mp m
  have b1 : (PyData.str "ParseError").canLay0 = true := by decide +kernel
  constructor
  · unfold errD
    simp only [PyData.canLayAll0, PyData.canLay0, Bool.and_self] at b1 ⊢
    first | exact b1 | simp [b1]
  · unfold errD
    simp only [PyData.depthAll, PyData.depth]
    omega
theorem wrong_sh : SeqAt.shaped (.list (wrongS.map fun p => errD p.2)) = true := errs_sh wrongS (by decide)

/-! ### what every law's text has -/
theorem toP {Q : VK} {g : VK → Prop} (M : V → Hp → Prop) (h : ∀ v H', M v H' → Q v H') (k : ∀ Q' : VK, (∀ v H', M v H' → Q' v H') → g Q') : g Q := k Q h
def spLaw (K : PySem.W.Frag) (PA : Addr) : Sp := fun vs H Q _ => ∃ (a : Addr) (ns : List Int), vs = [.ref a] ∧ SqL K H a (ns.map V.int) ∧ ns.length ≤ 63 ∧ H PA = some (.tbl #[]) ∧ ∀ H', Q (.bl true) H'
abbrev tabQ (PA : Addr) : List (Addr × Str) := [(PA, "law.<locals>.<lambda>")]
theorem BagAt.lst {H : Hp} {b r : Addr} (h : BagAt H b r) : ∃ l, H b = some (.lst l) := by
  obtain ⟨ns, i, c, m, h1, _⟩ := h
  exact ⟨_, h1⟩
theorem BagAt.le {H H' : Hp} {b r : Addr} (h : BagAt H b r) (s : But b H H') : Le b H H' := by
  obtain ⟨l, h1⟩ := h.lst
  exact Le.but s h1

/-! ### the law -/
theorem signs_ok : ∀ c ∈ signsL, signB c = true := by decide
theorem field_at : fldOf "ParseError" = some "at" := by decide +kernel
theorem code_at : (("code" : Str) == ("at" : Str)) = false := by decide
section
variable {P : Program} {w : World} {K : PySem.W.Frag} {mg : Str → Option Value} {base : Heap} {f C cA PA g1 g2 g3 : Addr}
theorem ok_law {u1 u2 u3 : Addr} {oc dc pm ct kV : Value} {od an : Option Addr} {sl : Array (Option Value)} (lk : K.lookup f = some ⟨oc, od, .func (PySem.W.fnOf "law" "law" (defArgs s_law) (defBody s_law) (defScope s_law) .none kV dc pm an (.ref cA) ct), sl⟩) (hcd : PySem.W.codeIn K (.ref cA) "law" = true) (T : Txt mg) (TB : LamX.TabB base mg cA PA)
    (hW : WhyC P w K mg base (.ref u1) (.ref u2) (.ref u3)) (exm : PySem.W.exmAny K (.ref C) [.ref u1, .ref u2, .ref u3] = some true) (xf : XfC K C) (n1 : PySem.W.findIn K (.ref C) "code" = some none) (n2 : PySem.W.findIn K (.ref C) "at" = some none)
    (c_law_bag : Cal P w K mg base 1 "_law_bag" (spBag K)) (c_law_names : Cal P w K mg base 4 "_law_names" spNames) (c_law_take : Cal P w K mg base 1 "_law_take" spTake) (c_law_of : Cal P w K mg base 2 "_law_of" (spOf K))
    (c_law_document : Cal P w K mg base 3 "_law_document" spDocument) (c_law_alike : Cal P w K mg base 11 "_law_alike" (spAlike K 10)) (c_document_text : Cal P w K mg base 2 "document_text" spDText) (c_law_read_fault : Cal P w K mg base 1 "_law_read_fault" spRF)
    (c_read_document : CalR P w K mg base 4 "read_document" (spRDx C)) :
    FnOk P w K mg base CX0 61 f (PySem.W.fnOf "law" "law" (defArgs s_law) (defBody s_law) (defScope s_law) .none kV dc pm an (.ref cA) ct) ["_law_script"] (spLaw K PA) := by
  refine fn_of lk hcd sc_law (fun vs H Q E h => ?_) fun A outer s H vs Q E hr h => ?_
  · obtain ⟨a, ns, rfl, _⟩ := h
    rfl
  · suffices ∃ t, PSs (cxOf CX0 P w K mg base ["_law_script", "_law_bag_z", "_law_names_z", "_law_turn", "_law_text", "_law_bend", "_law_at", "_law_sign", "_law_fault", "_law_found", "_law_wrong", "_law_spot"] "law" (defScope s_law) f (.ref cA) A outer s H E).nox (defBody s_law) t ∧ t { nx := fun _ H' => Q .non H', rt := Q } (L2.start ["_law_script", "_law_bag_z", "_law_names_z", "_law_turn", "_law_text", "_law_bend", "_law_at", "_law_sign", "_law_fault", "_law_found", "_law_wrong", "_law_spot"] vs) H from
      let ⟨t, h1, h2⟩ := this
      ⟨t, h1.nox, h2⟩
    obtain ⟨a, ns, rfl, hS, hl, hP, q⟩ := h
    refine ⟨_, (pss_cons (ps_set (i := 1) sc_law.nd rfl (.inl rfl) (pe_c c_law_bag hr (by omega) (by rfl) (pa_cons (pv 0) pa_nil)))
      (pss_cons (ps_set (i := 2) sc_law.nd rfl (.inl rfl) (pe_c c_law_names hr (by omega) (by rfl) (pa_cons (pv 1) pa_nil)))
      (pss_cons (ps_for PassesOwn.never rfl (pi_range1 (by rfl) T.range (pa_cons pe_int pa_nil)) (pg_name (i := 3) sc_law.nd rfl (.inl rfl)) (pss_cons (ps_set (i := 4) sc_law.nd rfl (.inr rfl) (pe_c c_document_text hr (by omega) (by rfl) (pa_cons (pe_c c_law_document hr (by omega) (by rfl) (pa_cons (pv 1) (pa_cons (pe_ix (ix_X K) (pv 2) pe_int (fun _ _ => rfl)) (pa_cons pe_int pa_nil)))) pa_nil)))
      (pss_cons (ps_for PassesOwn.never rfl (pi_range1 (by rfl) T.range (pa_cons (pe_op (op_addX K) pe_int (pe_c c_law_take hr (by omega) (by rfl) (pa_cons (pv 1) (pa_cons pe_int pa_nil)))) pa_nil)) (pg_name (i := 5) sc_law.nd rfl (.inl rfl)) (pss_cons (ps_set (i := 6) sc_law.nd rfl (.inl rfl) (pe_c c_law_take hr (by omega) (by rfl) (pa_cons (pv 1) (pa_cons (pe_op (op_addX K) (pe_callB (call_lenX K) (by rfl) T.len PySem.boot_len (pa_cons (pv 4) pa_nil)) pe_int) pa_nil))))
      (pss_cons (ps_set (i := 7) sc_law.nd rfl (.inl rfl) (pe_c c_law_of hr (by omega) (by rfl) (pa_cons (pv 1) (pa_cons (pe_lst (pa_cons pe_str (pa_cons pe_str (pa_cons pe_str (pa_cons pe_str (pa_cons pe_str (pa_cons pe_str (pa_cons pe_str (pa_cons pe_str (pa_cons pe_str (pa_cons pe_str (pa_cons (pe_op (op_addX K) (pe_op (op_addX K) pe_str (pe_op op_mulX pe_str pe_int)) pe_str) (pa_cons pe_str (pa_cons pe_str pa_nil)))))))))))))) pa_nil))))
      (pss_one (ps_set (i := 4) sc_law.nd rfl (.inr rfl) (pe_op (op_addX K) (pe_op (op_addX K) (pe_slice (sl_X K) (pv 4) po_none (po_some (pv 6))) (pv 7)) (pe_slice (sl_X K) (pv 4) (po_some (pe_op (op_addX K) (pv 6) (pe_c c_law_take hr (by omega) (by rfl) (pa_cons (pv 1) (pa_cons pe_int pa_nil))))) po_none)))))))
      (pss_cons (ps_set (i := 8) sc_law.nd rfl (.inl rfl) (pe_c c_law_read_fault hr (by omega) (by rfl) (pa_cons (pv 4) pa_nil)))
      (pss_cons (ps_set (i := 9) sc_law.nd rfl (.inl rfl) (pe_why 10 hW TB rfl hr (by omega) (LamX.lamS_by (by show LamX.lamSB (defScope s_law) _ = true; decide +kernel)) (fun _ _ _ _ _ => rfl) (fun A outer s H E f c' hrL => (pe_cR (takes_of rfl rfl rfl rfl) c_read_document hrL (by omega) (by rfl) (pa_cons (pv 4) pa_nil)))))
      (pss_cons (ps_if (PW.pt (pw_and (pt_cmpR op_ge (pv 8) pe_int (nomark _)) (pw_and1 (pt_not (pt_val (pe_c c_law_alike hr (by omega) (by rfl) (pa_cons (pv 9) (pa_cons (pe_tup (pa_cons pe_str (pa_cons (pv 8) pa_nil))) pa_nil)))))))) (pss_one (ps_ret pe_bl)) pss_nil)
      (pss_one (ps_if (PW.pt (pw_and (pt_cmpR op_lt (pv 8) pe_int (nomark _)) (pw_and1 (PW.pt (pw_or (pt_cmpR (op_neX K hr) (pe_ix (ix_X K) (pv 9) pe_int (fun _ _ => rfl)) pe_str (nomark _)) (pw_or1 (pt_cmpR (op_neX K hr) (pe_c c_document_text hr (by omega) (by rfl) (pa_cons (pe_ix (ix_X K) (pv 9) pe_int (fun _ _ => rfl)) pa_nil)) (pv 4) (nomark _)))))))) (pss_one (ps_ret pe_bl)) pss_nil))))))))
      (pss_cons (ps_set (i := 10) sc_law.nd rfl (.inl rfl) (pe_lst (pa_cons (pe_tup (pa_cons pe_str (pa_cons pe_int pa_nil))) (pa_cons (pe_tup (pa_cons pe_str (pa_cons pe_int pa_nil))) (pa_cons (pe_tup (pa_cons pe_str (pa_cons pe_int pa_nil))) (pa_cons (pe_tup (pa_cons pe_str (pa_cons pe_int pa_nil))) (pa_cons (pe_tup (pa_cons pe_str (pa_cons pe_int pa_nil))) (pa_cons (pe_tup (pa_cons pe_str (pa_cons pe_int pa_nil))) (pa_cons (pe_tup (pa_cons pe_str (pa_cons pe_int pa_nil))) (pa_cons (pe_tup (pa_cons pe_str (pa_cons pe_int pa_nil))) (pa_cons (pe_tup (pa_cons pe_str (pa_cons pe_int pa_nil))) (pa_cons (pe_tup (pa_cons pe_str (pa_cons pe_int pa_nil))) pa_nil))))))))))))
      (pss_cons (ps_set (i := 10) sc_law.nd rfl (.inl rfl) (pe_op (op_addX K) (pv 10) (pe_lst (pa_cons (pe_tup (pa_cons pe_str (pa_cons pe_int pa_nil))) (pa_cons (pe_tup (pa_cons pe_str (pa_cons pe_int pa_nil))) (pa_cons (pe_tup (pa_cons pe_str (pa_cons pe_int pa_nil))) (pa_cons (pe_tup (pa_cons pe_str (pa_cons pe_int pa_nil))) (pa_cons (pe_tup (pa_cons pe_str (pa_cons pe_int pa_nil))) (pa_cons (pe_tup (pa_cons (pe_op (op_addX K) (pe_op (op_addX K) pe_str (pe_op op_mulX pe_str pe_int)) pe_str) (pa_cons pe_int pa_nil))) (pa_cons (pe_tup (pa_cons pe_str (pa_cons pe_int pa_nil))) pa_nil))))))))))
      (pss_one (ps_ret (pe_cmpR (op_eqX K hr) (pe_lc (own := [("_law_text", 4), ("_law_spot", 11)])  (tt := tYes) (by rfl) sc_law.nd (pi_listX K (pv 10)) (blkOk_by (own := [("_law_text", 4), ("_law_spot", 11)]) (N := ["_law_script", "_law_bag_z", "_law_names_z", "_law_turn", "_law_text", "_law_bend", "_law_at", "_law_sign", "_law_fault", "_law_found", "_law_wrong", "_law_spot"]) (sc := defScope s_law) (by decide +kernel)) (fun _ _ _ _ _ => pg_tupX K (pg_tup (n := 2) (by rfl) (pgs_cons (pg_name (i := 4) sc_law.nd rfl (Or.inr rfl)) (pgs_cons (pg_name (i := 11) sc_law.nd rfl (Or.inl rfl)) pgs_nil)))) (fun _ _ _ _ _ => pts_nil) (fun _ _ _ _ _ => (pe_whyC "law.<locals>." 10 hW TB rfl hr (by omega) (LamX.lamS_by (by rfl)) (fun _ _ _ _ _ => rfl) (fun A outer s H E f c' hrL => (pe_cR (takes_of rfl rfl rfl rfl) c_read_document hrL (by omega) (by rfl) (pa_cons (pv 4) pa_nil)))))) (pe_lc (own := [("_law_text", 4), ("_law_spot", 11)])  (tt := tYes) (by rfl) sc_law.nd (pi_listX K (pv 10)) (blkOk_by (own := [("_law_text", 4), ("_law_spot", 11)]) (N := ["_law_script", "_law_bag_z", "_law_names_z", "_law_turn", "_law_text", "_law_bend", "_law_at", "_law_sign", "_law_fault", "_law_found", "_law_wrong", "_law_spot"]) (sc := defScope s_law) (by decide +kernel)) (fun _ _ _ _ _ => pg_tupX K (pg_tup (n := 2) (by rfl) (pgs_cons (pg_name (i := 4) sc_law.nd rfl (Or.inl rfl)) (pgs_cons (pg_name (i := 11) sc_law.nd rfl (Or.inl rfl)) pgs_nil)))) (fun _ _ _ _ _ => pts_nil) (fun _ _ _ _ _ => (pe_tup (pa_cons pe_str (pa_cons (pv 11) pa_nil))))) (nomark _))))))))), ?_⟩
    change (_ : TS) _ [some (V.ref a), none, none, none, none, none, none, none, none, none, none, none] _
    k_extra "rr"
    have hT : LamX.Tabs (tabQ PA) H := fun p hp => List.mem_singleton.mp hp ▸ LamX.TabS.nil hP
    refine ⟨a, ns, rfl, hS, hl, fun H1 b r s1 nb hb => ?_⟩
    have hT1 : LamX.Tabs (tabQ PA) H1 := hT.ext fun c o h => s1 c o h
    k_extra "rr"
    refine ⟨b, r, rfl, hb, fun p a1 a2 a3 k1 k2 n H2 bb2 hb2 hp ha1 ha2 l1 l2 g1 g2 np na1 na2 => ?_⟩
    obtain ⟨lb, hlb⟩ := hb.lst
    have hT2 := Tabs.but hT1 bb2 hlb
    k_extra "rr"
    have nb1 : a1 ≠ b := (hb.ne_none na1).1
    have nb0 : p ≠ b := (hb.ne_none np).1
    obtain ⟨W, hW'⟩ : ∃ W : Nat → L2.St → Hp → Prop, ∀ i σ H', W i σ H' ↔ ∃ (v3 v4 v5 v6 v7 v8 v9 v10 v11 : Option V), σ = [some (.ref a), some (.ref b), some (.ref p), v3, v4, v5, v6, v7, v8, v9, v10, v11] ∧ BagAt H' b r ∧ H' p = some (.lst [.ref a1, .ref a2, .ref a3]) ∧ H' a1 = some (.lst (kws k1)) ∧ LamX.Tabs (tabQ PA) H' := ⟨_, fun _ _ _ => Iff.rfl⟩
    refine for_range (lo := 0) (n := (8 : Int).toNat) W ((hW' _ _ _).mpr ⟨none, none, none, none, none, none, none, none, none, rfl, hb2, hp, ha1, hT2⟩) ?_ ?_
    · intro i σ H3 hi hw
      obtain ⟨v3, v4, v5, v6, v7, v8, v9, v10, v11, rfl, hb3, hp3, ha3, hT3⟩ := (hW' _ _ _).mp hw
      clear hw
      k_extra "rr"
      refine ⟨b, r, a1, 6, k1, rfl, hb3, nb1, ha3, by omega, by omega, by omega, by omega, fun fo d H4 bb4 hb4 hd hsz hall => ?_⟩
      have hg : GF fo := hall.imp fun k t h => ⟨(g1 k h.1).1, (g1 k h.1).2.1, (g1 k h.1).2.2.1, by omega, fun c hc => signs_ok c (h.2.2 c hc)⟩
      have hp3' : fo.All P3 := hall.imp fun k t h => ⟨(g1 k h.1).1, (g1 k h.1).2.2.1, h.2.1, fun c hc => signs_ok c (h.2.2 c hc)⟩
      have hdp := Fo.depth_le fo
      have hp4 := bb4 _ _ hp3 nb0
      have ha4 := bb4 _ _ ha3 nb1
      obtain ⟨lb3, hlb3⟩ := hb3.lst
      have hT4 := Tabs.but hT3 bb4 hlb3
      k_extra "rr"
      refine ⟨d, fo, rfl, hd, by omega, by omega, hg, fun H5 s5 => ?_⟩
      have ht0 := tok0 hp3' (by omega)
      have hb5 := hb4.same s5
      have hp5 := s5 _ _ hp4
      have ha5 := s5 _ _ ha4
      have hT5 := hT4.ext fun c o h => s5 c o h
      clear hd hall hg hp3' hdp hsz
      generalize wr fo = T0 at ht0
      k_extra "rr"
      refine ⟨b, r, 2, rfl, hb5, by omega, by omega, fun m1 H6 bb6 hb6 m10 m11 => ?_⟩
      have hp6 := bb6 _ _ hp5 nb0
      have ha6 := bb6 _ _ ha5 nb1
      obtain ⟨lb5, hlb5⟩ := hb5.lst
      have hT6 := Tabs.but hT5 bb6 hlb5
      clear hb3 hp3 ha3 hT3 bb4 hb4 hp4 ha4 hlb3 hT4 hb5 hp5 ha5 hT5 hlb5 bb6 s5
      k_extra "rr"
      obtain ⟨W2, hW2⟩ : ∃ W : Nat → L2.St → Hp → Prop, ∀ j σ H', W j σ H' ↔ ∃ (T0 : List Nat) (v5 v6 v7 : Option V), σ = [some (.ref a), some (.ref b), some (.ref p), some (.int (0 + (i : Int))), some (.str (SX.S T0)), v5, v6, v7, v8, v9, v10, v11] ∧ TOk j T0 ∧ BagAt H' b r ∧ H' p = some (.lst [.ref a1, .ref a2, .ref a3]) ∧ H' a1 = some (.lst (kws k1)) ∧ LamX.Tabs (tabQ PA) H' := ⟨_, fun _ _ _ => Iff.rfl⟩
      refine for_range (lo := 0) (n := (1 + m1).toNat) W2 ((hW2 _ _ _).mpr ⟨T0, _, _, _, rfl, ht0, hb6, hp6, ha6, hT6⟩) ?_ ?_
      · clear ht0 hb6 hp6 ha6 hT6
        clear T0
        intro j σ H7 hj hw
        obtain ⟨T0, v5, v6, v7, rfl, ht0, hb7, hp7, ha7, hT7⟩ := (hW2 _ _ _).mp hw
        clear hw
        have hlen := ht0.len
        have eL : (SX.S T0).length = T0.length := SX.S_len T0
        k_extra "rr"
        refine ⟨b, r, _, rfl, hb7, by rw [eL]; omega, by rw [eL]; omega, fun m2 H8 bb8 hb8 m20 m21 => ?_⟩
        have hp8 := bb8 _ _ hp7 nb0
        have ha8 := bb8 _ _ ha7 nb1
        obtain ⟨lb7, hlb7⟩ := hb7.lst
        have hT8 := Tabs.but hT7 bb8 hlb7
        clear hb7 hp7 ha7 hT7 hlb7 bb8
        k_extra "rr"
        refine mulS (by decide +kernel) (by omega) (by omega) ?_
        rw [show Txt.mul (Str.ofString "t") 21 = "ttttttttttttttttttttt" by decide +kernel]
        k_extra "rr"
        rw [show Str.ofString "\"" ++ Str.ofString "ttttttttttttttttttttt" ++ Str.ofString "\"" = Str.ofString "\"ttttttttttttttttttttt\"" by decide +kernel]
        refine ⟨by k_extra "sz", fun L nL => ?_⟩
        have nLb : L ≠ b := (hb8.ne_none nL).1
        have hb9 := hb8.new (o := .lst (bendsS.map V.str)) nL
        have hp9 := same_upd (o := .lst (bendsS.map V.str)) nL _ _ hp8
        have ha9 := same_upd (o := .lst (bendsS.map V.str)) nL _ _ ha8
        have hT9 := hT8.ext fun c o h => same_upd (o := .lst (bendsS.map V.str)) nL c o h
        k_extra "rr"
        refine ⟨b, r, .ref L, rfl, hb9, .inr ⟨L, _, rfl, nLb, SqL.of upd_same, by decide, by decide, fun ix v HA hv bbA hbA => ?_⟩⟩
        have hv2 : v ∈ bendsS.map V.str := List.mem_of_getElem? hv
        obtain ⟨z, hz, rfl⟩ := List.mem_map.mp hv2
        obtain ⟨ez, z1, z2, z3⟩ := bend_of hz
        clear hv hv2 hz
        generalize z.cps.toList = sg at ez z1 z2 z3
        subst z
        have hpA := bbA _ _ hp9 nb0
        have haA := bbA _ _ ha9 nb1
        obtain ⟨lb9, hlb9⟩ := hb9.lst
        have hTA := Tabs.but hT9 bbA hlb9
        clear hb9 hp9 ha9 hT9 hlb9 bbA hb8 hp8 ha8 hT8
        k_extra "rr"
        rw [cut_to T0 m20]
        have hlT : (T0.take m2.toNat).length ≤ T0.length := by rw [List.length_take]; omega
        refine addS (by rw [SX.S_len, SX.S_len, sizeLine_eq]; omega) ?_
        rw [SX.S_cat]
        k_extra "rr"
        refine ⟨b, r, 2, rfl, hbA, by omega, by omega, fun m3 HB bbB hbB m30 m31 => ?_⟩
        have hpB := bbB _ _ hpA nb0
        have haB := bbB _ _ haA nb1
        obtain ⟨lbA, hlbA⟩ := hbA.lst
        have hTB := Tabs.but hTA bbB hlbA
        clear hbA hpA haA hTA hlbA bbB
        k_extra "rr"
        rw [cut_from T0 (by omega)]
        have hlD : (T0.drop (m2 + m3).toNat).length ≤ T0.length := by rw [List.length_drop]; omega
        refine addS (by rw [SX.S_len, SX.S_len, List.length_append, sizeLine_eq]; omega) ?_
        rw [SX.S_cat]
        k_extra "rr"
        exact (hW2 _ _ _).mpr ⟨_, _, _, _, rfl, ht0.bend z1 z2 z3 (by omega), hbB, hpB, haB, hTB⟩
      · clear ht0 hb6 hp6 ha6 hT6
        clear T0
        intro σ H7 hw
        obtain ⟨T0, v5, v6, v7, rfl, ht0, hb7, hp7, ha7, hT7⟩ := (hW2 _ _ _).mp hw
        clear hw
        have hlen := ht0.len
        have hn2 : (1 + m1).toNat ≤ 2 := by omega
        have eL : (SX.S T0).length = T0.length := SX.S_len T0
        k_extra "rr"
        refine ⟨T0, rfl, by omega, ht0.ok, fun H8 s8 => ?_⟩
        have hb8 := hb7.same s8
        have hp8 := s8 _ _ hp7
        have ha8 := s8 _ _ ha7
        have hT8 := hT7.ext fun c o h => s8 c o h
        clear hb7 hp7 ha7 hT7 s8
        rw [flT_rdT]
        k_extra "rr"
        refine why_ hT8 fun H9 e9 hT9 => ?_
        have hb9 := hb8.ext e9
        have hp9 := ext_lst e9 hp8
        have ha9 := ext_lst e9 ha8
        clear hb8 hp8 ha8 hT8
        k_extra "rr"
        cases erd : rdT T0 with
        | inl ix =>
          refine ⟨T0, rfl, by omega, fun fo e => (by rw [erd] at e; cases e), fun ix2 e HA dd sA he => ?_⟩
          rw [erd] at e
          cases e
          refine why_x exm xf n1 n2 field_at code_at he fun p3 HB sB h3 => ?_
          have s9B := sA.trans sB
          have hbB := hb9.same s9B
          have hpB := s9B _ _ hp9
          have haB := s9B _ _ ha9
          have hTB := hT9.ext fun c o h => s9B c o h
          k_extra "rr"
          rw [show fI (rN (Sum.inl ix)) = (ix : Int) from rfl, decide_eq_true (by omega)]
          k_extra "rr"
          refine ⟨by k_extra "sz", fun p4 np4 => ?_⟩
          have s4 := same_upd (o := .tup [.str "ParseError", .int (ix : Int)]) np4
          k_extra "rr"
          refine ⟨_, _, rfl, .inr ⟨p3, p4, _, _, rfl, rfl, .inr ⟨SqT.of (s4 _ _ h3), SqT.of upd_same⟩, rfl, (by show 2 ≤ 100000; decide), fun j x y hx hy => ?_⟩, fun HC sC => ?_⟩
          · rcases j with _ | _ | j
            · cases hx
              cases hy
              exact .inl ⟨rfl, rfl⟩
            · cases hx
              cases hy
              exact .inl ⟨rfl, rfl⟩
            · cases hx
          k_extra "rr"
          rw [decide_eq_false (by omega)]
          k_extra "rr"
          have sf := s4.trans sC
          exact (hW' _ _ _).mpr ⟨_, _, _, _, _, _, _, _, _, rfl, hbB.same sf, sf _ _ hpB, sf _ _ haB, hTB.ext fun c o h => sf c o h⟩
        | inr fo =>
          obtain ⟨gfo, hwr, dfo, sfo⟩ := ht0.read hn2 erd
          refine ⟨T0, rfl, by omega, fun fo2 e d2 HA sA hdA => ⟨by k_extra "sz", fun p3 np3 => ?_⟩, fun ix2 e => (by rw [erd] at e; cases e)⟩
          rw [erd] at e
          cases e
          have sB := same_upd (o := .tup [.str "", .ref d2]) np3
          have h3 : upd HA p3 (.tup [.str "", .ref d2]) p3 = some (.tup [.str "", .ref d2]) := upd_same
          have s9B := sA.trans sB
          have hbB := hb9.same s9B
          have hpB := s9B _ _ hp9
          have haB := s9B _ _ ha9
          have hTB := hT9.ext fun c o h => s9B c o h
          have hdB := hdA.le (TupLe.same sB)
          generalize upd HA p3 (.tup [.str "", .ref d2]) = HB at h3 hbB hpB haB hTB hdB
          k_extra "rr"
          rw [show fI (rN (Sum.inr fo)) = -1 from rfl, decide_eq_false (by omega)]
          k_extra "rr"
          rw [decide_eq_true (by omega)]
          k_extra "rr"
          rw [decide_eq_true rfl]
          k_extra "rr"
          refine ⟨d2, fo, rfl, hdB, dfo, sfo, gfo, fun HC sC => ?_⟩
          k_extra "rr"
          rw [hwr, decide_eq_true rfl]
          k_extra "rr"
          exact (hW' _ _ _).mpr ⟨_, _, _, _, _, _, _, _, _, rfl, hbB.same sC, sC _ _ hpB, sC _ _ haB, hTB.ext fun c o h => sC c o h⟩
    · intro σ H3 hw
      obtain ⟨v3, v4, v5, v6, v7, v8, v9, v10, v11, rfl, hb3, hp3, ha3, hT3⟩ := (hW' _ _ _).mp hw
      clear hw
      have w0 : PrsAt H3 [] [] := trivial
      clear hb3 hp3 ha3
      k_extra "rr"
      refine ⟨by k_extra "sz", fun q0 m0 => ?_⟩
      obtain ⟨w1, hT3⟩ := PrsAt.nx (z := " ") (i := 0) m0 w0 hT3
      clear w0
      generalize upd H3 q0 _ = J1 at w1 hT3
      k_extra "rr"
      refine ⟨by k_extra "sz", fun q1 m1 => ?_⟩
      obtain ⟨w2, hT3⟩ := PrsAt.nx (z := "a ") (i := 2) m1 w1 hT3
      clear w1
      generalize upd J1 q1 _ = J2 at w2 hT3
      k_extra "rr"
      refine ⟨by k_extra "sz", fun q2 m2 => ?_⟩
      obtain ⟨w3, hT3⟩ := PrsAt.nx (z := "a  b") (i := 2) m2 w2 hT3
      clear w2
      generalize upd J2 q2 _ = J3 at w3 hT3
      k_extra "rr"
      refine ⟨by k_extra "sz", fun q3 m3 => ?_⟩
      obtain ⟨w4, hT3⟩ := PrsAt.nx (z := "a()") (i := 2) m3 w3 hT3
      clear w3
      generalize upd J3 q3 _ = J4 at w4 hT3
      k_extra "rr"
      refine ⟨by k_extra "sz", fun q4 m4 => ?_⟩
      obtain ⟨w5, hT3⟩ := PrsAt.nx (z := "a(") (i := 2) m4 w4 hT3
      clear w4
      generalize upd J4 q4 _ = J5 at w5 hT3
      k_extra "rr"
      refine ⟨by k_extra "sz", fun q5 m5 => ?_⟩
      obtain ⟨w6, hT3⟩ := PrsAt.nx (z := "a(b") (i := 3) m5 w5 hT3
      clear w5
      generalize upd J5 q5 _ = J6 at w6 hT3
      k_extra "rr"
      refine ⟨by k_extra "sz", fun q6 m6 => ?_⟩
      obtain ⟨w7, hT3⟩ := PrsAt.nx (z := "a)") (i := 1) m6 w6 hT3
      clear w6
      generalize upd J6 q6 _ = J7 at w7 hT3
      k_extra "rr"
      refine ⟨by k_extra "sz", fun q7 m7 => ?_⟩
      obtain ⟨w8, hT3⟩ := PrsAt.nx (z := "a\"\"") (i := 2) m7 w7 hT3
      clear w7
      generalize upd J7 q7 _ = J8 at w8 hT3
      k_extra "rr"
      refine ⟨by k_extra "sz", fun q8 m8 => ?_⟩
      obtain ⟨w9, hT3⟩ := PrsAt.nx (z := "a\"x") (i := 3) m8 w8 hT3
      clear w8
      generalize upd J8 q8 _ = J9 at w9 hT3
      k_extra "rr"
      refine ⟨by k_extra "sz", fun q9 m9 => ?_⟩
      obtain ⟨w10, hT3⟩ := PrsAt.nx (z := "abcdefg") (i := 6) m9 w9 hT3
      clear w9
      generalize upd J9 q9 _ = J10 at w10 hT3
      k_extra "rr"
      refine ⟨by k_extra "sz", fun LA nLA => ?_⟩
      have hLA : upd J10 LA (.lst [.ref q0, .ref q1, .ref q2, .ref q3, .ref q4, .ref q5, .ref q6, .ref q7, .ref q8, .ref q9]) LA = some (.lst [.ref q0, .ref q1, .ref q2, .ref q3, .ref q4, .ref q5, .ref q6, .ref q7, .ref q8, .ref q9]) := upd_same
      have w10 : PrsAt J10 _ [.ref q0, .ref q1, .ref q2, .ref q3, .ref q4, .ref q5, .ref q6, .ref q7, .ref q8, .ref q9] := w10
      have w10 := w10.le (TupLe.new (o := .lst [.ref q0, .ref q1, .ref q2, .ref q3, .ref q4, .ref q5, .ref q6, .ref q7, .ref q8, .ref q9]) nLA)
      have hT3 := hT3.ext fun c o h => same_upd (o := .lst [.ref q0, .ref q1, .ref q2, .ref q3, .ref q4, .ref q5, .ref q6, .ref q7, .ref q8, .ref q9]) nLA c o h
      generalize upd J10 LA _ = K0 at hLA w10 hT3
      generalize [V.ref q0, V.ref q1, V.ref q2, V.ref q3, V.ref q4, V.ref q5, V.ref q6, V.ref q7, V.ref q8, V.ref q9] = xa at hLA w10
      have y0 : PrsAt K0 [] [] := trivial
      k_extra "rr"
      refine ⟨by k_extra "sz", fun r0 m0 => ?_⟩
      obtain ⟨y1, hT3⟩ := PrsAt.nx (z := "a(b)c") (i := 4) m0 y0 hT3
      have hLA := same_upd (o := .tup [.str "a(b)c", .int 4]) m0 _ _ hLA
      have w10 := w10.le (TupLe.new (o := .tup [.str "a(b)c", .int 4]) m0)
      clear y0
      generalize upd K0 r0 _ = K1 at y1 hT3 hLA w10
      k_extra "rr"
      refine ⟨by k_extra "sz", fun r1 m1 => ?_⟩
      obtain ⟨y2, hT3⟩ := PrsAt.nx (z := "\"x\"") (i := 0) m1 y1 hT3
      have hLA := same_upd (o := .tup [.str "\"x\"", .int 0]) m1 _ _ hLA
      have w10 := w10.le (TupLe.new (o := .tup [.str "\"x\"", .int 0]) m1)
      clear y1
      generalize upd K1 r1 _ = K2 at y2 hT3 hLA w10
      k_extra "rr"
      refine ⟨by k_extra "sz", fun r2 m2 => ?_⟩
      obtain ⟨y3, hT3⟩ := PrsAt.nx (z := "a \"x\"") (i := 2) m2 y2 hT3
      have hLA := same_upd (o := .tup [.str "a \"x\"", .int 2]) m2 _ _ hLA
      have w10 := w10.le (TupLe.new (o := .tup [.str "a \"x\"", .int 2]) m2)
      clear y2
      generalize upd K2 r2 _ = K3 at y3 hT3 hLA w10
      k_extra "rr"
      refine ⟨by k_extra "sz", fun r3 m3 => ?_⟩
      obtain ⟨y4, hT3⟩ := PrsAt.nx (z := "aB") (i := 1) m3 y3 hT3
      have hLA := same_upd (o := .tup [.str "aB", .int 1]) m3 _ _ hLA
      have w10 := w10.le (TupLe.new (o := .tup [.str "aB", .int 1]) m3)
      clear y3
      generalize upd K3 r3 _ = K4 at y4 hT3 hLA w10
      k_extra "rr"
      refine ⟨by k_extra "sz", fun r4 m4 => ?_⟩
      obtain ⟨y5, hT3⟩ := PrsAt.nx (z := "a\"x\"(b))") (i := 7) m4 y4 hT3
      have hLA := same_upd (o := .tup [.str "a\"x\"(b))", .int 7]) m4 _ _ hLA
      have w10 := w10.le (TupLe.new (o := .tup [.str "a\"x\"(b))", .int 7]) m4)
      clear y4
      generalize upd K4 r4 _ = K5 at y5 hT3 hLA w10
      k_extra "rr"
      refine mulS (by decide +kernel) (by omega) (by omega) ?_
      rw [show Txt.mul (Str.ofString "t") 21 = "ttttttttttttttttttttt" by decide +kernel]
      k_extra "rr"
      rw [show Str.ofString "a\"" ++ Str.ofString "ttttttttttttttttttttt" ++ Str.ofString "\"" = Str.ofString "a\"ttttttttttttttttttttt\"" by decide +kernel]
      refine ⟨by k_extra "sz", fun r5 m5 => ?_⟩
      obtain ⟨y6, hT3⟩ := PrsAt.nx (z := "a\"ttttttttttttttttttttt\"") (i := 22) m5 y5 hT3
      have hLA := same_upd (o := .tup [.str "a\"ttttttttttttttttttttt\"", .int 22]) m5 _ _ hLA
      have w10 := w10.le (TupLe.new (o := .tup [.str "a\"ttttttttttttttttttttt\"", .int 22]) m5)
      clear y5
      generalize upd K5 r5 _ = K6 at y6 hT3 hLA w10
      k_extra "rr"
      refine ⟨by k_extra "sz", fun r6 m6 => ?_⟩
      obtain ⟨y7, hT3⟩ := PrsAt.nx (z := "a(b )") (i := 4) m6 y6 hT3
      have hLA := same_upd (o := .tup [.str "a(b )", .int 4]) m6 _ _ hLA
      have w10 := w10.le (TupLe.new (o := .tup [.str "a(b )", .int 4]) m6)
      clear y6
      generalize upd K6 r6 _ = K7 at y7 hT3 hLA w10
      k_extra "rr"
      refine ⟨by k_extra "sz", fun LB nLB => ?_⟩
      have hLA := same_upd (o := .lst [.ref r0, .ref r1, .ref r2, .ref r3, .ref r4, .ref r5, .ref r6]) nLB _ _ hLA
      have hLB : upd K7 LB (.lst [.ref r0, .ref r1, .ref r2, .ref r3, .ref r4, .ref r5, .ref r6]) LB = some (.lst [.ref r0, .ref r1, .ref r2, .ref r3, .ref r4, .ref r5, .ref r6]) := upd_same
      have wC : PrsAt _ wrongS (xa ++ [.ref r0, .ref r1, .ref r2, .ref r3, .ref r4, .ref r5, .ref r6]) := (PrsAt.app w10 y7).le (TupLe.new (o := .lst [.ref r0, .ref r1, .ref r2, .ref r3, .ref r4, .ref r5, .ref r6]) nLB)
      have hT3 := hT3.ext fun c o h => same_upd (o := .lst [.ref r0, .ref r1, .ref r2, .ref r3, .ref r4, .ref r5, .ref r6]) nLB c o h
      have hxa : xa.length = 10 := w10.len
      clear w10 y7
      generalize upd K7 LB _ = K8 at hLA hLB wC hT3
      refine .inr (.inr (.inl ⟨LA, LB, xa, _, rfl, rfl, hLA, hLB, by rw [hxa, sizeLine_eq]; show 10 + 7 ≤ 16777216; decide, fun LC nLC => ?_⟩))
      generalize xa ++ [V.ref r0, V.ref r1, V.ref r2, V.ref r3, V.ref r4, V.ref r5, V.ref r6] = xc at wC
      have wC := wC.le (TupLe.new (o := .lst xc) nLC)
      have hLC : upd K8 LC (.lst xc) LC = some (.lst xc) := upd_same
      have hT3 := hT3.ext fun c o h => same_upd (o := .lst xc) nLC c o h
      have hxc := wC.len
      clear hLA hLB
      generalize upd K8 LC (.lst xc) = K9 at wC hLC hT3
      k_extra "rr"
      intro D nD
      refine lc_it (walk_list (K := K) (a := LC) (xs := xc)) (fun j H' => ∃ qs, H' D = some (.lst qs) ∧ PrsAt H' ((wrongS.take j).map errP) qs ∧ PrsAt H' wrongS xc ∧ H' LC = some (.lst xc) ∧ LamX.Tabs (tabQ PA) H') ⟨[], upd_same, trivial, wC.le (TupLe.new nD), same_upd nD _ _ hLC, hT3.ext fun c o h => same_upd nD c o h⟩ (fun i H' _ s => by obtain ⟨_, _, _, _, h, _⟩ := s; exact SqL.of h) ?_ ?_
      · rintro j x H5 H6 hj ⟨qs, hD, hE, hP', hLC5, hT5⟩ ⟨rfl, hxi⟩
        obtain ⟨p0, qa, ep, rfl, hq⟩ := hP'.get hxi
        obtain ⟨e1, e2, e3, e4⟩ := wrong_of (List.mem_of_getElem? ep)
        obtain ⟨z, iz⟩ := p0
        have tk : (wrongS.take (j + 1)).map errP = (wrongS.take j).map errP ++ [(("ParseError" : Str), iz)] := by
          rw [List.take_add_one, ep, List.map_append]
          rfl
        have e1 : z = SX.S z.cps.toList := e1
        have e2 : z.cps.toList.length ≤ 1000 := e2
        have e3 : rdT z.cps.toList = .inl iz.toNat := e3
        have e4 : ((iz.toNat : Nat) : Int) = iz := e4
        have hq : H6 qa = some (.tup [.str z, .int iz]) := hq
        generalize z.cps.toList = l at e1 e2 e3
        have hlq := hE.len
        rw [List.length_map, List.length_take] at hlq
        k_extra "rr"
        refine ⟨rfl, ?_⟩
        k_extra "rr"
        refine why_ hT5 fun H7 e7 hT7 => ?_
        k_extra "rr"
        refine ⟨l, by rw [e1], e2, fun fo e => (by rw [e3] at e; cases e), fun ix e H8 dd s8 he => ?_⟩
        rw [e3] at e
        cases e
        rw [e4] at he
        refine why_x exm xf n1 n2 field_at code_at he fun p3 H9 s9 h3 => ?_
        have s79 := s8.trans s9
        have tl : TupLe H6 H9 := fun c xs h => s79 _ _ (e7 _ _ h fun ps z => by cases z)
        have hD9 := s79 _ _ (ext_lst e7 hD)
        refine ⟨qs, hD9, by rw [hlq, sizeLine_eq, show wrongS.length = 17 from rfl]; omega, qs ++ [.ref p3], upd_same, ?_, (hP'.le tl).le (TupLe.lst hD9), ?_, ?_⟩
        · rw [tk]
          exact ((hE.le tl).snoc h3).le (TupLe.lst hD9)
        · have nCD : LC ≠ D := fun z => by
            rw [z] at hLC
            rw [hLC] at nD
            cases nD
          exact upd2 nCD (s79 _ _ (ext_lst e7 hLC5))
        · exact Tabs.but (hT7.ext fun c o h => s79 c o h) But.upd hD9
      · rintro H5 ⟨qs, hD, hE, hP', hLC5, hT5⟩
        rw [hxc, List.take_length] at hE
        k_extra "rr"
        intro D2 nD2
        have hLC6 := same_upd (o := .lst []) nD2 _ _ hLC5
        have hP6 := hP'.le (TupLe.new (o := .lst []) nD2)
        refine lc_it (walk_list (K := K) (a := LC) (xs := xc)) (fun j H' => ∃ qs, H' D2 = some (.lst qs) ∧ PrsAt H' ((wrongS.take j).map errP) qs ∧ PrsAt H' wrongS xc ∧ H' LC = some (.lst xc) ∧ Same H5 H') ⟨[], upd_same, trivial, hP6, hLC6, same_upd nD2⟩ (fun i H' _ s => by obtain ⟨_, _, _, _, h, _⟩ := s; exact SqL.of h) ?_ ?_
        · rintro j x H6 H7 hj ⟨qs2, hD2, hE2, hP7, hLC7, s56⟩ ⟨rfl, hxi⟩
          obtain ⟨p0, qa, ep, rfl, hq⟩ := hP7.get hxi
          obtain ⟨z, iz⟩ := p0
          have tk : (wrongS.take (j + 1)).map errP = (wrongS.take j).map errP ++ [(("ParseError" : Str), iz)] := by
            rw [List.take_add_one, ep, List.map_append]
            rfl
          have hq : H7 qa = some (.tup [.str z, .int iz]) := hq
          have hlq := hE2.len
          rw [List.length_map, List.length_take] at hlq
          k_extra "rr"
          refine ⟨rfl, ?_⟩
          k_extra "rr"
          refine ⟨by k_extra "sz", fun p3 np3 => ?_⟩
          have s3 := same_upd (o := .tup [.str "ParseError", .int iz]) np3
          have hD3 := s3 _ _ hD2
          have nCD : LC ≠ D2 := fun z => by
            rw [z] at hLC5
            rw [hLC5] at nD2
            cases nD2
          refine ⟨qs2, hD3, by rw [hlq, sizeLine_eq, show wrongS.length = 17 from rfl]; omega, qs2 ++ [.ref p3], upd_same, ?_, (hP7.le (TupLe.same s3)).le (TupLe.lst hD3), upd2 nCD (s3 _ _ hLC7), same_mut (s56.trans s3) nD2⟩
          rw [tk]
          exact ((hE2.le (TupLe.same s3)).snoc upd_same).le (TupLe.lst hD3)
        · rintro H6 ⟨qs2, hD2, hE2, _, _, s56⟩
          rw [hxc, List.take_length] at hE2
          have hE3 := hE.le (TupLe.same s56)
          refine eqDd (d := .list (wrongS.map fun p => errD p.2)) (e := .list (wrongS.map fun p => errD p.2)) (.lst (SqL.of (s56 _ _ hD)) hE3.dp) (.lst (SqL.of hD2) hE2.dp) wrong_sh wrong_sh ?_
          rw [SeqAt.eqv_refl _ (SeqAt.canLay_of_shaped wrong_sh)]
          k_extra "rr"
          exact q _
end

/-! ### what the top has written, and the head -/
theorem kb1 {K : PySem.W.Frag} {x p : Str} {st : Stmt} {f : Addr} {fd : FuncData} (F : Fun K x x st f fd)
    (h : ∀ (kV doc pm : Value) (an : Option Addr) (cdv ct u : Value), bindArgs (PySem.W.fnOf x x (defArgs st) (defBody st) (defScope st) .none kV doc pm an cdv ct) ⟨[], [(p, u)]⟩ = pure [(p, u)])
    (h2 : ∀ (kV doc pm : Value) (an : Option Addr) (cdv ct u : Value), bindArgs (PySem.W.fnOf x x (defArgs st) (defBody st) (defScope st) .none kV doc pm an cdv ct) ⟨[u], []⟩ = pure [(p, u)]) :
    KBinds K fd [p] [p] (fun us ws => us ++ ws) (fun us ws => us ++ ws) := by
  obtain ⟨oc, od, kV, doc, pm, an, cdv, ct, osl, rfl, lk, hcd⟩ := F.ex
  refine ⟨fun s us ws _ hl => ?_, fun a b => a.append b⟩
  match us, ws, hl with
  | [], [u], _ => exact .of_eq (h kV doc pm an cdv ct u)
  | [u], [], _ => exact .of_eq (h2 kV doc pm an cdv ct u)
theorem cal_alike {P : Program} {w : World} {K : PySem.W.Frag} {mg : Str → Option Value} {base : Heap} {f : Addr} {fd : FuncData} (F : Fun K "_law_alike" "_law_alike" s_law_alike f fd) (T : Txt mg)
    (m : mg "_law_alike" = some (.ref f)) (k : PySem.W.keepIn K (.ref f) = true) (b : Binds K fd ["_law_found", "_law_due"] []) : ∀ n, Cal P w K mg base (n + 1) "_law_alike" (spAlike K n)
  | 0 => ⟨_, _, _, ok_law_alike0 F, m, k, b⟩
  | n + 1 => ⟨_, _, _, ok_law_alike1 F T (cal_alike F T m k b n), m, k, b⟩
theorem all_mk {l : PySem.W.OpenLaw} {w : World} {K : PySem.W.Frag} {h : Heap} {mg : Str → Option Value} {fa f_is_sign f_spaced f_document_text f_read_kind f_read_quoted f_read_document f_law_bag f_law_take f_law_of f_law_words f_law_names f_law_sign_text f_law_nested f_law_document f_law_field f_law_why f_law_alike f_law_read_fault f_law cA PA : Addr} (X : K.In h) (G : h.Ns mainGlobals mg) (hfa : mg "law" = some (.ref fa))
    {od_is_sign an_is_sign od_spaced an_spaced od_document_text an_document_text od_read_kind an_read_kind od_read_quoted an_read_quoted od_read_document an_read_document od_law_bag an_law_bag od_law_take an_law_take od_law_of an_law_of od_law_words an_law_words od_law_names an_law_names od_law_sign_text an_law_sign_text od_law_nested an_law_nested od_law_document an_law_document od_law_field an_law_field od_law_why an_law_why od_law_alike an_law_alike od_law_read_fault an_law_read_fault od_law an_law : Option Addr} {sl_is_sign sl_spaced sl_document_text sl_read_kind sl_read_quoted sl_read_document sl_law_bag sl_law_take sl_law_of sl_law_words sl_law_names sl_law_sign_text sl_law_nested sl_law_document sl_law_field sl_law_why sl_law_alike sl_law_read_fault sl_law : Array (Option Value)} {oc_is_sign kV_is_sign dc_is_sign pm_is_sign cd_is_sign ct_is_sign oc_spaced kV_spaced dc_spaced pm_spaced cd_spaced ct_spaced oc_document_text kV_document_text dc_document_text pm_document_text cd_document_text ct_document_text oc_read_kind kV_read_kind dc_read_kind pm_read_kind cd_read_kind ct_read_kind oc_read_quoted kV_read_quoted dc_read_quoted pm_read_quoted cd_read_quoted ct_read_quoted oc_read_document kV_read_document dc_read_document pm_read_document cd_read_document ct_read_document oc_law_bag kV_law_bag dc_law_bag pm_law_bag cd_law_bag ct_law_bag oc_law_take kV_law_take dc_law_take pm_law_take cd_law_take ct_law_take oc_law_of kV_law_of dc_law_of pm_law_of cd_law_of ct_law_of oc_law_words kV_law_words dc_law_words pm_law_words cd_law_words ct_law_words oc_law_names kV_law_names dc_law_names pm_law_names cd_law_names ct_law_names oc_law_sign_text kV_law_sign_text dc_law_sign_text pm_law_sign_text cd_law_sign_text ct_law_sign_text oc_law_nested kV_law_nested dc_law_nested pm_law_nested cd_law_nested ct_law_nested oc_law_document kV_law_document dc_law_document pm_law_document cd_law_document ct_law_document oc_law_field kV_law_field dc_law_field pm_law_field cd_law_field ct_law_field oc_law_why kV_law_why dc_law_why pm_law_why cd_law_why ct_law_why oc_law_alike kV_law_alike dc_law_alike pm_law_alike cd_law_alike ct_law_alike oc_law_read_fault kV_law_read_fault dc_law_read_fault pm_law_read_fault cd_law_read_fault ct_law_read_fault oc_law kV_law dc_law pm_law ct_law : Value} {t_SMALL t_MOST_LETTERS t_MOST_SIGNS : Tok}
    (a_is_sign : PySem.W.nsIn K mainGlobals "is_sign" = some (some (.ref f_is_sign))) (l_is_sign : K.lookup f_is_sign = some ⟨oc_is_sign, od_is_sign, .func (PySem.W.fnOf "is_sign" "is_sign" (defArgs s_is_sign) (defBody s_is_sign) (defScope s_is_sign) .none kV_is_sign dc_is_sign pm_is_sign an_is_sign cd_is_sign ct_is_sign), sl_is_sign⟩) (c_is_sign : PySem.W.codeIn K cd_is_sign "is_sign" = true) (k_is_sign : PySem.W.keepIn K (.ref f_is_sign) = true)
    (a_spaced : PySem.W.nsIn K mainGlobals "spaced" = some (some (.ref f_spaced))) (l_spaced : K.lookup f_spaced = some ⟨oc_spaced, od_spaced, .func (PySem.W.fnOf "spaced" "spaced" (defArgs s_spaced) (defBody s_spaced) (defScope s_spaced) .none kV_spaced dc_spaced pm_spaced an_spaced cd_spaced ct_spaced), sl_spaced⟩) (c_spaced : PySem.W.codeIn K cd_spaced "spaced" = true) (k_spaced : PySem.W.keepIn K (.ref f_spaced) = true)
    (a_document_text : PySem.W.nsIn K mainGlobals "document_text" = some (some (.ref f_document_text))) (l_document_text : K.lookup f_document_text = some ⟨oc_document_text, od_document_text, .func (PySem.W.fnOf "document_text" "document_text" (defArgs s_document_text) (defBody s_document_text) (defScope s_document_text) .none kV_document_text dc_document_text pm_document_text an_document_text cd_document_text ct_document_text), sl_document_text⟩) (c_document_text : PySem.W.codeIn K cd_document_text "document_text" = true) (k_document_text : PySem.W.keepIn K (.ref f_document_text) = true)
    (a_read_kind : PySem.W.nsIn K mainGlobals "read_kind" = some (some (.ref f_read_kind))) (l_read_kind : K.lookup f_read_kind = some ⟨oc_read_kind, od_read_kind, .func (PySem.W.fnOf "read_kind" "read_kind" (defArgs s_read_kind) (defBody s_read_kind) (defScope s_read_kind) .none kV_read_kind dc_read_kind pm_read_kind an_read_kind cd_read_kind ct_read_kind), sl_read_kind⟩) (c_read_kind : PySem.W.codeIn K cd_read_kind "read_kind" = true) (k_read_kind : PySem.W.keepIn K (.ref f_read_kind) = true)
    (a_read_quoted : PySem.W.nsIn K mainGlobals "read_quoted" = some (some (.ref f_read_quoted))) (l_read_quoted : K.lookup f_read_quoted = some ⟨oc_read_quoted, od_read_quoted, .func (PySem.W.fnOf "read_quoted" "read_quoted" (defArgs s_read_quoted) (defBody s_read_quoted) (defScope s_read_quoted) .none kV_read_quoted dc_read_quoted pm_read_quoted an_read_quoted cd_read_quoted ct_read_quoted), sl_read_quoted⟩) (c_read_quoted : PySem.W.codeIn K cd_read_quoted "read_quoted" = true) (k_read_quoted : PySem.W.keepIn K (.ref f_read_quoted) = true)
    (a_read_document : PySem.W.nsIn K mainGlobals "read_document" = some (some (.ref f_read_document))) (l_read_document : K.lookup f_read_document = some ⟨oc_read_document, od_read_document, .func (PySem.W.fnOf "read_document" "read_document" (defArgs s_read_document) (defBody s_read_document) (defScope s_read_document) .none kV_read_document dc_read_document pm_read_document an_read_document cd_read_document ct_read_document), sl_read_document⟩) (c_read_document : PySem.W.codeIn K cd_read_document "read_document" = true) (k_read_document : PySem.W.keepIn K (.ref f_read_document) = true)
    (a_law_bag : PySem.W.nsIn K mainGlobals "_law_bag" = some (some (.ref f_law_bag))) (l_law_bag : K.lookup f_law_bag = some ⟨oc_law_bag, od_law_bag, .func (PySem.W.fnOf "_law_bag" "_law_bag" (defArgs s_law_bag) (defBody s_law_bag) (defScope s_law_bag) .none kV_law_bag dc_law_bag pm_law_bag an_law_bag cd_law_bag ct_law_bag), sl_law_bag⟩) (c_law_bag : PySem.W.codeIn K cd_law_bag "_law_bag" = true) (k_law_bag : PySem.W.keepIn K (.ref f_law_bag) = true)
    (a_law_take : PySem.W.nsIn K mainGlobals "_law_take" = some (some (.ref f_law_take))) (l_law_take : K.lookup f_law_take = some ⟨oc_law_take, od_law_take, .func (PySem.W.fnOf "_law_take" "_law_take" (defArgs s_law_take) (defBody s_law_take) (defScope s_law_take) .none kV_law_take dc_law_take pm_law_take an_law_take cd_law_take ct_law_take), sl_law_take⟩) (c_law_take : PySem.W.codeIn K cd_law_take "_law_take" = true) (k_law_take : PySem.W.keepIn K (.ref f_law_take) = true)
    (a_law_of : PySem.W.nsIn K mainGlobals "_law_of" = some (some (.ref f_law_of))) (l_law_of : K.lookup f_law_of = some ⟨oc_law_of, od_law_of, .func (PySem.W.fnOf "_law_of" "_law_of" (defArgs s_law_of) (defBody s_law_of) (defScope s_law_of) .none kV_law_of dc_law_of pm_law_of an_law_of cd_law_of ct_law_of), sl_law_of⟩) (c_law_of : PySem.W.codeIn K cd_law_of "_law_of" = true) (k_law_of : PySem.W.keepIn K (.ref f_law_of) = true)
    (a_law_words : PySem.W.nsIn K mainGlobals "_law_words" = some (some (.ref f_law_words))) (l_law_words : K.lookup f_law_words = some ⟨oc_law_words, od_law_words, .func (PySem.W.fnOf "_law_words" "_law_words" (defArgs s_law_words) (defBody s_law_words) (defScope s_law_words) .none kV_law_words dc_law_words pm_law_words an_law_words cd_law_words ct_law_words), sl_law_words⟩) (c_law_words : PySem.W.codeIn K cd_law_words "_law_words" = true) (k_law_words : PySem.W.keepIn K (.ref f_law_words) = true)
    (a_law_names : PySem.W.nsIn K mainGlobals "_law_names" = some (some (.ref f_law_names))) (l_law_names : K.lookup f_law_names = some ⟨oc_law_names, od_law_names, .func (PySem.W.fnOf "_law_names" "_law_names" (defArgs s_law_names) (defBody s_law_names) (defScope s_law_names) .none kV_law_names dc_law_names pm_law_names an_law_names cd_law_names ct_law_names), sl_law_names⟩) (c_law_names : PySem.W.codeIn K cd_law_names "_law_names" = true) (k_law_names : PySem.W.keepIn K (.ref f_law_names) = true)
    (a_law_sign_text : PySem.W.nsIn K mainGlobals "_law_sign_text" = some (some (.ref f_law_sign_text))) (l_law_sign_text : K.lookup f_law_sign_text = some ⟨oc_law_sign_text, od_law_sign_text, .func (PySem.W.fnOf "_law_sign_text" "_law_sign_text" (defArgs s_law_sign_text) (defBody s_law_sign_text) (defScope s_law_sign_text) .none kV_law_sign_text dc_law_sign_text pm_law_sign_text an_law_sign_text cd_law_sign_text ct_law_sign_text), sl_law_sign_text⟩) (c_law_sign_text : PySem.W.codeIn K cd_law_sign_text "_law_sign_text" = true) (k_law_sign_text : PySem.W.keepIn K (.ref f_law_sign_text) = true)
    (a_law_nested : PySem.W.nsIn K mainGlobals "_law_nested" = some (some (.ref f_law_nested))) (l_law_nested : K.lookup f_law_nested = some ⟨oc_law_nested, od_law_nested, .func (PySem.W.fnOf "_law_nested" "_law_nested" (defArgs s_law_nested) (defBody s_law_nested) (defScope s_law_nested) .none kV_law_nested dc_law_nested pm_law_nested an_law_nested cd_law_nested ct_law_nested), sl_law_nested⟩) (c_law_nested : PySem.W.codeIn K cd_law_nested "_law_nested" = true) (k_law_nested : PySem.W.keepIn K (.ref f_law_nested) = true)
    (a_law_document : PySem.W.nsIn K mainGlobals "_law_document" = some (some (.ref f_law_document))) (l_law_document : K.lookup f_law_document = some ⟨oc_law_document, od_law_document, .func (PySem.W.fnOf "_law_document" "_law_document" (defArgs s_law_document) (defBody s_law_document) (defScope s_law_document) .none kV_law_document dc_law_document pm_law_document an_law_document cd_law_document ct_law_document), sl_law_document⟩) (c_law_document : PySem.W.codeIn K cd_law_document "_law_document" = true) (k_law_document : PySem.W.keepIn K (.ref f_law_document) = true)
    (a_law_field : PySem.W.nsIn K mainGlobals "_law_field" = some (some (.ref f_law_field))) (l_law_field : K.lookup f_law_field = some ⟨oc_law_field, od_law_field, .func (PySem.W.fnOf "_law_field" "_law_field" (defArgs s_law_field) (defBody s_law_field) (defScope s_law_field) .none kV_law_field dc_law_field pm_law_field an_law_field cd_law_field ct_law_field), sl_law_field⟩) (c_law_field : PySem.W.codeIn K cd_law_field "_law_field" = true) (k_law_field : PySem.W.keepIn K (.ref f_law_field) = true)
    (a_law_why : PySem.W.nsIn K mainGlobals "_law_why" = some (some (.ref f_law_why))) (l_law_why : K.lookup f_law_why = some ⟨oc_law_why, od_law_why, .func (PySem.W.fnOf "_law_why" "_law_why" (defArgs s_law_why) (defBody s_law_why) (defScope s_law_why) .none kV_law_why dc_law_why pm_law_why an_law_why cd_law_why ct_law_why), sl_law_why⟩) (c_law_why : PySem.W.codeIn K cd_law_why "_law_why" = true) (k_law_why : PySem.W.keepIn K (.ref f_law_why) = true)
    (a_law_alike : PySem.W.nsIn K mainGlobals "_law_alike" = some (some (.ref f_law_alike))) (l_law_alike : K.lookup f_law_alike = some ⟨oc_law_alike, od_law_alike, .func (PySem.W.fnOf "_law_alike" "_law_alike" (defArgs s_law_alike) (defBody s_law_alike) (defScope s_law_alike) .none kV_law_alike dc_law_alike pm_law_alike an_law_alike cd_law_alike ct_law_alike), sl_law_alike⟩) (c_law_alike : PySem.W.codeIn K cd_law_alike "_law_alike" = true) (k_law_alike : PySem.W.keepIn K (.ref f_law_alike) = true)
    (a_law_read_fault : PySem.W.nsIn K mainGlobals "_law_read_fault" = some (some (.ref f_law_read_fault))) (l_law_read_fault : K.lookup f_law_read_fault = some ⟨oc_law_read_fault, od_law_read_fault, .func (PySem.W.fnOf "_law_read_fault" "_law_read_fault" (defArgs s_law_read_fault) (defBody s_law_read_fault) (defScope s_law_read_fault) .none kV_law_read_fault dc_law_read_fault pm_law_read_fault an_law_read_fault cd_law_read_fault ct_law_read_fault), sl_law_read_fault⟩) (c_law_read_fault : PySem.W.codeIn K cd_law_read_fault "_law_read_fault" = true) (k_law_read_fault : PySem.W.keepIn K (.ref f_law_read_fault) = true)
    (a_law : PySem.W.nsIn K mainGlobals "law" = some (some (.ref f_law))) (l_law : K.lookup f_law = some ⟨oc_law, od_law, .func (PySem.W.fnOf "law" "law" (defArgs s_law) (defBody s_law) (defScope s_law) .none kV_law dc_law pm_law an_law (.ref cA) ct_law), sl_law⟩) (c_law : PySem.W.codeIn K (.ref cA) "law" = true) (k_law : PySem.W.keepIn K (.ref f_law) = true)
    {occ : Value} {odc : Option Addr} {vsc : Array Value} {slc : Array (Option Value)} (lc_law : K.lookup cA = some ⟨occ, odc, .fields vsc, slc⟩) (eP_law : vsc[11]? = some (.ref PA)) (nt_law : PySem.W.noTabs K = true)
    {w_GroveError : Addr} (aw_GroveError : PySem.W.nsIn K mainGlobals "GroveError" = some (some (.ref w_GroveError))) (ew_GroveError : PySem.W.subIn K (.ref w_GroveError) (.type "BaseException") = some true) (iw_GroveError : PySem.W.isClsIn K w_GroveError = true) (tw_GroveError : PySem.W.typeIn K (.ref w_GroveError) = some (.type "type"))
    {w_Missing : Addr} (aw_Missing : PySem.W.nsIn K mainGlobals "Missing" = some (some (.ref w_Missing))) (ew_Missing : PySem.W.subIn K (.ref w_Missing) (.type "BaseException") = some true) (iw_Missing : PySem.W.isClsIn K w_Missing = true) (tw_Missing : PySem.W.typeIn K (.ref w_Missing) = some (.type "type"))
    {w_NothingLeft : Addr} (aw_NothingLeft : PySem.W.nsIn K mainGlobals "NothingLeft" = some (some (.ref w_NothingLeft))) (ew_NothingLeft : PySem.W.subIn K (.ref w_NothingLeft) (.type "BaseException") = some true) (iw_NothingLeft : PySem.W.isClsIn K w_NothingLeft = true) (tw_NothingLeft : PySem.W.typeIn K (.ref w_NothingLeft) = some (.type "type"))
    {C_ParseError fi_ParseError N_ParseError : Addr} {nm_ParseError q_ParseError : Str} {bs_ParseError bm_ParseError : List Value} {sn_ParseError : List Str} {sub_ParseError : List Value} {ab_ParseError : Bool} {col_ParseError : Option Bool} {dd_ParseError : Option Addr} {k0_ParseError k1_ParseError k2_ParseError k3_ParseError k5_ParseError : Option Value} {oci_ParseError kVi_ParseError dci_ParseError pmi_ParseError cdi_ParseError cti_ParseError : Value} {odi_ParseError ani_ParseError : Option Addr} {sli_ParseError : Array (Option Value)}
    (aC_ParseError : PySem.W.nsIn K mainGlobals "ParseError" = some (some (.ref C_ParseError))) (xL_ParseError : K.lookup C_ParseError = some (excClassObj nm_ParseError q_ParseError C_ParseError N_ParseError bs_ParseError bm_ParseError true sn_ParseError sub_ParseError ab_ParseError col_ParseError dd_ParseError k0_ParseError k1_ParseError k2_ParseError k3_ParseError k5_ParseError "ValueError.__new__")) (hb_ParseError : PySem.HandSPX.refsVE bm_ParseError = true) (sa_ParseError : PySem.W.findIn K (.ref C_ParseError) "__setattr__" = some (some (.builtin "object.__setattr__"))) (ga_ParseError : PySem.W.findIn K (.ref C_ParseError) "__getattribute__" = some (some (.builtin "BaseException.__getattribute__"))) (gg_ParseError : PySem.W.findIn K (.ref C_ParseError) "__getattr__" = some none) (hd_ParseError : PySem.W.hasDictIn K C_ParseError = true) (kC_ParseError : PySem.W.keepIn K (.ref C_ParseError) = true) (eC_ParseError : PySem.W.subIn K (.ref C_ParseError) (.type "BaseException") = some true) (tC_ParseError : PySem.W.typeIn K (.ref C_ParseError) = some (.type "type")) (nc_ParseError : PySem.W.findIn K (.ref C_ParseError) "code" = some none) (nf_ParseError : PySem.W.findIn K (.ref C_ParseError) "at" = some none) (ai_ParseError : PySem.W.findIn K (.ref C_ParseError) "__init__" = some (some (.ref fi_ParseError))) (ti_ParseError : PySem.W.typeIn K (.ref fi_ParseError) = some (.type "function")) (li_ParseError : K.lookup fi_ParseError = some ⟨oci_ParseError, odi_ParseError, .func (PySem.W.fnOf "__init__" "ParseError.__init__" (defArgs s_ParseError_init) (defBody s_ParseError_init) (defScope s_ParseError_init) .none kVi_ParseError dci_ParseError pmi_ParseError ani_ParseError cdi_ParseError cti_ParseError), sli_ParseError⟩) (ci_ParseError : PySem.W.codeIn K cdi_ParseError "ParseError.__init__" = true) (ki_ParseError : PySem.W.keepIn K (.ref fi_ParseError) = true)
    (sw_ParseError_GroveError : PySem.W.subIn K (.ref C_ParseError) (.ref w_GroveError) = some true)
    (sw_ParseError_Missing : PySem.W.subIn K (.ref C_ParseError) (.ref w_Missing) = some false)
    (sw_ParseError_NothingLeft : PySem.W.subIn K (.ref C_ParseError) (.ref w_NothingLeft) = some false)
    (z_len : PySem.W.nsIn K mainGlobals "len" = some none) (z_int : PySem.W.nsIn K mainGlobals "int" = some none) (z_range : PySem.W.nsIn K mainGlobals "range" = some none) (z_isinstance : PySem.W.nsIn K mainGlobals "isinstance" = some none) (z_all : PySem.W.nsIn K mainGlobals "all" = some none) (z_list : PySem.W.nsIn K mainGlobals "list" = some none) (z_tuple : PySem.W.nsIn K mainGlobals "tuple" = some none) (z_str : PySem.W.nsIn K mainGlobals "str" = some none) (z_sorted : PySem.W.nsIn K mainGlobals "sorted" = some none) (z_zip : PySem.W.nsIn K mainGlobals "zip" = some none) (z_min : PySem.W.nsIn K mainGlobals "min" = some none) (z_bool : PySem.W.nsIn K mainGlobals "bool" = some none) (z_dict : PySem.W.nsIn K mainGlobals "dict" = some none) (v_SMALL : PySem.W.nsIn K mainGlobals "SMALL" = some (some (.str "abcdefghijklmnopqrstuvwxyz" t_SMALL))) (v_MOST_LETTERS : PySem.W.nsIn K mainGlobals "MOST_LETTERS" = some (some (.int 6 t_MOST_LETTERS))) (v_MOST_SIGNS : PySem.W.nsIn K mainGlobals "MOST_SIGNS" = some (some (.int 20 t_MOST_SIGNS))) :
    ∃ (fd : FuncData) (c P : Addr), PySem.W.tabIn K "law" = some (c, P) ∧ PySem.W.noTabs K = true ∧ (∀ (s : Shared) (v : Value), BindsTo s fd ⟨[v], []⟩ [("_law_script", v)]) ∧ ∀ base : Heap, K.In base → base.Ns mainGlobals mg → LamX.TabB base mg c P → FnOk l.prog w K mg base CX0 61 fa fd ["_law_script"] (spLaw K P) := by
  have e := hfa.symm.trans (PySem.W.mg_of X G a_law)
  cases e
  have T : Txt mg := ⟨PySem.W.mg_none_of X G z_len, PySem.W.mg_none_of X G z_int, PySem.W.mg_none_of X G z_range, PySem.W.mg_none_of X G z_isinstance, PySem.W.mg_none_of X G z_all, PySem.W.mg_none_of X G z_list, PySem.W.mg_none_of X G z_tuple, PySem.W.mg_none_of X G z_str, PySem.W.mg_none_of X G z_sorted, PySem.W.mg_none_of X G z_zip, PySem.W.mg_none_of X G z_min, PySem.W.mg_none_of X G z_bool, PySem.W.mg_none_of X G z_dict, ⟨_, PySem.W.mg_of X G v_SMALL, _, rfl⟩, ⟨_, PySem.W.mg_of X G v_MOST_LETTERS, _, rfl⟩, ⟨_, PySem.W.mg_of X G v_MOST_SIGNS, _, rfl⟩⟩
  have F_is_sign := fun_mk (st := s_is_sign) l_is_sign c_is_sign k_is_sign
  have m_is_sign := PySem.W.mg_of X G a_is_sign
  have b_is_sign := F_is_sign.binds (ps := ["sign"]) fun _ _ _ _ _ _ us hl => match us, hl with | [_], _ => rfl
  have F_spaced := fun_mk (st := s_spaced) l_spaced c_spaced k_spaced
  have m_spaced := PySem.W.mg_of X G a_spaced
  have b_spaced := F_spaced.binds (ps := ["row"]) fun _ _ _ _ _ _ us hl => match us, hl with | [_], _ => rfl
  have F_document_text := fun_mk (st := s_document_text) l_document_text c_document_text k_document_text
  have m_document_text := PySem.W.mg_of X G a_document_text
  have b_document_text := F_document_text.binds (ps := ["document"]) fun _ _ _ _ _ _ us hl => match us, hl with | [_], _ => rfl
  have F_read_kind := fun_mk (st := s_read_kind) l_read_kind c_read_kind k_read_kind
  have m_read_kind := PySem.W.mg_of X G a_read_kind
  have b_read_kind := F_read_kind.binds (ps := ["text", "at"]) fun _ _ _ _ _ _ us hl => match us, hl with | [_, _], _ => rfl
  have F_read_quoted := fun_mk (st := s_read_quoted) l_read_quoted c_read_quoted k_read_quoted
  have m_read_quoted := PySem.W.mg_of X G a_read_quoted
  have b_read_quoted := F_read_quoted.binds (ps := ["text", "at"]) fun _ _ _ _ _ _ us hl => match us, hl with | [_, _], _ => rfl
  have F_read_document := fun_mk (st := s_read_document) l_read_document c_read_document k_read_document
  have m_read_document := PySem.W.mg_of X G a_read_document
  have b_read_document := F_read_document.binds (ps := ["text"]) fun _ _ _ _ _ _ us hl => match us, hl with | [_], _ => rfl
  have F_law_bag := fun_mk (st := s_law_bag) l_law_bag c_law_bag k_law_bag
  have m_law_bag := PySem.W.mg_of X G a_law_bag
  have b_law_bag := F_law_bag.binds (ps := ["_law_script"]) fun _ _ _ _ _ _ us hl => match us, hl with | [_], _ => rfl
  have F_law_take := fun_mk (st := s_law_take) l_law_take c_law_take k_law_take
  have m_law_take := PySem.W.mg_of X G a_law_take
  have b_law_take := F_law_take.binds (ps := ["_law_bag_z", "_law_many"]) fun _ _ _ _ _ _ us hl => match us, hl with | [_, _], _ => rfl
  have F_law_of := fun_mk (st := s_law_of) l_law_of c_law_of k_law_of
  have m_law_of := PySem.W.mg_of X G a_law_of
  have b_law_of := F_law_of.binds (ps := ["_law_bag_z", "_law_things"]) fun _ _ _ _ _ _ us hl => match us, hl with | [_, _], _ => rfl
  have F_law_words := fun_mk (st := s_law_words) l_law_words c_law_words k_law_words
  have m_law_words := PySem.W.mg_of X G a_law_words
  have b_law_words := F_law_words.binds (ps := ["_law_bag_z", "_law_many", "_law_most"]) fun _ _ _ _ _ _ us hl => match us, hl with | [_, _, _], _ => rfl
  have F_law_names := fun_mk (st := s_law_names) l_law_names c_law_names k_law_names
  have m_law_names := PySem.W.mg_of X G a_law_names
  have b_law_names := F_law_names.binds (ps := ["_law_bag_z"]) fun _ _ _ _ _ _ us hl => match us, hl with | [_], _ => rfl
  have F_law_sign_text := fun_mk (st := s_law_sign_text) l_law_sign_text c_law_sign_text k_law_sign_text
  have m_law_sign_text := PySem.W.mg_of X G a_law_sign_text
  have b_law_sign_text := F_law_sign_text.binds (ps := ["_law_bag_z", "_law_most"]) fun _ _ _ _ _ _ us hl => match us, hl with | [_, _], _ => rfl
  have F_law_nested := fun_mk (st := s_law_nested) l_law_nested c_law_nested k_law_nested
  have m_law_nested := PySem.W.mg_of X G a_law_nested
  have b_law_nested := F_law_nested.binds (ps := ["_law_state"]) fun _ _ _ _ _ _ us hl => match us, hl with | [_], _ => rfl
  have F_law_document := fun_mk (st := s_law_document) l_law_document c_law_document k_law_document
  have m_law_document := PySem.W.mg_of X G a_law_document
  have b_law_document := F_law_document.binds (ps := ["_law_bag_z", "_law_kinds", "_law_many"]) fun _ _ _ _ _ _ us hl => match us, hl with | [_, _, _], _ => rfl
  have F_law_field := fun_mk (st := s_law_field) l_law_field c_law_field k_law_field
  have m_law_field := PySem.W.mg_of X G a_law_field
  have b_law_field := F_law_field.binds (ps := ["_law_e"]) fun _ _ _ _ _ _ us hl => match us, hl with | [_], _ => rfl
  have F_law_why := fun_mk (st := s_law_why) l_law_why c_law_why k_law_why
  have m_law_why := PySem.W.mg_of X G a_law_why
  have b_law_why := F_law_why.binds (ps := ["_law_ask"]) fun _ _ _ _ _ _ us hl => match us, hl with | [_], _ => rfl
  have F_law_alike := fun_mk (st := s_law_alike) l_law_alike c_law_alike k_law_alike
  have m_law_alike := PySem.W.mg_of X G a_law_alike
  have b_law_alike := F_law_alike.binds (ps := ["_law_found", "_law_due"]) fun _ _ _ _ _ _ us hl => match us, hl with | [_, _], _ => rfl
  have F_law_read_fault := fun_mk (st := s_law_read_fault) l_law_read_fault c_law_read_fault k_law_read_fault
  have m_law_read_fault := PySem.W.mg_of X G a_law_read_fault
  have b_law_read_fault := F_law_read_fault.binds (ps := ["_law_text"]) fun _ _ _ _ _ _ us hl => match us, hl with | [_], _ => rfl
  have F_law := fun_mk (st := s_law) l_law c_law k_law
  have m_law := PySem.W.mg_of X G a_law
  have b_law := F_law.binds (ps := ["_law_script"]) fun _ _ _ _ _ _ us hl => match us, hl with | [_], _ => rfl
  have oex_ParseError : OexC K C_ParseError := ⟨⟨nm_ParseError, q_ParseError, N_ParseError, bs_ParseError, bm_ParseError, sn_ParseError, sub_ParseError, ab_ParseError, col_ParseError, dd_ParseError, k0_ParseError, k1_ParseError, k2_ParseError, k3_ParseError, k5_ParseError, xL_ParseError, hb_ParseError⟩, sa_ParseError, eC_ParseError, tC_ParseError, kC_ParseError⟩
  have xfc_ParseError : XfC K C_ParseError := ⟨ga_ParseError, gg_ParseError, eC_ParseError, hd_ParseError⟩
  have FI_ParseError := fun_mk (st := s_ParseError_init) li_ParseError ci_ParseError ki_ParseError
  have bi_ParseError := FI_ParseError.binds (ps := ["self", "at"]) fun _ _ _ _ _ _ us hl => match us, hl with | [_, _], _ => rfl
  have err_ParseError : ∀ base, ErrC l.prog w K mg base "ParseError" C_ParseError 2 (spIni K "ParseError" "at") := fun base => ⟨oex_ParseError, PySem.W.mg_of X G aC_ParseError, _, _, _, ai_ParseError, ti_ParseError, ok_ini FI_ParseError sc_ParseError_init (fun cdv A outer s H E => pss_cons (ps_ost (pv 0) pe_str) (pss_one (ps_ost (pv 0) (pv 1)))), bi_ParseError⟩
  have exm_ParseError : PySem.W.exmAny K (.ref C_ParseError) [.ref w_GroveError, .ref w_Missing, .ref w_NothingLeft] = some true := exm3 (exm1 ew_GroveError iw_GroveError tw_GroveError sw_ParseError_GroveError) (exm1 ew_Missing iw_Missing tw_Missing sw_ParseError_Missing) (exm1 ew_NothingLeft iw_NothingLeft tw_NothingLeft sw_ParseError_NothingLeft)
  have gw_GroveError := PySem.W.mg_of X G aw_GroveError
  have gw_Missing := PySem.W.mg_of X G aw_Missing
  have gw_NothingLeft := PySem.W.mg_of X G aw_NothingLeft
  refine ⟨PySem.W.fnOf "law" "law" (defArgs s_law) (defBody s_law) (defScope s_law) .none kV_law dc_law pm_law an_law (.ref cA) ct_law, cA, PA, tabIn_mk (o3 := none) a_law l_law rfl lc_law eP_law, nt_law, fun s v => .of_eq rfl, fun base _ _ TB => ?_⟩
  have c_bag : Cal l.prog w K mg base 1 "_law_bag" (spBag K) := ⟨_, _, _, ok_law_bag F_law_bag T, m_law_bag, k_law_bag, b_law_bag⟩
  have c_take : Cal l.prog w K mg base 1 "_law_take" spTake := ⟨_, _, _, ok_law_take F_law_take T, m_law_take, k_law_take, b_law_take⟩
  have c_of : Cal l.prog w K mg base 2 "_law_of" (spOf K) := ⟨_, _, _, ok_law_of F_law_of T c_take, m_law_of, k_law_of, b_law_of⟩
  have c_words : Cal l.prog w K mg base 3 "_law_words" spWords := ⟨_, _, _, ok_law_words F_law_words T c_take c_of, m_law_words, k_law_words, b_law_words⟩
  have c_names : Cal l.prog w K mg base 4 "_law_names" spNames := ⟨_, _, _, ok_law_names F_law_names T c_take c_words, m_law_names, k_law_names, b_law_names⟩
  have c_sgt : Cal l.prog w K mg base 2 "_law_sign_text" spSign := ⟨_, _, _, ok_law_sign_text F_law_sign_text T c_take, m_law_sign_text, k_law_sign_text, b_law_sign_text⟩
  have c_nst : Cal l.prog w K mg base 1 "_law_nested" spNested := ⟨_, _, _, ok_law_nested F_law_nested T, m_law_nested, k_law_nested, b_law_nested⟩
  have c_doc : Cal l.prog w K mg base 3 "_law_document" spDocument := ⟨_, _, _, ok_law_document F_law_document T c_take c_of c_sgt c_nst, m_law_document, k_law_document, b_law_document⟩
  have c_sgn : Cal l.prog w K mg base 1 "is_sign" spIsSign := ⟨_, _, _, ok_is_sign F_is_sign T, m_is_sign, k_is_sign, b_is_sign⟩
  have c_spc : Cal l.prog w K mg base 1 "spaced" spSpaced := ⟨_, _, _, ok_spaced F_spaced T, m_spaced, k_spaced, b_spaced⟩
  have c_dt : Cal l.prog w K mg base 2 "document_text" spDText := ⟨_, _, _, ok_document_text F_document_text T c_spc, m_document_text, k_document_text, b_document_text⟩
  have c_rf : Cal l.prog w K mg base 1 "_law_read_fault" spRF := ⟨_, _, _, ok_law_read_fault F_law_read_fault T, m_law_read_fault, k_law_read_fault, b_law_read_fault⟩
  have c_rk : CalR l.prog w K mg base 3 "read_kind" (spRKx C_ParseError) := ⟨_, _, _, ok_read_kindX F_read_kind T (err_ParseError base) nc_ParseError nf_ParseError, m_read_kind, k_read_kind, b_read_kind⟩
  have c_rq : CalR l.prog w K mg base 3 "read_quoted" (spRQx C_ParseError) := ⟨_, _, _, ok_read_quotedX F_read_quoted T c_sgn (err_ParseError base) nc_ParseError nf_ParseError, m_read_quoted, k_read_quoted, b_read_quoted⟩
  have c_rd : CalR l.prog w K mg base 4 "read_document" (spRDx C_ParseError) := ⟨_, _, _, ok_read_documentX F_read_document T c_rk c_rq (err_ParseError base) nc_ParseError nf_ParseError, m_read_document, k_read_document, b_read_document⟩
  have hW : WhyC l.prog w K mg base (.ref w_GroveError) (.ref w_Missing) (.ref w_NothingLeft) := ⟨⟨_, _, F_law_why, m_law_why, k_law_why, b_law_why⟩, gw_GroveError, gw_Missing, gw_NothingLeft, ⟨_, _, ok_law_field F_law_field, m_law_field, k_law_field, b_law_field⟩⟩
  exact ok_law l_law c_law T TB hW exm_ParseError xfc_ParseError nc_ParseError nf_ParseError c_bag c_names c_take c_of c_doc (cal_alike F_law_alike T m_law_alike k_law_alike b_law_alike 10) c_dt c_rf c_rd
theorem walkT {l : PySem.W.OpenLaw} {q : Program} {loose : List Str} {XP : (Str → Option Value) → Heap → Prop} {YP : World → Heap → Prop} {d : DefRec} {K : Params → PySem.W.Frag} (hn : l.most = some 63) (hdf : d.params.defaults = [])
    (hY : ∀ (w : World) (h : Heap), YP w h → (K w.params).In h) (law : d.name = "law") (found : (PyProof.Rows.recsOf q).find? (fun e => e.name == ("law" : Str)) = some d)
    (F : ∀ (w : World) (mg : Str → Option Value) (fa : Addr) (h : Heap), (K w.params).In h → h.Ns mainGlobals mg → mg "law" = some (.ref fa) →
      ∃ (fd : FuncData) (c P : Addr), PySem.W.tabIn (K w.params) "law" = some (c, P) ∧ PySem.W.noTabs (K w.params) = true ∧ (∀ (s : Shared) (u : Value), BindsTo s fd ⟨[u], []⟩ [("_law_script", u)]) ∧
        ∀ base : Heap, (K w.params).In base → base.Ns mainGlobals mg → LamX.TabB base mg c P → FnOk l.prog w (K w.params) mg base CX0 61 fa fd ["_law_script"] (spLaw (K w.params) P)) :
    PySem.W.WalkO q loose XP YP l.row.toRowW d [] (fun f vs => PySem.call f vs) :=
  Rg.walk_tab (n := 63) (k := 61) (x := "_law_script") (sp := fun w => spLaw (K w.params)) hn (by decide) hdf ⟨rfl, by decide, by decide⟩ hY law found F fun w H P a ns hl hP hS => ⟨a, ns, rfl, hS, hl, hP, fun _ => rfl⟩
end Pf
open PySem PySem.W PyProof.Rows
set_option maxRecDepth 100000 in
set_option maxHeartbeats 0 in
theorem PySem.Challenge.cw_rubgrove_k08_texts_that_are_no_documents_holds : PySem.Challenge.rw_rubgrove_k08_texts_that_are_no_documents.Holds := by
  w_on; o_law; k_head; (case hw => w_witness2)
  k_fill
  refine Pf.walkT (l := PySem.Challenge.rw_rubgrove_k08_texts_that_are_no_documents) rfl rfl (fun w h Y => PySem.W.km_in_of Y) rfl rfl ?F
  case F =>
    intro w mg fa h KX G hmg
    refine' Pf.all_mk KX G hmg ?a_is_sign ?l_is_sign ?c_is_sign ?k_is_sign ?a_spaced ?l_spaced ?c_spaced ?k_spaced ?a_document_text ?l_document_text ?c_document_text ?k_document_text ?a_read_kind ?l_read_kind ?c_read_kind ?k_read_kind ?a_read_quoted ?l_read_quoted ?c_read_quoted ?k_read_quoted ?a_read_document ?l_read_document ?c_read_document ?k_read_document ?a_law_bag ?l_law_bag ?c_law_bag ?k_law_bag ?a_law_take ?l_law_take ?c_law_take ?k_law_take ?a_law_of ?l_law_of ?c_law_of ?k_law_of ?a_law_words ?l_law_words ?c_law_words ?k_law_words ?a_law_names ?l_law_names ?c_law_names ?k_law_names ?a_law_sign_text ?l_law_sign_text ?c_law_sign_text ?k_law_sign_text ?a_law_nested ?l_law_nested ?c_law_nested ?k_law_nested ?a_law_document ?l_law_document ?c_law_document ?k_law_document ?a_law_field ?l_law_field ?c_law_field ?k_law_field ?a_law_why ?l_law_why ?c_law_why ?k_law_why ?a_law_alike ?l_law_alike ?c_law_alike ?k_law_alike ?a_law_read_fault ?l_law_read_fault ?c_law_read_fault ?k_law_read_fault ?a_law ?l_law ?c_law ?k_law ?lc_law ?eP_law ?nt_law ?aw_GroveError ?ew_GroveError ?iw_GroveError ?tw_GroveError ?aw_Missing ?ew_Missing ?iw_Missing ?tw_Missing ?aw_NothingLeft ?ew_NothingLeft ?iw_NothingLeft ?tw_NothingLeft ?aC_ParseError ?xL_ParseError ?hb_ParseError ?sa_ParseError ?ga_ParseError ?gg_ParseError ?hd_ParseError ?kC_ParseError ?eC_ParseError ?tC_ParseError ?nc_ParseError ?nf_ParseError ?ai_ParseError ?ti_ParseError ?li_ParseError ?ci_ParseError ?ki_ParseError ?sw_ParseError_GroveError ?sw_ParseError_Missing ?sw_ParseError_NothingLeft ?z_len ?z_int ?z_range ?z_isinstance ?z_all ?z_list ?z_tuple ?z_str ?z_sorted ?z_zip ?z_min ?z_bool ?z_dict ?v_SMALL ?v_MOST_LETTERS ?v_MOST_SIGNS
    (case a_is_sign => k_is)
    (case l_is_sign => k_is)
    (case c_is_sign => k_is)
    (case k_is_sign => k_is)
    (case a_spaced => k_is)
    (case l_spaced => k_is)
    (case c_spaced => k_is)
    (case k_spaced => k_is)
    (case a_document_text => k_is)
    (case l_document_text => k_is)
    (case c_document_text => k_is)
    (case k_document_text => k_is)
    (case a_read_kind => k_is)
    (case l_read_kind => k_is)
    (case c_read_kind => k_is)
    (case k_read_kind => k_is)
    (case a_read_quoted => k_is)
    (case l_read_quoted => k_is)
    (case c_read_quoted => k_is)
    (case k_read_quoted => k_is)
    (case a_read_document => k_is)
    (case l_read_document => k_is)
    (case c_read_document => k_is)
    (case k_read_document => k_is)
    (case a_law_bag => k_is)
    (case l_law_bag => k_is)
    (case c_law_bag => k_is)
    (case k_law_bag => k_is)
    (case a_law_take => k_is)
    (case l_law_take => k_is)
    (case c_law_take => k_is)
    (case k_law_take => k_is)
    (case a_law_of => k_is)
    (case l_law_of => k_is)
    (case c_law_of => k_is)
    (case k_law_of => k_is)
    (case a_law_words => k_is)
    (case l_law_words => k_is)
    (case c_law_words => k_is)
    (case k_law_words => k_is)
    (case a_law_names => k_is)
    (case l_law_names => k_is)
    (case c_law_names => k_is)
    (case k_law_names => k_is)
    (case a_law_sign_text => k_is)
    (case l_law_sign_text => k_is)
    (case c_law_sign_text => k_is)
    (case k_law_sign_text => k_is)
    (case a_law_nested => k_is)
    (case l_law_nested => k_is)
    (case c_law_nested => k_is)
    (case k_law_nested => k_is)
    (case a_law_document => k_is)
    (case l_law_document => k_is)
    (case c_law_document => k_is)
    (case k_law_document => k_is)
    (case a_law_field => k_is)
    (case l_law_field => k_is)
    (case c_law_field => k_is)
    (case k_law_field => k_is)
    (case a_law_why => k_is)
    (case l_law_why => k_is)
    (case c_law_why => k_is)
    (case k_law_why => k_is)
    (case a_law_alike => k_is)
    (case l_law_alike => k_is)
    (case c_law_alike => k_is)
    (case k_law_alike => k_is)
    (case a_law_read_fault => k_is)
    (case l_law_read_fault => k_is)
    (case c_law_read_fault => k_is)
    (case k_law_read_fault => k_is)
    (case a_law => k_is)
    (case l_law => k_is)
    (case c_law => k_is)
    (case k_law => k_is)
    (case lc_law => k_is)
    (case eP_law => exact rfl)
    (case nt_law => exact rfl)
    (case aw_GroveError => k_is)
    (case ew_GroveError => k_is)
    (case iw_GroveError => k_is)
    (case tw_GroveError => k_is)
    (case aw_Missing => k_is)
    (case ew_Missing => k_is)
    (case iw_Missing => k_is)
    (case tw_Missing => k_is)
    (case aw_NothingLeft => k_is)
    (case ew_NothingLeft => k_is)
    (case iw_NothingLeft => k_is)
    (case tw_NothingLeft => k_is)
    (case aC_ParseError => k_is)
    (case xL_ParseError => k_is)
    (case hb_ParseError => decide +kernel)
    (case sa_ParseError => k_is)
    (case ga_ParseError => k_is)
    (case gg_ParseError => k_is)
    (case hd_ParseError => k_is)
    (case kC_ParseError => k_is)
    (case eC_ParseError => k_is)
    (case tC_ParseError => k_is)
    (case nc_ParseError => k_is)
    (case nf_ParseError => k_is)
    (case ai_ParseError => k_is)
    (case ti_ParseError => k_is)
    (case li_ParseError => k_is)
    (case ci_ParseError => k_is)
    (case ki_ParseError => k_is)
    (case sw_ParseError_GroveError => k_is)
    (case sw_ParseError_Missing => k_is)
    (case sw_ParseError_NothingLeft => k_is)
    (case z_len => k_is)
    (case z_int => k_is)
    (case z_range => k_is)
    (case z_isinstance => k_is)
    (case z_all => k_is)
    (case z_list => k_is)
    (case z_tuple => k_is)
    (case z_str => k_is)
    (case z_sorted => k_is)
    (case z_zip => k_is)
    (case z_min => k_is)
    (case z_bool => k_is)
    (case z_dict => k_is)
    (case v_SMALL => k_is)
    (case v_MOST_LETTERS => k_is)
    (case v_MOST_SIGNS => k_is)


