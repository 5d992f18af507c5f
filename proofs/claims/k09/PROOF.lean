import PyProof.Rows.All
import Wide.All
import OpenK.AllK
import Wide.FinOn
import HandS.ForMost
import HandS.IsInst
import HandS.Zip
import HandS.TupAny
import HandS.Flow
import HandS.Style
import HandS.Codes
import HandS.Steps
import HandS.Wide
import HandS.Walk
import HandS.Star
import HandS.FStr
import HandS.ExcCtx
import HandS.ExcField
import HandS.HotCalls
import HandS.ExcInit
import HandS.Lambda
import HandS.EndTab
import HandS.WordsExc
import KE.GoesMore
import KE.KDflt
import KE.KUnpackStar
import HandS.ClsMeth
import PySem.Challenge.RW_rubgrove_k09_shapes_held
set_option Elab.async false
set_option linter.all false
set_option maxRecDepth 100000
set_option maxHeartbeats 4000000
namespace Rg
open PySem L2

/-! ### calls of own defs -/
structure Cal (P : Program) (w : World) (K : PySem.W.Frag) (mg : Str → Option Value) (base : Heap) (k : Nat) (x : Str) (sp : Sp) : Prop where
  ex : ∃ (f : Addr) (fd : FuncData) (ps : List Str), FnOk P w K mg base CX0 k f fd ps sp ∧ mg x = some (.ref f) ∧ PySem.W.keepIn K (.ref f) = true ∧ Binds K fd ps []
structure CalK (P : Program) (w : World) (K : PySem.W.Frag) (mg : Str → Option Value) (base : Heap) (k : Nat) (x : Str) (ks : List Str) (gV : List V → List V → List V) (sp : Sp) : Prop where
  ex : ∃ (f : Addr) (fd : FuncData) (ps : List Str) (g : List Value → List Value → List Value), FnOk P w K mg base CX0 k f fd ps sp ∧ mg x = some (.ref f) ∧ PySem.W.keepIn K (.ref f) = true ∧ KBinds K fd ps ks g gV
def tCC (sp : Sp) (t : TA) : TE := fun σ H Q => t σ H fun vs H1 => sp vs H1 Q E0
def tCK (sp : Sp) (gV : List V → List V → List V) (t tk : TA) : TE := fun σ H Q => t σ H fun vs H1 => tk σ H1 fun zs H2 => sp (gV vs zs) H2 Q E0
section
variable {X : Cx} {k j : Nat} {x : Str} {sp : Sp} {p pos : Pos} {e : Expr} {es : List Expr} {t tk : TA} {ks : List Str} {gV : List V → List V → List V} {kws : List Keyword}
theorem pe_c (c : Cal X.prog X.w X.K X.mg X.base k x sp) (hr : Room j X.A) (hk : k ≤ j) (hg : Gl X x) (ha : PA X (e :: es) t) (hdb : (x == ("__debug__" : Str)) = false := by decide)
    (he : starEach (e :: es) X.env = (false, eval e X.env) :: starEach es X.env := by rfl) (hpl : (backTo pos (starEach es X.env)).any (·.1) = false := by rfl) : PE X (.Call (.Name x p) (e :: es) [] pos) (tCC sp t) := by
  obtain ⟨f, fd, ps, F, hm, hkp, hb⟩ := c.ex
  refine ⟨fun pins s σ H Q I h => ?_⟩
  refine (pe_call (dvs := []) (ds := []) F (hr.mono hk) hg hm hkp hb .nil pass0 ha hdb he hpl).run pins s σ H Q I ?_
  have e0 : (fun (vs : List V) (H1 : Hp) => sp (vs ++ []) H1 Q E0) = fun vs H1 => sp vs H1 Q E0 := by
    funext vs H1
    rw [List.append_nil]
  show t σ H (fun vs H1 => sp (vs ++ []) H1 Q E0)
  rw [e0]
  exact h
theorem pe_c0 (c : Cal X.prog X.w X.K X.mg X.base k x sp) (hr : Room j X.A) (hk : k ≤ j) (hg : Gl X x) (hdb : (x == ("__debug__" : Str)) = false := by decide) : PE X (.Call (.Name x p) [] [] pos) (tCC sp tNil) := by
  obtain ⟨f, fd, ps, F, hm, hkp, hb⟩ := c.ex
  refine ⟨fun pins s σ H Q I h => ?_⟩
  exact (pe_call0 (dvs := []) (ds := []) F (hr.mono hk) hg hm hkp hb .nil pass0 hdb).run pins s σ H Q I h
theorem pe_cK (c : CalK X.prog X.w X.K X.mg X.base k x ks gV sp) (hr : Room j X.A) (hk : k ≤ j) (hg : Gl X x) (ha : PA X (e :: es) t) (hkw : PK X kws tk) (hall : (backToKw pos (keywordEach kws X.env)).all (·.1.isSome) = true := by rfl) (hks : (backToKw pos (keywordEach kws X.env)).filterMap (·.1) = ks := by rfl)
    (hdb : (x == ("__debug__" : Str)) = false := by decide) (he : starEach (e :: es) X.env = (false, eval e X.env) :: starEach es X.env := by rfl)
    (hpl : ((backTo pos (starEach (e :: es) X.env)).any (·.1) || (backToKw pos (keywordEach kws X.env)).any (·.1.isNone)) = false := by rfl) : PE X (.Call (.Name x p) (e :: es) kws pos) (tCK sp gV t tk) := by
  obtain ⟨f, fd, ps, g, F, hm, hkp, hb⟩ := c.ex
  refine ⟨fun pins s σ H Q I h => ?_⟩
  exact (pe_callK F (hr.mono hk) hg hm hkp hb pass0 ha hkw hall hks hdb he hpl).run pins s σ H Q I h
theorem pe_cK0 (c : CalK X.prog X.w X.K X.mg X.base k x ks gV sp) (hr : Room j X.A) (hk : k ≤ j) (hg : Gl X x) (hkw : PK X kws tk) (hall : (backToKw pos (keywordEach kws X.env)).all (·.1.isSome) = true := by rfl) (hks : (backToKw pos (keywordEach kws X.env)).filterMap (·.1) = ks := by rfl)
    (hdb : (x == ("__debug__" : Str)) = false := by decide)
    (hpl : ((backTo pos (starEach [] X.env)).any (·.1) || (backToKw pos (keywordEach kws X.env)).any (·.1.isNone)) = false := by rfl) : PE X (.Call (.Name x p) [] kws pos) (tCK sp gV tNil tk) := by
  obtain ⟨f, fd, ps, g, F, hm, hkp, hb⟩ := c.ex
  refine ⟨fun pins s σ H Q I h => ?_⟩
  refine wpAny_Call_Name_kw (ld_glob I hg hm ?_ hdb)
  refine PySem.W.callWith_KW0 (h₀ := X.base) I.ok.mod.kin hkp hall ?_ hpl
  refine thn (hkw.run pos pins s σ H _ I h) fun ws s2 ⟨zs, H2, I2, rz, q2⟩ => ⟨I2.kIn, ?_⟩
  rw [hks]
  exact run_fnk (us := []) (vs := []) F (hr.mono hk) hb pass0 I2 .nil rz q2
theorem pe_gc {v : V} (hg : Gl X x) (h : ∃ u, X.mg x = some u ∧ RelV v u) (hd : (x == ("__debug__" : Str)) = false := by decide) : PE X (.Name x pos) (tC v) := by
  obtain ⟨u, hm, r⟩ := h
  exact pe_glob hg hm r hd
end

/-! ### operators for several kinds of values -/
def rMulS : R2 := fun x y H Q => ∃ (z : Str) (n : Int), x = .str z ∧ y = .int n ∧ z.length ≤ 1000 ∧ 0 ≤ n ∧ n ≤ 1000 ∧ Q (.str (Txt.mul z n)) H
theorem mulOk {z : Str} {n : Int} (h1 : z.length ≤ 1000) (h2 : 0 ≤ n) (h3 : n ≤ 1000) : MulOk z n := by
  refine ⟨?_, fun hn _ h => ?_, fun hn _ => ?_⟩
  · rw [decide_eq_false (by omega), decide_eq_false (by omega)]
    rfl
  · have h5 : (z.length : Int) * n ≤ 1000 * 1000 := by
      have a := Int.mul_le_mul (show (z.length : Int) ≤ 1000 by omega) h3 h2 (by omega)
      exact a
    have h6 : (z.length : Int) ≤ (2 ^ 63 - 1) / n := by
      rw [Int.le_ediv_iff_mul_le (by omega)]
      omega
    omega
  · have h5 : z.length * n.toNat ≤ 1000 * 1000 := Nat.mul_le_mul h1 (by omega)
    show decide (z.length * n.toNat > sizeLine) = false
    rw [decide_eq_false (by rw [sizeLine_eq]; omega)]
section
variable {X : Cx} {k : Nat}
theorem op_mulS : OpR X (binaryOp .Mult) rMulS := by
  intro pins s σ H x y v u Q I rx ry h
  obtain ⟨z, n, rfl, rfl, h1, h2, h3, q⟩ := h
  obtain ⟨t, rfl⟩ := rx
  obtain ⟨t', rfl⟩ := ry
  exact SB.mul (mulOk h1 h2 h3) fun t' k => ⟨.str _, H, I.tok _, ⟨_, rfl⟩, q⟩
def rMulX : R2 := fun x y H Q => rI CMul (fun i j => .int (i * j)) x y H Q ∨ rMulS x y H Q
theorem op_mulX : OpR X (binaryOp .Mult) rMulX := OpR.or op_mul op_mulS
def rAddS : R2 := fun x y H Q => ∃ i j, x = .str i ∧ y = .str j ∧ i.length + j.length ≤ sizeLine ∧ Q (.str (i ++ j)) H
def rAddX (K : PySem.W.Frag) : R2 := fun x y H Q => rI0 (fun i j => .int (i + j)) x y H Q ∨ rAddS x y H Q ∨ rCat x y H Q ∨ rCatA K x y H Q
theorem op_addX (K : PySem.W.Frag) (hK : X.K = K := by rfl) : OpR X (binaryOp .Add) (rAddX K) := by subst hK; exact OpR.or op_add (OpR.or op_add_str (OpR.or op_cat op_catA))
def rEqX (K : PySem.W.Frag) : R2 := fun x y H Q => rEq x y H Q ∨ rEqD K x y H Q
theorem op_eqX (K : PySem.W.Frag) (hr : Room k X.A) (hK : X.K = K := by rfl) : OpR X (compareOp .Eq) (rEqX K) := by subst hK; exact OpR.or op_eq (op_eqD hr.units)
def rNeX (K : PySem.W.Frag) : R2 := fun x y H Q => rNe x y H Q ∨ rNeD K x y H Q
theorem op_neX (K : PySem.W.Frag) (hr : Room k X.A) (hK : X.K = K := by rfl) : OpR X (compareOp .NotEq) (rNeX K) := by subst hK; exact OpR.or op_ne (op_neD hr.units)
def rInX (K : PySem.W.Frag) : R2 := fun x y H Q => rInS x y H Q ∨ rIn K false x y H Q
theorem op_inX (K : PySem.W.Frag) (hK : X.K = K := by rfl) : OpR X (compareOp .In) (rInX K) := by subst hK; exact OpR.or op_inS op_in_seq
def rNinX (K : PySem.W.Frag) : R2 := fun x y H Q => rNotInS x y H Q ∨ rIn K true x y H Q
theorem op_ninX (K : PySem.W.Frag) (hK : X.K = K := by rfl) : OpR X (compareOp .NotIn) (rNinX K) := by subst hK; exact OpR.or op_notInS op_notIn_seq
def rSlX (K : PySem.W.Frag) : V → Option Int → Option Int → Hp → VK → Prop := fun x lo hi H Q => rSlL K x lo hi H Q ∨ rSlS x lo hi H Q ∨ rSlA K x lo hi H Q
theorem sl_X (K : PySem.W.Frag) (hK : X.K = K := by rfl) : SlR X (rSlX K) := by subst hK; exact SlR.or sl_list (SlR.or sl_str sl_tupA)
theorem ix_X (K : PySem.W.Frag) (hK : X.K = K := by rfl) : IxR X (rIx K) := by subst hK; exact ix_seq
def rLenX (K : PySem.W.Frag) : List V → Hp → VK → Prop := fun xs H Q => ∃ x n, xs = [x] ∧ LenV K x H n ∧ Q (.int n) H
theorem call_lenX (K : PySem.W.Frag) (hK : X.K = K := by rfl) : CallR X (.builtin "len") (rLenX K) := by subst hK; exact call_len
def rLeStr : R2 := fun x y H Q => ∃ i j, x = .str i ∧ y = .str j ∧ Q (.bl (!decide (j.cps.toList < i.cps.toList))) H
def rLeX : R2 := fun x y H Q => rI0 (fun i j => .bl (decide (i ≤ j))) x y H Q ∨ rLeStr x y H Q
theorem op_leX : OpR X (compareOp .LtE) rLeX := OpR.or op_le op_le_str
def rListOf (K : PySem.W.Frag) : List V → Hp → VK → Prop := fun xs H Q => ∃ p ys, xs = [.ref p] ∧ (SqL K H p ys ∨ SqT K H p ys) ∧ ∀ l, H l = none → Q (.ref l) (upd H l (.lst ys))
theorem cr_list (K : PySem.W.Frag) (hK : X.K = K := by rfl) : CallR X (.type "list") (rListOf K) := by subst hK; exact call_list_of
def rTupOf (K : PySem.W.Frag) : List V → Hp → VK → Prop := fun xs H Q => ∃ p ys, xs = [.ref p] ∧ ((SqL K H p ys ∧ ∀ l, H l = none → Q (.ref l) (upd H l (.tup ys))) ∨ (SqT K H p ys ∧ Q (.ref p) H))
theorem cr_tuple (K : PySem.W.Frag) (hK : X.K = K := by rfl) : CallR X (.type "tuple") (rTupOf K) := by subst hK; exact call_tuple_of
theorem cr_allX (K : PySem.W.Frag) (hc : X.calm = true) (hK : X.K = K := by rfl) : CallR X (.builtin "all") (rAll K) := by subst hK; exact cr_all hc
theorem cr_anyX (K : PySem.W.Frag) (hc : X.calm = true) (hK : X.K = K := by rfl) : CallR X (.builtin "any") (rAny K) := by subst hK; exact cr_any hc
theorem cr_sumX (K : PySem.W.Frag) (hc : X.calm = true) (hK : X.K = K := by rfl) : CallR X (.builtin "sum") (rSum K) := by subst hK; exact cr_sum hc
theorem cr_sortedX (K : PySem.W.Frag) (hK : X.K = K := by rfl) : CallR X (.builtin "sorted") (rSortedS K) := by subst hK; exact cr_sortedS
theorem cr_isi (K : PySem.W.Frag) (hK : X.K = K := by rfl) : CallR X (.builtin "isinstance") (rIsi K) := by subst hK; exact call_isi
theorem cr_isiT (K : PySem.W.Frag) (hK : X.K = K := by rfl) : CallR X (.builtin "isinstance") (rIsiT K) := by subst hK; exact call_isiT
theorem pi_listX (K : PySem.W.Frag) {tg l : Expr} {tl : TE} (hl : PE X l tl) (hK : X.K = K := by rfl) : PI X tg l (iList K tl) := by subst hK; exact pi_list hl
theorem pi_zipX (K : PySem.W.Frag) {tg e : Expr} {ta : TA} (h : PI X tg e (RZ.iZipA X.K ta)) (hK : X.K = K := by rfl) : PI X tg e (RZ.iZipA K ta) := by subst hK; exact h
theorem pi_tupX (K : PySem.W.Frag) {tg l : Expr} {tl : TE} (hl : PE X l tl) (hK : X.K = K := by rfl) : PI X tg l (iTup K tl) := by subst hK; exact pi_tup hl
theorem pg_tupX (K : PySem.W.Frag) {es : List Expr} {kk : Nat} {pos : Pos} {n : Nat} {t : TGs} (h : PG X (.Tuple es kk pos) (gTup X.K n t)) (hK : X.K = K := by rfl) : PG X (.Tuple es kk pos) (gTup K n t) := by subst hK; exact h
theorem pe_bmX (K : PySem.W.Frag) {e : Expr} {T : String} {r : V → List V → Hp → VK → Prop} {to : TE} {t : TA} (h : PE X e (tBM X.K T r to t)) (hK : X.K = K := by rfl) : PE X e (tBM K T r to t) := by subst hK; exact h
theorem pe_bm0X (K : PySem.W.Frag) {e : Expr} {T : String} {r : V → List V → Hp → VK → Prop} {to : TE} (h : PE X e (tBM0 X.K T r to)) (hK : X.K = K := by rfl) : PE X e (tBM0 K T r to) := by subst hK; exact h
theorem pe_fldX (K : PySem.W.Frag) {e : Expr} {f : Str} {ta : TE} (h : PE X e (tFld X.K ta f)) (hK : X.K = K := by rfl) : PE X e (tFld K ta f) := by subst hK; exact h
def rIntX : List V → Hp → VK → Prop := fun xs H Q => (∃ i, xs = [.int i] ∧ Q (.int i) H) ∨ ∃ k, xs = [.bl k] ∧ Q (.int (if k then 1 else 0)) H
theorem cr_int : CallR X (.type "int") rIntX := call_int1
def rIsNn : R2 := fun x y H Q => y = .non ∧ Q (.bl (decide (x = .non))) H
theorem op_isNn : OpR X (compareOp .Is) rIsNn := op_isN
def rNotNn : R2 := fun x y H Q => y = .non ∧ Q (.bl (!decide (x = .non))) H
theorem op_notNn : OpR X (compareOp .IsNot) rNotNn := op_notN
def rJoin (K : PySem.W.Frag) : V → List V → Hp → VK → Prop := fun x xs H Q => ∃ a p, ∃ ys : List Str, x = .str a ∧ xs = [.ref p] ∧ (SqL K H p (ys.map V.str) ∨ SqT K H p (ys.map V.str)) ∧ (ys.map (·.length)).sum + ys.length * a.length ≤ 16777216 ∧ Q (.str (Txt.join a ys)) H
theorem pe_joinX (K : PySem.W.Frag) {o e : Expr} {to te : TE} {apos pos : Pos} (ho : PE X o to) (he : PE X e te) (hK : X.K = K := by rfl) (hs : starEach [e] X.env = [(false, eval e X.env)] := by rfl) (hbase : attributeBase o "join" X.env (eval o X.env) = eval o X.env := by rfl) (hline : (apos.endLine == pos.line) = true := by rfl) :
    PE X (.Call (.Attribute o "join" apos) [e] [] pos) (tM1 (rJoin K) to te) := by subst hK; exact pe_join ho he hs hbase hline
end

/-! ### the readings, a step each -/
section
variable {K : PySem.W.Frag} {σ : St} {H : Hp} {Q : VK} {QT : Bool → Hp → Prop} {QA : List V → Hp → Prop} {QO : Option Int → Hp → Prop} {QS : St → Hp → Prop} {D : Ends}
variable {te ta tb tc : TE} {tt tu : TT} {t u : TS} {aa ab : TA} {g : TG} {gs : TGs} {r r' : R2} {v x y z : V} {i j n m : Int} {b c : Bool} {vs ws : List V} {a p q : Addr} {xs ys : List V} {s1 s2 : Str} {wi : TI} {to tp : TO}
theorem var {k : Nat} (h : σ[k]? = some (some v)) (q : Q v H) : tVar k σ H Q := ⟨v, h, q⟩
theorem cst (q : Q v H) : tC v σ H Q := q
theorem op (q : ta σ H fun x H1 => tb σ H1 fun y H2 => r x y H2 Q) : tOp r ta tb σ H Q := q
theorem un {f : V → Hp → VK → Prop} (q : ta σ H fun x H1 => f x H1 Q) : tUn f ta σ H Q := q
theorem chain (q : ta σ H fun x H1 => tb σ H1 fun y H2 => r x y H2 fun z H3 => ∃ k, z = .bl k ∧ (if k = true then tc σ H3 fun w' H4 => r' y w' H4 Q else Q (.bl false) H3)) : tChain r r' ta tb tc σ H Q := q
theorem exbl {P : Bool → Prop} (q : P b) : ∃ k, V.bl b = .bl k ∧ P k := ⟨b, rfl, q⟩
theorem iI0 {f : Int → Int → V} (q : Q (f i j) H) : rI0 f (.int i) (.int j) H Q := ⟨i, j, rfl, rfl, q⟩
theorem iI {C : Int → Int → Prop} {f : Int → Int → V} (h : C i j) (q : Q (f i j) H) : rI C f (.int i) (.int j) H Q := ⟨i, j, rfl, rfl, h, q⟩
theorem iU {f : Int → V} (q : Q (f i) H) : rU f (.int i) H Q := ⟨i, rfl, q⟩
theorem eqI (q : Q (.bl (decide (i = j))) H) : rEqX K (.int i) (.int j) H Q := .inl ⟨rfl, by rw [show decide (V.int i = V.int j) = decide (i = j) from decide_eq_decide.mpr ⟨V.int.inj, congrArg _⟩]; exact q⟩
theorem neI (q : Q (.bl (!decide (i = j))) H) : rNeX K (.int i) (.int j) H Q := .inl ⟨rfl, by rw [show decide (V.int i = V.int j) = decide (i = j) from decide_eq_decide.mpr ⟨V.int.inj, congrArg _⟩]; exact q⟩
theorem eqStr (q : Q (.bl (decide (s1 = s2))) H) : rEqX K (.str s1) (.str s2) H Q := .inl ⟨rfl, by rw [show decide (V.str s1 = V.str s2) = decide (s1 = s2) from decide_eq_decide.mpr ⟨V.str.inj, congrArg _⟩]; exact q⟩
theorem neStr (q : Q (.bl (!decide (s1 = s2))) H) : rNeX K (.str s1) (.str s2) H Q := .inl ⟨rfl, by rw [show decide (V.str s1 = V.str s2) = decide (s1 = s2) from decide_eq_decide.mpr ⟨V.str.inj, congrArg _⟩]; exact q⟩
theorem eqB (q : Q (.bl (decide (b = c))) H) : rEqX K (.bl b) (.bl c) H Q := .inl ⟨rfl, by rw [show decide (V.bl b = V.bl c) = decide (b = c) from decide_eq_decide.mpr ⟨V.bl.inj, congrArg _⟩]; exact q⟩
theorem neB (q : Q (.bl (!decide (b = c))) H) : rNeX K (.bl b) (.bl c) H Q := .inl ⟨rfl, by rw [show decide (V.bl b = V.bl c) = decide (b = c) from decide_eq_decide.mpr ⟨V.bl.inj, congrArg _⟩]; exact q⟩
theorem cut (Mid : St → Hp → Prop) (q : t { nx := Mid, rt := D.rt, bk := D.bk, ct := D.ct } σ H) (k : ∀ σ' H', Mid σ' H' → u D σ' H') : C8.tCut t u D σ H := ⟨Mid, q, k⟩
theorem iteD {A B : Prop} {p : Prop} [Decidable p] (h1 : p → A) (h2 : ¬ p → B) : if decide p = true then A else B := ite2 (fun h => h1 (of_decide_eq_true h)) (fun h => h2 fun z => h (decide_eq_true z))
theorem iteN {A B : Prop} {p : Prop} [Decidable p] (h1 : ¬ p → A) (h2 : p → B) : if (!decide p) = true then A else B := by
  by_cases h : p
  · rw [decide_eq_true h]
    exact iteF (h2 h)
  · rw [decide_eq_false h]
    exact iteT (h1 h)
theorem eqS (h : scal x y = true) (q : Q (.bl (decide (x = y))) H) : rEqX K x y H Q := .inl ⟨h, q⟩
theorem neS (h : scal x y = true) (q : Q (.bl (!decide (x = y))) H) : rNeX K x y H Q := .inl ⟨h, q⟩
theorem eqDd {d e : PyData} (h1 : Dp K H x d) (h2 : Dp K H y e) (s1 : SeqAt.shaped d = true) (s2 : SeqAt.shaped e = true) (q : Q (.bl (PyData.eqv d e)) H) : rEqX K x y H Q := .inr ⟨d, e, h1, h2, s1, s2, q⟩
theorem neDd {d e : PyData} (h1 : Dp K H x d) (h2 : Dp K H y e) (s1 : SeqAt.shaped d = true) (s2 : SeqAt.shaped e = true) (q : Q (.bl (!PyData.eqv d e)) H) : rNeX K x y H Q := .inr ⟨d, e, h1, h2, s1, s2, q⟩
theorem addI (q : Q (.int (i + j)) H) : rAddX K (.int i) (.int j) H Q := .inl ⟨i, j, rfl, rfl, q⟩
theorem addS (h : s1.length + s2.length ≤ sizeLine) (q : Q (.str (s1 ++ s2)) H) : rAddX K (.str s1) (.str s2) H Q := .inr (.inl ⟨s1, s2, rfl, rfl, h, q⟩)
theorem addL (h1 : H a = some (.lst xs)) (h2 : H p = some (.lst ys)) (h : xs.length + ys.length ≤ sizeLine) (q : ∀ l, H l = none → Q (.ref l) (upd H l (.lst (xs ++ ys)))) : rAddX K (.ref a) (.ref p) H Q := .inr (.inr (.inl ⟨a, p, xs, ys, rfl, rfl, h1, h2, h, q⟩))
theorem mulI (h : CMul i j) (q : Q (.int (i * j)) H) : rMulX (.int i) (.int j) H Q := .inl ⟨i, j, rfl, rfl, h, q⟩
theorem mulS (h1 : s1.length ≤ 1000) (h2 : 0 ≤ n) (h3 : n ≤ 1000) (q : Q (.str (Txt.mul s1 n)) H) : rMulX (.str s1) (.int n) H Q := .inr ⟨s1, n, rfl, rfl, h1, h2, h3, q⟩
theorem leI (q : Q (.bl (decide (i ≤ j))) H) : rLeX (.int i) (.int j) H Q := .inl ⟨i, j, rfl, rfl, q⟩
theorem leS (q : Q (.bl (!decide (s2.cps.toList < s1.cps.toList))) H) : rLeX (.str s1) (.str s2) H Q := .inr ⟨s1, s2, rfl, rfl, q⟩
theorem inS {k : Nat} (q : Q (.bl (decide (k ∈ s2.cps.toList))) H) : rInX K (.str ⟨#[k]⟩) (.str s2) H Q := .inl ⟨k, s2, rfl, rfl, q⟩
theorem ninS {k : Nat} (q : Q (.bl (!decide (k ∈ s2.cps.toList))) H) : rNinX K (.str ⟨#[k]⟩) (.str s2) H Q := .inl ⟨k, s2, rfl, rfl, q⟩
theorem inSeq (h : SqL K H p xs ∨ SqT K H p xs) (h1 : flatV x = true) (h2 : xs.all flatV = true) (q : Q (.bl (inV x xs)) H) : rInX K x (.ref p) H Q := .inr ⟨p, xs, rfl, h, h1, h2, q⟩
theorem ninSeq (h : SqL K H p xs ∨ SqT K H p xs) (h1 : flatV x = true) (h2 : xs.all flatV = true) (q : Q (.bl (!inV x xs)) H) : rNinX K x (.ref p) H Q := .inr ⟨p, xs, rfl, h, h1, h2, q⟩
theorem isN_int (q : Q (.bl false) H) : rIsNn (.int i) .non H Q := ⟨rfl, q⟩
theorem notN_int (q : Q (.bl true) H) : rNotNn (.int i) .non H Q := ⟨rfl, q⟩
theorem isN_str (q : Q (.bl false) H) : rIsNn (.str s1) .non H Q := ⟨rfl, q⟩
theorem notN_str (q : Q (.bl true) H) : rNotNn (.str s1) .non H Q := ⟨rfl, q⟩
theorem isN_bl (q : Q (.bl false) H) : rIsNn (.bl b) .non H Q := ⟨rfl, q⟩
theorem notN_bl (q : Q (.bl true) H) : rNotNn (.bl b) .non H Q := ⟨rfl, q⟩
theorem isN_ref (q : Q (.bl false) H) : rIsNn (.ref a) .non H Q := ⟨rfl, q⟩
theorem notN_ref (q : Q (.bl true) H) : rNotNn (.ref a) .non H Q := ⟨rfl, q⟩
theorem isN_non (q : Q (.bl true) H) : rIsNn .non .non H Q := ⟨rfl, q⟩
theorem notN_non (q : Q (.bl false) H) : rNotNn .non .non H Q := ⟨rfl, q⟩
theorem eqB_truetrue (q : Q (.bl true) H) : rEqX K (.bl true) (.bl true) H Q := .inl ⟨rfl, q⟩
theorem neB_truetrue (q : Q (.bl false) H) : rNeX K (.bl true) (.bl true) H Q := .inl ⟨rfl, q⟩
theorem eqB_truefalse (q : Q (.bl false) H) : rEqX K (.bl true) (.bl false) H Q := .inl ⟨rfl, q⟩
theorem neB_truefalse (q : Q (.bl true) H) : rNeX K (.bl true) (.bl false) H Q := .inl ⟨rfl, q⟩
theorem eqB_falsetrue (q : Q (.bl false) H) : rEqX K (.bl false) (.bl true) H Q := .inl ⟨rfl, q⟩
theorem neB_falsetrue (q : Q (.bl true) H) : rNeX K (.bl false) (.bl true) H Q := .inl ⟨rfl, q⟩
theorem eqB_falsefalse (q : Q (.bl true) H) : rEqX K (.bl false) (.bl false) H Q := .inl ⟨rfl, q⟩
theorem neB_falsefalse (q : Q (.bl false) H) : rNeX K (.bl false) (.bl false) H Q := .inl ⟨rfl, q⟩
theorem isN (q : Q (.bl (decide (x = .non))) H) : rIsNn x .non H Q := ⟨rfl, q⟩
theorem notN (q : Q (.bl (!decide (x = .non))) H) : rNotNn x .non H Q := ⟨rfl, q⟩
theorem ixL (h : SqL K H p xs) (h1 : atI xs i = some v) (q : Q v H) : rIx K (.ref p) (.int i) H Q := .inl ⟨p, xs, i, v, rfl, rfl, h, h1, q⟩
theorem ixT (h : SqT K H p xs) (h1 : atI xs i = some v) (q : Q v H) : rIx K (.ref p) (.int i) H Q := .inr (.inl ⟨p, xs, i, v, rfl, rfl, h, h1, q⟩)
theorem ixS {k : Nat} (h : s1.length ≤ sizeLine) (h1 : atI s1.cps.toList i = some k) (q : Q (.str ⟨#[k]⟩) H) : rIx K (.str s1) (.int i) H Q := .inr (.inr ⟨s1, i, k, rfl, rfl, h, h1, q⟩)
theorem slS {lo hi : Option Int} (h : s1.length ≤ sizeLine) (q : Q (.str (cutS s1 lo hi)) H) : rSlX K (.str s1) lo hi H Q := .inr (.inl ⟨s1, rfl, h, q⟩)
theorem slL {lo hi : Option Int} (h : SqL K H a xs) (q : ∀ l, H l = none → Q (.ref l) (upd H l (.lst (cutV xs lo hi)))) : rSlX K (.ref a) lo hi H Q := .inl ⟨a, xs, rfl, h, q⟩
theorem slT {lo hi : Option Int} (h : SqT K H a xs) (q1 : HT.sIx xs.length 0 lo = 0 ∧ HT.sIx xs.length xs.length hi = xs.length → Q (.ref a) H) (q2 : ¬ (HT.sIx xs.length 0 lo = 0 ∧ HT.sIx xs.length xs.length hi = xs.length) → ∀ l, H l = none → Q (.ref l) (upd H l (.tup (cutV xs lo hi)))) :
    rSlX K (.ref a) lo hi H Q := .inr (.inr ⟨a, xs, rfl, h, q1, q2⟩)
theorem sl {f : V → Option Int → Option Int → Hp → VK → Prop} (q : te σ H fun x H1 => to σ H1 fun l H2 => tp σ H2 fun u H3 => f x l u H3 Q) : tSl f te to tp σ H Q := q
theorem noPart (q : QO none H) : tNoPart σ H QO := q
theorem part (q : te σ H fun x H1 => ∃ i, x = .int i ∧ QO (some i) H1) : tPart te σ H QO := q
theorem exint {P : Int → Prop} (q : P i) : ∃ k, V.int i = .int k ∧ P k := ⟨i, rfl, q⟩
theorem test (q : te σ H fun x H' => ∃ k, x = .bl k ∧ QT k H') : tTest te σ H QT := q
theorem tb_ (q : te σ H fun x H' => ∃ k, x = .bl k ∧ QT k H') : tB te σ H QT := q
theorem tand (q : tt σ H fun c H1 => if c = true then tu σ H1 QT else QT false H1) : tAnd tt tu σ H QT := q
theorem tor (q : tt σ H fun c H1 => if c = true then QT true H1 else tu σ H1 QT) : tOr tt tu σ H QT := q
theorem tnot (q : tt σ H fun c H1 => QT (!c) H1) : tNot tt σ H QT := q
theorem andV (q : ta σ H fun x H1 => ∃ c, x = .bl c ∧ if c = true then tb σ H1 Q else Q (.bl false) H1) : tAndV ta tb σ H Q := q
theorem orV (q : ta σ H fun x H1 => ∃ c, x = .bl c ∧ if c = true then Q (.bl true) H1 else tb σ H1 Q) : tOrV ta tb σ H Q := q
theorem notV (q : ta σ H fun x H1 => ∃ c, x = .bl c ∧ Q (.bl (!c)) H1) : tNotV ta σ H Q := q
theorem ife (q : tt σ H fun c H1 => if c = true then ta σ H1 Q else tb σ H1 Q) : tIf tt ta tb σ H Q := q
theorem seq (q : t { nx := u D, rt := D.rt, bk := D.bk, ct := D.ct } σ H) : tSeq t u D σ H := q
theorem nxt (q : D.nx σ H) : tNext D σ H := q
theorem brk (q : D.bk σ H) : tBreak D σ H := q
theorem cnt (q : D.ct σ H) : tCont D σ H := q
theorem drp (q : te σ H fun _ H1 => D.nx σ H1) : tDrop te D σ H := q
theorem ret (q : te σ H D.rt) : tRet te D σ H := q
theorem retN (q : D.rt .non H) : tRetN D σ H := q
theorem ifS (q : tt σ H fun b H1 => if b = true then t D σ H1 else u D σ H1) : tIfS tt t u D σ H := q
theorem asg (q : te σ H fun x H1 => g x σ H1 D.nx) : tAsg te g D σ H := q
theorem gname {k : Nat} (q : QS (σ.set k (some v)) H) : gName k v σ H QS := q
theorem par {k l : Nat} (q : aa σ H fun vs H1 => ∃ v w, vs = [v, w] ∧ D.nx ((σ.set k (some v)).set l (some w)) H1) : tPar k l aa D σ H := q
theorem expair {P : V → V → Prop} (q : P x y) : ∃ v w, [x, y] = [v, w] ∧ P v w := ⟨x, y, rfl, q⟩
theorem gsub {f : TSet} (q : ta σ H fun o H1 => tb σ H1 fun i H2 => f o i v H2 fun H3 => QS σ H3) : gSub ta tb f v σ H QS := q
theorem setL {k : Nat} {QH : Hp → Prop} (h : H p = some (.lst xs)) (h1 : ixN xs.length i = some k) (q : QH (upd H p (.lst (xs.set k v)))) : rSetL (.ref p) (.int i) v H QH := ⟨p, xs, i, k, rfl, rfl, h, h1, q⟩
theorem gtup {k : Nat} (h : SqT K H a xs) (h1 : xs.length = k) (q : gs xs σ H QS) : gTup K k gs (.ref a) σ H QS := ⟨a, xs, rfl, h, h1, q⟩
theorem gcons (q : g v σ H fun σ' H' => gs vs σ' H' QS) : gCons g gs (v :: vs) σ H QS := ⟨v, vs, rfl, q⟩
theorem gnil (q : QS σ H) : gNil [] σ H QS := ⟨rfl, q⟩
theorem anil (q : QA [] H) : tNil σ H QA := q
theorem acons (q : te σ H fun x H1 => aa σ H1 fun xs H2 => QA (x :: xs) H2) : tCons te aa σ H QA := q
theorem callC {sp : Sp} (q : aa σ H fun vs H1 => sp vs H1 Q E0) : tCC sp aa σ H Q := q
theorem callK {sp : Sp} {gV : List V → List V → List V} (q : aa σ H fun vs H1 => ab σ H1 fun zs H2 => sp (gV vs zs) H2 Q E0) : tCK sp gV aa ab σ H Q := q
theorem callB {f : List V → Hp → VK → Prop} (q : aa σ H fun vs H1 => f vs H1 Q) : tCB f aa σ H Q := q
theorem lenS (h : s1.length ≤ sizeLine) (q : Q (.int s1.length) H) : rLenX K [.str s1] H Q := ⟨.str s1, s1.length, rfl, ⟨h, rfl⟩, q⟩
theorem lenL (h : SqL K H p xs) (q : Q (.int xs.length) H) : rLenX K [.ref p] H Q := ⟨.ref p, xs.length, rfl, .inl ⟨xs, h, rfl⟩, q⟩
theorem lenT (h : SqT K H p xs) (q : Q (.int xs.length) H) : rLenX K [.ref p] H Q := ⟨.ref p, xs.length, rfl, .inr ⟨xs, h, rfl⟩, q⟩
theorem intI (q : Q (.int i) H) : rIntX [.int i] H Q := .inl ⟨i, rfl, q⟩
theorem listL (h : SqL K H p xs) (q : ∀ l, H l = none → Q (.ref l) (upd H l (.lst xs))) : rListOf K [.ref p] H Q := ⟨p, xs, rfl, .inl h, q⟩
theorem listT (h : SqT K H p xs) (q : ∀ l, H l = none → Q (.ref l) (upd H l (.lst xs))) : rListOf K [.ref p] H Q := ⟨p, xs, rfl, .inr h, q⟩
theorem tupL (h : SqL K H p xs) (q : ∀ l, H l = none → Q (.ref l) (upd H l (.tup xs))) : rTupOf K [.ref p] H Q := ⟨p, xs, rfl, .inl ⟨h, q⟩⟩
theorem all_ {bs : List Bool} (h : SqL K H p (bs.map V.bl)) (q : Q (.bl (bs.all id)) H) : rAll K [.ref p] H Q := ⟨p, bs, rfl, h, q⟩
theorem any_ {bs : List Bool} (h : SqL K H p (bs.map V.bl)) (q : Q (.bl (bs.any id)) H) : rAny K [.ref p] H Q := ⟨p, bs, rfl, h, q⟩
theorem isi {T : String} {tv : Value} (h : TyX K H x tv) (h1 : PySem.W.kitOne K tv (.type T) = some b) (q : Q (.bl b) H) : rIsi K [x, .ty T] H Q := ⟨x, .ty T, tv, .type T, b, rfl, .ty T, h, h1, q⟩
theorem isiT {tv : Value} {us : List Value} (hT : H p = some (.tup vs)) (hP : Paired ClsV vs us) (h : TyX K H x tv) (h1 : PySem.W.kitAny K tv us = some b) (q : Q (.bl b) H) : rIsiT K [x, .ref p] H Q := ⟨x, p, vs, tv, us, b, rfl, hT, hP, h, h1, q⟩
theorem lst_ (q : aa σ H fun xs H1 => xs.length ≤ sizeLine ∧ ∀ p, H1 p = none → Q (.ref p) (upd H1 p (.lst xs))) : tLst aa σ H Q := q
theorem tup_ (q : aa σ H fun xs H1 => xs.length ≤ sizeLine ∧ ∀ p, H1 p = none → Q (.ref p) (upd H1 p (.tup xs))) : tTup aa σ H Q := q
theorem m1 {f : V → List V → Hp → VK → Prop} (q : ta σ H fun x H1 => (∃ a, x = .str a) ∧ te σ H1 fun y H2 => f x [y] H2 Q) : tM1 f ta te σ H Q := q
theorem isStr {P : Prop} (q : P) : (∃ a, V.str s1 = .str a) ∧ P := ⟨⟨s1, rfl⟩, q⟩
theorem joinL {zs : List Str} (h : SqL K H p (zs.map V.str)) (h1 : (zs.map (·.length)).sum + zs.length * s1.length ≤ 16777216) (q : Q (.str (Txt.join s1 zs)) H) : rJoin K (.str s1) [.ref p] H Q := ⟨s1, p, zs, rfl, rfl, .inl h, h1, q⟩
theorem for_ (q : wi σ H fun J H1 => ∃ W : Nat → Nat → St → Hp → Prop, (∃ m, W 0 m σ H1) ∧ ∀ i m σ H, W i m σ H →
      (J.stop i H ∧ D.nx σ H) ∨ (J.go i H ∧ ∃ N : St → Hp → Prop, (∀ σ' H', N σ' H' → ∃ m', m' < m ∧ W (i + 1) m' σ' H') ∧ ∀ x H', J.yld i H x H' → g x σ H' fun σ2 H2 => t { nx := N, rt := D.rt, bk := D.nx, ct := N } σ2 H2)) : tFor wi g t D σ H := q
theorem bm {T : String} {f : V → List V → Hp → VK → Prop} (q : ta σ H fun x H1 => tyV K T x H1 ∧ aa σ H1 fun xs H2 => f x xs H2 Q) : tBM K T f ta aa σ H Q := q
theorem bm0 {T : String} {f : V → List V → Hp → VK → Prop} (q : ta σ H fun x H1 => tyV K T x H1 ∧ f x [] H1 Q) : tBM0 K T f ta σ H Q := q
theorem mkNx {A B C : St → Hp → Prop} {R : VK} (h : D = ⟨A, R, B, C⟩) (q : A σ H) : Ends.nx D σ H := by subst h; exact q
theorem mkRt {A B C : St → Hp → Prop} {R : VK} (h : D = ⟨A, R, B, C⟩) (q : R v H) : Ends.rt D v H := by subst h; exact q
theorem mkBk {A B C : St → Hp → Prop} {R : VK} (h : D = ⟨A, R, B, C⟩) (q : B σ H) : Ends.bk D σ H := by subst h; exact q
theorem mkCt {A B C : St → Hp → Prop} {R : VK} (h : D = ⟨A, R, B, C⟩) (q : C σ H) : Ends.ct D σ H := by subst h; exact q
theorem ilist (h : ∃ xs, SqL K H a xs) {R : It → Hp → Prop} (q : R (Itl K a) H) : (fun (x : V) (H1 : Hp) => ∃ a, x = .ref a ∧ (∃ xs, SqL K H1 a xs) ∧ R (Itl K a) H1) (.ref a) H := ⟨a, rfl, h, q⟩
theorem il {R : It → Hp → Prop} (q : te σ H fun x H1 => ∃ a, x = .ref a ∧ (∃ xs, SqL K H1 a xs) ∧ R (Itl K a) H1) : iList K te σ H R := q
theorem exl {R : Addr → Prop} (h : ∃ xs, SqL K H a xs) (q : R a) : ∃ b, V.ref a = .ref b ∧ (∃ xs, SqL K H b xs) ∧ R b := ⟨a, rfl, h, q⟩
theorem ir1 {R : It → Hp → Prop} (q : aa σ H fun vs H1 => ∃ j : Int, vs = [.int j] ∧ -(2 ^ 62) ≤ j ∧ j < 2 ^ 62 ∧ R (Itr 0 j.toNat) H1) : iRng1 aa σ H R := q
theorem exr1 {R : Int → Prop} (h1 : -(2 ^ 62) ≤ i) (h2 : i < 2 ^ 62) (q : R i) : ∃ j : Int, [V.int i] = [.int j] ∧ -(2 ^ 62) ≤ j ∧ j < 2 ^ 62 ∧ R j := ⟨i, rfl, h1, h2, q⟩
theorem is_ {R : It → Hp → Prop} (q : te σ H fun v H1 => ∃ x, v = .str x ∧ R (Its x) H1) : iStr te σ H R := q
theorem exstr {R : Str → Prop} (q : R s1) : ∃ x, V.str s1 = .str x ∧ R x := ⟨s1, rfl, q⟩
end

/-! ### kinds -/
theorem kB_NoneType_str : kitB "NoneType" "str" = some false := by decide +kernel
theorem kB_NoneType_bool : kitB "NoneType" "bool" = some false := by decide +kernel
theorem kB_NoneType_int : kitB "NoneType" "int" = some false := by decide +kernel
theorem kB_NoneType_dict : kitB "NoneType" "dict" = some false := by decide +kernel
theorem kB_NoneType_tuple : kitB "NoneType" "tuple" = some false := by decide +kernel
theorem kB_NoneType_list : kitB "NoneType" "list" = some false := by decide +kernel
theorem kB_bool_str : kitB "bool" "str" = some false := by decide +kernel
theorem kB_bool_bool : kitB "bool" "bool" = some true := by decide +kernel
theorem kB_bool_int : kitB "bool" "int" = some true := by decide +kernel
theorem kB_bool_dict : kitB "bool" "dict" = some false := by decide +kernel
theorem kB_bool_tuple : kitB "bool" "tuple" = some false := by decide +kernel
theorem kB_bool_list : kitB "bool" "list" = some false := by decide +kernel
theorem kB_int_str : kitB "int" "str" = some false := by decide +kernel
theorem kB_int_bool : kitB "int" "bool" = some false := by decide +kernel
theorem kB_int_int : kitB "int" "int" = some true := by decide +kernel
theorem kB_int_dict : kitB "int" "dict" = some false := by decide +kernel
theorem kB_int_tuple : kitB "int" "tuple" = some false := by decide +kernel
theorem kB_int_list : kitB "int" "list" = some false := by decide +kernel
theorem kB_str_str : kitB "str" "str" = some true := by decide +kernel
theorem kB_str_bool : kitB "str" "bool" = some false := by decide +kernel
theorem kB_str_int : kitB "str" "int" = some false := by decide +kernel
theorem kB_str_dict : kitB "str" "dict" = some false := by decide +kernel
theorem kB_str_tuple : kitB "str" "tuple" = some false := by decide +kernel
theorem kB_str_list : kitB "str" "list" = some false := by decide +kernel
theorem kB_list_str : kitB "list" "str" = some false := by decide +kernel
theorem kB_list_bool : kitB "list" "bool" = some false := by decide +kernel
theorem kB_list_int : kitB "list" "int" = some false := by decide +kernel
theorem kB_list_dict : kitB "list" "dict" = some false := by decide +kernel
theorem kB_list_tuple : kitB "list" "tuple" = some false := by decide +kernel
theorem kB_list_list : kitB "list" "list" = some true := by decide +kernel
theorem kB_tuple_str : kitB "tuple" "str" = some false := by decide +kernel
theorem kB_tuple_bool : kitB "tuple" "bool" = some false := by decide +kernel
theorem kB_tuple_int : kitB "tuple" "int" = some false := by decide +kernel
theorem kB_tuple_dict : kitB "tuple" "dict" = some false := by decide +kernel
theorem kB_tuple_tuple : kitB "tuple" "tuple" = some true := by decide +kernel
theorem kB_tuple_list : kitB "tuple" "list" = some false := by decide +kernel
theorem kB_dict_str : kitB "dict" "str" = some false := by decide +kernel
theorem kB_dict_bool : kitB "dict" "bool" = some false := by decide +kernel
theorem kB_dict_int : kitB "dict" "int" = some false := by decide +kernel
theorem kB_dict_dict : kitB "dict" "dict" = some true := by decide +kernel
theorem kB_dict_tuple : kitB "dict" "tuple" = some false := by decide +kernel
theorem kB_dict_list : kitB "dict" "list" = some false := by decide +kernel
theorem kitAny2 {K : PySem.W.Frag} {a b c : String} {r s : Bool} (h1 : kitB a b = some r) (h2 : kitB a c = some s) : PySem.W.kitAny K (.type a) [.type b, .type c] = some (r || s) := by
  refine kitAny_cons (kit_ty h1) (fun e => ?_) (fun e => ?_)
  · refine kitAny_cons (kit_ty h2) (fun e2 => ?_) (fun e2 => ?_)
    · rw [e, e2]
      rfl
    · rw [e, e2]
      rfl
  · rw [e]
    rfl
theorem cls2 (b c : String) : Paired ClsV [V.ty b, V.ty c] [.type b, .type c] := .cons (.ty b) (.cons (.ty c) .nil)
theorem tyx_L {K : PySem.W.Frag} {H : Hp} {a : Addr} {xs : List V} (h : SqL K H a xs) : TyX K H (.ref a) (.type "list") := by
  rcases h with (h | ⟨o, h⟩) | ⟨o, its, n, h, c, _⟩
  · exact .base (.lst h)
  · exact .base (.frz h)
  · exact .kList h c
theorem tyx_T {K : PySem.W.Frag} {H : Hp} {a : Addr} {xs : List V} (h : SqT K H a xs) : TyX K H (.ref a) (.type "tuple") := by
  rcases h with (h | ⟨o, h⟩) | ⟨o, its, n, h, c, _⟩
  · exact .base (.tup h)
  · exact .fTuple h
  · exact .kTuple h c
/-- zip over two tuples -/
theorem walk_zipT {K : PySem.W.Frag} {a b : Addr} {xs ys : List V} {n : Nat} (hn : n = min xs.length ys.length) : Walk (RZ.ItzT K a b) n (fun H => SqT K H a xs ∧ SqT K H b ys) (YPair (fun i => xs[i]?) (fun i => ys[i]?)) := by
  subst hn
  refine ⟨fun i H hi g => ?_, fun H g => ⟨xs, ys, g.1, g.2, by omega⟩, fun i H x H' hi g y => ?_⟩
  · have h1 : i < xs.length := by omega
    have h2 : i < ys.length := by omega
    exact ⟨xs, ys, xs[i], ys[i], g.1, g.2, List.getElem?_eq_getElem h1, List.getElem?_eq_getElem h2⟩
  · obtain ⟨T, x1, y1, e1, n1, e2, f1, f2⟩ := y
    exact ⟨T, x1, y1, e1, n1, e2, f1 xs g.1, f2 ys g.2⟩

/-! ### heaps -/
theorem same_upd {H : Hp} {p : Addr} {o : HO} (h : H p = none) : Same H (upd H p o) := fun b x e => by
  rw [upd_ne (ne_of_none e h)]
  exact e
/-- all that was tracked but what stands at b is as it was -/
def But (b : Addr) (H H' : Hp) : Prop := ∀ c o, H c = some o → c ≠ b → H' c = some o
theorem But.refl (b : Addr) (H : Hp) : But b H H := fun _ _ h _ => h
theorem But.trans {b : Addr} {H H1 H2 : Hp} (a : But b H H1) (c : But b H1 H2) : But b H H2 := fun d o h n => c d o (a d o h n) n
theorem But.of_same {b : Addr} {H H' : Hp} (s : Same H H') : But b H H' := fun c o h _ => s c o h
theorem But.upd {b : Addr} {H : Hp} {o : HO} : But b H (upd H b o) := fun c x h n => by rw [upd_ne n]; exact h
theorem But.new {b p : Addr} {H : Hp} {o : HO} (h : H p = none) : But b H (L2.upd H p o) := But.of_same (same_upd h)
theorem But.mutNew {b p : Addr} {H H' : Hp} {o : HO} (h : But b H H') (n : H p = none) : But b H (L2.upd H' p o) := fun c x e nc => by
  rw [upd_ne (ne_of_none e n)]
  exact h c x e nc
theorem But.free {b p : Addr} {H H' : Hp} (s : But b H H') (hb : ∃ o, H' b = some o) (n : H' p = none) : H p = none := by
  cases e : H p with
  | none => rfl
  | some o =>
    by_cases h : p = b
    · obtain ⟨u, hu⟩ := hb
      rw [h, hu] at n
      cases n
    · rw [s p o e h] at n
      cases n
theorem SqL.but {K : PySem.W.Frag} {b a : Addr} {H H' : Hp} {xs : List V} (s : But b H H') (n : a ≠ b) (h : SqL K H a xs) : SqL K H' a xs := by
  rcases h with (h | ⟨o, h⟩) | h
  · exact .inl (.inl (s _ _ h n))
  · exact .inl (.inr ⟨o, s _ _ h n⟩)
  · exact .inr h
theorem Same.seqT {K : PySem.W.Frag} {H H' : Hp} {a : Addr} {xs : List V} (e : Same H H') (h : SqT K H a xs) : SqT K H' a xs := by
  rcases h with (h | ⟨o, h⟩) | h
  · exact .inl (.inl (e _ _ h))
  · exact .inl (.inr ⟨o, e _ _ h⟩)
  · exact .inr h
theorem lc {σ : St} {H : Hp} {Q : VK} {wi : TI} {g : TG} {tt : TT} {te : TE} {vs : List Nat}
    (q : wi σ H fun J H1 => ∀ D, H1 D = none → ∃ W : Nat → Nat → Hp → Prop, (∃ m, W 0 m (upd H1 D (.lst []))) ∧ ∀ i m H, W i m H →
  (J.stop i H ∧ Q (.ref D) H) ∨ (J.go i H ∧ ∃ Nx : Hp → Prop, (∀ H', Nx H' → ∃ m', m' < m ∧ W (i + 1) m' H') ∧ ∀ x H', J.yld i H x H' → g x (wipe σ vs) H' fun σ2 H2 => wipe σ2 vs = wipe σ vs ∧ tt σ2 H2 fun b H3 =>
    if b = true then te σ2 H3 fun y H4 => ∃ acc, H4 D = some (.lst acc) ∧ acc.length < sizeLine ∧ Nx (upd H4 D (.lst (acc ++ [y]))) else Nx H3)) : tLc wi g tt te vs σ H Q := q
theorem disp {σ : St} {H : Hp} {Q : VK} {trs : List (TE × TE)} (q : ∀ p, H p = none → tPairs trs σ (upd H p (.dK [])) fun ps H2 => H2 p = some (.dK []) ∧ ∃ kvs : List (Key × V), ps = kvs.map (fun kv => (kV kv.1, kv.2)) ∧ kvs.length ≤ 15 ∧ Q (.ref p) (upd H2 p (.dK (mergeK [] kvs)))) : tDisp trs σ H Q := q
theorem pnil {σ : St} {H : Hp} {k : List (V × V) → Hp → Prop} (q : k [] H) : tPairs [] σ H k := q
theorem pcons {σ : St} {H : Hp} {k : List (V × V) → Hp → Prop} {tk tv : TE} {r : List (TE × TE)} (q : tk σ H fun x H1 => tv σ H1 fun y H2 => tPairs r σ H2 fun ps H3 => k ((x, y) :: ps) H3) : tPairs ((tk, tv) :: r) σ H k := q
theorem dget2 {σ : St} {H : Hp} {Q : VK} {td ty tx : TE} (q : td σ H fun x H1 => ∃ a, x = .ref a ∧ IsD H1 a ∧ ty σ H1 fun y H2 => tx σ H2 fun z H3 => ∃ o, DGet H3 a y o ∧ Q (o.getD z) H3) : tDGet2 td ty tx σ H Q := q
theorem iz {K : PySem.W.Frag} {σ : St} {H : Hp} {aa : TA} {R : It → Hp → Prop} (q : aa σ H fun vs H1 => ∃ a b xs ys, vs = [.ref a, .ref b] ∧ ((SqL K H1 a xs ∧ SqL K H1 b ys ∧ R (Itz K a b) H1) ∨ (SqT K H1 a xs ∧ SqT K H1 b ys ∧ R (RZ.ItzT K a b) H1))) : RZ.iZipA K aa σ H R := q
theorem tyes {σ : St} {H : Hp} {QT : Bool → Hp → Prop} (q : QT true H) : tYes σ H QT := q
theorem cxK {CX : CXT} {P : Program} {w : World} {K : PySem.W.Frag} {mg : Str → Option Value} {base : Heap} {N : List Str} {qual : Str} {sc : Scope} {f : Addr} {cd : Value} {A : Around} {outer : List Env} {s : Shared} {H : Hp} {E : XK} :
    (cxOf CX P w K mg base N qual sc f cd A outer s H E).nox.K = K := rfl
theorem cxKx {CX : CXT} {P : Program} {w : World} {K : PySem.W.Frag} {mg : Str → Option Value} {base : Heap} {N : List Str} {qual : Str} {sc : Scope} {f : Addr} {cd : Value} {A : Around} {outer : List Env} {s : Shared} {H : Hp} {E : XK} :
    (cxOf CX P w K mg base N qual sc f cd A outer s H E).K = K := rfl
theorem map_at {α : Type} {g : α → V} {l : List α} {i : Nat} {y : V} (h : (l.map g)[i]? = some y) : ∃ u, l[i]? = some u ∧ y = g u := by
  rw [List.getElem?_map] at h
  cases e : l[i]? with
  | none =>
    rw [e] at h
    cases h
  | some u =>
    rw [e] at h
    exact ⟨u, rfl, (Option.some.inj h).symm⟩
theorem cut_map (ns : List Int) (lo hi : Option Int) : ∃ ms : List Int, cutV (ns.map V.int) lo hi = ms.map V.int ∧ ms.length ≤ ns.length := by
  refine ⟨(ns.drop (HT.sIx (ns.map V.int).length 0 lo)).take (HT.sIx (ns.map V.int).length (ns.map V.int).length hi - HT.sIx (ns.map V.int).length 0 lo), ?_, ?_⟩
  · unfold cutV
    rw [List.map_take, List.map_drop]
  · rw [List.length_take, List.length_drop]
    omega
theorem un0 {H : Hp} {a b : Addr} {o : HO} (e : upd H a o b = none) : H b = none := by
  by_cases h : b = a
  · rw [h, upd_same] at e
    cases e
  · rw [upd_ne h] at e
    exact e
theorem upd2 {H : Hp} {a b : Addr} {o x : HO} (h : b ≠ a) (e : H b = some x) : upd H a o b = some x := by
  rw [upd_ne h]
  exact e
/-! ### texts -/
theorem cut_to (l : List Nat) {k : Int} (h : 0 ≤ k) : cutS (SX.S l) none (some k) = SX.S (l.take k.toNat) := by
  rw [C8.cutS_slice]
  exact SX.slice_to h
theorem cut_from (l : List Nat) {k : Int} (h : 0 ≤ k) : cutS (SX.S l) (some k) none = SX.S (l.drop k.toNat) := by
  rw [C8.cutS_slice]
  exact SX.slice_from h
theorem join_signs : ∀ cs : List Nat, TL.joinL [] (cs.map fun c => [c]) = cs
  | [] => rfl
  | [c] => rfl
  | c :: d :: r => by
    have ih := join_signs (d :: r)
    show [c] ++ ([] ++ TL.joinL [] ((d :: r).map fun c => [c])) = c :: d :: r
    rw [ih]
    rfl
theorem join_sg (cs : List Nat) : Txt.join (SX.S []) (cs.map fun c => (⟨#[c]⟩ : Str)) = SX.S cs := by
  have e : (cs.map fun c => (⟨#[c]⟩ : Str)) = (cs.map fun c => [c]).map SX.S := by
    rw [List.map_map]
    rfl
  rw [e, SX.join_S, join_signs]
theorem S_len0 : (SX.S []).length = 0 := rfl
theorem empty_S : Str.ofString "" = SX.S [] := by decide +kernel
theorem len_sg : ∀ cs : List Nat, ((cs.map fun c => (⟨#[c]⟩ : Str)).map (·.length)).sum = cs.length
  | [] => rfl
  | c :: r => by
    rw [List.map_cons, List.map_cons, List.sum_cons, len_sg r, List.length_cons]
    show 1 + r.length = r.length + 1
    omega
/-! ### [p(sign) for sign in text] -/
theorem lc_signs {l : List Nat} {p : Nat → Bool} {k : Nat} {te : TE} {vs : List Nat} {σ : St} {H1 : Hp} {D : Addr} {Qd : Hp → Prop}
    (hte : ∀ (c : Nat) (H' : Hp) (Q' : VK), c ∈ l → Q' (.bl (p c)) H' → te ((wipe σ vs).set k (some (.str ⟨#[c]⟩))) H' Q') (hw : ∀ v, wipe ((wipe σ vs).set k v) vs = wipe σ vs) (hl : l.length ≤ 100000)
    (hd : Qd (upd H1 D (.lst ((l.map p).map V.bl)))) :
    ∃ W : Nat → Nat → Hp → Prop, (∃ m, W 0 m (upd H1 D (.lst []))) ∧ ∀ i m H, W i m H →
      ((Its (SX.S l)).stop i H ∧ Qd H) ∨ ((Its (SX.S l)).go i H ∧ ∃ Nx : Hp → Prop, (∀ H', Nx H' → ∃ m', m' < m ∧ W (i + 1) m' H') ∧ ∀ x H', (Its (SX.S l)).yld i H x H' → gName k x (wipe σ vs) H' fun σ2 H2 => wipe σ2 vs = wipe σ vs ∧ tYes σ2 H2 fun b H3 =>
        if b = true then te σ2 H3 fun y H4 => ∃ acc, H4 D = some (.lst acc) ∧ acc.length < sizeLine ∧ Nx (upd H4 D (.lst (acc ++ [y]))) else Nx H3) := by
  have hz : (SX.S l).cps.size = l.length := by simp [SX.S]
  refine lc_it (walk_str (z := SX.S l)) (fun i H' => H' = upd H1 D (.lst (((l.take i).map p).map V.bl))) rfl (fun _ _ _ _ => trivial) ?_ ?_
  · rintro i x H H' hi rfl ⟨rfl, c, hc, rfl⟩
    have hc2 : l[i]? = some c := by
      have e : (SX.S l).cps[i]? = l[i]? := by simp [SX.S]
      rw [← e]
      exact hc
    have hm : c ∈ l := List.mem_of_getElem? hc2
    refine ⟨hw _, ?_⟩
    with_reducible refine Rg.tyes ?_
    with_reducible refine iteT ?_
    refine hte c _ _ hm ⟨_, upd_same, ?_, ?_⟩
    · rw [List.length_map, List.length_map, List.length_take, sizeLine_eq]
      omega
    · rw [upd_upd, List.take_add_one, hc2, List.map_append, List.map_append]
      rfl
  · rintro H rfl
    rw [hz, List.take_length]
    exact hd
theorem sgn_lt (a b : Nat) : decide (([a] : List Nat) < [b]) = decide (a < b) := by
  refine decide_eq_decide.mpr ⟨fun h => ?_, fun h => ?_⟩
  · cases h with
    | rel h => exact h
    | cons h => cases h
  · exact List.Lex.rel h
theorem sg_eq (a b : Nat) : decide ((⟨#[a]⟩ : Str) = ⟨#[b]⟩) = decide (a = b) := by
  refine decide_eq_decide.mpr ⟨fun h => ?_, fun h => by rw [h]⟩
  have e : ([a] : List Nat) = [b] := congrArg (fun x : Str => x.cps.toList) h
  injection e
theorem str_S (z : Str) : z = SX.S z.cps.toList := (SX.S_tl z).symm
theorem fold_rep (c : Nat) : ∀ (k : Nat) (acc : Array Nat), ((List.replicate k #[c]).foldl (· ++ ·) acc).toList = acc.toList ++ List.replicate k c
  | 0, acc => by simp
  | k + 1, acc => by
    rw [List.replicate_succ, List.foldl_cons, fold_rep c k, List.replicate_succ]
    simp
theorem mul_S (c : Nat) {n : Int} (h : 0 ≤ n) : Txt.mul (SX.S [c]) n = SX.S (List.replicate n.toNat c) := by
  unfold Txt.mul
  by_cases h1 : n < 1
  · rw [if_pos h1]
    have e : n = 0 := by omega
    subst e
    rfl
  · rw [if_neg h1]
    by_cases h2 : n = 1
    · subst h2
      rfl
    · rw [if_neg (by
        have : (SX.S [c]).length = 1 := rfl
        rw [this]
        simp [h2])]
      refine TL.ext_tl ?_
      have e := fold_rep c n.toNat #[]
      exact e
end Rg

set_option Elab.async false
set_option linter.all false
set_option maxRecDepth 100000
set_option maxHeartbeats 4000000
/-! ### t[::-1] of a tuple -/
namespace Rv
open PySem PyProof.Rows
section
variable {pr : Program} {wd : World} {B : Around} {Er : Value → Shared → Prop} {z : Shared}
theorem back_places (n : Nat) : Builtin.Slice.slicePlaces ((n : Int) - 1) (-1) (-1) = n := by
  simp only [Builtin.Slice.slicePlaces, show ¬ ((-1 : Int) > 0) by omega, show (-(-1 : Int)) = 1 by omega, Int.ediv_one, if_false]
  split <;> omega
theorem back_pick (l : List Value) : ∀ k, k ≤ l.length → ((List.range k).filterMap fun (m : Nat) => l.toArray[((l.length : Int) - 1 + (m : Int) * (-1)).toNat]?) = l.reverse.take k
  | 0, _ => by simp
  | k + 1, hk => by
    have hl : ((l.length : Int) - 1 + (k : Int) * (-1)).toNat = l.length - 1 - k := by omega
    have e : l.reverse[k]? = l.toArray[l.length - 1 - k]? := by
      rw [List.getElem?_reverse (by omega)]
      simp
    rw [List.range_succ, List.filterMap_append, back_pick l k (by omega), List.take_add_one, e, List.filterMap_cons, hl]
    cases l.toArray[l.length - 1 - k]? <;> rfl
theorem its_fields {sl : Addr} {u v x : Value} {Q : Value × Value × Value → Shared → Prop} (hs : z.heap.IsSliceOf sl u v x) (h : Q (u, v, x) z) : wpAny (model pr wd) B (Builtin.Slice.sliceFields (.ref sl)) Q Er z := by
  obtain ⟨o, g, _, e⟩ := hs
  exact wpAny_bind (wpAny_field g e (x := u) rfl (wpAny_bind (wpAny_field g e (x := v) rfl (wpAny_bind (wpAny_field g e (x := x) rfl (wpAny_pure h))))))
theorem back_applied {sl : Addr} {vk : Value} {n : Nat} {Q : Int × Int × Nat → Shared → Prop} (hs : z.heap.IsSliceOf sl .none .none vk) (pk : IsPart vk (some (-1))) (h : Q ((n : Int) - 1, -1, n) z) :
    wpAny (model pr wd) B (Builtin.Slice.sliceApplied (.ref sl) (pure (n : Int))) Q Er z := by
  have fin : wpAny (model pr wd) B (pure ((n : Int) - 1, (-1 : Int), Builtin.Slice.slicePlaces ((n : Int) - 1) (-1) (-1))) Q Er z := by
    rw [back_places]
    exact wpAny_pure h
  have parts : wpAny (model pr wd) B (Builtin.Slice.slicePartIndex vk) (fun c s' => c = some (-1) ∧ s' = z) Er z := HT.slicePart_ pk ⟨rfl, rfl⟩
  refine wpAny_bind (its_fields hs (wpAny_bind (wpAny_mono parts (fun c s' hc => ?_) fun _ _ e => e)))
  obtain ⟨rfl, rfl⟩ := hc
  exact wpAny_bind (slicePart_none (wpAny_bind (slicePart_none (wpAny_bind (wpAny_pure fin)))))
/-- what tuple.__getitem__ answers -/
theorem back_body {t sl : Addr} {l : List Value} {vk : Value} {R : Fin → Shared → Prop} (ht : IsTup z.heap t l.toArray) (hs : z.heap.IsSliceOf sl .none .none vk) (pk : IsPart vk (some (-1))) (hl : l.length ≤ sizeLine)
    (h : R (.done (.ret (.ref z.heap.objs.size))) { z with heap := z.heap.push { cls := .type "tuple", data := .seq l.reverse.toArray } }) : wpAny (model pr wd) B (Builtin.«tuple.__getitem__» ⟨[.ref t, .ref sl], []⟩) R Er z := by
  have hT : z.TypeIs (.ref sl) "slice" := hs.elim fun o k => ⟨o, k.1, k.2.1⟩
  have size : sizeOk (.seq l.reverse.toArray) := show l.reverse.toArray.size ≤ sizeLine by simpa using hl
  have pick : ((List.range l.toArray.size).filterMap fun (k : Nat) => l.toArray[((l.toArray.size : Int) - 1 + (k : Int) * (-1)).toNat]?).toArray = l.reverse.toArray := by
    rw [List.size_toArray, back_pick l l.length (Nat.le_refl _), List.take_of_length_le (Nat.le_of_eq List.length_reverse)]
  have step : (((l.toArray.size : Int) - 1 == 0 && (-1 : Int) == 1 && l.toArray.size == l.toArray.size) : Bool) = false := by
    rw [show ((-1 : Int) == 1) = false from rfl, Bool.and_false, Bool.false_and]
  refine wpAny_bind (m := Builtin.Tuple.tupleItemsOf (.ref t)) (tupleItemsOf_ ht (wpAny_bind (wpAny_typeOf hT ?_)))
  rw [if_pos (show (Value.type "slice" == Value.type "slice") = true from rfl)]
  refine wpAny_bind (back_applied (n := l.toArray.size) hs pk ?_)
  show wpAny (model pr wd) B (if ((l.toArray.size : Int) - 1 == 0 && (-1 : Int) == 1 && l.toArray.size == l.toArray.size) = true then _ else _) R Er z
  rw [step, if_neg Bool.false_ne_true, pick]
  first
    | exact wpAny_bind (m := Builtin.Tuple.tupleExact l.reverse.toArray) (wpAny_newObj_type (wpAny_pure h) size)
    | exact wpAny_bind (m := Builtin.Tuple.tupleExact l.reverse.toArray) (wpAny_newObj_type (wpAny_bind (wpAny_pure (wpAny_pure h))) size)
    | exact wpAny_bind (wpAny_bind (m := Builtin.Tuple.tupleExact l.reverse.toArray) (wpAny_newObj_type (wpAny_pure (wpAny_pure h)) size))
    | exact wpAny_bind (wpAny_bind (m := Builtin.Tuple.tupleExact l.reverse.toArray) (wpAny_newObj_type (wpAny_pure h) size))
theorem back_item {t sl : Addr} {l : List Value} {vk : Value} {Q : Value → Shared → Prop} (ht : IsTup z.heap t l.toArray) (hs : z.heap.IsSliceOf sl .none .none vk) (pk : IsPart vk (some (-1))) (hl : l.length ≤ sizeLine)
    (h : Q (.ref z.heap.objs.size) { z with heap := z.heap.push { cls := .type "tuple", data := .seq l.reverse.toArray } }) : wpAny (model pr wd) B (getItem (.ref t) (.ref sl)) Q Er z := by
  have road : wpAny (model pr wd) B (call (.builtin "tuple.__getitem__") [.ref t, .ref sl]) Q Er z := wpAny_call_entry PyProof.Rows.slot_tuple_getitem ht.typeIs entry_tuple_getitem (back_body ht hs pk hl ⟨_, rfl, h⟩) (args_tuple_getitem _ _)
  have found : wpAny (model pr wd) B (callSpecial? (.ref t) "__getitem__" [.ref sl]) (fun o s' => ∃ v, o = some v ∧ Q v s') Er z := wpAny_callSpecial?_slot ht.typeIs PyProof.Rows.slot_tuple_getitem (wpAny_mono road (fun v s' q => ⟨v, rfl, q⟩) fun _ _ e => e)
  unfold getItem
  first
    | refine wpAny_holding (wpAny_bind (wpAny_pure (wpAny_bind (wpAny_sequenceKey ht.typeIs (by decide) (wpAny_bind (wpAny_mono found (fun o s' q => ?_) fun _ _ e => e))))))
    | refine wpAny_bind (wpAny_pure (wpAny_bind (wpAny_sequenceKey ht.typeIs (by decide) (wpAny_bind (wpAny_mono found (fun o s' q => ?_) fun _ _ e => e)))))
    | refine wpAny_holding (wpAny_bind (wpAny_sequenceKey ht.typeIs (by decide) (wpAny_bind (wpAny_mono found (fun o s' q => ?_) fun _ _ e => e))))
    | refine wpAny_bind (wpAny_sequenceKey ht.typeIs (by decide) (wpAny_bind (wpAny_mono found (fun o s' q => ?_) fun _ _ e => e)))
  obtain ⟨v, rfl, q⟩ := q
  first
    | exact wpAny_pure q
    | exact wpAny_bind (wpAny_pure q)
end
end Rv
namespace Rg
open PySem L2 PySem.Spec PyProof.Rows
def tRevT (K : PySem.W.Frag) (te : TE) : TE := fun σ H Q => te σ H fun x H1 => ∃ a xs, x = .ref a ∧ SqT K H1 a xs ∧ ∀ p, H1 p = none → Q (.ref p) (upd H1 p (.tup xs.reverse))
section
variable {X : Cx}
theorem pe_revLX (K : PySem.W.Frag) {e : Expr} {te : TE} {k : Nat} {p1 p2 p3 pos : Pos} (he : PE X e te) (hK : X.K = K := by rfl) : PE X (.Subscript e (.Slice none none (some (.UnaryOp .USub (.Constant (.int 1) k p1) p2)) p3) pos) (tRevL K te) := by
  subst hK
  exact pe_revL he
/-- the slice object of «::-1» -/
theorem sl_back {pins : List (Addr × Obj)} {z : Shared} {σ : L2.St} {H : Hp} {R : Value → Shared → Prop} {k : Nat} {p1 p2 p3 : Pos} (I : Inv X pins σ H z)
    (h : ∀ vk z1, Inv X pins σ H z1 → IsPart vk (some (-1)) → R (.ref z1.heap.objs.size) { z1 with heap := z1.heap.push { cls := .type "slice", data := .fields #[.none, .none, vk] } }) :
    wpAny (model X.prog X.w) X.A (eval (.Slice none none (some (.UnaryOp .USub (.Constant (.int 1) k p1) p2)) p3) X.env) R X.xe z := by
  have st : PO X (some (.UnaryOp .USub (.Constant (.int 1) k p1) p2)) (tPart (tUn (rU fun i => .int (-i)) (tC (.int 1)))) := po_some (pe_un un_neg pe_int)
  have go := st.run pins z σ H (fun o H' => o = some (-1) ∧ H' = H) I ⟨1, rfl, -1, rfl, rfl, rfl⟩
  refine wpAny_Slice ?_
  rw [evalPart_none]
  refine wpAny_pure (wpAny_pure (thn go fun vk z1 hv => ?_))
  obtain ⟨o, H1, J, pk, eo, eh⟩ := hv
  subst eo eh
  exact h vk z1 J pk
theorem pe_revT (K : PySem.W.Frag) {e : Expr} {te : TE} {k : Nat} {p1 p2 p3 pos : Pos} (he : PE X e te) (hK : X.K = K := by rfl) : PE X (.Subscript e (.Slice none none (some (.UnaryOp .USub (.Constant (.int 1) k p1) p2)) p3) pos) (tRevT K te) := by
  subst hK
  constructor
  intro pins z σ H Q I hq
  refine Subscript_ (thn (he.run pins z σ H _ I hq) fun v z1 hv => ?_)
  obtain ⟨y, H1, J, ry, a, xs, rfl, hx, q⟩ := hv
  cases ry
  refine sl_back J fun vk z2 J2 pk => ?_
  have J3 : Inv X pins σ H1 { z2 with heap := z2.heap.push { cls := .type "slice", data := .fields #[.none, .none, vk] } } := J2.kept (t' := z2.toks) fun _ _ g => Heap.get?_push_of_some _ g
  obtain ⟨its, r, ht, hz⟩ := J3.tuple hx
  have hn : its.length ≤ sizeLine := r.length ▸ hz
  have made : ObjOk X.prog X.w (upd H1 (z2.heap.push { cls := .type "slice", data := .fields #[.none, .none, vk] }).objs.size (.tup xs.reverse)) ((z2.heap.push { cls := .type "slice", data := .fields #[.none, .none, vk] }).push { cls := .type "tuple", data := .seq its.reverse.toArray }) (z2.heap.push { cls := .type "slice", data := .fields #[.none, .none, vk] }).objs.size (.tup xs.reverse) :=
    ⟨by rw [List.length_reverse]; exact hz, _, r.reverse, IsTup.new _ _⟩
  have J4 := J3.laid (t' := z2.toks) (o := .tup xs.reverse) (fun _ _ g => Heap.get?_push_of_some _ g) (Nat.le_refl _) made
  exact tail_any (ops := [.ref a, .ref z2.heap.objs.size]) ht.typeIs (PyProof.Rows.slot_tuple_getitem.lookup) (Rv.back_item ht (Heap.IsSliceOf.new _ _ _ vk) pk hn ⟨.ref _, _, J4, rfl, q _ (J3.hok.fresh (Nat.le_refl _))⟩) (by with_unfolding_all rfl)
theorem revL {K : PySem.W.Frag} {te : TE} {σ : L2.St} {H : Hp} {Q : VK} (q : te σ H fun x H1 => ∃ a xs, x = .ref a ∧ SqL K H1 a xs ∧ ∀ p, H1 p = none → Q (.ref p) (upd H1 p (.lst xs.reverse))) : tRevL K te σ H Q := q
theorem revT {K : PySem.W.Frag} {te : TE} {σ : L2.St} {H : Hp} {Q : VK} (q : te σ H fun x H1 => ∃ a xs, x = .ref a ∧ SqT K H1 a xs ∧ ∀ p, H1 p = none → Q (.ref p) (upd H1 p (.tup xs.reverse))) : tRevT K te σ H Q := q
/-- x += y: ints, texts, lists -/
def ipX : TIp := fun x y H Q => (∃ i j, x = .int i ∧ y = .int j ∧ Q (.int (i + j)) H) ∨ (∃ i j, x = .str i ∧ y = .str j ∧ i.length + j.length ≤ sizeLine ∧ Q (.str (i ++ j)) H) ∨ rExt2 x y H Q
theorem ip_X : PIp X .Add ipX := by
  intro pins s σ H x y v u Q I r1 r2 h
  rcases h with h | h | h
  · exact ip_add pins s σ H x y v u Q I r1 r2 h
  · exact iop_add_str pins s σ H x y v u Q I r1 r2 h
  · exact iop_ext pins s σ H x y v u Q I r1 r2 h
theorem aug {i : Nat} {te : TE} {D : Ends} {σ : L2.St} {H : Hp} {x : V} (h : σ[i]? = some (some x)) (q : te σ H fun y H1 => ipX x y H1 fun z H2 => D.nx (σ.set i (some z)) H2) : tAug i te ipX D σ H := ⟨x, h, q⟩
theorem ipI2 {i j : Int} {H : Hp} {Q : VK} (q : Q (.int (i + j)) H) : ipX (.int i) (.int j) H Q := .inl ⟨i, j, rfl, rfl, q⟩
theorem ipS2 {i j : Str} {H : Hp} {Q : VK} (h : i.length + j.length ≤ sizeLine) (q : Q (.str (i ++ j)) H) : ipX (.str i) (.str j) H Q := .inr (.inl ⟨i, j, rfl, rfl, h, q⟩)
theorem ipL2 {l b : Addr} {xs zs : List V} {H : Hp} {Q : VK} (h : H l = some (.lst xs)) (h2 : H b = some (.lst zs)) (h3 : xs.length + zs.length ≤ sizeLine) (q : Q (.ref l) (upd H l (.lst (xs ++ zs)))) : ipX (.ref l) (.ref b) H Q := .inr (.inr ⟨l, b, xs, zs, rfl, rfl, h, h2, h3, q⟩)
theorem pa_starX (K : PySem.W.Frag) {e : Expr} {es : List Expr} {te : TE} {t : TA} {p : Pos} (he : PE X e te) (hr : PA X es t) (hK : X.K = K := by rfl) (hs : starEach (.Starred e p :: es) X.env = (true, eval e X.env) :: starEach es X.env := by rfl) : PA X (.Starred e p :: es) (StX.tStar K te t) := by
  subst hK
  exact StX.pa_star he hr hs
theorem star {K : PySem.W.Frag} {te : TE} {t : TA} {σ : L2.St} {H : Hp} {Q : List V → Hp → Prop} (q : te σ H fun x H1 => ∃ p xs, x = V.ref p ∧ (SqT K H1 p xs ∨ SqL K H1 p xs) ∧ t σ H1 fun ys H2 => Q (xs ++ ys) H2) : StX.tStar K te t σ H Q := q
theorem iT {K : PySem.W.Frag} {tl : TE} {σ : L2.St} {H : Hp} {R : It → Hp → Prop} (q : tl σ H fun x H1 => ∃ a, x = .ref a ∧ (∃ xs, SqT K H1 a xs) ∧ R (Itt K a) H1) : iTup K tl σ H R := q
theorem toV {v : V} {H : Hp} {Q : VK} {g : VK → Prop} (h : Q v H) (k : ∀ Q' : VK, Q' v H → g Q') : g Q := k Q h
theorem toH {v : V} {H : Hp} {Q : VK} {g : VK → Prop} (h : ∀ H', Same H H' → Q v H') (k : ∀ Q' : VK, (∀ H', Same H H' → Q' v H') → g Q') : g Q := k Q h
theorem S_emp (l : List Nat) : decide (SX.S l = Str.ofString "") = decide (l = []) := by
  rw [empty_S]
  refine decide_eq_decide.mpr ⟨fun h => ?_, fun h => by rw [h]⟩
  have e : (SX.S l).cps.toList = (SX.S []).cps.toList := by rw [h]
  simpa [SX.S] using e
theorem jc {t : TE} {ts : List TE} {acc : Str} {σ : L2.St} {H : Hp} {Q : Str → Hp → Prop} (q : t σ H fun x H1 => ∃ y : Str, x = .str y ∧ (acc ++ y).length ≤ sizeLine ∧ tJs ts (acc ++ y) σ H1 Q) : tJs (t :: ts) acc σ H Q := q
theorem jn {acc : Str} {σ : L2.St} {H : Hp} {Q : Str → Hp → Prop} (q : Q acc H) : tJs [] acc σ H Q := q
theorem jX {ts : List TE} {σ : L2.St} {H : Hp} {Q : VK} (q : tJs ts Str.empty σ H fun out H1 => Q (.str out) H1) : (fun (σ : L2.St) (H : Hp) (Q : VK) => tJs ts Str.empty σ H fun out H1 => Q (.str out) H1) σ H Q := q
theorem fm {te : TE} {σ : L2.St} {H : Hp} {Q : VK} (q : te σ H fun x H1 => (∃ y : Str, x = .str y ∧ y.length ≤ sizeLine ∧ Q (.str y) H1) ∨ ∃ i : Int, x = .int i ∧ i.natAbs.log2 < 1920 ∧ Q (.str (toString i)) H1) : tFmt te σ H Q := q
theorem cut_m1 (xs : List V) : cutV xs none (some (-1)) = xs.dropLast := by
  unfold cutV
  rw [List.dropLast_eq_take]
  show ((xs.drop 0).take (HT.sIx xs.length xs.length (some (-1)) - 0)) = _
  rw [List.drop_zero, Nat.sub_zero]
  congr 1
  unfold HT.sIx
  simp
  omega
theorem iteNt {A B : Prop} (h : B) : if (!true) = true then A else B := iteF h
theorem iteNf {A B : Prop} (h : A) : if (!false) = true then A else B := iteT h
theorem par3 {i j l : Nat} {aa : TA} {D : Ends} {σ : L2.St} {H : Hp} (q : aa σ H fun vs H1 => ∃ u v w, vs = [u, v, w] ∧ D.nx (((σ.set i (some u)).set j (some v)).set l (some w)) H1) : tPar3 i j l aa D σ H := q
theorem extrip {u v w : V} {R : V → V → V → Prop} (q : R u v w) : ∃ a b c, [u, v, w] = [a, b, c] ∧ R a b c := ⟨u, v, w, rfl, q⟩
theorem app {l : Addr} {xs : List V} {y : V} {H : Hp} {Q : VK} (h : H l = some (.lst xs)) (hz : xs.length < sizeLine) (q : Q .non (upd H l (.lst (xs ++ [y])))) : rAppend (.ref l) [y] H Q := ⟨l, xs, y, rfl, rfl, h, hz, q⟩
theorem popL {l : Addr} {xs : List V} {y : V} {H : Hp} {Q : VK} (h : H l = some (.lst (xs ++ [y]))) (q : Q y (upd H l (.lst xs))) : rPop (.ref l) [] H Q := by
  refine ⟨l, _, y, rfl, rfl, h, by simp, ?_⟩
  rw [List.dropLast_concat]
  exact q
theorem tyvL {K : PySem.W.Frag} {l : Addr} {xs : List V} {H : Hp} (h : H l = some (.lst xs)) : tyV K "list" (.ref l) H := .inl ⟨rfl, _, SqL.of h⟩
theorem same_mut {H H' : Hp} {x : Addr} {o : HO} (s : Same H H') (n : H x = none) : Same H (L2.upd H' x o) := fun c u e => by
  rw [upd_ne (ne_of_none e n)]
  exact s c u e
theorem atI_last {xs : List V} {y : V} : atI (xs ++ [y]) (-1) = some y := by
  have e : (xs ++ [y]).length = xs.length + 1 := by simp
  have h : ixN (xs.length + 1) (-1) = some xs.length := by
    unfold ixN
    simp
    try omega
  unfold atI
  rw [e, h]
  simp
end
end Rg

set_option Elab.async false
set_option linter.all false
set_option maxRecDepth 100000
set_option maxHeartbeats 4000000
/-! ### defs that an except suite calls with its exception -/
namespace Rg
open PySem PySem.Spec PyProof.Rows L2 HotX
/-- a promise that may speak of the handled exception: its address, class, dict -/
abbrev SpE := Addr → Value → Option Addr → Sp
structure FnE (P : Program) (w : World) (K : PySem.W.Frag) (mg : Str → Option Value) (base : Heap) (CX : CXT) (k : Nat) (f : Addr) (fd : FuncData) (ps : List Str) (sp : SpE) : Prop where
  many : ∀ {a : Addr} {c : Value} {d : Option Addr} {vs : List V} {H : Hp} {Q : VK} {E : XK}, sp a c d vs H Q E → vs.length = ps.length
  goes : ∀ {A : Around} {outer : List Env} {z : Shared} {H : Hp} {args : Args} {us : List Value} {vs : List V} {Q : VK} {E : XK} {p : Addr × Obj} {c : Value} {d : Option Addr},
    Zc c d p.2 → (∃ ws, p.2.data = .fields ws) → L2H.RoomH k A → L2H.PinOk outer H z p → Env0 P w K mg base A outer z H → BindsTo z fd args (ps.zip us) → Vals vs us → sp p.1 c d vs H Q E → codeAny (model P w) A (.call (.ref f) args) (CR CX outer P w H z Q E) z
section
variable {CX : CXT} {P : Program} {w : World} {K : PySem.W.Frag} {mg : Str → Option Value} {base : Heap} {k : Nat} {f : Addr}
/-- THE RULE for such a def: its body, run with the exception pinned -/
theorem FnE.of {x qual : Str} {params : Arguments} {body : List Stmt} {scope : Scope} {dV kV doc pm cdv ct oc : Value} {an od : Option Addr} {osl : Array (Option Value)} {N ps : List Str} {sp : SpE}
    (known : K.lookup f = some ⟨oc, od, .func (PySem.W.fnOf x qual params body scope dV kV doc pm an cdv ct), osl⟩) (code : PySem.W.codeIn K cdv qual = true) (S : FnScope N ps scope)
    (many : ∀ {a : Addr} {c : Value} {d : Option Addr} {vs : List V} {H : Hp} {Q : VK} {E : XK}, sp a c d vs H Q E → vs.length = ps.length)
    (runs : ∀ {A : Around} {outer : List Env} {z : Shared} {H : Hp} {vs : List V} {Q : VK} {E : XK} {p : Addr × Obj} {c : Value} {d : Option Addr}, Zc c d p.2 → (∃ ws, p.2.data = .fields ws) → L2H.RoomH k (A.deeper (envOfC qual scope z.heap.objs.size f cdv)) → sp p.1 c d vs H Q E →
      ∃ t, PSs (L2H.cxH CX P w K mg base N qual scope f cdv A outer z H E p) body t ∧ t { nx := fun _ H' => Q .non H', rt := Q } (L2.start N vs) H) :
    FnE P w K mg base CX (k + 1) f (PySem.W.fnOf x qual params body scope dV kV doc pm an cdv ct) ps sp where
  many := many
  goes := by
    intro A outer z H args us vs Q E p c d hz data room pin e0 binds rel promise
    have kept : ∀ b o, base.get? b = some o → z.heap.get? b = some o := fun b o g => (e0.bs b o g).1
    have inZ : K.In z.heap := e0.mod.kin.keeps kept
    have plain : ∀ y ∈ ps.zip us, scope.names.lookup y.1 = some .local ∨ (scope.names.lookup y.1 = some .cell ∧ ((cellsFrom (z.heap.objs.size + 1) scope.names []).lookup y.1).isSome = true) := by
      rintro ⟨n, u⟩ hy
      exact (S.par n (List.of_mem_zip hy).1).imp id fun c => ⟨c, PySem.W.cellsFrom_some _ _ _ (.inl c)⟩
    refine codeAny_call_function room.depth (inZ _ _ known) rfl S.co S.gen rfl (PySem.W.codeRec_of inZ code) (binds _ _ _ _ (wpAny_newFunctionEnv_cells S.kind plain fun env he z1 begun => ?_))
    cases he
    obtain ⟨t, ht, now⟩ := runs hz data (room.deeper _) promise
    have I := L2H.inv_startH (CX := CX) (E := E) (cd := cdv) S pin e0 (many promise) rel begun
    refine ⟨(e0.mod.nolimit.keeps kept).keeps begun.toInCall.keep, codeAny_func (wpAny_mono (ht.run [] z1 _ H _ I now) (fun way z2 done => ?_) fun _ _ out => out)⟩
    cases way with
    | ret u => exact done.elim fun v h => h.elim fun _ h => h.elim fun H2 h => ⟨v, H2, h.1.os, h.1.bare, h.1.base, h.1.hok, h.2.1, h.2.2⟩
    | next => exact done.elim fun _ h => h.elim fun H2 h => ⟨.non, H2, h.1.os, h.1.bare, h.1.base, h.1.hok, rfl, h.2⟩
    | brk => exact (done.elim fun _ h => h.elim fun _ h => h.2 : False).elim
    | cont => exact (done.elim fun _ h => h.elim fun _ h => h.2 : False).elim
end
section
variable {X : Cx} {CX : CXT} {k : Nat} {f : Addr} {fd : FuncData} {ps : List Str} {sp : SpE} {E : L2.St → XK} {x : Str} {pn pos : Pos} {e : Expr} {es : List Expr} {t : TA} {p : Addr × Obj} {c : Value} {d : Option Addr}
def tCE (sp : SpE) (a : Addr) (c : Value) (d : Option Addr) (E : L2.St → XK) (t : TA) : TE := fun σ H Q => t σ H fun vs H1 => sp a c d vs H1 Q (E σ)
/-- g(e, ..) where p's exception is handled -/
theorem pe_callE (F : FnE X.prog X.w X.K X.mg X.base CX k f fd ps sp) (room : L2H.RoomH k X.A) (hz : Zc c d p.2) (data : ∃ ws, p.2.data = .fields ws) (here : p ∈ X.pn) (hg : Gl X x) (hm : X.mg x = some (.ref f)) (hk : PySem.W.keepIn X.K (.ref f) = true) (hb : Binds X.K fd ps []) (out : ∀ σ, PassesAt CX X σ (E σ))
    (ha : PA X (e :: es) t) (nod : (x == ("__debug__" : Str)) = false := by decide) (each : starEach (e :: es) X.env = (false, eval e X.env) :: starEach es X.env := by rfl) (nostar : (backTo pos (starEach es X.env)).any (·.1) = false := by rfl) :
    PE X (.Call (.Name x pn) (e :: es) [] pos) (tCE sp p.1 c d E t) := by
  constructor
  intro pins z σ H Q I h
  have args := ha.run pos pins z σ H _ I h
  refine wpAny_Call_Name_kw (ld_glob I hg hm (PySem.W.callWith_K (h₀ := X.base) I.ok.mod.kin hk (thn args fun us z1 got => ?_) each nostar) nod)
  obtain ⟨vs, H1, J, rel, promise⟩ := got
  have lens : us.length = ps.length := rel.length ▸ F.many promise
  have bind : BindsTo z1 fd ⟨us, []⟩ (ps.zip us) := by
    have b := hb z1 us J.kIn (by rw [List.append_nil, lens])
    rwa [List.append_nil] at b
  obtain ⟨g1, g2, g3, g4, g5⟩ := J.pin p (List.mem_append_left _ here)
  have pin : L2H.PinOk X.stack H1 z1 p := ⟨g1, g2, fun m => (List.mem_cons.mp (J.stkSub p.1 m)).elim g3 g4, g5⟩
  refine ⟨J.kIn, wpAny_call (codeAny_mono (F.goes hz data room pin J.env0 bind rel promise) fun way z2 done => ?_)⟩
  match way, done with
  | .error er, done => exact out σ pins H1 z1 er z2 J done
  | .ok (.ret u), done => exact J.after done
/-- e.f, e the pinned exception -/
def tXfE (K : PySem.W.Frag) (a : Addr) (cls : Value) (d : Option Addr) (f : Str) (te : TE) : TE := fun σ H Q => te σ H fun x H1 => x = .ref a ∧ ∃ (C dd : Addr) (fs : List (Str × V)) (v : V), cls = .ref C ∧ d = some dd ∧ XfC K C ∧ PySem.W.findIn K (.ref C) f = some none ∧ H1 dd = some (.xd fs) ∧ fs.lookup f = some v ∧ Q v H1
theorem pe_xfE {te : TE} {n : Str} (hz : Zc c d p.2) (data : ∃ vs, p.2.data = .fields vs) (here : p ∈ X.pn) (he : PE X e te) (plain : attributeBase e n X.env (eval e X.env) = eval e X.env := by rfl) : PE X (.Attribute e n pos) (tXfE X.K p.1 c d n te) := by
  constructor
  intro pins z σ H Q I h
  refine attr_of plain (thn (he.run pins z σ H _ I h) fun u z1 got => ?_)
  obtain ⟨y, H1, J, ry, rfl, C, dd, fs, v, rfl, rfl, T, none_, hd, hv, q⟩ := got
  cases (show u = Value.ref p.1 from ry)
  have stands := (J.pin p (List.mem_append_left _ here)).1
  obtain ⟨m, ns, rel⟩ := (show ObjOk X.prog X.w H1 z1.heap dd (.xd fs) from J.hok dd _ hd)
  obtain ⟨od, ho, look⟩ := lookIn_ns ns
  obtain ⟨u, hu, ru⟩ := RelO.some_of (v := v) (o := m n) (hv ▸ rel n)
  obtain ⟨vs, hvs⟩ := data
  have inst : PySem.W.InstAt z1.heap p.1 p.2 C (some od) := ⟨stands, hz.1, (by unfold PySem.W.notCls; rw [hvs] <;> rfl), (by rw [hz.2]; exact ho)⟩
  exact HandSPX.exc_get J.kIn inst T.ga T.gg T.exC (PySem.W.findObj_own T.hdC none_ rfl (by rw [look, hu])) (handed_of ru) ⟨v, H1, J.tok _, ru, q⟩
end
end Rg
namespace Rg
open PySem L2
theorem op_eqU {X : Cx} (K : PySem.W.Frag) (hu : X.A.units + 64 < cLine) (hK : X.K = K := by rfl) : OpR X (compareOp .Eq) (rEqX K) := by
  subst hK
  exact OpR.or op_eq (op_eqD hu)
theorem xfI {K : PySem.W.Frag} {C dd a : Addr} {fs : List (Str × V)} {f : Str} {v : V} {σ : L2.St} {H : Hp} {Q : VK} {i : Nat} (hT : XfC K C) (hn : PySem.W.findIn K (.ref C) f = some none) (hd : H dd = some (.xd fs)) (hl : fs.lookup f = some v) (hs : σ[i]? = some (some (.ref a))) (q : Q v H) :
    tXfE K a (.ref C) (some dd) f (tVar i) σ H Q := ⟨_, hs, rfl, C, dd, fs, v, rfl, rfl, hT, hn, hd, hl, q⟩
end Rg
/-! ### try: .. except (x, y, z) as n: .. -/
namespace Rg
open PySem PySem.Spec PyProof.Rows L2
theorem flies_on {B h h2 : Heap} {l : List Env} {a : Addr} {Z : Obj → Prop} (kept : ∀ b o, h.get? b = some o → h2.get? b = some o) : HandSPX.FlyingZ B l a Z h → HandSPX.FlyingZ B l a Z h2
  | ⟨st, nb, fr, oe, vs, T, oT, ts, g, z, dt, r⟩ => ⟨fun b o e => kept b o (st b o e), nb, fr.of_keeps fun b o e _ => ⟨o, kept b o e, rfl⟩, oe, vs, T, oT, ts, kept _ _ g, z, dt, r.1, r.2.1, r.2.2.1, kept _ _ r.2.2.2.1, r.2.2.2.2⟩
/-- what such a clause wishes of an exception that flies out of the body; slot i is n's -/
def wAs3 (K : PySem.W.Frag) (c1 c2 c3 : Value) (i : Nat) (ts : Addr → Value → Option Addr → TS) (out : WX) (D : Ends) : WX := fun cls d σ H => ∃ b, PySem.W.exmAny K cls [c1, c2, c3] = some b ∧
  (b = false → out cls d σ H) ∧ (b = true → i < σ.length → ∀ a, H a = none → ts a cls d { nx := fun σ2 H2 => D.nx (σ2.set i none) H2, rt := D.rt, bk := fun σ2 H2 => D.bk (σ2.set i none) H2, ct := fun σ2 H2 => D.ct (σ2.set i none) H2 } (σ.set i (some (.ref a))) H)
section
variable {X : Cx} {x1 x2 x3 n : Str} {c1 c2 c3 : Value} {i kt : Nat} {b₀ : Stmt} {body suite : List Stmt} {q1 q2 q3 qt qh pos : Pos} {tb : WX → TS} {ts : Addr → Value → Option Addr → TS} {out : WX}
theorem ld_name {pins : List (Addr × Obj)} {z : Shared} {σ : L2.St} {H : Hp} {x : Str} {c : Value} {np : Pos} {Q Er : Value → Shared → Prop} (I : Inv X pins σ H z) (N : Names X x c) (h : Q c z) : wpAny (model X.prog X.w) X.A (eval (.Name x np) X.env) Q Er z :=
  N.2.2.elim (fun m => ld_glob I N.1 m h N.2.1) fun m => ld_blt I N.1 m.1 m.2.1 h m.2.2 N.2.1
/-- the clause's own tuple -/
theorem ld_three {pins : List (Addr × Obj)} {z : Shared} {σ : L2.St} {H : Hp} {Q Er : Value → Shared → Prop} (I : Inv X pins σ H z) (N1 : Names X x1 c1) (N2 : Names X x2 c2) (N3 : Names X x3 c3)
    (h : Q (.ref z.heap.objs.size) { z with heap := z.heap.push { cls := .type "tuple", data := .seq [c1, c2, c3].toArray } }) : wpAny (model X.prog X.w) X.A (eval (.Tuple [.Name x1 q1, .Name x2 q2, .Name x3 q3] kt qt) X.env) Q Er z := by
  have three : ([c1, c2, c3] : List Value).length ≤ sizeLine := by
    rw [sizeLine_eq]
    show 3 ≤ 16777216
    decide
  exact wpAny_Tuple_spliced (Calls.spliced_cons (ld_name I N1 (Calls.spliced_cons (ld_name I N2 (Calls.spliced_cons (ld_name I N3 (Calls.spliced_nil ⟨three, h⟩)))))))
/-- the suite has run: its name is unbound -/
theorem suite_done {pins : List (Addr × Obj)} {a : Addr} {oe : Obj} {D : Ends} {way : Flow} {z : Shared} (ok : X.Ok) (hN : X.N.Nodup) (hi : X.N[i]? = some n) (hln : X.env.kindOf n = some .local)
    (h : SP (X.suite a ((a, oe) :: (X.pn ++ pins))) [] { nx := fun σ2 H2 => D.nx (σ2.set i none) H2, rt := D.rt, bk := fun σ2 H2 => D.bk (σ2.set i none) H2, ct := fun σ2 H2 => D.ct (σ2.set i none) H2 } way z) :
    wpAny (model X.prog X.w) X.A (do bindName X.env n .none; unbindBehindTheSuite X.env n qh) (fun _ z2 => SP X pins D way z2) X.xe z := by
  have gone : ∀ {σ2 : L2.St} {H2 : Hp} {R : Shared → Prop}, Inv (X.suite a ((a, oe) :: (X.pn ++ pins))) [] σ2 H2 z → (∀ z2, Inv X pins (σ2.set i none) H2 z2 → R z2) → wpAny (model X.prog X.w) X.A (do bindName X.env n .none; unbindBehindTheSuite X.env n qh) (fun _ z2 => R z2) X.xe z :=
    fun J r => gone_ok (J.unsuite ok) hN hi hln r
  match way, h with
  | .ret _, ⟨v, _, _, J, r, q⟩ => exact gone J fun _ J2 => ⟨v, _, _, J2, r, q⟩
  | .next, ⟨_, _, J, q⟩ => exact gone J fun _ J2 => ⟨_, _, J2, q⟩
  | .brk, ⟨_, _, J, q⟩ => exact gone J fun _ J2 => ⟨_, _, J2, q⟩
  | .cont, ⟨_, _, J, q⟩ => exact gone J fun _ J2 => ⟨_, _, J2, q⟩
theorem ps_try_as3 (frames : X.stack = X.env :: X.outer) (lives : X.env.frame = some X.env.locals) (hN : X.N.Nodup) (hi : X.N[i]? = some n) (hln : X.env.kindOf n = some .local) (N1 : Names X x1 c1) (N2 : Names X x2 c2) (N3 : Names X x3 c3) (tk : Takes X out)
    (runs : ∀ (W : WX) (pn : List (Addr × Obj)) (xe : Value → Shared → Prop), Takes (X.tr pn xe) W → PassesOwn (model X.prog X.w) X.A X.env xe → PSs (X.tr pn xe) body (tb W))
    (held : ∀ (a : Addr) (oe : Obj) (cls : Value) (d : Option Addr) (pn : List (Addr × Obj)), Zc cls d oe → (∃ vs, oe.data = .fields vs) → PSs (X.suite a ((a, oe) :: pn)) (b₀ :: suite) (ts a cls d)) :
    PS X (.Try body [.ExceptHandler (some (.Tuple [.Name x1 q1, .Name x2 q2, .Name x3 q3] kt qt)) (some n) (b₀ :: suite) qh] [] [] pos) (fun D σ H => tb (wAs3 X.K c1 c2 c3 i ts out D) D σ H) := by
  constructor
  intro pins z σ H D I h
  have ok := I.ok
  have ours : X.A.frames = some (X.env :: X.outer) := frames ▸ ok.frames
  have takes : Takes (X.tr (X.pn ++ pins) fun e z1 => wpAny (model X.prog X.w) X.A (noteFrame e X.env) (fun _ z2 => wpAny (model X.prog X.w) X.A (setFlight e none) (fun _ z3 =>
      wpAny (model X.prog X.w) X.A (handleBy e X.env [.ExceptHandler (some (.Tuple [.Name x1 q1, .Name x2 q2, .Name x3 q3] kt qt)) (some n) (b₀ :: suite) qh]) (SP X pins D) X.xe z3) X.xe z2) X.xe z1) (wAs3 X.K c1 c2 c3 i ts out D) := by
    rintro _ z1 ⟨a, B, z0, pins0, σ1, H1, cls, d, rfl, J0, base_, slots, sky, na, os, bare, b, hb, no, yes⟩
    have J : Inv X pins σ1 H1 z0 := J0.ofTry ok
    rw [← show X.stack = X.env :: X.outer from frames] at ours
    refine Sky.land Zc.steady (frames ▸ ours) lives (frames ▸ sky) fun h2 flies up2 => ?_
    have J2 : Inv X pins σ1 H1 { z1 with heap := h2 } := J.landed base_ flies.1 (slots.trans up2) os bare
    have apart : ∀ {hh : Heap}, HandSPX.FlyingZ B (X.env :: X.outer) a (Zc cls d) hh → a ∉ frs (X.env :: X.outer) := fun fl m => by
      obtain ⟨oe, vs, g, _, dt⟩ := fl.there
      obtain ⟨_, o, g2, no_⟩ := fl.2.2.1.mem m
      cases g.symm.trans g2
      exact no_ vs dt
    have nL : a ≠ X.env.locals := fun e => apart flies (List.mem_filterMap.mpr ⟨X.env, List.mem_cons_self, lives.trans (congrArg some e.symm)⟩)
    have nF : a ∉ X.fs := fun m => by
      obtain ⟨e, he, q⟩ := List.mem_filterMap.mp m
      exact apart flies (List.mem_filterMap.mpr ⟨e, List.mem_cons_of_mem _ he, q⟩)
    obtain ⟨oe, vs, stands, hz, dt⟩ := flies.there
    -- the clause's test
    have push : ∀ b o, h2.get? b = some o → (h2.push { cls := .type "tuple", data := .seq [c1, c2, c3].toArray }).get? b = some o := fun _ _ g => Heap.get?_push_of_some _ g
    have flies3 := flies_on push flies
    have up3 := slots.trans (up2.trans (Heap.UpToSlots.of_keeps push))
    have J3 : Inv X pins σ1 H1 { z1 with heap := h2.push { cls := .type "tuple", data := .seq [c1, c2, c3].toArray } } := J.landed base_ flies3.1 up3 os bare
    have kind : PySem.W.Looks (model X.prog X.w) (h2.push { cls := .type "tuple", data := .seq [c1, c2, c3].toArray }) (typeOf (.ref a)) cls := fun _ _ _ _ k q => wpAny_typeOf_ref (k _ _ (push _ _ stands)) (by rw [hz.1]; exact q)
    have asked := PySem.W.exm_tup3 (M := model X.prog X.w) J3.kIn kind (Heap.get?_push_size h2 rfl) hb
    refine wpAny_handleBy_cons (codeAny_handlers_test ?_) (fun q => by cases q)
    refine ld_three (X := X.suite a ((a, oe) :: (X.pn ++ pins))) (J2.suite stands dt na nL nF) N1 N2 N3 ?_
    refine asked.here ?_
    cases b with
    | false =>
      show wpAny _ X.A (handleBy (.ref a) X.env []) _ _ _
      refine wpAny_handleBy_nil ?_
      have on : wpAny (model X.prog X.w) X.A (setFlight (.ref a) X.env.frame) (fun _ z4 => wpAny (model X.prog X.w) X.A (throw (.ref a) : Sem Flow) (SP X pins D) X.xe z4) X.xe { z1 with heap := h2.push { cls := .type "tuple", data := .seq [c1, c2, c3].toArray } } := by
        rw [lives]
        exact HandSPX.setFlight_upZ flies3 fun h4 hh4 up4 => wpAny_throw (tk _ _ ⟨a, B, z0, pins, σ1, H1, cls, d, rfl, J, base_, up3.trans up4, .inr (.inr (frames ▸ hh4)), na, os, bare, no rfl⟩)
      obtain ⟨_, _, _, o5, v5, T, _, _, g5, _, d5, f5, _⟩ := id flies3
      unfold PySem.passOn
      refine wpAny_bind (wpAny_field g5 d5 f5 ?_)
      rw [if_neg (show ¬ ((Value.ref T == Value.none) = true) from fun q => by cases q)]
      first
        | exact wpAny_bind on
        | exact wpAny_bind (wpAny_pure (wpAny_bind on))
    | true =>
      refine codeAny_handlers_suite_as (HandSPX.lands_againZ flies3 fun h4 flies4 up4 => ?_)
      obtain ⟨o4, v4, g4, z4, d4⟩ := flies4.there
      have J4 : Inv X pins σ1 H1 { z1 with heap := h4 } := J.landed base_ flies4.1 (up3.trans up4) os bare
      refine store_ok (X := X.suite a ((a, o4) :: (X.pn ++ pins))) (v := .ref a) (J4.suite g4 d4 na nL nF) hN hi (.inl hln) rfl (fun z5 J5 => ?_) (.inr hln)
      exact wpAny_mono ((held a o4 cls d (X.pn ++ pins) z4 ⟨_, d4⟩).run [] z5 _ H1 _ J5 (yes rfl (by rw [J4.len]; exact (List.getElem?_eq_some_iff.mp hi).1) a na)) (fun way z6 done => suite_done ok hN hi hln done) fun _ _ never => never.elim
  refine wpAny_Try_except (wpAny_mono ((runs _ _ _ takes PassesOwn.looking).run [] z σ H D (I.toTry _) h) (fun way z1 done => ?_) fun _ _ e => e)
  match way, done with
  | .next, ⟨_, _, J, q⟩ => exact wpAny_execs_nil ⟨_, _, J.ofTry ok, q⟩
  | .ret _, ⟨v, _, _, J, r, q⟩ => exact ⟨v, _, _, J.ofTry ok, r, q⟩
  | .brk, ⟨_, _, J, q⟩ => exact ⟨_, _, J.ofTry ok, q⟩
  | .cont, ⟨_, _, J, q⟩ => exact ⟨_, _, J.ofTry ok, q⟩
end
end Rg

set_option Elab.async false
set_option linter.all false
set_option maxRecDepth 100000
set_option maxHeartbeats 4000000
/-! ### for i, x in enumerate(a tuple) -/
namespace EnT
open PySem PySem.Spec PyProof.Rows L2
abbrev itO (t : Addr) : Obj := { cls := .type "tuple_iterator", data := .fields #[.ref t, .int 0 0] }
abbrev enO (j : Addr) : Obj := { cls := .type "enumerate", data := .fields #[.none, .bool false, .ref j, rawInt 0, .none, .none] }
abbrev enH (h : Heap) (t : Addr) : Heap := (h.push (itO t)).push (enO h.objs.size)
theorem born (t : Addr) (items : Array Value) :
    Meets (Builtin.«enumerate.__new__» ⟨[.type "enumerate", .ref t], []⟩) (fun _ R z => z.heap.IsTuple t items ∧ R (.ok (.ret (.ref (z.heap.push (itO t)).objs.size))) { z with heap := enH z.heap t }) := by
  refine .of_wp fun prog w A R z hz => ?_
  obtain ⟨hh, gg, dd, tt, oo⟩ := z
  have below := sub_enumerate
  have begun : ∀ {A1 : Around} {E1 Q1 : Value → Shared → Prop}, Q1 (.ref hh.objs.size) ⟨hh.push (itO t), gg, dd, tt, oo⟩ → wpAny (model prog w) A1 (pyIter (.ref t)) Q1 E1 ⟨hh, gg, dd, tt, oo⟩ :=
    fun q1 => wpAny_pyIter_tuple (s := ⟨hh, gg, dd, tt, oo⟩) hz.1 q1
  wp_walk using begun
  refine wpAny_stack_any fun below_ => wpAny_pure ?_
  split
  · rename_i c _ _ _ _ _
    cases (c == Value.type "enumerate") <;> (wp_walk using begun) <;> exact ⟨_, rfl, hz.2⟩
  · wp_walk using begun
    exact ⟨_, rfl, hz.2⟩
theorem makes {prog : Program} {w : World} {B : Around} {Er : Value → Shared → Prop} {z : Shared} {t : Addr} {items : Array Value} {Q : Value → Shared → Prop} (ht : z.heap.IsTuple t items)
    (q : IsEnum (enH z.heap t) (z.heap.objs.size + 1) z.heap.objs.size 0 .none → (enH z.heap t).IsTupleIter z.heap.objs.size t 0 → (∀ b o, z.heap.get? b = some o → (enH z.heap t).get? b = some o) → Q (.ref (z.heap.objs.size + 1)) { z with heap := enH z.heap t }) :
    wpAny (model prog w) B (call (.type "enumerate") [.ref t]) Q Er z := by
  have size1 : (z.heap.push (itO t)).objs.size = z.heap.objs.size + 1 := Heap.size_push ..
  have isE : IsEnum (enH z.heap t) (z.heap.objs.size + 1) z.heap.objs.size 0 .none := by
    have e := Heap.get?_push_size (z.heap.push (itO t)) (o := enO z.heap.objs.size) rfl
    rw [size1] at e
    exact e
  refine callType_new F.called_enumerate (by decide) (F.typeCall_enumerate_1 _) (F.newCall_enumerate_1 _) (fun ob => F.args_object_init_2 ob _) F.entry_enumerate_new (born t items) ⟨ht, ?_⟩
  show _ ∧ _
  rw [size1]
  exact ⟨⟨_, isE, rfl⟩, q isE ⟨_, Heap.get?_push_of_some _ (Heap.get?_push_size _ rfl), rfl, rfl⟩ fun b o g => Heap.get?_push_of_some _ (Heap.get?_push_of_some _ g)⟩
/-- what such a walk gives: new pairs -/
def Iet (K : PySem.W.Frag) (a : Addr) : It where
  go := fun i H => ∃ (xs : List V) (x : V), SqT K H a xs ∧ xs[i]? = some x
  yld := fun i H v H' => ∃ T x, v = .ref T ∧ H T = none ∧ H' = upd H T (.tup [.int (i : Nat), x]) ∧ ∀ xs, SqT K H a xs → xs[i]? = some x
  stop := fun i H => ∃ xs : List V, SqT K H a xs ∧ xs.length ≤ i
theorem apart {h : Heap} {a e it : Addr} {items : Array Value} {i : Nat} {j : Int} {old : Value} (ht : h.IsTuple a items) (hi : h.IsTupleIter it a i) (he : IsEnum h e it j old) : a ≠ it ∧ e ≠ a := by
  obtain ⟨o, g, c, n, d⟩ := ht
  refine ⟨fun z => ?_, fun z => ?_⟩
  · obtain ⟨o2, g2, c2, d2⟩ := hi
    rw [← z, g] at g2
    obtain rfl := Option.some.inj g2
    rw [d] at d2
    cases d2
  · have g2 : h.get? e = _ := he
    rw [z, g] at g2
    obtain rfl := Option.some.inj g2
    cases d
theorem turns {P : Program} {w : World} {K : PySem.W.Frag} {elts : List Expr} {kk : Nat} {tp : Pos} (a e it : Addr) :
    Turn P w K (.Tuple elts kk tp) (Iet K a) [e, it] e (fun i h => (∃ old, IsEnum h e it ((i : Nat) : Int) old) ∧ h.IsTupleIter it a i ∧ e ≠ it) where
  mem := List.mem_cons_self
  obj := fun i h st b hb => by
    obtain ⟨⟨old, he⟩, ⟨o, g, _, d⟩, _⟩ := st
    rcases List.mem_cons.mp hb with rfl | hb
    · exact ⟨_, he, fun v z => nomatch z⟩
    · rw [List.mem_singleton.mp hb]
      refine ⟨o, g, fun v z => ?_⟩
      rw [d] at z
      cases z
  keep := fun i h h' st kp => by
    obtain ⟨⟨old, he⟩, hi, ne⟩ := st
    exact ⟨⟨old, kp e List.mem_cons_self _ he⟩, hi.at fun o g => kp it (by simp) o g, ne⟩
  item := by
    intro X eP eW eK calm i pins z σ H Er I free st more
    subst eP eW eK
    obtain ⟨⟨old, he⟩, hi, ne⟩ := st
    obtain ⟨xs, x, seq, hx⟩ := more
    obtain ⟨its, rel, tup, _⟩ := I.tuple seq
    obtain ⟨u, hu, ru⟩ := rel.get hx
    have ht : z.heap.IsTuple a its.toArray := tup
    obtain ⟨n1, n2⟩ := apart ht hi he
    have lt : i < its.toArray.size := by
      obtain ⟨lt, _⟩ := List.getElem?_eq_some_iff.mp hu
      simpa using lt
    have le : e < z.heap.objs.size := Heap.lt_size he
    have li : it < z.heap.objs.size := by
      obtain ⟨_, g, _⟩ := hi
      exact Heap.lt_size g
    refine wpAny_pyNext_enum_itemD (Draws.tuple (prog := X.prog) (w := X.w) (A := X.A.in1) (I.ok.hd calm) it a n1 its.toArray) he ⟨hi, ht⟩ lt ne (by simp [ne, n2]) fun v h1 tk1 hv out hi1 mk _ kp => ?_
    obtain rfl : u = v := Option.some.inj ((by simpa using hu : its.toArray[i]? = some u).symm.trans hv)
    refine ⟨_, rfl, wpAny_letOwnedTupleGo_enum (s := { z with heap := h1, toks := tk1 + 1 }) out fun h2 isE same => ?_⟩
    have mk2 := (same.2 z.heap.objs.size (Nat.ne_of_gt le)).trans mk
    have ok2 : ObjOk X.prog X.w (upd H z.heap.objs.size (.tup [.int (i : Nat), x])) h2 z.heap.objs.size (.tup [.int (i : Nat), x]) := ⟨(by decide : 2 ≤ sizeLine), [.int i tk1, u], .cons ⟨_, rfl⟩ (.cons ru .nil), ⟨_, mk2, rfl, _, rfl⟩⟩
    have J := I.turnedNew (t' := tk1 + 1) (ch := [e, it]) (h' := h2) (fun b o nb g => (same.2 b fun c => nb (c ▸ List.mem_cons_self)).trans (kp b o (fun c => nb (c ▸ List.mem_cons_self)) (fun c => nb (by simp [c])) g)) free (Nat.le_refl _) ok2
    refine ⟨_, _, J, show RelV (.ref z.heap.objs.size) _ from rfl, ⟨_, x, rfl, I.hok.fresh (Nat.le_refl _), rfl, fun ys hy => (I.tuple_inj hy seq) ▸ hx⟩, ⟨⟨u, ?_⟩, hi1.1.at fun o g => (same.2 it ne.symm).trans g, ne⟩, fun b hb => ?_⟩
    · rw [show ((i + 1 : Nat) : Int) = (i : Int) + 1 from Int.natCast_succ i]
      exact isE
    · have lb : b < z.heap.objs.size := (List.mem_cons.mp hb).elim (fun c => c ▸ le) fun hb => List.mem_singleton.mp hb ▸ li
      rw [upd_ne (Nat.ne_of_lt lb)]
      exact (free b hb).1
  done := by
    intro X eP eW eK calm i pins z σ H Er I free st over
    subst eP eW eK
    obtain ⟨⟨old, he⟩, hi, ne⟩ := st
    obtain ⟨xs, seq, hx⟩ := over
    obtain ⟨its, rel, tup, _⟩ := I.tuple seq
    have ht : z.heap.IsTuple a its.toArray := tup
    obtain ⟨n1, n2⟩ := apart ht hi he
    have len := rel.length
    obtain ⟨f0, f1, f2, f3, f4, f5⟩ := free it (by simp)
    have big : its.toArray[i]? = none := by
      simp only [List.getElem?_toArray, List.getElem?_eq_none_iff]
      omega
    have ends : ∀ (z2 : Shared) (Q2 : Value → Shared → Prop) (E2 : Value → Shared → Prop), z2.heap.IsTupleIter it a i ∧ z2.heap.IsTuple a its.toArray → (∀ h' e2, Heap.ExtBut it z2.heap h' → (∃ o, h'.get? e2 = some o ∧ o.cls = .type "StopIteration") → E2 (.ref e2) { z2 with heap := h' }) →
        wpAny (model X.prog X.w) X.A.in1 (Builtin.SmallTypes.nextOf (.ref it)) Q2 E2 z2 := fun z2 Q2 E2 st2 hE => wpAny_nextOf_tuple_end (I.ok.hd calm) st2.1 st2.2 big hE
    refine wpAny_pyNext_enum_endD (n := i) (P := fun _ _ => True) (St := fun j h => j = i ∧ h.IsTupleIter it a i ∧ h.IsTuple a its.toArray) (fp := [it, a]) ⟨?_, ?_, ?_, ?_⟩ he ⟨rfl, hi, ht⟩ fun h' same => ⟨rfl, I.turned (t' := z.toks) (fun b o nb g => same b o nb g) f0 f1 f3 f4 f5⟩
    · exact fun j h st2 => st2.2.1.elim fun o g => ⟨o, g.1⟩
    · exact fun j h h' st2 kp => ⟨st2.1, st2.2.1.at fun o g => kp it (by simp) o g, st2.2.2.at fun o g => kp a (by simp) o g⟩
    · exact fun j z2 Q2 E2 lt st2 _ => absurd lt (by rw [st2.1]; exact Nat.lt_irrefl _)
    · exact fun z2 Q2 E2 st2 hE => ends z2 Q2 E2 st2.2 hE
  self := fun A i z Q E st h => st.1.elim fun _ he => wpAny_pyIter_enum he h
end EnT
namespace Rg
open PySem L2 PySem.Spec PyProof.Rows
/-- enumerate of a list or of a tuple -/
def iEnX (K : PySem.W.Frag) (ta : TA) : TI := fun σ H R => ta σ H fun vs H1 => ∃ a xs, vs = [.ref a] ∧ ((SqL K H1 a xs ∧ R (Ite K a) H1) ∨ (SqT K H1 a xs ∧ R (EnT.Iet K a) H1))
theorem pi_enX {X : Cx} (K : PySem.W.Frag) {e : Expr} {ta : TA} {p pos tp : Pos} {elts : List Expr} {kk : Nat} (hg : Gl X "enumerate") (hm : X.mg "enumerate" = none) (ha : PA X [e] ta) (hK : X.K = K := by rfl) (hs : starEach [e] X.env = [(false, eval e X.env)] := by rfl) :
    PI X (.Tuple elts kk tp) (.Call (.Name "enumerate" p) [e] [] pos) (iEnX K ta) := by
  subst hK
  have old := fun (ta' : TA) (ha' : PA X [e] ta') => pi_enum (p := p) (pos := pos) (tpos := tp) (elts := elts) (kk := kk) hg hm ha' hs
  constructor
  intro pins z σ H R I h
  refine Call_ (ld_blt I hg hm boot_enumerate (PyProof.Rows.callWith_type1 (thn (ha.run pos pins z σ H _ I h) fun us z1 got => ?_) hs rfl))
  obtain ⟨vs, H1, I1, rel, a, xs, rfl, q⟩ := got
  match us, rel with
  | [_], .cons r .nil =>
  cases r
  rcases q with ⟨seq, q⟩ | ⟨seq, q⟩
  · obtain ⟨its, rv, lst, _⟩ := I1.list seq
    refine call_enumerate_list lst.isList fun h' isE isI size kp => wpAny_pyIter_enum isE ?_
    have J : Inv X pins σ H1 { z1 with heap := h' } := I1.kept (t' := z1.toks) kp
    refine ⟨_, _, _, _, H1, rfl, J, turn_enum a (z1.heap.objs.size + 1) z1.heap.objs.size, ⟨⟨.none, isE⟩, isI, Nat.succ_ne_self _⟩, fun b hb => ?_, q⟩
    have big : z1.heap.objs.size ≤ b := (List.mem_cons.mp hb).elim (fun c => c ▸ Nat.le_succ _) fun hb => List.mem_singleton.mp hb ▸ Nat.le_refl _
    exact I1.fpOk big (I1.hok.fresh big)
  · obtain ⟨its, rv, tup, _⟩ := I1.tuple seq
    refine EnT.makes (items := its.toArray) (show z1.heap.IsTuple a its.toArray from tup) fun isE isI kp => wpAny_pyIter_enum isE ?_
    have J : Inv X pins σ H1 { z1 with heap := EnT.enH z1.heap a } := I1.kept (t' := z1.toks) kp
    refine ⟨_, _, _, _, H1, rfl, J, EnT.turns a (z1.heap.objs.size + 1) z1.heap.objs.size, ⟨⟨.none, isE⟩, isI, Nat.succ_ne_self _⟩, fun b hb => ?_, q⟩
    have big : z1.heap.objs.size ≤ b := (List.mem_cons.mp hb).elim (fun c => c ▸ Nat.le_succ _) fun hb => List.mem_singleton.mp hb ▸ Nat.le_refl _
    exact I1.fpOk big (I1.hok.fresh big)
theorem walk_enT {K : PySem.W.Frag} {a : Addr} {xs : List V} : Walk (EnT.Iet K a) xs.length (fun H => SqT K H a xs) (YPair (fun i => some (.int (i : Nat))) (fun i => xs[i]?)) where
  goes := fun i H hi g => ⟨xs, xs[i], g, List.getElem?_eq_getElem hi⟩
  stops := fun H g => ⟨xs, g, Nat.le_refl _⟩
  yields := fun i H v H' hi g y => by
    obtain ⟨T, x, e1, e2, e3, e4⟩ := y
    exact ⟨T, .int (i : Nat), x, e1, e2, e3, rfl, e4 xs g⟩
theorem ie {K : PySem.W.Frag} {σ : L2.St} {H : Hp} {aa : TA} {R : It → Hp → Prop} (q : aa σ H fun vs H1 => ∃ a xs, vs = [.ref a] ∧ ((SqL K H1 a xs ∧ R (Ite K a) H1) ∨ (SqT K H1 a xs ∧ R (EnT.Iet K a) H1))) : iEnX K aa σ H R := q
/-! ### defs that may raise -/
structure CalR (P : Program) (w : World) (K : PySem.W.Frag) (mg : Str → Option Value) (base : Heap) (k : Nat) (x : Str) (sp : Sp) : Prop where
  ex : ∃ (f : Addr) (fd : FuncData) (ps : List Str), FnOk P w K mg base (L2.CX P w) k f fd ps sp ∧ mg x = some (.ref f) ∧ PySem.W.keepIn K (.ref f) = true ∧ Binds K fd ps []
structure CalRK (P : Program) (w : World) (K : PySem.W.Frag) (mg : Str → Option Value) (base : Heap) (k : Nat) (x : Str) (ks : List Str) (gV : List V → List V → List V) (sp : Sp) : Prop where
  ex : ∃ (f : Addr) (fd : FuncData) (ps : List Str) (g : List Value → List Value → List Value), FnOk P w K mg base (L2.CX P w) k f fd ps sp ∧ mg x = some (.ref f) ∧ PySem.W.keepIn K (.ref f) = true ∧ KBinds K fd ps ks g gV
def tCR (sp : Sp) (W : WX) (t : TA) : TE := fun σ H Q => t σ H fun vs H1 => sp vs H1 Q fun cls d H2 => W cls d σ H2
def tCRK (sp : Sp) (gV : List V → List V → List V) (E : XK) (tk : TA) : TE := fun σ H Q => tk σ H fun zs H1 => sp (gV [] zs) H1 Q E
section
variable {X : Cx} {k j : Nat} {x : Str} {sp : Sp} {p pos : Pos} {e : Expr} {es : List Expr} {t tk : TA} {ks : List Str} {gV : List V → List V → List V} {kws : List Keyword} {W : WX} {E : XK}
theorem pe_cR (tk : Takes X W) (c : CalR X.prog X.w X.K X.mg X.base k x sp) (hr : Room j X.A) (hk : k ≤ j) (hg : Gl X x) (ha : PA X (e :: es) t) (hdb : (x == ("__debug__" : Str)) = false := by decide)
    (he : starEach (e :: es) X.env = (false, eval e X.env) :: starEach es X.env := by rfl) (hpl : (backTo pos (starEach es X.env)).any (·.1) = false := by rfl) : PE X (.Call (.Name x p) (e :: es) [] pos) (tCR sp W t) := by
  obtain ⟨f, fd, ps, F, hm, hkp, hb⟩ := c.ex
  exact pe_callS (E := WE W) F (hr.mono hk) hg hm hkp hb (fun σ => passAt tk σ) ha hdb he hpl
theorem pe_cRK (hx : Passes (L2.CX X.prog X.w) X E) (c : CalRK X.prog X.w X.K X.mg X.base k x ks gV sp) (hr : Room j X.A) (hk : k ≤ j) (hg : Gl X x) (hkw : PK X kws tk) (hall : (backToKw pos (keywordEach kws X.env)).all (·.1.isSome) = true := by rfl) (hks : (backToKw pos (keywordEach kws X.env)).filterMap (·.1) = ks := by rfl)
    (hdb : (x == ("__debug__" : Str)) = false := by decide)
    (hpl : ((backTo pos (starEach [] X.env)).any (·.1) || (backToKw pos (keywordEach kws X.env)).any (·.1.isNone)) = false := by rfl) : PE X (.Call (.Name x p) [] kws pos) (tCRK sp gV E tk) := by
  obtain ⟨f, fd, ps, g, F, hm, hkp, hb⟩ := c.ex
  constructor
  intro pins z σ H Q I h
  refine wpAny_Call_Name_kw (ld_glob I hg hm ?_ hdb)
  refine PySem.W.callWith_KW0 (h₀ := X.base) I.ok.mod.kin hkp hall ?_ hpl
  refine thn (hkw.run pos pins z σ H _ I h) fun ws z2 got => ?_
  obtain ⟨zs, H2, I2, rz, q2⟩ := got
  refine ⟨I2.kIn, ?_⟩
  rw [hks]
  exact run_fnk (us := []) (vs := []) F (hr.mono hk) hb hx I2 .nil rz q2
end
/-! ### raise C(..), C an own class over ValueError with its own __init__ -/
/-- what is known of such a class -/
structure ErrC (P : Program) (w : World) (K : PySem.W.Frag) (mg : Str → Option Value) (base : Heap) (x : Str) (C : Addr) (n : Nat) (sp : Sp) : Prop where
  T : OexC K C
  gC : mg x = some (.ref C)
  i : ∃ (fI : Addr) (fd : FuncData) (ps : List Str), PySem.W.findIn K (.ref C) "__init__" = some (some (.ref fI)) ∧ PySem.W.typeIn K (.ref fI) = some (.type "function") ∧ FnOk P w K mg base CX0 1 fI fd ps sp ∧ Binds K fd ps []
theorem pass00 {X : Cx} : Passes CX0 X (fun _ _ _ => False) := fun _ _ _ _ _ _ _ h => h.elim
def tRaise (C : Addr) (sp : Sp) (E : XK) (ta : TA) : TS := fun _ σ H => tMkO C sp [] ta σ H E
section
variable {X : Cx} {x : Str} {C : Addr} {n j : Nat} {sp : Sp} {p pos pos2 : Pos} {e : Expr} {es : List Expr} {ta : TA} {E : XK}
theorem ps_rz (hc : X.calm = true) (tk : Takes X fun cls d _ H => E cls d H) (c : ErrC X.prog X.w X.K X.mg X.base x C n sp) (hr : Room j X.A) (hj : 2 ≤ j) (hg : Gl X x) (ha : PA X (e :: es) ta)
    (hdb : (x == ("__debug__" : Str)) = false := by decide) (he : starEach (e :: es) X.env = (false, eval e X.env) :: starEach es X.env := by rfl) (hpl : (backTo pos (starEach es X.env)).any (·.1) = false := by rfl) :
    PS X (.Raise (some (.Call (.Name x p) (e :: es) [] pos)) none pos2) (tRaise C sp E ta) := by
  obtain ⟨fI, fd, ps, iC, tI, F, hb⟩ := c.i
  exact ps_raise hc tk (pmk_oex (dvs := []) (ds := []) c.T iC tI F (hr.mono hj) hb .nil pass00 hg c.gC ha hdb he hpl)
end
theorem rz {C : Addr} {sp : Sp} {E : XK} {ta : TA} {D : Ends} {σ : L2.St} {H : Hp} (q : ta σ H fun vs H1 => vs.length ≤ 1000 ∧ ∀ a, H1 a = none → sp (.ref a :: vs) (upd H1 a (exo a C none))
    (fun v H2 => v = .non ∧ ∃ (d : Addr) (fs : List (Str × V)), H2 a = some (exo a C (some d)) ∧ H2 d = some (exd d fs) ∧ H1 d = none ∧ E (.ref C) (some d) (upd (del H2 a) d (.xd fs))) (fun _ _ _ => False)) : tRaise C sp E ta D σ H := by
  show ta σ H _
  simp only [List.append_nil]
  exact q
/-- __init__(self, v): self.code = code; self.f = v -/
def spIni (K : PySem.W.Frag) (code fld : Str) : Sp := fun vs H Q _ => ∃ (a C : Addr) (v : V), vs = [.ref a, v] ∧ OexC K C ∧ PySem.W.findIn K (.ref C) "code" = some none ∧ PySem.W.findIn K (.ref C) fld = some none ∧ H a = some (exo a C none) ∧
  ∀ d H', H d = none → d ≠ a → H' a = some (exo a C (some d)) → H' d = some (exd d [(fld, v), (("code" : Str), V.str code)]) → (∀ b o, H b = some o → b ≠ a → H' b = some o) → Q .non H'
theorem ost {K : PySem.W.Frag} {f : Str} {to te : TE} {D : Ends} {σ : L2.St} {H : Hp} (q : te σ H fun y H1 => to σ H1 fun x H2 => ∃ a C : Addr, x = .ref a ∧ OexC K C ∧ PySem.W.findIn K (.ref C) f = some none ∧
  ((H2 a = some (exo a C none) ∧ ∀ dx, H2 dx = none → dx ≠ a → D.nx σ (upd (upd H2 dx (exd dx [(f, y)])) a (exo a C (some dx)))) ∨
    ∃ (dx : Addr) (fs : List (Str × V)), H2 a = some (exo a C (some dx)) ∧ H2 dx = some (exd dx fs) ∧ fs.length ≤ 900 ∧ D.nx σ (upd H2 dx (exd dx ((f, y) :: fs))))) : tOst K f to te D σ H := q
section
variable {P : Program} {w : World} {K : PySem.W.Frag} {mg : Str → Option Value} {base : Heap}
theorem ok_ini {qual code fld : Str} {st : Stmt} {f : Addr} {fd : FuncData} (F : Fun K "__init__" qual st f fd) (S : FnScope ["self", fld] ["self", fld] (defScope st))
    (hb : ∀ (cdv : Value) (A : Around) (outer : List Env) (s : Shared) (H : Hp) (E : XK), PSs (cxOf CX0 P w K mg base ["self", fld] qual (defScope st) f cdv A outer s H E).nox (defBody st) (tSeq (tOst K "code" (tVar 0) (tC (.str code))) (tOst K fld (tVar 0) (tVar 1)))) :
    FnOk P w K mg base CX0 1 f fd ["self", fld] (spIni K code fld) := by
  refine F.ok S (fun vs H Q E h => ?_) (fun cdv A outer s H vs Q E hr h => ?_)
  · obtain ⟨a, C, v, rfl, _⟩ := h
    rfl
  · obtain ⟨a, C, v, rfl, T, n1, n2, ha, q⟩ := h
    refine ⟨_, hb cdv A outer s H E, ?_⟩
    refine ⟨.ref a, rfl, a, C, rfl, T, n1, .inl ⟨ha, fun dx nd ne => ?_⟩⟩
    refine ⟨v, rfl, .ref a, rfl, a, C, rfl, T, n2, .inr ⟨dx, [(("code" : Str), V.str code)], upd_same, ?_, Nat.le_of_ble_eq_true rfl, ?_⟩⟩
    · rw [upd_ne ne, upd_same]
    · refine q dx _ nd ne ?_ upd_same fun b o hbo nba => ?_
      · rw [upd_ne ne.symm, upd_same]
      · rw [upd_ne (ne_of_none hbo nd), upd_ne nba, upd_ne (ne_of_none hbo nd)]
        exact hbo
end
end Rg
/-! ### the end where the law makes lambdas: its table of code objects -/
namespace Rg
open PySem PySem.Spec PyProof.Rows L2
theorem tabIn_mk {K : PySem.W.Frag} {x : Str} {f c P : Addr} {o1 o2 o3 : Option Addr} {v1 v2 : Value} {fd : FuncData} {vs : Array Value} {s1 s2 : Array (Option Value)} (a : PySem.W.nsIn K mainGlobals x = some (some (.ref f))) (l : K.lookup f = some ⟨v1, o1, .func fd, s1⟩) (hc : fd.code = .ref c)
    (lc : K.lookup c = some ⟨v2, o2, .fields vs, s2⟩) (e : vs[11]? = some (.ref P)) : PySem.W.tabIn K x = some (c, P) := by
  unfold PySem.W.tabIn
  simp only [a, l, hc, lc, e]
theorem noTab {K : PySem.W.Frag} {h : Heap} {P : Addr} {ps : Array Value} (X : K.In h) (nt : PySem.W.noTabs K = true) (hP : h.get? P = some { cls := .none, data := .fields ps }) : K.lookup P = none := by
  cases e : K.lookup P with
  | none => rfl
  | some o =>
    have e2 := X P o e
    rw [hP] at e2
    obtain rfl := Option.some.inj e2
    exact absurd (List.all_eq_true.mp nt _ (PySem.W.mem_of_lookupK e)) Bool.false_ne_true
theorem walk_tab {l : PySem.W.OpenLaw} {n k : Nat} {q : Program} {loose : List Str} {XP : (Str → Option Value) → Heap → Prop} {YP : World → Heap → Prop} {d : DefRec} {K : Params → PySem.W.Frag} {x : Str} {sp : World → Addr → Sp}
    (hn : l.most = some n) (hn2 : n ≤ sizeLine) (hdf : d.params.defaults = []) (room : Room k callerA) (hY : ∀ (w : World) (h : Heap), YP w h → (K w.params).In h) (law : d.name = "law") (found : (recsOf q).find? (fun e => e.name == ("law" : Str)) = some d)
    (F : ∀ (w : World) (mg : Str → Option Value) (fa : Addr) (h : Heap), (K w.params).In h → h.Ns mainGlobals mg → mg "law" = some (.ref fa) →
      ∃ (fd : FuncData) (c P : Addr), PySem.W.tabIn (K w.params) "law" = some (c, P) ∧ PySem.W.noTabs (K w.params) = true ∧ (∀ (s : Shared) (u : Value), BindsTo s fd ⟨[u], []⟩ [(x, u)]) ∧
        ∀ base : Heap, (K w.params).In base → base.Ns mainGlobals mg → LamX.TabB base mg c P → FnOk l.prog w (K w.params) mg base CX0 k fa fd [x] (sp w P))
    (S : ∀ (w : World) (H : Hp) (P a : Addr) (ns : List Int), ns.length ≤ n → H P = some (.tbl #[]) → SqL (K w.params) H a (ns.map V.int) → sp w P [.ref a] H (fun v _ => v = .bl true) fun _ _ _ => False) :
    PySem.W.WalkO q loose XP YP l.row.toRowW d [] (fun f vs => PySem.call f vs) := by
  refine Att.attach_callB hn hdf fun w z0 z mg mb fa o pm cd doc a vs ns ground Y ho hd hcd hmg hobj hints hlen hbits hg => ?_
  have KX := hY w _ Y
  rw [law] at hmg
  obtain ⟨fd, c, P, tab, nt, bind, prom⟩ := F w mg fa _ KX ground.T.g hmg
  obtain ⟨code, obj⟩ := PySem.W.tab_of ground.T KX found tab
  exact LamX.law_callTs (cs := [(c, P)]) KX ground.T.g ground.T.b ground.T.builtins ground.T.nolimit hg (fun p hp => List.mem_singleton.mp hp ▸ obj) (fun p hp => List.mem_singleton.mp hp ▸ noTab KX nt obj) (fun p hp => List.mem_singleton.mp hp ▸ code) ground.T.bmain hobj hints
    (Nat.le_trans hlen hn2) room (fun base h1 h2 h3 => prom base h1 h2 (h3 (c, P) (List.mem_singleton.mpr rfl))) bind (fun H hH hS => S w H P a ns hlen (hH (c, P) (List.mem_singleton.mpr rfl)) hS) fun _ _ _ z => z
/-! which clause an error meets -/
theorem exm1 {K : PySem.W.Frag} {cls : Value} {c : Addr} {b : Bool} (h1 : PySem.W.subIn K (.ref c) (.type "BaseException") = some true) (h2 : PySem.W.isClsIn K c = true) (h3 : PySem.W.typeIn K (.ref c) = some (.type "type")) (h4 : PySem.W.subIn K cls (.ref c) = some b) :
    PySem.W.exmOne K cls (.ref c) = some b := by
  have e1 : (PySem.W.subIn K (.ref c) (.type "BaseException") == some true) = true := by rw [h1]; rfl
  have e2 : ((PySem.W.clsIn K c).isSome && PySem.W.typeIn K (.ref c) == some (.type "type")) = true := by
    rw [show (PySem.W.clsIn K c).isSome = true from h2, h3]
    rfl
  unfold PySem.W.exmOne
  rw [if_pos e1]
  show (if _ = true then _ else _) = _
  rw [if_pos e2]
  exact h4
theorem exm3 {K : PySem.W.Frag} {cls c1 c2 c3 : Value} {b1 b2 b3 : Bool} (h1 : PySem.W.exmOne K cls c1 = some b1) (h2 : PySem.W.exmOne K cls c2 = some b2) (h3 : PySem.W.exmOne K cls c3 = some b3) : PySem.W.exmAny K cls [c1, c2, c3] = some (b1 || (b2 || (b3 || false))) := by
  simp only [PySem.W.exmAny, h1, h2, h3]
theorem Tabs.but {T : List (Addr × Str)} {H H' : Hp} {b : Addr} {l : List V} (t : LamX.Tabs T H) (s : But b H H') (hb : H b = some (.lst l)) : LamX.Tabs T H' := by
  intro p hp
  obtain ⟨ps, h1, h2, h3⟩ := t p hp
  refine ⟨ps, s _ _ h1 (fun z => by rw [z, hb] at h1; cases h1), h2, fun pos cv hc => ?_⟩
  obtain ⟨c, e1, e2⟩ := h3 pos cv hc
  refine ⟨c, e1, s _ _ e2 fun z => ?_⟩
  rw [z, hb] at e2
  have e3 : HO.ext _ = HO.lst l := (Option.some.inj e2).symm
  cases e3
end Rg
namespace Rg
open PySem L2
theorem addT {K : PySem.W.Frag} {a p : Addr} {xs ys : List V} {H : Hp} {Q : VK} (h1 : H a = some (.tup xs)) (h2 : H p = some (.tup ys)) (h : xs.length + ys.length ≤ sizeLine) (q : ∀ r H', Same H H' → H' r = some (.tup (xs ++ ys)) → Q (.ref r) H') : rAddX K (.ref a) (.ref p) H Q := by
  refine .inr (.inr (.inr ⟨a, p, xs, ys, rfl, rfl, SqT.of h1, SqT.of h2, h, fun e => ?_, fun _ e => ?_, fun _ _ r n => q r _ (same_upd n) upd_same⟩))
  · exact q p H (Same.refl H) (by rw [e]; exact h2)
  · exact q a H (Same.refl H) (by rw [e, List.append_nil]; exact h1)
theorem cut_all {xs : List V} {lo hi : Option Int} (h : HT.sIx xs.length 0 lo = 0 ∧ HT.sIx xs.length xs.length hi = xs.length) : cutV xs lo hi = xs := by
  unfold cutV
  rw [h.1, h.2, List.drop_zero, Nat.sub_zero, List.take_length]
theorem slTX {K : PySem.W.Frag} {a : Addr} {xs : List V} {lo hi : Option Int} {H : Hp} {Q : VK} (h : H a = some (.tup xs)) (q : ∀ r H', Same H H' → H' r = some (.tup (cutV xs lo hi)) → Q (.ref r) H') : rSlX K (.ref a) lo hi H Q :=
  slT (SqT.of h) (fun e => q a H (Same.refl H) (by rw [cut_all e]; exact h)) fun _ r n => q r _ (same_upd n) upd_same
theorem cutV_take {xs : List V} {i : Nat} (h : i ≤ xs.length) : cutV xs none (some (i : Int)) = xs.take i := by
  unfold cutV
  show ((xs.drop 0).take (HT.sIx xs.length xs.length (some (i : Int)) - 0)) = _
  rw [List.drop_zero, Nat.sub_zero]
  congr 1
  unfold HT.sIx
  simp
  rw [if_neg (show ¬ ((i : Int) < 0) by omega)]
  omega
theorem cutV_drop {xs : List V} {i : Nat} (h : i ≤ xs.length) : cutV xs (some (i : Int)) none = xs.drop i := by
  unfold cutV
  have e : HT.sIx xs.length 0 (some (i : Int)) = i := by
    unfold HT.sIx
    simp
    rw [if_neg (show ¬ ((i : Int) < 0) by omega)]
    omega
  show ((xs.drop (HT.sIx xs.length 0 (some (i : Int)))).take (xs.length - HT.sIx xs.length 0 (some (i : Int)))) = _
  rw [e]
  exact List.take_of_length_le (by rw [List.length_drop]; exact Nat.le_refl _)
end Rg
namespace Rg
open PySem L2
theorem crR {sp : Sp} {W : WX} {t : TA} {σ : L2.St} {H : Hp} {Q : VK} (q : t σ H fun vs H1 => sp vs H1 Q fun cls d H2 => W cls d σ H2) : tCR sp W t σ H Q := q
theorem crK {sp : Sp} {gV : List V → List V → List V} {E : XK} {tk : TA} {σ : L2.St} {H : Hp} {Q : VK} (q : tk σ H fun zs H1 => sp (gV [] zs) H1 Q E) : tCRK sp gV E tk σ H Q := q
end Rg

set_option Elab.async false
set_option linter.all false
set_option maxRecDepth 100000
set_option maxHeartbeats 4000000
/-! ### lambdas as values: lists of lambda: e and lambda x=i: e, handed to a def that calls them -/
namespace LamV
open PySem PySem.Spec PyProof.Rows L2 LamX
/-- a lambda value: its text, the closure, its code object, the tuple of its defaults -/
structure LK where
  qual : Str
  params : Arguments
  body : Expr
  scope : Scope
  clo : List (Str × Addr)
  code : Addr
  dflt : Option Addr
/-- the value of its defaults -/
def dvOf : Option Addr → Value
  | none => .none
  | some t => .ref t
def LamO (f : Addr) (F : LK) : HO := .ext fun h => ∃ doc pm ctv : Value, h.get? f = some (PySem.W.kdv_obj "<lambda>" F.qual F.params (.expr F.body) F.scope F.clo (dvOf F.dflt) doc pm F.code ctv)
theorem lamO_ok {P : Program} {w : World} {H : Hp} {h : Heap} {f : Addr} {F : LK} {doc pm ctv : Value} (g : h.get? f = some (PySem.W.kdv_obj "<lambda>" F.qual F.params (.expr F.body) F.scope F.clo (dvOf F.dflt) doc pm F.code ctv)) : ObjOk P w H h f (LamO f F) :=
  ⟨⟨doc, pm, ctv, g⟩, ⟨_, g⟩, fun _ _ ⟨doc, pm, ctv, g⟩ k => ⟨doc, pm, ctv, k _ g⟩⟩
theorem lamO_tbl {f : Addr} {F : LK} (ps : Array Value) : LamO f F ≠ .tbl ps := fun z => by
  unfold LamO at z
  cases z
/-- the names of a lambda: captured ones, globals, and parameters that no slot of the maker bears -/
structure LamN (N : List Str) (sc scope : Scope) (ps : List Str) : Prop where
  kind : scope.kind = .function
  co : scope.isCoroutine = false
  gen : scope.isGenerator = false
  cell : ∀ y ∈ scope.names, y.2 ≠ .cell
  own : ∀ y ∈ scope.names, y.2 = .local → y.1 ∉ N
  free : ∀ y ∈ scope.names, y.2 = .free → sc.names.lookup y.1 = some .cell ∨ sc.names.lookup y.1 = some .free
  par : ∀ p ∈ ps, scope.names.lookup p = some .local
def lamNB (N : List Str) (sc scope : Scope) (ps : List Str) : Bool :=
  decide (scope.kind = .function) && (!scope.isCoroutine && (!scope.isGenerator && (scope.names.all (fun y => !decide (y.2 = .cell) && ((!decide (y.2 = .local) || !decide (y.1 ∈ N)) && (!decide (y.2 = .free) || (decide (sc.names.lookup y.1 = some .cell) || decide (sc.names.lookup y.1 = some .free))))) &&
    ps.all fun p => decide (scope.names.lookup p = some .local))))
theorem lamN_by {N : List Str} {sc scope : Scope} {ps : List Str} (h : lamNB N sc scope ps = true) : LamN N sc scope ps := by
  unfold lamNB at h
  simp only [Bool.and_eq_true, Bool.or_eq_true, Bool.not_eq_true', decide_eq_true_eq, decide_eq_false_iff_not, List.all_eq_true] at h
  obtain ⟨h1, h2, h3, h4, h5⟩ := h
  exact ⟨h1, h2, h3, fun y m => (h4 y m).1, fun y m e => (h4 y m).2.1.resolve_left fun z => z e, fun y m e => (h4 y m).2.2.resolve_left fun z => z e, h5⟩
section
variable {X : Cx} {pins : List (Addr × Obj)} {σ : L2.St} {H HZ : Hp} {s s1 : Shared}
theorem LamN.has {scope : Scope} {ps : List Str} (L : LamN X.N X.env.scope scope ps) (ok : X.Ok) (y : Str × NameKind) (m : y ∈ scope.names) (e : y.2 = .free) : ∃ c, X.env.cells.lookup y.1 = some c :=
  (L.free y m e).elim (fun k => ok.has _ (.inl k)) fun k => ok.has _ (.inr k)
/-- the tail of the making: the function's object -/
theorem tail_ok {T : List (Addr × Str)} {c P : Addr} {params : Arguments} {body : Expr} {scope : Scope} {pos : Pos} {E : Value → Shared → Prop} {Q : Value → Shared → Prop} {d : Option Addr} (I : Inv X pins σ H s) (TB : TabB X.base X.mg c P) (hcode : X.env.code = .ref c)
    (mem : (P, X.env.qual ++ "<lambda>") ∈ T) (one : ∀ p ∈ T, p.1 = P → p.2 = X.env.qual ++ "<lambda>") (hT : Tabs T H) (free : ∀ y ∈ scope.names, y.2 = .free → ∃ c, X.env.cells.lookup y.1 = some c)
    (h : ∀ (f c' : Addr) (H1 : Hp) (z : Shared), Inv X pins σ H1 z → ExtN H H1 → Tabs T H1 → H f = none → H1 c' = some (CodeO c' (X.env.qual ++ "<lambda>")) → H1 f = some (LamO f ⟨X.env.qual ++ "<lambda>", params, body, scope, cloFrom X.env.cells scope.names [], c', d⟩) → Q (.ref f) z) :
    wpAny (model X.prog X.w) X.A (makeTail "<lambda>" (X.env.qual ++ "<lambda>") params (.expr body) scope X.env (dvOf d) .none none pos pos.line) Q E s := by
  obtain ⟨ps, hP, trip, all⟩ := hT _ mem
  have bP : s.heap.BuiltinsAt X.mg P := TB.bm.keeps I.bk
  have tabP : s.heap.get? P = some { cls := .none, data := .fields ps } := I.hok P _ hP
  cases found : codeAmong pos ps.toList with
  | none =>
    refine PySem.W.kdv_makeTail (mg := X.mg) (c := c) (P := P) (ps := ps) (closure_ok free) I.ok.glob (I.mod.glob.keeps I.bk) hcode (TB.code.keeps I.bk) tabP trip found TB.gP bP fun c' ctv doc h' tk same big less rec_ grown => ?_
    obtain ⟨c2, oc, vs, t, e2, goc, dat, nam⟩ := rec_
    cases e2
    have fresh : H c' = none := I.hok.fresh big
    have sizes : s.heap.objs.size ≤ h'.objs.size := Nat.le_trans big (Nat.le_of_lt less)
    have J := inv_table (t' := tk) (q := X.env.qual ++ "<lambda>") (more := #[rawInt pos.line, rawInt pos.col, .ref c']) (h' := h') I hP (fun b o nb g => same b o nb g) grown big ⟨oc, vs, t, goc, dat, nam⟩
    have nPc : P ≠ c' := ne_of_none hP fresh
    have grow : ExtN H (upd (upd H P (.tbl (ps ++ #[rawInt pos.line, rawInt pos.col, .ref c']))) c' (CodeO c' (X.env.qual ++ "<lambda>"))) := fun b o g notab => by
      rw [upd_ne (ne_of_none g fresh), upd_ne fun z => notab ps (Option.some.inj (g.symm.trans (by rw [z]; exact hP)))]
      exact g
    have atC : upd (upd H P (.tbl (ps ++ #[rawInt pos.line, rawInt pos.col, .ref c']))) c' (CodeO c' (X.env.qual ++ "<lambda>")) c' = some (CodeO c' (X.env.qual ++ "<lambda>")) := upd_same
    have atP : upd (upd H P (.tbl (ps ++ #[rawInt pos.line, rawInt pos.col, .ref c']))) c' (CodeO c' (X.env.qual ++ "<lambda>")) P = some (.tbl (ps ++ #[rawInt pos.line, rawInt pos.col, .ref c'])) := by
      rw [upd_ne nPc, upd_same]
    have others : ∀ b, b ≠ P → b ≠ c' → upd (upd H P (.tbl (ps ++ #[rawInt pos.line, rawInt pos.col, .ref c']))) c' (CodeO c' (X.env.qual ++ "<lambda>")) b = H b := fun b n1 n2 => by rw [upd_ne n2, upd_ne n1]
    have freeF : H h'.objs.size = none := I.hok.fresh sizes
    have freeF2 := J.hok.fresh (Nat.le_refl h'.objs.size)
    generalize upd (upd H P (.tbl (ps ++ #[rawInt pos.line, rawInt pos.col, .ref c']))) c' (CodeO c' (X.env.qual ++ "<lambda>")) = H1 at J grow atC atP others freeF2
    have gF : (h'.push (PySem.W.kdv_obj "<lambda>" (X.env.qual ++ "<lambda>") params (.expr body) scope (cloFrom X.env.cells scope.names []) (dvOf d) doc ((X.mg "__name__").getD .none) c' ctv)).get? h'.objs.size = some _ := Heap.get?_push_size _ rfl
    have J2 := J.laid (t' := tk) (a := h'.objs.size) (o := LamO h'.objs.size ⟨X.env.qual ++ "<lambda>", params, body, scope, cloFrom X.env.cells scope.names [], c', d⟩) (fun b o g => Heap.get?_push_of_some _ g) (Nat.le_refl _) (lamO_ok gF)
    have sm := Rg.same_upd (o := LamO h'.objs.size ⟨X.env.qual ++ "<lambda>", params, body, scope, cloFrom X.env.cells scope.names [], c', d⟩) freeF2
    refine h h'.objs.size c' _ _ J2 (grow.trans (ExtN.of sm)) (fun p hp => ?_) freeF (sm _ _ atC) upd_same
    by_cases hb : p.1 = P
    · rw [one p hp hb, hb]
      refine TabS.ext ⟨_, atP, ?_, fun p' cv hc => ?_⟩ sm
      · rw [show (ps ++ #[rawInt pos.line, rawInt pos.col, Value.ref c']).toList = ps.toList ++ [rawInt pos.line, rawInt pos.col, .ref c'] by simp]
        exact PySem.TriplesOk_snoc _ _ _ _ trip
      · rw [show (ps ++ #[rawInt pos.line, rawInt pos.col, Value.ref c']).toList = ps.toList ++ [rawInt pos.line, rawInt pos.col, .ref c'] by simp] at hc
        rcases among_app _ trip hc with z | z
        · obtain ⟨c0, e1, e2⟩ := all p' cv z
          exact ⟨c0, e1, grow _ _ e2 codeO_ne⟩
        · exact ⟨c', z, atC⟩
    · obtain ⟨ps', a1, a2, a3⟩ := hT p hp
      refine TabS.ext ⟨ps', by rw [others _ hb (ne_of_none a1 fresh)]; exact a1, a2, fun p' cv hc => ?_⟩ sm
      obtain ⟨c0, e1, e2⟩ := a3 p' cv hc
      exact ⟨c0, e1, grow _ _ e2 codeO_ne⟩
  | some cv =>
    obtain ⟨c', rfl, atC⟩ := all pos cv found
    refine PySem.W.kdv_makeTailHit (mg := X.mg) (c := c) (P := P) (ps := ps) (closure_ok free) I.ok.glob (I.mod.glob.keeps I.bk) hcode (TB.code.keeps I.bk) tabP trip found bP fun ctv doc h' tk same sizes => ?_
    have J : Inv X pins σ H { s with heap := h', toks := tk } := I.kept same
    have freeF := J.hok.fresh (Nat.le_refl h'.objs.size)
    have gF : (h'.push (PySem.W.kdv_obj "<lambda>" (X.env.qual ++ "<lambda>") params (.expr body) scope (cloFrom X.env.cells scope.names []) (dvOf d) doc ((X.mg "__name__").getD .none) c' ctv)).get? h'.objs.size = some _ := Heap.get?_push_size _ rfl
    have J2 := J.laid (t' := tk) (a := h'.objs.size) (o := LamO h'.objs.size ⟨X.env.qual ++ "<lambda>", params, body, scope, cloFrom X.env.cells scope.names [], c', d⟩) (fun b o g => Heap.get?_push_of_some _ g) (Nat.le_refl _) (lamO_ok gF)
    have sm := Rg.same_upd (o := LamO h'.objs.size ⟨X.env.qual ++ "<lambda>", params, body, scope, cloFrom X.env.cells scope.names [], c', d⟩) freeF
    exact h h'.objs.size c' _ _ J2 (ExtN.of sm) (hT.ext sm) freeF (sm _ _ atC) upd_same
end
section
variable {X : Cx} {pins : List (Addr × Obj)} {σ : L2.St} {H HZ : Hp} {s s1 : Shared}
/-- the lambda's frame is laid: its body's context -/
theorem begun {A : Around} {outer : List Env} {E : XK} {scope : Scope} {ps : List Str} {f c' : Addr} {g : Heap} {tk : Nat} {m : Str → Option Value} (I : Inv X pins σ H s) (L : LamN X.N X.env.scope scope ps) (e0 : Env0 X.prog X.w X.K X.mg X.base A outer s1 HZ) (calm : A.handled = none)
    (since : Un (frs X.stack) [] H HZ s.heap s1.heap) (frame : g.Ns s1.heap.objs.size m) (kept : ∀ b o, s1.heap.get? b = some o → g.get? b = some o) : Inv (lamCx X A outer s1 HZ E scope f c') [] σ HZ { s1 with heap := g, toks := tk } := by
  have back : ∀ {y : Str} {c : Addr}, (cloFrom X.env.cells scope.names []).lookup y = some c → X.env.cells.lookup y = some c := by
    intro y c e
    rcases cloFrom_mem (PySem.mem_of_lookup e) with z | ⟨z1, z2⟩
    · cases z
    · obtain ⟨c1, e1⟩ := L.has I.ok _ z1 rfl
      have e1 : X.env.cells.lookup y = some c1 := e1
      rw [e1] at z2
      rw [show c = c1 from z2]
      exact e1
  have forth : ∀ {y : Str}, scope.names.lookup y = some .free → ∃ c, (cloFrom X.env.cells scope.names []).lookup y = some c := fun {y} e => mem_lookup (cloFrom_has (cells := X.env.cells) (acc := []) (show (y, NameKind.free) ∈ scope.names from PySem.mem_of_lookup e))
  have cells : ∀ {c : Addr} {v : Option Value}, H c = none → s.heap.IsCell c v → g.IsCell c v := by
    rintro c v n ⟨o, g1, d1⟩
    obtain ⟨sl, g2⟩ := since.any g1 n List.not_mem_nil
    exact ⟨_, kept _ _ g2, d1⟩
  have noEx : ∀ b : Addr, b ∉ (lamCx X A outer s1 HZ E scope f c').ex := fun b z => List.not_mem_nil (show b ∈ ([] : List Addr) from z)
  exact {
    ok := {
      mod := e0.mod
      kind := L.kind
      glob := rfl
      blt := rfl
      above := Nat.le_refl _
      inj := fun x y c e1 e2 => I.ok.inj x y c (back e1) (back e2)
      has := fun x hx => by
        have hx : scope.names.lookup x = some .cell ∨ scope.names.lookup x = some .free := hx
        exact hx.elim (fun z => absurd rfl (L.cell _ (PySem.mem_of_lookup z))) forth
      cab := fun _ _ z _ => by cases (show false = true from z)
      hd := fun _ => calm
      frames := Around.frames_deeper e0.frames
      stk := .inr ⟨rfl, rfl⟩
      exf := fun b z => absurd z (noEx b)
      bs := e0.bs
      bsz := e0.bsz
      noex := fun b _ _ => noEx b
      exfs := fun b z => absurd z (noEx b)
      funs := e0.funs
      frf := e0.frf }
    os := rfl
    bare := e0.bare
    base := Un.kept kept
    loc := ⟨m, frame, fun i y v e1 e2 vis => by
      have vis : Vis scope y := vis
      have inN : y ∈ X.N := List.mem_of_getElem? e1
      rcases vis with z | z | z
      · exact absurd inN (L.own _ (PySem.mem_of_lookup z) rfl)
      · exact absurd rfl (L.cell _ (PySem.mem_of_lookup z))
      · obtain ⟨m0, _, look⟩ := I.loc
        have up := L.free _ (PySem.mem_of_lookup z) rfl
        obtain ⟨u, ru, at_⟩ := look i y v e1 e2 (up.elim (fun k => .inr (.inl k)) fun k => .inr (.inr k))
        obtain ⟨c2, e3⟩ := forth z
        refine ⟨u, ru, .inr ⟨.inr z, c2, e3, ?_⟩⟩
        have e4 := back e3
        rcases at_ with ⟨k, _⟩ | ⟨_, c3, e5, cell⟩
        · have k : X.env.scope.names.lookup y = some .local := k
          rcases up with k2 | k2 <;> rw [show X.env.scope.names.lookup y = _ from k2] at k <;> cases k
        · rw [e4] at e5
          cases e5
          exact cells (I.freeC y _ e4) cell⟩
    cell := fun y c e => by
      obtain ⟨v, cell⟩ := I.cell y c (back e)
      exact ⟨v, cells (I.freeC y c (back e)) cell⟩
    free := e0.hok.fresh (Nat.le_refl _)
    freeC := fun y c e => by
      obtain ⟨v, o, g1, _⟩ := I.cell y c (back e)
      exact since.free c o g1 (I.freeC y c (back e)) List.not_mem_nil
    pin := fun q hq => absurd (show q ∈ ([] : List (Addr × Obj)) ++ [] from hq) (by simp)
    hok := e0.hok.kept kept
    len := I.len }
/-- the function data of a lambda value -/
def fdOf (F : LK) (doc pm ctv : Value) : FuncData := PySem.W.kdv_fn "<lambda>" F.qual F.params (.expr F.body) F.scope F.clo (dvOf F.dflt) doc pm (.ref F.code) ctv
/-- how its arguments bind when nothing is passed -/
def BindL (F : LK) (HD : Hp → Prop) : Prop := ∀ (X : Cx) (pins : List (Addr × Obj)) (σ : L2.St) (H : Hp) (s : Shared) (doc pm ctv : Value), Inv X pins σ H s → HD H →
  ∃ binds : List (Str × Value), (∀ y ∈ binds, F.scope.names.lookup y.1 = some .local) ∧ BindsTo s (fdOf F doc pm ctv) ⟨[], []⟩ binds
theorem bindL0 {F : LK} (h : ∀ doc pm ctv : Value, bindArgs (fdOf F doc pm ctv) ⟨[], []⟩ = pure []) : BindL F fun _ => True :=
  fun _ _ _ _ _ doc pm ctv _ _ => ⟨[], fun y m => (absurd m List.not_mem_nil), BindsTo.of_eq (h doc pm ctv)⟩
theorem bindL1 {F : LK} {t : Addr} {i : Int} {x : Str} {k : Option (Array Value) → Sem (List (Str × Value))} (ht : F.dflt = some t) (loc : F.scope.names.lookup x = some .local)
    (h1 : ∀ doc pm ctv : Value, bindArgs (fdOf F doc pm ctv) ⟨[], []⟩ = seqItems? (fdOf F doc pm ctv).defaults >>= k) (h2 : ∀ v : Value, k (some [v].toArray) = pure [(x, v)]) : BindL F fun H => H t = some (.tup [.int i]) := by
  intro X pins σ H s doc pm ctv I hD
  obtain ⟨its, rel, tup, _⟩ := I.tuple (SqT.of hD)
  obtain ⟨v, rfl⟩ : ∃ v, its = [v] := by
    have len := rel.length
    match its, len with
    | [v], _ => exact ⟨v, rfl⟩
  obtain ⟨o, g, _, n, d⟩ := tup
  have hd : (fdOf F doc pm ctv).defaults = .ref t := by
    show dvOf F.dflt = _
    rw [ht]
    rfl
  exact ⟨[(x, v)], fun y m => (by rw [List.mem_singleton.mp m]; exact loc), BindsTo.of_defaults hd g d (h1 doc pm ctv) (h2 v)⟩
/-- x(), in the def that got the lambda value -/
theorem pe_actV {CXg : CXT} {Eg : XK} {Ng : List Str} {qg : Str} {sg : Scope} {g f : Addr} {cdg : Value} {F : LK} {HD : Hp → Prop} {ps : List Str} {k i : Nat} {a : Str} {pn : List (Addr × Obj)} {xe : Value → Shared → Prop} {W : WX} {E : XK} {tb : TE} {p1 p2 : Pos}
    (I : Inv X pins σ H s) (L : LamN X.N X.env.scope F.scope ps) (hq : F.qual = X.env.qual ++ "<lambda>") (hclo : F.clo = cloFrom X.env.cells F.scope.names []) (bind : BindL F HD)
    (tk : Takes ((cxOf CXg X.prog X.w X.K X.mg X.base Ng qg sg g cdg X.A X.stack s H Eg).tr pn xe) W) (out : ∀ cls d σ' H', E cls d H' → W cls d σ' H') (room : Room (k + 1) (X.A.deeper (envOfC qg sg s.heap.objs.size g cdg)))
    (body : ∀ (A : Around) (outer : List Env) (s : Shared) (H : Hp), Room k (A.deeper (lamEnv X F.scope s.heap.objs.size f F.code)) → PE (lamCx X A outer s H E F.scope f F.code) F.body tb)
    (hN : Ng[i]? = some a) (hv : Vis sg a) (hd : (a == ("__debug__" : Str)) = false := by decide) (hcd : (a == ("__classdict__" : Str)) = false := by decide) :
    PE ((cxOf CXg X.prog X.w X.K X.mg X.base Ng qg sg g cdg X.A X.stack s H Eg).tr pn xe) (.Call (.Name a p1) [] [] p2)
      (fun σZ HZ Q => σZ[i]? = some (some (.ref f)) ∧ HZ F.code = some (CodeO F.code F.qual) ∧ HZ f = some (LamO f F) ∧ HD HZ ∧ tb σ HZ Q) := by
  constructor
  intro pinsZ sZ σZ HZ Q IZ h
  obtain ⟨slot, code, lam, dflt, promise⟩ := h
  have name := (pe_var (pos := p1) (i := i) hN hv hd hcd).run pinsZ sZ σZ HZ (fun v H1 => v = .ref f ∧ H1 = HZ) IZ ⟨.ref f, slot, rfl, rfl⟩
  refine wpAny_Call_Name_kw (thn name fun u z got => ?_)
  obtain ⟨v, H1, J, ru, rfl, rfl⟩ := got
  obtain rfl : u = Value.ref f := ru
  have fobj : ObjOk X.prog X.w H1 z.heap f (LamO f F) := J.hok f _ lam
  obtain ⟨⟨doc, pm, ctv, gf⟩, _, _⟩ := fobj
  have cobj : ObjOk X.prog X.w H1 z.heap F.code (CodeO F.code F.qual) := J.hok F.code _ code
  obtain ⟨⟨oc, vs, tq, gc, dc, vc⟩, _, _⟩ := cobj
  obtain ⟨binds, loc, bound⟩ := bind _ _ _ _ _ doc pm ctv J dflt
  refine PySem.W.callWith_F0 ⟨_, _, _, _, gf⟩ ?_
  have since : Un (frs X.stack) [] H H1 s.heap z.heap := J.base
  have runs : codeAny (model X.prog X.w) (X.A.deeper (envOfC qg sg s.heap.objs.size g cdg)) (.call (.ref f) ⟨[], []⟩) (CR (L2.CX X.prog X.w) (envOfC qg sg s.heap.objs.size g cdg :: X.stack) X.prog X.w H1 z Q E) z := by
    refine PySem.W.kla_callFunE room.depth gf rfl L.co L.gen rfl ⟨F.code, oc, vs, tq, rfl, gc, dc, vc⟩ (bound _ _ _ _ ?_)
    refine wpAny_newFunctionEnv L.cell loc (fun h1 frame same => ⟨J.nolimit.fresh _ same, ?_⟩) L.kind
    have kept : ∀ b o, z.heap.get? b = some o → h1.get? b = some o := fun b o e => same.extBut b o (Nat.ne_of_lt (Heap.lt_size e)) (Heap.get?_push_of_some _ e)
    have JL := begun (E := E) (f := f) (c' := F.code) (tk := z.toks + binds.length) I L J.env0 room.hd since frame kept
    rw [hclo, hq]
    refine PySem.W.kla_codeExpr (wpAny_mono ((body _ _ z H1 (room.deeper _)).run [] _ _ H1 Q JL promise) (fun v2 z2 got => ?_) fun _ _ no => no)
    obtain ⟨w2, H2, J2, rv, q⟩ := got
    exact ⟨w2, H2, J2.os, J2.bare, J2.base, J2.hok, rv, q⟩
  have passes : Passes (L2.CX X.prog X.w) ((cxOf CXg X.prog X.w X.K X.mg X.base Ng qg sg g cdg X.A X.stack s H Eg).tr pn xe) E := passes_call tk out
  refine wpAny_call (codeAny_mono runs fun r z2 done => ?_)
  match r, done with
  | .error er, done => exact passes pinsZ σZ H1 z er z2 J done
  | .ok (.ret u2), done => exact J.after done
end
/-! ### lambda: e and lambda x=i: e as values -/
def tLam0 (T : List (Addr × Str)) (q : Str) (mk : Addr → Option Addr → LK) : TE := fun _ H Q => Tabs T H ∧ ∀ (f c' : Addr) (H1 : Hp), ExtN H H1 → Tabs T H1 → H f = none → H1 c' = some (CodeO c' q) → H1 f = some (LamO f (mk c' none)) → Q (.ref f) H1
def tLamD (T : List (Addr × Str)) (q : Str) (mk : Addr → Option Addr → LK) (i : Int) : TE := fun _ H Q => Tabs T H ∧ ∀ (f c' t : Addr) (H1 : Hp), ExtN H H1 → Tabs T H1 → H f = none → H1 c' = some (CodeO c' q) → H1 t = some (.tup [.int i]) → H1 f = some (LamO f (mk c' (some t))) → Q (.ref f) H1
section
variable {X : Cx} {T : List (Addr × Str)} {c P : Addr} {params : Arguments} {body : Expr} {scope : Scope} {pos : Pos} {ps : List Str}
theorem pe_lam0 (TB : TabB X.base X.mg c P) (hcode : X.env.code = .ref c) (mem : (P, X.env.qual ++ "<lambda>") ∈ T) (one : ∀ p ∈ T, p.1 = P → p.2 = X.env.qual ++ "<lambda>") (L : LamN X.N X.env.scope scope ps) (hdef : defaultsOf params X.env = ([], [])) :
    PE X (.Lambda params body scope pos) (tLam0 T (X.env.qual ++ "<lambda>") fun c' d => ⟨X.env.qual ++ "<lambda>", params, body, scope, cloFrom X.env.cells scope.names [], c', d⟩) := by
  constructor
  intro pins z σ H Q I h
  obtain ⟨hT, h⟩ := h
  refine PySem.W.kla_eval hdef ?_
  rw [makeFunction_eq]
  simp only [List.zip_nil_right, List.filterMap_nil, List.isEmpty_nil, if_true, pure_bind]
  exact tail_ok (d := none) I TB hcode mem one hT (L.has I.ok) fun f c' H1 z1 J grow T1 nf hc hf => ⟨.ref f, H1, J, rfl, h f c' H1 grow T1 nf hc hf⟩
theorem pe_lamD {e : Expr} {i : Int} (TB : TabB X.base X.mg c P) (hcode : X.env.code = .ref c) (mem : (P, X.env.qual ++ "<lambda>") ∈ T) (one : ∀ p ∈ T, p.1 = P → p.2 = X.env.qual ++ "<lambda>") (L : LamN X.N X.env.scope scope ps) (hdl : params.defaults = [e]) (hk0 : params.kw_defaults = []) (he : PE X e (tC (.int i))) :
    PE X (.Lambda params body scope pos) (tLamD T (X.env.qual ++ "<lambda>") (fun c' d => ⟨X.env.qual ++ "<lambda>", params, body, scope, cloFrom X.env.cells scope.names [], c', d⟩) i) := by
  constructor
  intro pins z σ H Q I h
  obtain ⟨hT, h⟩ := h
  refine PySem.W.kdv_lam (by rw [hdl]; rfl) hk0 ?_
  rw [hdl]
  refine PySem.W.kdv_all1 (thn (he.run pins z σ H (fun v H1 => v = .int i ∧ H1 = H) I ⟨rfl, rfl⟩) fun u z1 got => ?_)
  obtain ⟨v, H1, J, ru, rfl, rfl⟩ := got
  refine PySem.W.kdv_all0 ?_
  rw [makeFunction_eq]
  simp only [List.zip_nil_right, List.filterMap_nil, List.isEmpty_nil, if_true, pure_bind, List.isEmpty_cons, Bool.false_eq_true, if_false]
  refine wpAny_bind (wpAny_newTextTuple ?_)
  have new : H1 z1.heap.objs.size = none := J.hok.fresh (Nat.le_refl _)
  have J2 := J.laid (t' := z1.toks) (a := z1.heap.objs.size) (o := .tup [V.int i]) (h' := z1.heap.push (PySem.W.kdv_tup [u])) (fun b o g => Heap.get?_push_of_some _ g) (Nat.le_refl _)
    ⟨(by decide : 1 ≤ sizeLine), [u], .cons ru .nil, ⟨_, Heap.get?_push_size _ rfl, rfl, _, rfl⟩⟩
  have sm := Rg.same_upd (o := .tup [V.int i]) new
  refine tail_ok (d := some z1.heap.objs.size) J2 TB hcode mem one (hT.ext sm) (L.has I.ok) fun f c' H2 z2 J3 grow T1 nf hc hf => ⟨.ref f, H2, J3, rfl, h f c' z1.heap.objs.size H2 ((ExtN.of sm).trans grow) T1 (Rg.un0 nf) hc (grow _ _ upd_same fun ps z => by cases z) hf⟩
end
end LamV
/-! ### a written dict of the module's top: d.get(k, x) -/
namespace Rg
open PySem PySem.Spec PyProof.Rows L2
def KTab (K : PySem.W.Frag) (w : World) (a : Addr) (kvs : List (Str × V)) : Prop :=
  ∃ es n, K.lookup a = some ⟨.type "dict", none, .dict es n, #[]⟩ ∧ PySem.W.KeysLit w.params es.toList ∧ (a == sysModules) = false ∧ ∀ z, RelO (kvs.lookup z) (findBy Value.isStrOf es z)
def tKGet (K : PySem.W.Frag) (w : World) (to te tf : TE) : TE := fun σ H Q => to σ H fun x H1 => ∃ a kvs, x = .ref a ∧ KTab K w a kvs ∧ te σ H1 fun y H2 => tf σ H2 fun z H3 => ∃ s, y = .str s ∧ Q ((kvs.lookup s).getD z) H3
theorem relO_getD {o : Option V} {o' : Option Value} {d : V} {r : Value} (h : RelO o o') (hd : RelV d r) : RelV (o.getD d) (o'.getD r) := by
  cases o <;> cases o'
  · exact hd
  · exact h.elim
  · exact h.elim
  · exact h
theorem pe_kget2 {X : Cx} (K : PySem.W.Frag) (w : World) {o e f : Expr} {to te tf : TE} {apos cpos : Pos} (ho : PE X o to) (he : PE X e te) (hf : PE X f tf) (m : M2 X o "get" apos e f cpos) (hK : X.K = K := by rfl) (hw : X.w = w := by rfl) : PE X (.Call (.Attribute o "get" apos) [e, f] [] cpos) (tKGet K w to te tf) := by
  subst hK hw
  constructor
  intro pins z σ H Q I h
  refine wpAny_Call_method m.base m.few m.line PySem.F.plainAttrs_dict PySem.F.slot_dict_get PySem.F.type_dict_get (thn (ho.run pins z σ H _ I h) fun u z1 got => ?_)
  obtain ⟨x, H1, I1, rx, a, kvs, rfl, ⟨es, n, hl, lit, low, rel⟩, q1⟩ := got
  obtain rfl : u = Value.ref a := rx
  have map1 := PySem.W.mapOf_K (prog := X.prog) (w := X.w) I1.kIn hl lit
  refine ⟨map1.typeIs, fun b eb => ?_, ?_⟩
  · cases eb
    exact ⟨_, I1.kIn _ _ hl, rfl⟩
  rw [m.trees]
  refine Calls.callWith_builtin rfl (Calls.evalArgs_plain (Calls.spliced_cons (thn (he.run pins z1 σ H1 _ I1 q1) fun kv z2 got2 => Calls.spliced_cons ?_)))
  obtain ⟨y, H2, I2, ry, q2⟩ := got2
  refine thn (hf.run pins z2 σ H2 _ I2 q2) fun fv z3 got3 => Calls.spliced_nil ?_
  obtain ⟨d, H3, I3, rd, s, rfl, q3⟩ := got3
  obtain ⟨tk, rfl⟩ := (show ∃ tk, kv = Value.str s tk from ry)
  have map3 := PySem.W.mapOf_K (prog := X.prog) (w := X.w) I3.kIn hl lit
  exact call_meetsIn PySem.F.slot_dict_get map3.typeIs PySem.F.entry_dict_get (PySem.F.args_dict_get_3 _ _ _) (meets_dict_get_default (strKind X.prog X.w) a (strKind_is X.prog X.w s tk) low fv) ⟨_, map3, _, H3, I3.tok _, relO_getD (rel s) rd, q3⟩
theorem kget {K : PySem.W.Frag} {w : World} {to te tf : TE} {σ : L2.St} {H : Hp} {Q : VK} (q : to σ H fun x H1 => ∃ a kvs, x = .ref a ∧ KTab K w a kvs ∧ te σ H1 fun y H2 => tf σ H2 fun z H3 => ∃ s, y = .str s ∧ Q ((kvs.lookup s).getD z) H3) : tKGet K w to te tf σ H Q := q
end Rg

set_option Elab.async false
set_option linter.all false
set_option maxRecDepth 100000
set_option maxHeartbeats 4000000
/-! a, *b = ..: a tuple or a list taken apart with a star -/
namespace St6
open PySem PySem.Spec PyProof.Rows L2
section
variable {P : Program} {w : World} {Ar : Around} {Ee : Value → Shared → Prop} {u : Shared}
/-- what the star leaves in the middle, and behind it -/
def midS (xs : List V) (n i : Nat) : List V := (xs.drop i).take (xs.length + 1 - n)
def endS (xs : List V) (n i : Nat) : List V := (xs.drop i).drop (xs.length + 1 - n)
theorem behind {Qx : List Value → Shared → Prop} {g : Shared} {front some_ rest : List Value} (hz : some_.length ≤ 16384)
    (q : ∀ t', Qx (front ++ [.ref g.heap.objs.size] ++ rest) { g with heap := g.heap.push { cls := .type "list", data := .seq some_.toArray }, toks := t' }) :
    wpAny (model P w) Ar (newList some_ >>= fun l => pure (front ++ [l] ++ rest)) Qx Ee g :=
  wpAny_bind (wpAny_newList (wpAny_pure (q _)) (by rw [sizeLine_eq]; omega))
theorem starTup {p : Addr} {vs : Array Value} {n i : Nat} {Qx : List Value → Shared → Prop} (hp : IsTup u.heap p vs) (calm : Ar.handled = none) (hi : i < n) (hn : n ≤ vs.size + 1) (hz : vs.size ≤ 16384)
    (q : ∀ (g : Heap) (t' : Nat), (∀ b o, u.heap.get? b = some o → g.get? b = some o) →
      Qx (vs.toList.take i ++ [.ref g.objs.size] ++ (vs.toList.drop i).drop (vs.size + 1 - n)) { u with heap := g.push { cls := .type "list", data := .seq ((vs.toList.drop i).take (vs.size + 1 - n)).toArray }, toks := t' }) :
    wpAny (model P w) Ar (unpackItems (.ref p) n (some i)) Qx Ee u := by
  have below : p < u.heap.objs.size := (fun ⟨_, e, _⟩ => Heap.lt_size e) hp
  have differ : p ≠ u.heap.objs.size := Nat.ne_of_lt below
  have lenTake : (vs.toList.take i).length = i := by
    rw [List.length_take, Array.length_toList]
    omega
  have lenDrop : (vs.toList.drop i).length = vs.size - i := by rw [List.length_drop, Array.length_toList]
  unfold unpackItems notIterableAtAll
  refine wpAny_bind (wpAny_bind (wpAny_specialOf hp.typeIs slot_tuple_iter.lookup (wpAny_pure ?_)))
  show wpAny _ _ (if false = true then _ else _) _ _ _
  rw [if_neg (by decide)]
  refine wpAny_bind (wpAny_holding (iter_tuple hp (wpAny_bind (wpAny_holding (draw_tuple differ i 0 _ _ ⟨_, Heap.get?_push_size _ rfl, rfl, rfl⟩ (hp.push _) (by omega) fun g1 it1 but1 => ?_)))))
  have hp1 : IsTup g1 p vs := (hp.push _).extBut but1.extBut differ
  rw [Nat.zero_add] at it1
  rw [List.drop_zero, if_neg (fun z => absurd z (by rw [lenTake]; exact Nat.lt_irrefl i))]
  have itLt : u.heap.objs.size < g1.objs.size := (fun ⟨_, e, _⟩ => Heap.lt_size e) it1
  have pLt : p < g1.objs.size := (fun ⟨_, e, _⟩ => Heap.lt_size e) hp1
  refine wpAny_bind (wpAny_holding (PySem.W.kun_collect (s := { u with heap := g1 }) (T := "tuple_iterator") (.inr (.inr (.inr rfl))) (Walks.tuple (A := Ar.in1) calm u.heap.objs.size p differ vs) (fun _ _ st => st.1.typeIs) (k := i) (by omega) ⟨it1, hp1⟩ itLt pLt (fun g2 t2 keep => ?_) (by rw [sizeLine_eq]; omega)))
  have stay : ∀ b o, u.heap.get? b = some o → g2.get? b = some o := fun b o e => by
    have lt := Heap.lt_size e
    exact keep b o (Nat.ne_of_lt lt) (but1.extBut b o (Nat.ne_of_lt lt) (Heap.get?_push_of_some _ e))
  have cut : (vs.toList.drop i).length - (n - 1 - i) = vs.size + 1 - n := by rw [lenDrop]; omega
  refine (if_neg (show ¬ (vs.toList.drop i).length < n - 1 - i by rw [lenDrop]; omega) : (if (vs.toList.drop i).length < n - 1 - i then _ else _) = _) ▸ ?_
  refine behind (some_ := (vs.toList.drop i).take ((vs.toList.drop i).length - (n - 1 - i))) (rest := (vs.toList.drop i).drop ((vs.toList.drop i).length - (n - 1 - i))) (by rw [List.length_take, lenDrop]; omega) fun t' => ?_
  rw [cut]
  exact q g2 t' stay
theorem starLst {p : Addr} {vs : Array Value} {n i : Nat} {Qx : List Value → Shared → Prop} (hp : u.heap.IsList p vs) (calm : Ar.handled = none) (hi : i < n) (hn : n ≤ vs.size + 1) (hz : vs.size ≤ 16384)
    (q : ∀ (g : Heap) (t' : Nat), (∀ b o, u.heap.get? b = some o → g.get? b = some o) →
      Qx (vs.toList.take i ++ [.ref g.objs.size] ++ (vs.toList.drop i).drop (vs.size + 1 - n)) { u with heap := g.push { cls := .type "list", data := .seq ((vs.toList.drop i).take (vs.size + 1 - n)).toArray }, toks := t' }) :
    wpAny (model P w) Ar (unpackItems (.ref p) n (some i)) Qx Ee u := by
  have below : p < u.heap.objs.size := (fun ⟨_, e, _⟩ => Heap.lt_size e) hp
  have differ : p ≠ u.heap.objs.size := Nat.ne_of_lt below
  have lenTake : (vs.toList.take i).length = i := by
    rw [List.length_take, Array.length_toList]
    omega
  have lenDrop : (vs.toList.drop i).length = vs.size - i := by rw [List.length_drop, Array.length_toList]
  unfold unpackItems notIterableAtAll
  refine wpAny_bind (wpAny_bind (wpAny_specialOf hp.typeIs slot_list_iter.lookup (wpAny_pure ?_)))
  show wpAny _ _ (if false = true then _ else _) _ _ _
  rw [if_neg (by decide)]
  refine wpAny_bind (wpAny_holding (wpAny_pyIter_list hp (wpAny_bind (wpAny_holding (PySem.W.kun_draw differ i 0 _ _ ⟨_, Heap.get?_push_size _ rfl, rfl, rfl⟩ (hp.push _) (by omega) fun g1 it1 but1 => ?_)))))
  have hp1 : g1.IsList p vs := (hp.push _).extBut but1.extBut differ
  rw [Nat.zero_add] at it1
  rw [List.drop_zero, if_neg (fun z => absurd z (by rw [lenTake]; exact Nat.lt_irrefl i))]
  have itLt : u.heap.objs.size < g1.objs.size := (fun ⟨_, e, _⟩ => Heap.lt_size e) it1
  have pLt : p < g1.objs.size := (fun ⟨_, e, _⟩ => Heap.lt_size e) hp1
  refine wpAny_bind (wpAny_holding (PySem.W.kun_collect (s := { u with heap := g1 }) (T := "list_iterator") (.inr (.inr (.inl rfl))) (Walks.list (A := Ar.in1) calm u.heap.objs.size p differ vs) (fun _ _ st => st.1.typeIs) (k := i) (by omega) ⟨it1, hp1⟩ itLt pLt (fun g2 t2 keep => ?_) (by rw [sizeLine_eq]; omega)))
  have stay : ∀ b o, u.heap.get? b = some o → g2.get? b = some o := fun b o e => by
    have lt := Heap.lt_size e
    exact keep b o (Nat.ne_of_lt lt) (but1.extBut b o (Nat.ne_of_lt lt) (Heap.get?_push_of_some _ e))
  have cut : (vs.toList.drop i).length - (n - 1 - i) = vs.size + 1 - n := by rw [lenDrop]; omega
  refine (if_neg (show ¬ (vs.toList.drop i).length < n - 1 - i by rw [lenDrop]; omega) : (if (vs.toList.drop i).length < n - 1 - i then _ else _) = _) ▸ ?_
  refine behind (some_ := (vs.toList.drop i).take ((vs.toList.drop i).length - (n - 1 - i))) (rest := (vs.toList.drop i).drop ((vs.toList.drop i).length - (n - 1 - i))) (by rw [List.length_take, lenDrop]; omega) fun t' => ?_
  rw [cut]
  exact q g2 t' stay
end
/-! the targets -/
/-- (a, *b, c) = a tuple or a list: n targets, the star at i -/
def gTupS (K : PySem.W.Frag) (n i : Nat) (t : TGs) : TG := fun v σ H Q => ∃ a xs, v = .ref a ∧ (SqT K H a xs ∨ SqL K H a xs) ∧ n ≤ xs.length + 1 ∧ xs.length ≤ 16384 ∧
  ∀ D, H D = none → t (xs.take i ++ [.ref D] ++ endS xs n i) σ (upd H D (.lst (midS xs n i))) Q
theorem pgs_consS {X : Cx} {e : Expr} {sp : Pos} {es : List Expr} {t : TG} {v : TGs} (h1 : PG X e t) (h2 : PGs X es v)
    (hs : (assignEach (.Starred e sp :: es) X.env).map (·.2) = assign e X.env :: (assignEach es X.env).map (·.2) := by rfl) : PGs X (.Starred e sp :: es) (gCons t v) := by
  refine ⟨fun pins s σ H vs us Q I r h => ?_⟩
  obtain ⟨x, xr, rfl, h⟩ := h
  cases r with
  | cons r rr =>
    rw [hs]
    refine assignInOrder_cons (thn (h1.run pins s σ H _ _ _ I r h) fun _ s1 ⟨σ1, H1, I1, q1⟩ => ?_)
    exact h2.run pins s1 σ1 H1 _ _ Q I1 rr q1
theorem Vals.take {vs : List V} {us : List Value} (r : Vals vs us) : ∀ k, Vals (vs.take k) (us.take k) := by
  induction r with
  | nil => intro k; rw [List.take_nil, List.take_nil]; exact .nil
  | cons h _ ih =>
    intro k
    cases k with
    | zero => exact .nil
    | succ k => exact .cons h (ih k)
theorem Vals.drop {vs : List V} {us : List Value} (r : Vals vs us) : ∀ k, Vals (vs.drop k) (us.drop k) := by
  induction r with
  | nil => intro k; rw [List.drop_nil, List.drop_nil]; exact .nil
  | cons h r ih =>
    intro k
    cases k with
    | zero => exact .cons h r
    | succ k => exact ih k
theorem pg_tupS {X : Cx} {es : List Expr} {k : Nat} {pos : Pos} {t : TGs} {n i : Nat} (hc : X.calm = true) (h : PGs X es t) (hi : i < n)
    (hn : (assignEach es X.env).length = n := by rfl) (hst : (assignEach es X.env).findIdx? (·.1) = some i := by rfl) : PG X (.Tuple es k pos) (gTupS X.K n i t) := by
  refine ⟨fun pins s σ H v u Q I r hw => ?_⟩
  obtain ⟨a, xs, rfl, hq, hl, hz, hw⟩ := hw
  cases r
  have go : ∀ (its : List Value), Vals xs its → ∀ (g : Heap) (t' : Nat), (∀ b o, s.heap.get? b = some o → g.get? b = some o) →
      wpAny (model X.prog X.w) X.A (assignInOrder ((assignEach es X.env).map (·.2)) (its.take i ++ [.ref g.objs.size] ++ (its.drop i).drop (xs.length + 1 - n))) (fun _ s' => ∃ σ' H', Inv X pins σ' H' s' ∧ Q σ' H') X.xe
        { s with heap := g.push { cls := .type "list", data := .seq ((its.drop i).take (xs.length + 1 - n)).toArray }, toks := t' } := fun its rv g t' kp => by
    have I1 : Inv X pins σ H { s with heap := g, toks := t' } := I.kept (t' := t') kp
    have rm : Vals (midS xs n i) ((its.drop i).take (xs.length + 1 - n)) := Vals.take (Vals.drop rv i) _
    have ml : (midS xs n i).length ≤ sizeLine := by
      unfold midS
      rw [List.length_take, sizeLine_eq]
      omega
    have I2 : Inv X pins σ (upd H g.objs.size (.lst (midS xs n i))) { s with heap := g.push { cls := .type "list", data := .seq ((its.drop i).take (xs.length + 1 - n)).toArray }, toks := t' } :=
      I1.laid (t' := t') (fun b o e => Heap.get?_push_of_some _ e) (Nat.le_refl _) ⟨ml, _, 0, rm, Heap.get?_push_size _ rfl⟩
    exact h.run pins _ σ _ _ _ Q I2 (((Vals.take rv i).append (.cons (show RelV (.ref g.objs.size) (.ref g.objs.size) from rfl) .nil)).append (Vals.drop (Vals.drop rv i) _)) (hw _ (I1.hok.fresh (Nat.le_refl _)))
  show wpAny _ _ (assign (.Tuple es k pos) X.env (.ref a)) _ _ _
  rw [assign_Tuple]
  refine wpAny_bind (wpAny_standAt ?_)
  unfold unpack
  rw [hn, hst]
  rcases hq with hq | hq
  · obtain ⟨its, rv, ht, _⟩ := I.tuple hq
    have e := rv.length
    refine wpAny_bind (wpAny_holding (starTup ht (I.ok.hd hc) hi (by simpa [← e] using hl) (by simpa [← e] using hz) fun g t' kp => ?_))
    have := go its rv g t' kp
    simpa [e] using this
  · obtain ⟨its, rv, ht, _⟩ := I.list hq
    have e := rv.length
    refine wpAny_bind (wpAny_holding (starLst (vs := its.toArray) ht.isList (I.ok.hd hc) hi (by simpa [← e] using hl) (by simpa [← e] using hz) fun g t' kp => ?_))
    have := go its rv g t' kp
    simpa [e] using this
theorem pg_tupSX (K : PySem.W.Frag) {X : Cx} {es : List Expr} {k : Nat} {pos : Pos} {n i : Nat} {t : TGs} (h : PG X (.Tuple es k pos) (gTupS X.K n i t)) (hK : X.K = K := by rfl) : PG X (.Tuple es k pos) (gTupS K n i t) := by subst hK; exact h
end St6

set_option Elab.async false
set_option linter.all false
set_option maxRecDepth 100000
set_option maxHeartbeats 4000000
/-! own classes: objects made through a local name, classmethods, fields, methods -/
namespace Ob
open PySem L2
/-- a class, made by a local name that holds it -/
structure MakV (P : Program) (w : World) (K : PySem.W.Frag) (mg : Str → Option Value) (base : Heap) (k : Nat) (C : Addr) (sp : Sp) : Prop where
  ex : ∃ (f : Addr) (fd : FuncData) (ps : List Str), Mk K C f ∧ FnOk P w K mg base CX0 k f fd ps sp ∧ Binds K fd ps []
def tMakV (i : Nat) (C : Addr) (sp : Sp) : TE := fun σ H Q => σ[i]? = some (some (.ref C)) ∧ ∀ x dx, H x = none → H dx = none → dx ≠ x →
  sp [.ref x] (upd (upd H dx (.own x)) x (.ins C dx [])) (fun v H2 => v = .non ∧ Q (.ref x) H2) E0
section
variable {X : Cx} {k j : Nat} {C : Addr} {x m : Str} {sp : Sp} {p pos apos : Pos} {e o : Expr} {es : List Expr} {ta : TE} {t : TA}
theorem pe_mkv {i : Nat} (c : MakV X.prog X.w X.K X.mg X.base k C sp) (hr : Room j X.A) (hk : k + 1 ≤ j) (hN : X.N[i]? = some x) (hv : Vis X.env.scope x)
    (hd : (x == ("__debug__" : Str)) = false := by decide) (hcd : (x == ("__classdict__" : Str)) = false := by decide) : PE X (.Call (.Name x p) [] [] pos) (tMakV i C sp) := by
  obtain ⟨f, fd, ps, M, F, b⟩ := c.ex
  refine ⟨fun pins s σ H Q I h => ?_⟩
  obtain ⟨hs, h⟩ := h
  refine wpAny_Call_Name_kw (thn ((pe_var (pos := p) hN hv hd hcd).run pins s σ H (fun v H1 => v = .ref C ∧ H1 = H) I ⟨.ref C, hs, rfl, rfl⟩) fun u s1 ⟨v, H1, I1, r1, q1⟩ => ?_)
  obtain ⟨rfl, rfl⟩ := q1
  cases r1
  exact PySem.W.callWith_K0 I1.kIn M.kp (run_make (us := []) (dvs := []) (ds := []) M F (hr.mono hk) b .nil pass0 I1 .nil h)
/-- C.m(..), m a classmethod of the class that the module's name x holds -/
structure CalM (P : Program) (w : World) (K : PySem.W.Frag) (mg : Str → Option Value) (base : Heap) (k : Nat) (C : Addr) (m : Str) (sp : Sp) : Prop where
  ex : ∃ (p g : Addr) (fd : FuncData) (ps : List Str), ClX.CRead K C (.type "type") ∧ ClX.CMet K C (.type "type") m p g ∧ FnOk P w K mg base CX0 k g fd ps sp ∧ Binds K fd ps []
theorem pe_cm {pl : Sem Bool} (he : PE X o ta) (c : CalM X.prog X.w X.K X.mg X.base k C m sp) (hr : Room j X.A) (hk : k ≤ j) (ha : PA X (e :: es) t)
    (hst : starEach (e :: es) X.env = (false, eval e X.env) :: starEach es X.env := by rfl) (hpl : (backTo pos (starEach es X.env)).any (·.1) = false := by rfl)
    (ht : eval (.Call (.Attribute o m apos) (e :: es) [] pos) X.env = (do
      let ov ← eval o X.env
      standAt apos.atName
      let (f, first) ← holding [ov] (getMethod ov m pl)
      callWith pos f first (backTo pos (starEach (e :: es) X.env)) (backToKw pos (keywordEach [] X.env))) := by rfl) :
    PE X (.Call (.Attribute o m apos) (e :: es) [] pos) (ClX.tCMeth C sp E0 ta t) := by
  obtain ⟨p, g, fd, ps, r, cm, F, b⟩ := c.ex
  exact ClX.pe_cmeth (pl := pl) he r cm ((F.raw b .nil).imp fun vs H Q E h => by rw [List.append_nil]; exact h) (hr.mono hk) pass0 ha hst hpl ht
end
/-! the readings, a step each -/
section
variable {K : PySem.W.Frag} {σ : L2.St} {H : Hp} {Q : VK} {D : Ends} {ta tv : TE} {t : TA} {f m : Str} {v : V} {a C dx : Addr} {fs : List (Str × V)} {sp : Sp} {dvs : List V} {E : XK}
theorem fld (q : ta σ H fun x H1 => ∃ a C dx fs v, x = .ref a ∧ H1 a = some (.ins C dx fs) ∧ Cls K C ∧ NoAttr K C f ∧ fs.lookup f = some v ∧ Q v H1) : tFld K ta f σ H Q := q
theorem exfld {R : V → Prop} (h : H a = some (.ins C dx fs)) (c : Cls K C) (n : NoAttr K C f) (l : fs.lookup f = some v) (q : R v) :
    ∃ a' C dx fs v, V.ref a = .ref a' ∧ H a' = some (.ins C dx fs) ∧ Cls K C ∧ NoAttr K C f ∧ fs.lookup f = some v ∧ R v := ⟨a, C, dx, fs, v, rfl, h, c, n, l, q⟩
theorem sfld (q : tv σ H fun y H1 => ta σ H1 fun x H2 => ∃ a C dx fs, x = .ref a ∧ H2 a = some (.ins C dx fs) ∧ Cls K C ∧ NoAttr K C f ∧ fs.length < 1000 ∧ D.nx σ (upd H2 a (.ins C dx (putF f y fs)))) : sFld K ta tv f D σ H := q
theorem exsfld {R : Addr → Addr → Addr → List (Str × V) → Prop} (h : H a = some (.ins C dx fs)) (c : Cls K C) (n : NoAttr K C f) (l : fs.length < 1000) (q : R a C dx fs) :
    ∃ a' C dx fs, V.ref a = .ref a' ∧ H a' = some (.ins C dx fs) ∧ Cls K C ∧ NoAttr K C f ∧ fs.length < 1000 ∧ R a' C dx fs := ⟨a, C, dx, fs, rfl, h, c, n, l, q⟩
theorem meth (q : ta σ H fun x H1 => ∃ a dx fs, x = .ref a ∧ H1 a = some (.ins C dx fs) ∧ fs.lookup m = none ∧ t σ H1 fun vs H2 => sp (x :: (vs ++ dvs)) H2 Q E) : tMeth C m sp dvs E ta t σ H Q := q
theorem exmeth {R : Prop} (h : H a = some (.ins C dx fs)) (l : fs.lookup m = none) (q : R) : ∃ a' dx fs, V.ref a = .ref a' ∧ H a' = some (.ins C dx fs) ∧ fs.lookup m = none ∧ R := ⟨a, dx, fs, rfl, h, l, q⟩
theorem mkv {i : Nat} (h : σ[i]? = some (some (.ref C))) (q : ∀ x dx, H x = none → H dx = none → dx ≠ x → sp [.ref x] (upd (upd H dx (.own x)) x (.ins C dx [])) (fun v H2 => v = .non ∧ Q (.ref x) H2) E0) : tMakV i C sp σ H Q := ⟨h, q⟩
theorem cmeth (q : ta σ H fun x H1 => x = .ref C ∧ t σ H1 fun vs H2 => sp (.ref C :: vs) H2 Q E) : ClX.tCMeth C sp E ta t σ H Q := q
theorem excm {R : Prop} (q : R) : V.ref C = .ref C ∧ R := ⟨rfl, q⟩
theorem gstar {n i : Nat} {gs : TGs} {QS : L2.St → Hp → Prop} {xs : List V} (h : SqT K H a xs ∨ SqL K H a xs) (hn : n ≤ xs.length + 1) (hz : xs.length ≤ 16384) (q : ∀ D, H D = none → gs (xs.take i ++ [.ref D] ++ St6.endS xs n i) σ (upd H D (.lst (St6.midS xs n i))) QS) : St6.gTupS K n i gs (.ref a) σ H QS :=
  ⟨a, xs, rfl, h, hn, hz, q⟩
theorem lockE {te : TE} {d : Addr} {u : HO} (h : H d = some u) (mu : Mut (some u)) (q : ∀ od, te σ (upd H d (.frz od u)) fun v H' => H' d = some (.frz od u) ∧ Q v (upd H' d u)) : tLockE te σ H Q := ⟨d, u, h, mu, q⟩
end
section
variable {σ : L2.St} {H : Hp} {Q : VK} {D : Ends} {td ty tv : TE}
theorem din (q : ty σ H fun y H1 => td σ H1 fun x H2 => ∃ a o, x = .ref a ∧ DGet H2 a y o ∧ Q (.bl o.isSome) H2) : tDIn ty td σ H Q := q
theorem dnin (q : ty σ H fun y H1 => td σ H1 fun x H2 => ∃ a o, x = .ref a ∧ DGet H2 a y o ∧ Q (.bl (!o.isSome)) H2) : tDNotIn ty td σ H Q := q
theorem dget (q : td σ H fun x H1 => ty σ H1 fun y H2 => ∃ a v, x = .ref a ∧ DGet H2 a y (some v) ∧ Q v H2) : tDGet td ty σ H Q := q
theorem dput (q : tv σ H fun v H1 => td σ H1 fun x H2 => ty σ H2 fun y H3 => ∃ a H4, x = .ref a ∧ DPut H3 a y v H4 ∧ D.nx σ H4) : sDPut td ty tv D σ H := q
theorem dnew (q : ∀ p, H p = none → Q (.ref p) (upd H p (.dK []))) : tDNewK σ H Q := q
theorem exdin {a : Addr} {y : V} {o : Option V} {R : Option V → Prop} (g : DGet H a y o) (q : R o) : ∃ a' o, V.ref a = .ref a' ∧ DGet H a' y o ∧ R o := ⟨a, o, rfl, g, q⟩
theorem exdget {a : Addr} {y v : V} {R : V → Prop} (g : DGet H a y (some v)) (q : R v) : ∃ a' v, V.ref a = .ref a' ∧ DGet H a' y (some v) ∧ R v := ⟨a, v, rfl, g, q⟩
theorem getK {d : Addr} {kvs : List (Key × V)} (n : Int) (h : H d = some (.dK kvs)) : DGet H d (.int n) (valV kvs (Sum.inl n)) := DGet.k (k := Sum.inl n) h
theorem getKv {d : Addr} {kvs : List (Key × V)} {n : Int} {v : V} (h : H d = some (.dK kvs)) (e : valV kvs (Sum.inl n) = some v) : DGet H d (.int n) (some v) := by
  rw [← e]
  exact getK n h
theorem getFv {d : Addr} {o : Obj} {kvs : List (Key × V)} {n : Int} {v : V} (h : H d = some (.frz o (.dK kvs))) (e : valV kvs (Sum.inl n) = some v) : DGet H d (.int n) (some v) := .inl ⟨kvs, Sum.inl n, .inr ⟨o, h⟩, rfl, e.symm⟩
theorem exdput {a : Addr} {y v : V} {H4 : Hp} {R : Hp → Prop} (g : DPut H a y v H4) (q : R H4) : ∃ a' H4, V.ref a = .ref a' ∧ DPut H a' y v H4 ∧ R H4 := ⟨a, H4, rfl, g, q⟩
end
section
variable {σ : L2.St} {H : Hp} {Q : VK} {wi wi1 : TI} {g g1 : TG} {tt tt1 : TT} {te : TE} {vs vs1 : List Nat}
theorem lc2 (q : wi σ H fun J H1 => ∀ D, H1 D = none → ∃ W : Nat → Nat → Hp → Prop, (∃ m, W 0 m (upd H1 D (.lst []))) ∧ ∀ i m H, W i m H →
  (J.stop i H ∧ Q (.ref D) H) ∨ (J.go i H ∧ ∃ Nx : Hp → Prop, (∀ H', Nx H' → ∃ m', m' < m ∧ W (i + 1) m' H') ∧ ∀ x H', J.yld i H x H' → g x (wipe σ vs) H' fun σ2 H2 => wipe σ2 vs = wipe σ vs ∧ tt σ2 H2 fun b H3 =>
    if b = true then wi1 σ2 H3 fun J1 H4 => ∃ W1 : Nat → Nat → Hp → Prop, (∃ m, W1 0 m H4) ∧ ∀ j k H, W1 j k H →
      (J1.stop j H ∧ Nx H) ∨ (J1.go j H ∧ ∃ Nx1 : Hp → Prop, (∀ H', Nx1 H' → ∃ k', k' < k ∧ W1 (j + 1) k' H') ∧ ∀ x H', J1.yld j H x H' → g1 x (wipe σ2 vs1) H' fun σ3 H5 => wipe σ3 vs1 = wipe σ2 vs1 ∧ tt1 σ3 H5 fun b H6 =>
        if b = true then te σ3 H6 fun y H7 => ∃ acc, H7 D = some (.lst acc) ∧ acc.length < sizeLine ∧ Nx1 (upd H7 D (.lst (acc ++ [y]))) else Nx1 H6)
    else Nx H3)) : tLc2 wi g tt wi1 g1 tt1 te vs vs1 σ H Q := q
/-- the outer loop of two, by an invariant -/
theorem out_it {J : It} {n : Nat} {G : Hp → Prop} {Y : Nat → Hp → V → Hp → Prop} (w : Walk J n G Y) {H1 : Hp} {D : Addr} {Qd : Hp → Prop} {B : V → Hp → (Hp → Prop) → Prop} (Pv : Nat → Hp → Prop) (h0 : Pv 0 (upd H1 D (.lst []))) (hG : ∀ i H, i ≤ n → Pv i H → G H)
    (hs : ∀ i x H H', i < n → Pv i H → Y i H x H' → B x H' (Pv (i + 1))) (hd : ∀ H, Pv n H → Qd H) :
    ∃ W : Nat → Nat → Hp → Prop, (∃ m, W 0 m (upd H1 D (.lst []))) ∧ ∀ i m H, W i m H → (J.stop i H ∧ Qd H) ∨ (J.go i H ∧ ∃ Nx : Hp → Prop, (∀ H', Nx H' → ∃ m', m' < m ∧ W (i + 1) m' H') ∧ ∀ x H', J.yld i H x H' → B x H' Nx) := by
  refine ⟨fun i m H => m = n - i ∧ i ≤ n ∧ Pv i H, ⟨n, by simp, Nat.zero_le _, h0⟩, ?_⟩
  rintro i m H ⟨rfl, hi, p⟩
  have c := hG i H hi p
  rcases Nat.lt_or_ge i n with lt | ge
  · exact .inr ⟨w.goes i H lt c, Pv (i + 1), fun H' p' => ⟨n - (i + 1), by omega, rfl, lt, p'⟩, fun x H' y => hs i x H H' lt p (w.yields i H x H' lt c y)⟩
  · obtain rfl : i = n := Nat.le_antisymm hi ge
    exact .inl ⟨w.stops H c, hd H p⟩
/-- the inner loop of two -/
theorem in_it {J : It} {n : Nat} {G : Hp → Prop} {Y : Nat → Hp → V → Hp → Prop} (w : Walk J n G Y) {H1 : Hp} {Qd : Hp → Prop} {B : V → Hp → (Hp → Prop) → Prop} (Pv : Nat → Hp → Prop) (h0 : Pv 0 H1) (hG : ∀ i H, i ≤ n → Pv i H → G H)
    (hs : ∀ i x H H', i < n → Pv i H → Y i H x H' → B x H' (Pv (i + 1))) (hd : ∀ H, Pv n H → Qd H) :
    ∃ W : Nat → Nat → Hp → Prop, (∃ m, W 0 m H1) ∧ ∀ i m H, W i m H → (J.stop i H ∧ Qd H) ∨ (J.go i H ∧ ∃ Nx : Hp → Prop, (∀ H', Nx H' → ∃ m', m' < m ∧ W (i + 1) m' H') ∧ ∀ x H', J.yld i H x H' → B x H' Nx) := by
  refine ⟨fun i m H => m = n - i ∧ i ≤ n ∧ Pv i H, ⟨n, by simp, Nat.zero_le _, h0⟩, ?_⟩
  rintro i m H ⟨rfl, hi, p⟩
  have c := hG i H hi p
  rcases Nat.lt_or_ge i n with lt | ge
  · exact .inr ⟨w.goes i H lt c, Pv (i + 1), fun H' p' => ⟨n - (i + 1), by omega, rfl, lt, p'⟩, fun x H' y => hs i x H H' lt p (w.yields i H x H' lt c y)⟩
  · obtain rfl : i = n := Nat.le_antisymm hi ge
    exact .inl ⟨w.stops H c, hd H p⟩
end
theorem mt_indexX (K : PySem.W.Frag) {X : Cx} (hK : X.K = K := by rfl) : MtR X "list.index" (rIndex K) := by subst hK; exact mt_index
theorem idxI {K : PySem.W.Frag} {H : Hp} {Q : VK} {a : Addr} {ms : List Int} {n : Int} (h : SqL K H a (ms.map V.int)) (hn : n ∈ ms) (q : Q (.int (ms.idxOf n : Nat)) H) : rIndex K (.ref a) [.int n] H Q := by
  have lt := List.idxOf_lt_length_iff.mpr hn
  refine ⟨a, ms.map V.int, .int n, ms.idxOf n, .int n, rfl, rfl, h, rfl, ?_, ?_, ?_, ?_, q⟩
  · rw [List.all_map]
    exact List.all_eq_true.mpr fun x _ => rfl
  · rw [List.getElem?_map, List.getElem?_eq_getElem lt, List.getElem_idxOf]
    rfl
  · show (n == n) = true
    simp
  · intro m z hm hz
    rw [List.getElem?_map] at hz
    obtain ⟨x, hx, rfl⟩ := Option.map_eq_some_iff.mp hz
    obtain ⟨hl, e⟩ := List.getElem?_eq_some_iff.mp hx
    have := List.not_of_lt_findIdx (p := (· == n)) (xs := ms) hm
    rw [e] at this
    show (x == n) = false
    simpa using this
theorem lookHead {f : Str} {v : V} {r : List (Str × V)} : List.lookup f ((f, v) :: r) = some v := by simp [List.lookup]
theorem lookTail {f g : Str} {v : V} {r : List (Str × V)} {o : Option V} (h : (f == g) = false) (l : List.lookup f r = o) : List.lookup f ((g, v) :: r) = o := by simpa [List.lookup, h] using l
theorem lookNil {f : Str} : List.lookup f ([] : List (Str × V)) = none := rfl
theorem putHead {f : Str} {v w : V} {r : List (Str × V)} : putF f w ((f, v) :: r) = (f, w) :: r := by simp [putF]
theorem putTail {f g : Str} {v w : V} {r r' : List (Str × V)} (h : (g == f) = false) (l : putF f w r = r') : putF f w ((g, v) :: r) = (g, v) :: r' := by
  have : ¬ g = f := by simpa using h
  simp [putF, this, l]
theorem putNil {f : Str} {w : V} : putF f w [] = [(f, w)] := rfl
end Ob


namespace Pf
open PySem L2 Rg
local macro_rules | `(tactic| k_extra "hp") => `(tactic| first
  | assumption
  | exact SqL.of (by assumption) | exact SqT.of (by assumption) | exact SqL.of upd_same | exact SqT.of upd_same
  | exact upd_same
  | exact Or.inl (SqL.of (by assumption)) | exact Or.inl (SqL.of upd_same) | exact Or.inl (by assumption) | exact Or.inr (by assumption)
  | exact Or.inr (SqT.of (by assumption)) | exact Or.inr (SqT.of upd_same))
local macro_rules | `(tactic| k_extra "sz") => `(tactic| first | assumption | exact Nat.le_of_ble_eq_true rfl | (simp only [sizeLine_eq]; omega) | (rw [sizeLine_eq]; decide) | omega | decide)
local macro_rules | `(tactic| k_extra "ar") => `(tactic| first | assumption | omega | decide | (exact ⟨by omega, by omega⟩) | (exact Or.inl ⟨by omega, by omega⟩) | (exact Or.inr ⟨by omega, by omega⟩))
local macro_rules | `(tactic| k_extra "ty") => `(tactic| first | assumption | exact .base (.str _) | exact .base (.int _) | exact .base (.bl _) | exact .base .non | exact tyx_L (by assumption) | exact tyx_T (by assumption) | exact .base (.tup (by assumption)) | exact .base (.lst (by assumption)) | exact .base (.tup upd_same) | exact .base (.lst upd_same))
local macro_rules | `(tactic| k_extra "kb") => `(tactic| first | exact kit_ty kB_NoneType_str | exact kit_ty kB_NoneType_bool | exact kit_ty kB_NoneType_int | exact kit_ty kB_NoneType_dict | exact kit_ty kB_NoneType_tuple | exact kit_ty kB_NoneType_list | exact kit_ty kB_bool_str | exact kit_ty kB_bool_bool | exact kit_ty kB_bool_int | exact kit_ty kB_bool_dict | exact kit_ty kB_bool_tuple | exact kit_ty kB_bool_list | exact kit_ty kB_int_str | exact kit_ty kB_int_bool | exact kit_ty kB_int_int | exact kit_ty kB_int_dict | exact kit_ty kB_int_tuple | exact kit_ty kB_int_list | exact kit_ty kB_str_str | exact kit_ty kB_str_bool | exact kit_ty kB_str_int | exact kit_ty kB_str_dict | exact kit_ty kB_str_tuple | exact kit_ty kB_str_list | exact kit_ty kB_list_str | exact kit_ty kB_list_bool | exact kit_ty kB_list_int | exact kit_ty kB_list_dict | exact kit_ty kB_list_tuple | exact kit_ty kB_list_list | exact kit_ty kB_tuple_str | exact kit_ty kB_tuple_bool | exact kit_ty kB_tuple_int | exact kit_ty kB_tuple_dict | exact kit_ty kB_tuple_tuple | exact kit_ty kB_tuple_list | exact kit_ty kB_dict_str | exact kit_ty kB_dict_bool | exact kit_ty kB_dict_int | exact kit_ty kB_dict_dict | exact kit_ty kB_dict_tuple | exact kit_ty kB_dict_list)
local macro_rules | `(tactic| k_extra "r1") => `(tactic| with_reducible first
  | refine Rg.seq ?_ | refine Rg.asg ?_ | refine Rg.gname ?_ | refine Rg.cst ?_ | refine Rg.op ?_ | refine Rg.un ?_ | refine Rg.chain ?_
  | refine Rg.exbl ?_ | refine Rg.exint ?_ | refine Rg.expair ?_ | refine Rg.exstr ?_
  | refine Rg.eqI ?_ | refine Rg.neI ?_ | refine Rg.eqStr ?_ | refine Rg.neStr ?_ | refine Rg.eqB_truetrue ?_ | refine Rg.neB_truetrue ?_ | refine Rg.eqB_truefalse ?_ | refine Rg.neB_truefalse ?_ | refine Rg.eqB_falsetrue ?_ | refine Rg.neB_falsetrue ?_ | refine Rg.eqB_falsefalse ?_ | refine Rg.neB_falsefalse ?_ | refine Rg.eqB ?_ | refine Rg.neB ?_ | refine Rg.iI0 ?_ | refine Rg.iU ?_ | refine Rg.addI ?_ | refine Rg.leI ?_ | refine Rg.leS ?_ | refine Rg.inS ?_ | refine Rg.ninS ?_ | refine Rg.isN_int ?_ | refine Rg.notN_int ?_ | refine Rg.isN_str ?_ | refine Rg.notN_str ?_ | refine Rg.isN_bl ?_ | refine Rg.notN_bl ?_ | refine Rg.isN_ref ?_ | refine Rg.notN_ref ?_ | refine Rg.isN_non ?_ | refine Rg.notN_non ?_ | refine Rg.isN ?_ | refine Rg.notN ?_
  | refine Rg.sl ?_ | refine Rg.noPart ?_ | refine Rg.part ?_ | refine Rg.test ?_ | refine Rg.tb_ ?_ | refine Rg.tand ?_ | refine Rg.tor ?_ | refine Rg.tnot ?_
  | refine Rg.andV ?_ | refine Rg.orV ?_ | refine Rg.notV ?_ | refine Rg.ife ?_
  | refine Rg.nxt ?_ | refine Rg.brk ?_ | refine Rg.cnt ?_ | refine Rg.drp ?_ | refine Rg.ret ?_ | refine Rg.retN ?_ | refine Rg.ifS ?_ | refine Rg.par ?_ | refine Rg.gsub ?_
  | refine Rg.gcons ?_ | refine Rg.gnil ?_ | refine Rg.anil ?_ | refine Rg.acons ?_ | refine Rg.callC ?_ | refine Rg.callK ?_ | refine Rg.callB ?_ | refine Rg.intI ?_
  | refine Rg.lc ?_ | refine Rg.pnil ?_ | refine Rg.pcons ?_ | refine Rg.dget2 ?_ | refine Rg.tyes ?_ | refine Rg.lst_ ?_ | refine Rg.tup_ ?_ | refine Rg.m1 ?_ | refine Rg.isStr ?_ | refine Rg.for_ ?_ | refine Rg.bm ?_ | refine Rg.bm0 ?_ | refine Rg.il ?_ | refine Rg.ir1 ?_ | refine Rg.is_ ?_ | refine Rg.iz ?_
  | refine Rg.crR ?_ | refine Rg.crK ?_ | refine Rg.ie ?_ | refine Rg.revL ?_ | refine Rg.revT ?_ | refine Rg.star ?_ | refine Rg.iT ?_ | refine Rg.ipI2 ?_ | refine Rg.par3 ?_ | refine Rg.extrip ?_ | refine Rg.fm ?_ | refine Rg.jc ?_ | refine Rg.jn ?_ | refine Ob.fld ?_ | refine Ob.sfld ?_ | refine Ob.meth ?_ | refine Ob.cmeth ?_ | refine Ob.excm ?_ | refine Ob.din ?_ | refine Ob.dnin ?_ | refine Ob.dget ?_ | refine Ob.dput ?_ | refine Ob.dnew ?_ | refine Ob.lc2 ?_
  | refine iteT ?_ | refine iteF ?_ | refine Rg.iteNt ?_ | refine Rg.iteNf ?_)
local macro_rules | `(tactic| k_extra "lk") => `(tactic| repeat (first | exact Ob.lookHead | exact Ob.lookNil | refine Ob.lookTail (by decide +kernel) ?_))
local macro_rules | `(tactic| k_extra "pk") => `(tactic| repeat (first | exact Ob.putHead | exact Ob.putNil | refine Ob.putTail (by decide +kernel) ?_))
local macro_rules | `(tactic| k_extra "r") => `(tactic| first
  | ((with_reducible refine' Rg.mkNx ?h ?_); (case h => exact rfl))
  | ((with_reducible refine' Rg.mkRt ?h ?_); (case h => exact rfl))
  | ((with_reducible refine' Rg.mkCt ?h ?_); (case h => exact rfl))
  | ((with_reducible refine' Rg.mkBk ?h ?_); (case h => exact rfl))
  | k_extra "r1"
  | ((with_reducible refine' Rg.var ?h ?_); (case h => exact rfl))
  | ((with_reducible refine' Rg.aug ?h ?_); (case h => exact rfl))
  | ((with_reducible refine' Rg.ipS2 ?h ?_); (case h => k_extra "sz"))
  | ((with_reducible refine' Rg.ipL2 ?h ?h2 ?h3 ?_); (case h => k_extra "hp"); (case h2 => k_extra "hp"); (case h3 => k_extra "sz"))
  | ((with_reducible refine' Rg.iI ?h ?_); (case h => k_extra "ar"))
  | ((with_reducible refine' Rg.mulI ?h ?_); (case h => k_extra "ar"))
  | ((with_reducible refine' Rg.eqS ?h ?_); (case h => exact rfl))
  | ((with_reducible refine' Rg.neS ?h ?_); (case h => exact rfl))
  | ((with_reducible refine' Rg.addS ?h ?_); (case h => k_extra "sz"))
  | ((with_reducible refine' Rg.isi ?h ?h1 ?_); (case h => k_extra "ty"); (case h1 => with_reducible k_extra "kb"))
  | ((with_reducible refine' Rg.lenS ?h ?_); (case h => k_extra "sz"))
  | ((with_reducible refine' Rg.lenL ?h ?_); (case h => k_extra "hp"))
  | ((with_reducible refine' Rg.lenT ?h ?_); (case h => k_extra "hp"))
  | ((with_reducible refine' Rg.ixL ?h ?h1 ?_); (case h => k_extra "hp"); (case h1 => exact rfl))
  | ((with_reducible refine' Rg.ixT ?h ?h1 ?_); (case h => k_extra "hp"); (case h1 => exact rfl))
  | ((with_reducible refine' Rg.setL ?h ?h1 ?_); (case h => k_extra "hp"); (case h1 => exact rfl))
  | ((with_reducible refine' Rg.slS ?h ?_); (case h => k_extra "sz"))
  | ((with_reducible refine' Rg.exl ?h ?_); (case h => exact ⟨_, by k_extra "hp"⟩))
  | ((with_reducible refine' Rg.exr1 ?h1 ?h2 ?_); (case h1 => omega); (case h2 => omega))
  | ((with_reducible refine' Ob.exfld ?h ?c ?n ?l ?_); (case h => assumption); (case c => assumption); (case n => assumption); (case l => k_extra "lk"))
  | ((with_reducible refine' Ob.exsfld ?h ?c ?n ?l ?_); (case h => assumption); (case c => assumption); (case n => assumption); (case l => k_extra "sz"))
  | ((with_reducible refine' Ob.exmeth ?h ?l ?_); (case h => assumption); (case l => k_extra "lk"))
  | ((with_reducible refine' Rg.gtup ?h ?h1 ?_); (case h => k_extra "hp"); (case h1 => exact rfl)))
local macro_rules | `(tactic| k_extra "rr") => `(tactic| repeat (k_extra "r"))
local macro_rules | `(tactic| k_extra "ri") => `(tactic| repeat ((fail_if_success (with_reducible refine Rg.ife ?_)); k_extra "r"))
local macro_rules | `(tactic| k_extra "rl") => `(tactic| repeat ((fail_if_success (with_reducible refine Rg.lst_ ?_)); k_extra "r"))

def top (i : Nat) : Stmt := PySem.Challenge.pw_rubgrove_k09_shapes_held.main.body.getD i (.Pass ⟨0, 0, 0, 0⟩)
abbrev s_wall : Stmt := top 0
abbrev s_is_word : Stmt := top 12
abbrev s_is_kind : Stmt := top 13
abbrev s_is_shape : Stmt := top 16
abbrev s_check_shapes : Stmt := top 17
abbrev s_stands : Stmt := top 18
abbrev s_holds : Stmt := top 19
abbrev s_holds_any : Stmt := top 20
abbrev s_law_bag : Stmt := top 22
abbrev s_law_take : Stmt := top 23
abbrev s_law_of : Stmt := top 24
abbrev s_law_words : Stmt := top 25
abbrev s_law_names : Stmt := top 26
abbrev s_law_sign_text : Stmt := top 27
abbrev s_law_nested : Stmt := top 28
abbrev s_law_document : Stmt := top 29
abbrev s_law_flat : Stmt := top 30
abbrev s_law_row : Stmt := top 31
abbrev s_law_span : Stmt := top 32
abbrev s_law_above : Stmt := top 33
abbrev s_law_ahead : Stmt := top 34
abbrev s_law_field : Stmt := top 35
abbrev s_law_why : Stmt := top 36
abbrev s_law_alike : Stmt := top 37
abbrev s_law_shape : Stmt := top 38
abbrev s_law_holds : Stmt := top 39
abbrev s_law : Stmt := top 40
theorem sc_wall : FnScope ["k"] ["k"] (defScope s_wall) := ⟨rfl, rfl, rfl, by decide +kernel, rfl, by decide +kernel, by decide +kernel⟩
theorem sc_is_word : FnScope ["value", "most", "sign"] ["value", "most"] (defScope s_is_word) := ⟨rfl, rfl, rfl, by decide +kernel, rfl, by decide +kernel, by decide +kernel⟩
theorem sc_is_kind : FnScope ["value"] ["value"] (defScope s_is_kind) := ⟨rfl, rfl, rfl, by decide +kernel, rfl, by decide +kernel, by decide +kernel⟩
theorem sc_is_shape : FnScope ["value", "kind"] ["value"] (defScope s_is_shape) := ⟨rfl, rfl, rfl, by decide +kernel, rfl, by decide +kernel, by decide +kernel⟩
theorem sc_check_shapes : FnScope ["shapes", "at", "shape"] ["shapes"] (defScope s_check_shapes) := ⟨rfl, rfl, rfl, by decide +kernel, rfl, by decide +kernel, by decide +kernel⟩
theorem sc_stands : FnScope ["word", "one", "other"] ["word", "one", "other"] (defScope s_stands) := ⟨rfl, rfl, rfl, by decide +kernel, rfl, by decide +kernel, by decide +kernel⟩
theorem sc_holds : FnScope ["document", "shape", "row", "spans", "word", "kind", "rest", "ones", "others", "number", "one", "other"] ["document", "shape"] (defScope s_holds) := ⟨rfl, rfl, rfl, by decide +kernel, rfl, by decide +kernel, by decide +kernel⟩
theorem sc_holds_any : FnScope ["document", "shapes", "shape"] ["document", "shapes"] (defScope s_holds_any) := ⟨rfl, rfl, rfl, by decide +kernel, rfl, by decide +kernel, by decide +kernel⟩
theorem sc_law_bag : FnScope ["_law_script", "_law_row_z", "_law_mark", "_law_cell"] ["_law_script"] (defScope s_law_bag) := ⟨rfl, rfl, rfl, by decide +kernel, rfl, by decide +kernel, by decide +kernel⟩
theorem sc_law_take : FnScope ["_law_bag_z", "_law_many", "_law_cell", "_law_mixed", "_law_found"] ["_law_bag_z", "_law_many"] (defScope s_law_take) := ⟨rfl, rfl, rfl, by decide +kernel, rfl, by decide +kernel, by decide +kernel⟩
theorem sc_law_of : FnScope ["_law_bag_z", "_law_things"] ["_law_bag_z", "_law_things"] (defScope s_law_of) := ⟨rfl, rfl, rfl, by decide +kernel, rfl, by decide +kernel, by decide +kernel⟩
theorem sc_law_words : FnScope ["_law_bag_z", "_law_many", "_law_most", "_law_letters", "_law_stem", "_law_at", "_law_start", "_law_found", "_law_fixed", "_law_k", "_law_word"] ["_law_bag_z", "_law_many", "_law_most"] (defScope s_law_words) := ⟨rfl, rfl, rfl, by decide +kernel, rfl, by decide +kernel, by decide +kernel⟩
theorem sc_law_names : FnScope ["_law_bag_z"] ["_law_bag_z"] (defScope s_law_names) := ⟨rfl, rfl, rfl, by decide +kernel, rfl, by decide +kernel, by decide +kernel⟩
theorem sc_law_sign_text : FnScope ["_law_bag_z", "_law_most", "_law_signs", "_law_k"] ["_law_bag_z", "_law_most"] (defScope s_law_sign_text) := ⟨rfl, rfl, rfl, by decide +kernel, rfl, by decide +kernel, by decide +kernel⟩
theorem sc_law_nested : FnScope ["_law_state", "_law_rows", "_law_opened", "_law_mark", "_law_inner"] ["_law_state"] (defScope s_law_nested) := ⟨rfl, rfl, rfl, by decide +kernel, rfl, by decide +kernel, by decide +kernel⟩
theorem sc_law_document : FnScope ["_law_bag_z", "_law_kinds", "_law_many", "_law_marks", "_law_opened", "_law_some", "_law_texts", "_law_k", "_law_step"] ["_law_bag_z", "_law_kinds", "_law_many"] (defScope s_law_document) := ⟨rfl, rfl, rfl, by decide +kernel, rfl, by decide +kernel, by decide +kernel⟩
theorem sc_law_flat : FnScope ["_law_document_z", "_law_state", "_law_kind", "_law_text", "_law_inner", "_law_number"] ["_law_document_z", "_law_state"] (defScope s_law_flat) := ⟨rfl, rfl, rfl, by decide +kernel, rfl, by decide +kernel, by decide +kernel⟩
theorem sc_law_row : FnScope ["_law_document_z"] ["_law_document_z"] (defScope s_law_row) := ⟨rfl, rfl, rfl, by decide +kernel, rfl, by decide +kernel, by decide +kernel⟩
theorem sc_law_span : FnScope ["_law_marks", "_law_number"] ["_law_marks", "_law_number"] (defScope s_law_span) := ⟨rfl, rfl, rfl, by decide +kernel, rfl, by decide +kernel, by decide +kernel⟩
theorem sc_law_above : FnScope ["_law_marks", "_law_one", "_law_other", "_law_first", "_law_second"] ["_law_marks", "_law_one", "_law_other"] (defScope s_law_above) := ⟨rfl, rfl, rfl, by decide +kernel, rfl, by decide +kernel, by decide +kernel⟩
theorem sc_law_ahead : FnScope ["_law_marks", "_law_one", "_law_other"] ["_law_marks", "_law_one", "_law_other"] (defScope s_law_ahead) := ⟨rfl, rfl, rfl, by decide +kernel, rfl, by decide +kernel, by decide +kernel⟩
theorem sc_law_field : FnScope ["_law_e"] ["_law_e"] (defScope s_law_field) := ⟨rfl, rfl, rfl, by decide +kernel, rfl, by decide +kernel, by decide +kernel⟩
theorem sc_law_why : FnScope ["_law_ask", "_law_e"] ["_law_ask"] (defScope s_law_why) := ⟨rfl, rfl, rfl, by decide +kernel, rfl, by decide +kernel, by decide +kernel⟩
theorem sc_law_alike : FnScope ["_law_found", "_law_due", "_law_key", "_law_one", "_law_two"] ["_law_found", "_law_due"] (defScope s_law_alike) := ⟨rfl, rfl, rfl, by decide +kernel, rfl, by decide +kernel, by decide +kernel⟩
theorem sc_law_shape : FnScope ["_law_bag_z", "_law_kinds", "_law_word"] ["_law_bag_z", "_law_kinds"] (defScope s_law_shape) := ⟨rfl, rfl, rfl, by decide +kernel, rfl, by decide +kernel, by decide +kernel⟩
theorem sc_law_holds : FnScope ["_law_document_z", "_law_shape_z", "_law_state", "_law_found", "_law_one", "_law_other"] ["_law_document_z", "_law_shape_z"] (defScope s_law_holds) := ⟨rfl, rfl, rfl, by decide +kernel, rfl, by decide +kernel, by decide +kernel⟩
theorem sc_law : FnScope ["_law_script", "_law_bag_z", "_law_names_z", "_law_kinds", "_law_turn", "_law_some", "_law_document_z", "_law_kept", "_law_due", "_law_told", "_law_odd", "_law_at", "_law_late", "_law_strange", "_law_nested_z", "_law_k", "_law_shape_z"] ["_law_script"] (defScope s_law) := ⟨rfl, rfl, rfl, by decide +kernel, rfl, by decide +kernel, by decide +kernel⟩
abbrev s_Row___init__ : Stmt := inClass (top 7) 0
theorem sc_Row___init__ : FnScope ["self"] ["self"] (defScope s_Row___init__) := ⟨rfl, rfl, rfl, by decide +kernel, rfl, by decide +kernel, by decide +kernel⟩
abbrev s_Row_made_of : Stmt := inClass (top 7) 1
theorem sc_Row_made_of : FnScope ["cls", "document", "row", "left", "thing", "kind", "text", "inner", "number"] ["cls", "document"] (defScope s_Row_made_of) := ⟨rfl, rfl, rfl, by decide +kernel, rfl, by decide +kernel, by decide +kernel⟩
abbrev s_Row_added : Stmt := inClass (top 7) 2
theorem sc_Row_added : FnScope ["self", "kind", "text", "origin"] ["self", "kind", "text", "origin"] (defScope s_Row_added) := ⟨rfl, rfl, rfl, by decide +kernel, rfl, by decide +kernel, by decide +kernel⟩
abbrev s_Row_spans : Stmt := inClass (top 7) 3
theorem sc_Row_spans : FnScope ["self", "found", "at", "number"] ["self"] (defScope s_Row_spans) := ⟨rfl, rfl, rfl, by decide +kernel, rfl, by decide +kernel, by decide +kernel⟩
abbrev s_Row_rub : Stmt := inClass (top 7) 5
theorem sc_Row_rub : FnScope ["self", "numbers"] ["self", "numbers"] (defScope s_Row_rub) := ⟨rfl, rfl, rfl, by decide +kernel, rfl, by decide +kernel, by decide +kernel⟩
abbrev s_Row_part : Stmt := inClass (top 7) 6
theorem sc_Row_part : FnScope ["self", "number"] ["self", "number"] (defScope s_Row_part) := ⟨rfl, rfl, rfl, by decide +kernel, rfl, by decide +kernel, by decide +kernel⟩
abbrev s_Row_cut : Stmt := inClass (top 7) 7
theorem sc_Row_cut : FnScope ["self", "number"] ["self", "number"] (defScope s_Row_cut) := ⟨rfl, rfl, rfl, by decide +kernel, rfl, by decide +kernel, by decide +kernel⟩
abbrev s_Row_place : Stmt := inClass (top 7) 8
theorem sc_Row_place : FnScope ["self", "word", "number"] ["self", "word", "number"] (defScope s_Row_place) := ⟨rfl, rfl, rfl, by decide +kernel, rfl, by decide +kernel, by decide +kernel⟩
abbrev s_Row_put_in : Stmt := inClass (top 7) 9
theorem sc_Row_put_in : FnScope ["self", "at", "part"] ["self", "at", "part"] (defScope s_Row_put_in) := ⟨rfl, rfl, rfl, by decide +kernel, rfl, by decide +kernel, by decide +kernel⟩
abbrev s_Row_doubled : Stmt := inClass (top 7) 10
theorem sc_Row_doubled : FnScope ["self", "part"] ["self", "part"] (defScope s_Row_doubled) := ⟨rfl, rfl, rfl, by decide +kernel, rfl, by decide +kernel, by decide +kernel⟩
abbrev s_BadShape_init : Stmt := inClass (top 3) 0
theorem sc_BadShape_init : FnScope ["self", "at"] ["self", "at"] (defScope s_BadShape_init) := ⟨rfl, rfl, rfl, by decide +kernel, rfl, by decide +kernel, by decide +kernel⟩
/-- what the text's names are -/
structure Txt (mg : Str → Option Value) : Prop where
  len : mg "len" = none
  int : mg "int" = none
  range : mg "range" = none
  isinstance : mg "isinstance" = none
  all : mg "all" = none
  any : mg "any" = none
  list : mg "list" = none
  tuple : mg "tuple" = none
  str : mg "str" = none
  sorted : mg "sorted" = none
  zip : mg "zip" = none
  enumerate : mg "enumerate" = none
  bool : mg "bool" = none
  dict : mg "dict" = none
  g_SMALL : ∃ u, mg "SMALL" = some u ∧ RelV (.str "abcdefghijklmnopqrstuvwxyz") u
  g_REST : ∃ u, mg "REST" = some u ∧ RelV (.str "rest") u
  g_MOST_LETTERS : ∃ u, mg "MOST_LETTERS" = some u ∧ RelV (.int 6) u
/-! ### the bag -/
def BagAt (H : Hp) (p r : Addr) : Prop := ∃ (ns : List Int) (i c m : Int), H p = some (.lst [.ref r, .int i, .int c, .int m]) ∧ H r = some (.lst (ns.map V.int)) ∧ ns.length ≤ 63 ∧ 0 ≤ i ∧ 0 ≤ c ∧ 0 ≤ m ∧ m < 2147483629
theorem bag_ne {H : Hp} {p r : Addr} {ns : List Int} {i c m : V} (h : H p = some (.lst [.ref r, i, c, m])) (h' : H r = some (.lst (ns.map V.int))) : r ≠ p := by
  rintro rfl
  rw [h] at h'
  have e := Option.some.inj h'
  injection e with e
  cases ns with
  | nil => cases e
  | cons x l =>
    rw [List.map_cons] at e
    cases e
theorem BagAt.ne_none {H : Hp} {b r p : Addr} (h : BagAt H b r) (e : H p = none) : p ≠ b ∧ p ≠ r := by
  obtain ⟨ns, i, c, m, h1, h2, _⟩ := h
  exact ⟨(ne_of_none h1 e).symm, (ne_of_none h2 e).symm⟩
theorem BagAt.ex {H : Hp} {b r : Addr} (h : BagAt H b r) : ∃ o, H b = some o := by
  obtain ⟨ns, i, c, m, h1, h2, _⟩ := h
  exact ⟨_, h1⟩
theorem BagAt.same {H H' : Hp} {b r : Addr} (h : BagAt H b r) (s : Same H H') : BagAt H' b r := by
  obtain ⟨ns, i, c, m, h1, h2, h3⟩ := h
  exact ⟨ns, i, c, m, s _ _ h1, s _ _ h2, h3⟩
theorem BagAt.new {H : Hp} {b r p : Addr} {o : HO} (h : BagAt H b r) (n : H p = none) : BagAt (upd H p o) b r := h.same (same_upd n)
/-- what was not there when the bag stood there may change -/
theorem BagAt.mut {H H1 : Hp} {b r p : Addr} {o : HO} (h : BagAt H b r) (h1 : BagAt H1 b r) (n : H1 p = none) : BagAt (upd H p o) b r := by
  obtain ⟨n1, n2⟩ := h1.ne_none n
  obtain ⟨ns, i, c, m, h1, h2, h3⟩ := h
  exact ⟨ns, i, c, m, by rw [upd_ne n1.symm]; exact h1, by rw [upd_ne n2.symm]; exact h2, h3⟩
def spBag (K : PySem.W.Frag) : Sp := fun vs H Q _ => ∃ (a : Addr) (ns : List Int), vs = [.ref a] ∧ SqL K H a (ns.map V.int) ∧ ns.length ≤ 63 ∧
  ∀ (H' : Hp) (p r : Addr), Same H H' → H p = none → BagAt H' p r → Q (.ref p) H'
def spTake : Sp := fun vs H Q _ => ∃ (b r : Addr) (many : Int), vs = [.ref b, .int many] ∧ BagAt H b r ∧ 1 ≤ many ∧ many < 1073741824 ∧
  ∀ (k : Int) (H' : Hp), But b H H' → BagAt H' b r → 0 ≤ k → k < many → Q (.int k) H'
section
variable {P : Program} {w : World} {K : PySem.W.Frag} {mg : Str → Option Value} {base : Heap} {f : Addr} {fd : FuncData}
theorem ok_law_bag (F : Fun K "_law_bag" "_law_bag" s_law_bag f fd) (T : Txt mg) : FnOk P w K mg base CX0 1 f fd ["_law_script"] (spBag K) := by
  refine F.ok sc_law_bag (fun vs H Q E h => ?_) (fun cdv A outer s H vs Q E hr h => ?_)
  · obtain ⟨a, ns, rfl, _⟩ := h
    rfl
  · obtain ⟨a, ns, rfl, hS, hl, q⟩ := h
    refine ⟨_, (pss_cons (ps_set (i := 1) sc_law_bag.nd rfl (.inl rfl) (pe_callTy (cr_list K) (by rfl) T.list (by decide +kernel) (pa_cons (pe_slice (sl_X K) (pv 0) po_none (po_some pe_int)) pa_nil)))
      (pss_cons (ps_set (i := 2) sc_law_bag.nd rfl (.inl rfl) (pe_op (op_addX K) pe_int (pe_op op_mulX pe_int (pe_callB (call_lenX K) (by rfl) T.len PySem.boot_len (pa_cons (pv 1) pa_nil)))))
      (pss_cons (ps_for PassesOwn.never rfl (pi_listX K (pv 1)) (pg_name (i := 3) sc_law_bag.nd rfl (.inl rfl)) (pss_one (ps_set (i := 2) sc_law_bag.nd rfl (.inl rfl) (pe_op op_mod (pe_callTy cr_int (by rfl) T.int (by decide +kernel) (pa_cons (pe_op (op_addX K) (pe_op (op_addX K) (pe_op op_mulX (pv 2) pe_int) (pe_op op_mod (pe_callTy cr_int (by rfl) T.int (by decide +kernel) (pa_cons (pv 3) pa_nil)) pe_int)) pe_int) pa_nil)) pe_int))))
      (pss_one (ps_ret (pe_lst (pa_cons (pv 1) (pa_cons pe_int (pa_cons pe_int (pa_cons (pv 2) pa_nil)))))))))), ?_⟩
    change (_ : TS) _ [some (V.ref a), none, none, none] _
    k_extra "rr"
    refine slL hS fun l nl => ?_
    obtain ⟨ms, em, hm⟩ := cut_map ns none (some 63)
    rw [em]
    k_extra "rr"
    refine listL (SqL.of upd_same) fun r nr => ?_
    have nrl : l ≠ r := ne_of_none upd_same nr
    have nr0 : H r = none := un0 nr
    k_extra "rr"
    have hm63 : ms.length ≤ 63 := by omega
    have elen : ((ms.map V.int).length : Int) ≤ 63 := by rw [List.length_map]; omega
    have s2 : Same H (upd (upd H l (.lst (ms.map V.int))) r (.lst (ms.map V.int))) := (same_upd nl).trans (same_upd nr)
    refine for_list (K := K) (a := r) (xs := ms.map V.int) (fun i σ H' => ∃ (m : Int) (v : Option V), σ = [some (.ref a), some (.ref r), some (.int m), v] ∧ 0 ≤ m ∧ m < 2147483629 ∧ H' = upd (upd H l (.lst (ms.map V.int))) r (.lst (ms.map V.int)))
      ⟨_, none, rfl, by omega, by omega, rfl⟩ (fun i σ H' _ ⟨_, _, _, _, _, e⟩ => by rw [e]; exact SqL.of upd_same) ?_ ?_
    · rintro i y σ H' hi ⟨m, v, rfl, m0, m1, rfl⟩
      obtain ⟨u, hu, rfl⟩ := map_at hi
      k_extra "rr"
      have h1 := Int.emod_nonneg (m * 45161 + u % 2147483423 + 11) (show (2147483549 : Int) ≠ 0 by decide)
      have h2 := Int.emod_lt_of_pos (m * 45161 + u % 2147483423 + 11) (show (0 : Int) < 2147483549 by decide)
      exact ⟨_, _, rfl, h1, by omega, rfl⟩
    · rintro σ H' ⟨m, v, rfl, m0, m1, rfl⟩
      k_extra "rr"
      refine ⟨by k_extra "sz", fun p np => ?_⟩
      k_extra "rr"
      have nrp : r ≠ p := ne_of_none upd_same np
      refine q _ p r (s2.trans (same_upd np)) (s2.free np) ⟨ms, 0, 0, m, upd_same, upd2 nrp upd_same, hm63, by decide, by decide, m0, m1⟩
end

section
variable {P : Program} {w : World} {K : PySem.W.Frag} {mg : Str → Option Value} {base : Heap} {f : Addr} {fd : FuncData}
theorem ok_law_take (F : Fun K "_law_take" "_law_take" s_law_take f fd) (T : Txt mg) : FnOk P w K mg base CX0 1 f fd ["_law_bag_z", "_law_many"] spTake := by
  refine F.ok sc_law_take (fun vs H Q E h => ?_) (fun cdv A outer s H vs Q E hr h => ?_)
  · obtain ⟨b, r, many, rfl, _⟩ := h
    rfl
  · obtain ⟨b, r, many, rfl, ⟨ns, i, c, m, hb, hn, hl, i0, c0, m0, m1⟩, k1, k2, q⟩ := h
    refine ⟨_, (C8.pss_cut (ps_if (PW.pt (pw_and (pt_cmpR (op_eqX K hr) (pe_ix (ix_X K) (pv 0) pe_int (fun _ _ => rfl)) pe_int (nomark _)) (pw_and1 (pt_cmpR op_lt (pe_ix (ix_X K) (pv 0) pe_int (fun _ _ => rfl)) (pe_callB (call_lenX K) (by rfl) T.len PySem.boot_len (pa_cons (pe_ix (ix_X K) (pv 0) pe_int (fun _ _ => rfl)) pa_nil)) (nomark _))))) (pss_cons (ps_set (i := 2) sc_law_take.nd rfl (.inl rfl) (pe_ix (ix_X K) (pe_ix (ix_X K) (pv 0) pe_int (fun _ _ => rfl)) (pe_ix (ix_X K) (pv 0) pe_int (fun _ _ => rfl)) (fun _ _ => rfl)))
      (pss_cons (ps_asg (pe_op (op_addX K) (pe_ix (ix_X K) (pv 0) pe_int (fun _ _ => rfl)) pe_int) (pg_sub (pv 0) pe_int set_list))
      (pss_one (ps_if (pt_cmpR op_ge (pv 2) (pe_op op_pow pe_int pe_int) (nomark _)) (pss_one (ps_asg (pv 2) (pg_sub (pv 0) pe_int set_list))) (pss_cons (ps_set (i := 3) sc_law_take.nd rfl (.inl rfl) (pe_op (op_addX K) (pe_op op_mulX (pe_ix (ix_X K) (pv 0) pe_int (fun _ _ => rfl)) pe_int) (pe_op op_mod (pe_callTy cr_int (by rfl) T.int (by decide +kernel) (pa_cons (pv 2) pa_nil)) pe_int)))
      (pss_one (ps_asg (pe_op op_mod (pe_callTy cr_int (by rfl) T.int (by decide +kernel) (pa_cons (pe_op (op_addX K) (pv 3) (pe_ix (ix_X K) (pv 0) pe_int (fun _ _ => rfl))) pa_nil)) pe_int) (pg_sub (pv 0) pe_int set_list)))))))) pss_nil)
      (pss_cons (ps_if (pt_cmpR op_gt (pe_ix (ix_X K) (pv 0) pe_int (fun _ _ => rfl)) pe_int (nomark _)) (pss_cons (ps_set (i := 4) sc_law_take.nd rfl (.inl rfl) (pe_op op_mod (pe_callTy cr_int (by rfl) T.int (by decide +kernel) (pa_cons (pe_ix (ix_X K) (pv 0) pe_int (fun _ _ => rfl)) pa_nil)) (pv 1)))
      (pss_cons (ps_asg (pe_op op_fdivN (pe_ix (ix_X K) (pv 0) pe_int (fun _ _ => rfl)) (pv 1)) (pg_sub (pv 0) pe_int set_list))
      (pss_one (ps_ret (pv 4))))) pss_nil)
      (pss_cons (ps_asg (pe_op op_mod (pe_callTy cr_int (by rfl) T.int (by decide +kernel) (pa_cons (pe_op (op_addX K) (pe_op op_mulX (pe_ix (ix_X K) (pv 0) pe_int (fun _ _ => rfl)) pe_int) pe_int) pa_nil)) pe_int) (pg_sub (pv 0) pe_int set_list))
      (pss_one (ps_ret (pe_op op_mod (pe_callTy cr_int (by rfl) T.int (by decide +kernel) (pa_cons (pe_op op_fdivN (pe_op op_mod (pe_callTy cr_int (by rfl) T.int (by decide +kernel) (pa_cons (pe_op op_mulX (pe_ix (ix_X K) (pv 0) pe_int (fun _ _ => rfl)) (pe_ix (ix_X K) (pv 0) pe_int (fun _ _ => rfl))) pa_nil)) pe_int) pe_int) pa_nil)) (pv 1))))))), ?_⟩
    change (_ : TS) _ [some (V.ref b), some (.int many), none, none, none] _
    have nrb := bag_ne hb hn
    refine Rg.cut (fun σ H' => ∃ (i' c' m' : Int) (v2 v3 : Option V), σ = [some (V.ref b), some (.int many), v2, v3, none] ∧ H' b = some (.lst [.ref r, .int i', .int c', .int m']) ∧ But b H H' ∧ 0 ≤ i' ∧ 0 ≤ c' ∧ 0 ≤ m' ∧ m' < 2147483629) ?_ ?_
    · k_extra "rr"
      refine iteD (fun ec => ?_) (fun ec => ?_)
      · k_extra "rr"
        refine iteD (fun ei => ?_) (fun ei => ?_)
        · k_extra "rr"
          have hin : i.toNat < ns.length := by
            rw [List.length_map] at ei
            omega
          refine ixL (SqL.of hn) (v := .int ns[i.toNat]) ?_ ?_
          · exact at_of (j := i.toNat) (by omega) (by rw [List.getElem?_map, List.getElem?_eq_getElem hin]; rfl)
          k_extra "rr"
          refine iteD (fun eb => ?_) (fun eb => ?_)
          · k_extra "rr"
            refine ⟨i + 1, ns[i.toNat], m, some (.int ns[i.toNat]), none, rfl, upd_same, But.trans But.upd But.upd, by omega, ?_, m0, m1⟩
            have e18 : (0 : Int) ≤ 10 ^ Int.toNat 18 := by decide
            omega
          · k_extra "rr"
            have h1 := Int.emod_nonneg (m * 40087 + ns[i.toNat] % 1999999913 + (i + 1)) (show (2147483629 : Int) ≠ 0 by decide)
            have h2 := Int.emod_lt_of_pos (m * 40087 + ns[i.toNat] % 1999999913 + (i + 1)) (show (0 : Int) < 2147483629 by decide)
            exact ⟨i + 1, c, _, some (.int ns[i.toNat]), some (.int (m * 40087 + ns[i.toNat] % 1999999913)), rfl, upd_same, But.trans But.upd But.upd, by omega, c0, h1, h2⟩
        · k_extra "rr"
          exact ⟨i, c, m, none, none, rfl, hb, But.refl _ _, i0, c0, m0, m1⟩
      · k_extra "rr"
        exact ⟨i, c, m, none, none, rfl, hb, But.refl _ _, i0, c0, m0, m1⟩
    · rintro σ H' ⟨i', c', m', v2, v3, rfl, hb', bb, i0', c0', m0', m1'⟩
      have hn' : H' r = some (.lst (ns.map V.int)) := bb _ _ hn nrb
      k_extra "rr"
      refine iteD (fun ec => ?_) (fun ec => ?_)
      · k_extra "rr"
        refine q (c' % many) _ (bb.trans But.upd) ⟨ns, i', c'.fdiv many, m', upd_same, upd2 nrb hn', hl, i0', ?_, m0', m1'⟩ (Int.emod_nonneg _ (by omega)) (Int.emod_lt_of_pos _ (by omega))
        rw [Int.fdiv_eq_ediv_of_nonneg _ (by omega)]
        exact Int.ediv_nonneg c0' (by omega)
      · k_extra "rr"
        have h1 := Int.emod_nonneg (m' * 48271033 + 37) (show (2147483629 : Int) ≠ 0 by decide)
        have h2 := Int.emod_lt_of_pos (m' * 48271033 + 37) (show (0 : Int) < 2147483629 by decide)
        refine q _ _ (bb.trans But.upd) ⟨ns, i', c', _, upd_same, upd2 nrb hn', hl, i0', c0', h1, h2⟩ (Int.emod_nonneg _ (by omega)) (Int.emod_lt_of_pos _ (by omega))
end

/-! ### drawn things -/
def spOf (K : PySem.W.Frag) : Sp := fun vs H Q _ => ∃ (b r : Addr) (x : V), vs = [.ref b, x] ∧ BagAt H b r ∧
  ((∃ z : Str, x = .str z ∧ 0 < z.length ∧ z.length ≤ 1000 ∧ ∀ (c : Nat) (H' : Hp), c ∈ z.cps.toList → But b H H' → BagAt H' b r → Q (.str ⟨#[c]⟩) H') ∨
   (∃ (p : Addr) (xs : List V), x = .ref p ∧ p ≠ b ∧ SqL K H p xs ∧ 0 < xs.length ∧ xs.length ≤ 1000 ∧ ∀ (i : Nat) (v : V) (H' : Hp), xs[i]? = some v → But b H H' → BagAt H' b r → Q v H'))
theorem at_str {z : Str} {k : Int} (h0 : 0 ≤ k) (h1 : k < z.length) : ∃ c, atI z.cps.toList k = some c ∧ c ∈ z.cps.toList := by
  have hl : k.toNat < z.cps.toList.length := by
    have e : z.cps.toList.length = z.length := by simp [Str.length]
    omega
  refine ⟨z.cps.toList[k.toNat], ?_, List.getElem_mem hl⟩
  have e := atI_nat (xs := z.cps.toList) (j := k.toNat) (v := z.cps.toList[k.toNat]) (List.getElem?_eq_getElem hl)
  rw [show ((k.toNat : Nat) : Int) = k by omega] at e
  exact e
theorem at_lst {xs : List V} {k : Int} (h0 : 0 ≤ k) (h1 : k < xs.length) : ∃ v, atI xs k = some v ∧ xs[k.toNat]? = some v := by
  have hl : k.toNat < xs.length := by omega
  refine ⟨xs[k.toNat], ?_, List.getElem?_eq_getElem hl⟩
  have e := atI_nat (xs := xs) (j := k.toNat) (v := xs[k.toNat]) (List.getElem?_eq_getElem hl)
  rw [show ((k.toNat : Nat) : Int) = k by omega] at e
  exact e
section
variable {P : Program} {w : World} {K : PySem.W.Frag} {mg : Str → Option Value} {base : Heap} {f : Addr} {fd : FuncData}
theorem ok_law_of (F : Fun K "_law_of" "_law_of" s_law_of f fd) (T : Txt mg) (c_law_take : Cal P w K mg base 1 "_law_take" spTake) : FnOk P w K mg base CX0 2 f fd ["_law_bag_z", "_law_things"] (spOf K) := by
  refine F.ok sc_law_of (fun vs H Q E h => ?_) (fun cdv A outer s H vs Q E hr h => ?_)
  · obtain ⟨b, r, x, rfl, _⟩ := h
    rfl
  · obtain ⟨b, r, x, rfl, hb, h⟩ := h
    refine ⟨_, (pss_one (ps_ret (pe_ix (ix_X K) (pv 1) (pe_c c_law_take hr (by omega) (by rfl) (pa_cons (pv 0) (pa_cons (pe_callB (call_lenX K) (by rfl) T.len PySem.boot_len (pa_cons (pv 1) pa_nil)) pa_nil))) (fun _ _ => rfl)))), ?_⟩
    rcases h with ⟨z, rfl, z0, z1, q⟩ | ⟨p, xs, rfl, npb, hx, z0, z1, q⟩
    · change (_ : TS) _ [some (V.ref b), some (V.str z)] _
      k_extra "rr"
      refine ⟨b, r, _, rfl, hb, by omega, by omega, fun k H' bb hb' k0 k1 => ?_⟩
      obtain ⟨c, e1, e2⟩ := at_str k0 k1
      exact ixS (by k_extra "sz") e1 (q c H' e2 bb hb')
    · change (_ : TS) _ [some (V.ref b), some (V.ref p)] _
      k_extra "rr"
      refine ⟨b, r, _, rfl, hb, by omega, by omega, fun k H' bb hb' k0 k1 => ?_⟩
      obtain ⟨v, e1, e2⟩ := at_lst k0 k1
      exact ixL (SqL.but bb npb hx) e1 (q _ v H' e2 bb hb')
end
/-! a text of letters -/
def letters : List Nat := [97, 98, 99, 100, 101, 102, 103, 104, 105, 106, 107, 108, 109, 110, 111, 112, 113, 114, 115, 116, 117, 118, 119, 120, 121, 122]
theorem letters_eq : Str.ofString "abcdefghijklmnopqrstuvwxyz" = SX.S letters := by decide +kernel
def fixW (w : Str) : Str := if w = "if" then "iff" else if w = "is" then "iss" else if w = "end" then "en" else if w = "rest" then "res" else w
/-- the k-th of the words that differ at a place -/
def wordAt (st : List Nat) (at_ s0 k : Nat) : List Nat := st.take at_ ++ [letters.getD ((s0 + 5 * k) % 26) 0] ++ st.drop at_
theorem wordAt_len (st : List Nat) (at_ s0 k : Nat) : (wordAt st at_ s0 k).length ≤ st.length + 1 := by
  unfold wordAt
  rw [List.length_append, List.length_append, List.length_take, List.length_drop, List.length_singleton]
  omega
def fixed : List (Key × V) := [(.inr "if", .str "iff"), (.inr "is", .str "iss"), (.inr "end", .str "en"), (.inr "rest", .str "res")]
theorem fixed_merge : mergeK [] fixed = fixed := by decide +kernel
theorem fixed_get (w : Str) : (valV fixed (.inr w : Key)).getD (.str w) = .str (fixW w) := by
  unfold fixed fixW
  by_cases h1 : w = "if"
  · rw [if_pos h1, valV_pos (by rw [h1])]
    rfl
  rw [if_neg h1, valV_neg (fun z => h1 (Sum.inr.inj z).symm)]
  by_cases h2 : w = "is"
  · rw [if_pos h2, valV_pos (by rw [h2])]
    rfl
  rw [if_neg h2, valV_neg (fun z => h2 (Sum.inr.inj z).symm)]
  by_cases h3 : w = "end"
  · rw [if_pos h3, valV_pos (by rw [h3])]
    rfl
  rw [if_neg h3, valV_neg (fun z => h3 (Sum.inr.inj z).symm)]
  by_cases h4 : w = "rest"
  · rw [if_pos h4, valV_pos (by rw [h4])]
    rfl
  rw [if_neg h4, valV_neg (fun z => h4 (Sum.inr.inj z).symm), valV_nil]
  rfl
def Words (many most : Int) (ws : List Str) : Prop := ∃ (st : List Nat) (at_ s0 : Nat), (st.length : Int) < most ∧ (∀ c ∈ st, c ∈ letters) ∧ at_ ≤ st.length ∧ s0 < 26 ∧
  ws = (List.range many.toNat).map fun k => fixW (SX.S (wordAt st at_ s0 k))
def spWords : Sp := fun vs H Q _ => ∃ (b r : Addr) (many most : Int), vs = [.ref b, .int many, .int most] ∧ BagAt H b r ∧ 0 ≤ many ∧ many ≤ 100 ∧ 1 ≤ most ∧ most ≤ 100 ∧
  ∀ (ws : List Str) (p : Addr) (H' : Hp), Words many most ws → But b H H' → BagAt H' b r → H p = none → H' p = some (.lst (ws.map V.str)) → p ≠ b → Q (.ref p) H'
section
variable {P : Program} {w : World} {K : PySem.W.Frag} {mg : Str → Option Value} {base : Heap} {f : Addr} {fd : FuncData}
theorem ok_law_words (F : Fun K "_law_words" "_law_words" s_law_words f fd) (T : Txt mg) (c_law_take : Cal P w K mg base 1 "_law_take" spTake) (c_law_of : Cal P w K mg base 2 "_law_of" (spOf K)) : FnOk P w K mg base CX0 3 f fd ["_law_bag_z", "_law_many", "_law_most"] spWords := by
  refine F.ok sc_law_words (fun vs H Q E h => ?_) (fun cdv A outer s H vs Q E hr h => ?_)
  · obtain ⟨b, r, many, most, rfl, _⟩ := h
    rfl
  · obtain ⟨b, r, many, most, rfl, hb, k0, k1, l0, l1, q⟩ := h
    refine ⟨_, (pss_cons (ps_set (i := 3) sc_law_words.nd rfl (.inr rfl) pe_str)
      (pss_cons (ps_set (i := 4) sc_law_words.nd rfl (.inr rfl) (pe_joinX K pe_str (pe_lc (own := [("_law_k", 9)]) (g := gName 9) (tt := tYes) (by rfl) sc_law_words.nd (pi_range1 (by rfl) T.range (pa_cons (pe_c c_law_take hr (by omega) (by rfl) (pa_cons (pv 0) (pa_cons (pv 2) pa_nil))) pa_nil)) (blkOk_by (own := [("_law_k", 9)]) (N := ["_law_bag_z", "_law_many", "_law_most", "_law_letters", "_law_stem", "_law_at", "_law_start", "_law_found", "_law_fixed", "_law_k", "_law_word"]) (sc := defScope s_law_words) (by decide +kernel)) (fun _ _ _ _ _ => pg_name (i := 9) sc_law_words.nd rfl (Or.inl rfl)) (fun _ _ _ _ _ => pts_nil) (fun _ _ _ _ _ => (pe_c c_law_of hr (by omega) (by rfl) (pa_cons (pv 0) (pa_cons (pv 3) pa_nil)))))))
      (pss_cons (ps_asg (pe_tup (pa_cons (pe_c c_law_take hr (by omega) (by rfl) (pa_cons (pv 0) (pa_cons (pe_op (op_addX K) (pe_callB (call_lenX K) (by rfl) T.len PySem.boot_len (pa_cons (pv 4) pa_nil)) pe_int) pa_nil))) (pa_cons (pe_c c_law_take hr (by omega) (by rfl) (pa_cons (pv 0) (pa_cons pe_int pa_nil))) pa_nil))) (pg_tupX K (pg_tup (n := 2) (by rfl) (pgs_cons (pg_name (i := 5) sc_law_words.nd rfl (.inr rfl)) (pgs_cons (pg_name (i := 6) sc_law_words.nd rfl (.inr rfl)) pgs_nil)))))
      (pss_cons (ps_setLc (i := 7) (own := [("_law_k", 9)]) (g := gName 9) (tt := tYes) (by rfl) sc_law_words.nd rfl rfl (sw_true rfl rfl rfl (by decide +kernel)) (pi_range1 (by rfl) T.range (pa_cons (pv 1) pa_nil)) (blkOk_by (own := [("_law_k", 9)]) (N := ["_law_bag_z", "_law_many", "_law_most", "_law_letters", "_law_stem", "_law_at", "_law_start", "_law_found", "_law_fixed", "_law_k", "_law_word"]) (sc := defScope s_law_words) (by decide +kernel)) (fun _ _ _ _ _ => pg_name (i := 9) sc_law_words.nd rfl (Or.inl rfl)) (fun _ _ _ _ _ => pts_nil) (fun _ _ _ _ _ => (pe_op (op_addX K) (pe_op (op_addX K) (pe_slice (sl_X K) (pv 4) po_none (po_some (pv 5))) (pe_ix (ix_X K) (pv 3) (pe_op op_mod (pe_callTy cr_int (by rfl) T.int (by decide +kernel) (pa_cons (pe_op (op_addX K) (pv 6) (pe_op op_mulX pe_int (pv 9))) pa_nil)) pe_int) (fun _ _ => rfl))) (pe_slice (sl_X K) (pv 4) (po_some (pv 5)) po_none))))
      (pss_cons (ps_set (i := 8) sc_law_words.nd rfl (.inr rfl) (pe_disp (pps_cons pe_str pe_str (pps_cons pe_str pe_str (pps_cons pe_str pe_str (pps_cons pe_str pe_str pps_nil)))) (by rfl) (by rfl) (fun z => by cases z) (by decide)))
      (pss_one (ps_ret (pe_lc (own := [("_law_word", 10)]) (g := gName 10) (tt := tYes) (by rfl) sc_law_words.nd (pi_listX K (pv 7)) (blkOk_by (own := [("_law_word", 10)]) (N := ["_law_bag_z", "_law_many", "_law_most", "_law_letters", "_law_stem", "_law_at", "_law_start", "_law_found", "_law_fixed", "_law_k", "_law_word"]) (sc := defScope s_law_words) (by decide +kernel)) (fun _ _ _ _ _ => pg_name (i := 10) sc_law_words.nd rfl (Or.inl rfl)) (fun _ _ _ _ _ => pts_nil) (fun _ _ _ _ _ => (pe_dget2 (hu_of hr) (pv 8) (pv 10) (pv 10) ⟨rfl, rfl, rfl, rfl⟩)))))))))), ?_⟩
    change (_ : TS) _ [some (V.ref b), some (.int many), some (.int most), none, none, none, none, none, none, none, none] _
    k_extra "rr"
    refine ⟨b, r, _, rfl, hb, l0, by omega, fun n1 H1 bb1 hb1 n10 n11 => ?_⟩
    k_extra "rr"
    intro D nD
    refine lc_range (lo := 0) (n := n1.toNat) (fun i H' => ∃ cs : List Nat, cs.length = i ∧ (∀ c ∈ cs, c ∈ letters) ∧ H' D = some (.lst (cs.map fun c => V.str ⟨#[c]⟩)) ∧ But b H1 H' ∧ BagAt H' b r)
      ⟨[], rfl, (fun _ h => by cases h), upd_same, But.new nD, hb1.new nD⟩ ?_ ?_
    · rintro i H' hi ⟨cs, ec, hc, eD, bb, hb'⟩
      k_extra "rr"
      refine ⟨rfl, ?_⟩
      k_extra "rr"
      refine ⟨b, r, _, rfl, hb', .inl ⟨_, rfl, by decide +kernel, by decide +kernel, fun c H2 hc2 bb2 hb2 => ?_⟩⟩
      obtain ⟨nDb, nDr⟩ := hb1.ne_none nD
      refine ⟨_, bb2 _ _ eD nDb, by rw [List.length_map, sizeLine_eq]; omega, cs ++ [c], by rw [List.length_append, ec]; rfl, fun d hd => ?_, ?_, (bb.trans bb2).mutNew nD, hb2.mut hb1 nD⟩
      · rcases List.mem_append.mp hd with h | h
        · exact hc d h
        · rw [List.mem_singleton.mp h]
          rw [letters_eq] at hc2
          exact hc2
      · rw [upd_same, List.map_append]
        rfl
    · rintro H' ⟨cs, ec, hc, eD, bb, hb'⟩
      have eD' : H' D = some (.lst ((cs.map fun c => (⟨#[c]⟩ : Str)).map V.str)) := by
        rw [List.map_map]
        exact eD
      rw [empty_S]
      refine joinL (SqL.of eD') (by rw [len_sg, S_len0, Nat.mul_zero]; omega) ?_
      rw [join_sg]
      have hs : (SX.S cs).length ≤ sizeLine := by rw [SX.S_len, sizeLine_eq]; omega
      k_extra "rr"
      have hs2 : (((SX.S cs).length : Nat) : Int) = cs.length := by rw [SX.S_len]
      refine ⟨b, r, _, rfl, hb', by omega, by omega, fun n2 H2 bb2 hb2 n20 n21 => ?_⟩
      k_extra "rr"
      refine ⟨b, r, _, rfl, hb2, by omega, by omega, fun n3 H3 bb3 hb3 n30 n31 => ?_⟩
      k_extra "rr"
      refine ⟨by k_extra "sz", fun p np => ?_⟩
      k_extra "rr"
      have hbP := hb3.new (o := .tup [V.int n2, V.int n3]) np
      have bbP : But b H (upd H3 p (.tup [V.int n2, V.int n3])) := ((((bb1.trans bb).trans bb2).trans bb3).trans (But.new np))
      generalize upd H3 p (.tup [V.int n2, V.int n3]) = HP at hbP bbP
      intro L nL
      refine lc_range (lo := 0) (n := many.toNat) (fun i H' => H' = upd HP L (.lst ((List.range i).map fun k => V.str (SX.S (wordAt cs n2.toNat n3.toNat k))))) rfl ?_ ?_
      · rintro i H' hi rfl
        k_extra "rr"
        refine ⟨rfl, ?_⟩
        k_extra "rr"
        rw [cut_to cs n20]
        k_extra "rr"
        have hix : ((n3 + 5 * (0 + (i : Int))) % 26) = (((n3.toNat + 5 * i) % 26 : Nat) : Int) := by omega
        have hlt : (n3.toNat + 5 * i) % 26 < letters.length := Nat.mod_lt _ (by decide)
        refine ixS (k := letters.getD ((n3.toNat + 5 * i) % 26) 0) (by decide +kernel) ?_ ?_
        · rw [hix, letters_eq]
          refine atI_nat ?_
          show letters[(n3.toNat + 5 * i) % 26]? = some (letters.getD ((n3.toNat + 5 * i) % 26) 0)
          rw [List.getElem?_eq_getElem hlt, List.getD_eq_getElem?_getD, List.getElem?_eq_getElem hlt]
          rfl
        have h1 : (SX.S (cs.take n2.toNat)).length + (⟨#[letters.getD ((n3.toNat + 5 * i) % 26) 0]⟩ : Str).length ≤ sizeLine := by
          rw [SX.S_len, List.length_take, sizeLine_eq]
          show _ + 1 ≤ _
          omega
        refine addS h1 ?_
        rw [show (⟨#[letters.getD ((n3.toNat + 5 * i) % 26) 0]⟩ : Str) = SX.S [letters.getD ((n3.toNat + 5 * i) % 26) 0] from rfl, SX.S_cat]
        k_extra "rr"
        rw [cut_from cs n20]
        refine addS ?_ ?_
        · rw [SX.S_len, SX.S_len, List.length_append, List.length_take, List.length_drop, sizeLine_eq]
          show _ + 1 + _ ≤ _
          omega
        rw [SX.S_cat]
        refine ⟨_, upd_same, ?_, ?_⟩
        · rw [List.length_map, List.length_range, sizeLine_eq]
          omega
        · rw [upd_upd, List.range_succ, List.map_append]
          rfl
      · rintro H' rfl
        k_extra "rr"
        refine disp fun d nd => ?_
        k_extra "rr"
        refine ⟨upd_same, fixed, rfl, by decide, ?_⟩
        rw [upd_upd, fixed_merge]
        have nLd : L ≠ d := ne_of_none upd_same nd
        have nd0 := un0 nd
        have eL : (upd (upd HP L (.lst ((List.range many.toNat).map fun k => V.str (SX.S (wordAt cs n2.toNat n3.toNat k))))) d (.dK fixed)) L = some (.lst ((List.range many.toNat).map fun k => V.str (SX.S (wordAt cs n2.toNat n3.toNat k)))) := upd2 nLd upd_same
        have bbL : But b H (upd HP L (.lst ((List.range many.toNat).map fun k => V.str (SX.S (wordAt cs n2.toNat n3.toNat k))))) := bbP.trans (But.new nL)
        have hbL := hbP.new (o := .lst ((List.range many.toNat).map fun k => V.str (SX.S (wordAt cs n2.toNat n3.toNat k)))) nL
        have bbD := bbL.trans (But.new (o := .dK fixed) nd)
        have hbD := hbL.new (o := .dK fixed) nd
        have eD2 : (upd (upd HP L (.lst ((List.range many.toNat).map fun k => V.str (SX.S (wordAt cs n2.toNat n3.toNat k))))) d (.dK fixed)) d = some (.dK fixed) := upd_same
        generalize upd (upd HP L (.lst ((List.range many.toNat).map fun k => V.str (SX.S (wordAt cs n2.toNat n3.toNat k))))) d (.dK fixed) = HD at eL eD2 bbD hbD
        k_extra "rr"
        intro R nR
        have nLR : L ≠ R := ne_of_none eL nR
        have ndR : d ≠ R := ne_of_none eD2 nR
        refine lc_list (K := K) (a := L) (xs := (List.range many.toNat).map fun k => V.str (SX.S (wordAt cs n2.toNat n3.toNat k))) (fun i H' => H' = upd HD R (.lst ((List.range i).map fun k => V.str (fixW (SX.S (wordAt cs n2.toNat n3.toNat k)))))) rfl ?_ ?_ ?_
        · rintro i H' _ rfl
          exact SqL.of (upd2 nLR eL)
        · rintro i x H' hi rfl
          obtain ⟨u, hu, rfl⟩ := map_at hi
          obtain ⟨hlt, rfl⟩ := List.getElem?_eq_some_iff.mp hu
          rw [List.length_range] at hlt
          rw [List.getElem_range]
          k_extra "rr"
          refine ⟨rfl, ?_⟩
          k_extra "rr"
          refine ⟨d, rfl, .inl ⟨fixed, .inl (upd2 ndR eD2)⟩, ?_⟩
          k_extra "rr"
          refine ⟨_, DGet.k (k := .inr _) (upd2 ndR eD2), ?_⟩
          rw [fixed_get]
          refine ⟨_, upd_same, ?_, ?_⟩
          · rw [List.length_map, List.length_range, sizeLine_eq]
            omega
          · rw [upd_upd, List.range_succ, List.map_append]
            rfl
        · rintro H' rfl
          k_extra "rr"
          refine q ((List.range many.toNat).map fun k => fixW (SX.S (wordAt cs n2.toNat n3.toNat k))) R _ ⟨cs, n2.toNat, n3.toNat, by omega, hc, by omega, by omega, rfl⟩ (bbD.trans (But.new nR)) (hbD.new nR) (bbD.free hbD.ex nR) ?_ (hbD.ne_none nR).1
          rw [upd_same, List.length_map, List.length_range, List.map_map]
          rfl
end

theorem letters_get {i : Nat} (h : i < 26) : letters.getD i 0 ∈ letters := by
  rw [List.getD_eq_getElem?_getD, List.getElem?_eq_getElem (show i < letters.length from h)]
  exact List.getElem_mem h
theorem wordAt_ok {st : List Nat} {at_ s0 k : Nat} (h : ∀ c ∈ st, c ∈ letters) : (∀ c ∈ wordAt st at_ s0 k, c ∈ letters) ∧ 1 ≤ (wordAt st at_ s0 k).length ∧ (wordAt st at_ s0 k).length ≤ st.length + 1 := by
  refine ⟨fun c hc => ?_, ?_, wordAt_len st at_ s0 k⟩
  · unfold wordAt at hc
    rcases List.mem_append.mp hc with hc | hc
    · rcases List.mem_append.mp hc with hc | hc
      · exact h c (List.mem_of_mem_take hc)
      · rw [List.mem_singleton.mp hc]
        exact letters_get (Nat.mod_lt _ (by decide))
    · exact h c (List.mem_of_mem_drop hc)
  · unfold wordAt
    rw [List.length_append, List.length_append, List.length_singleton]
    omega
theorem fix_ok {l : List Nat} (h : ∀ c ∈ l, c ∈ letters) (h1 : 1 ≤ l.length) : ∃ m : List Nat, fixW (SX.S l) = SX.S m ∧ (∀ c ∈ m, c ∈ letters) ∧ 1 ≤ m.length ∧ (m.length ≤ l.length ∨ m.length = 3) := by
  unfold fixW
  by_cases h2 : SX.S l = "if"
  · rw [if_pos h2]
    exact ⟨[105, 102, 102], by decide +kernel, by decide, by decide, .inr rfl⟩
  rw [if_neg h2]
  by_cases h3 : SX.S l = "is"
  · rw [if_pos h3]
    exact ⟨[105, 115, 115], by decide +kernel, by decide, by decide, .inr rfl⟩
  rw [if_neg h3]
  by_cases h4 : SX.S l = "end"
  · rw [if_pos h4]
    have e : l = [101, 110, 100] := SX.S_inj (h4.trans (by decide +kernel))
    exact ⟨[101, 110], by decide +kernel, by decide, by decide, .inl (by rw [e]; decide)⟩
  rw [if_neg h4]
  by_cases h5 : SX.S l = "rest"
  · rw [if_pos h5]
    exact ⟨[114, 101, 115], by decide +kernel, by decide, by decide, .inr rfl⟩
  rw [if_neg h5]
  exact ⟨l, rfl, h, h1, .inl (Nat.le_refl _)⟩


/-! ### a text of signs -/
def signsL : List Nat := [32, 33, 35, 36, 38, 39, 40, 41, 42, 43, 44, 45, 46, 47, 58, 59, 60, 61, 62, 63, 64, 91, 93, 94, 95, 123, 124, 125, 126, 48, 49, 56, 57, 65, 77, 90, 97, 109, 122]
theorem signs_eq : Str.ofString " !#$&'()*+,-./:;<=>?\x40[]^_{|}~0189AMZamz" = SX.S signsL := by decide +kernel
def spSign : Sp := fun vs H Q _ => ∃ (b r : Addr) (most : Int), vs = [.ref b, .int most] ∧ BagAt H b r ∧ 0 ≤ most ∧ most ≤ 1000 ∧
  ∀ (l : List Nat) (H' : Hp), (l.length : Int) ≤ most → (∀ c ∈ l, c ∈ signsL) → But b H H' → BagAt H' b r → Q (.str (SX.S l)) H'
section
variable {P : Program} {w : World} {K : PySem.W.Frag} {mg : Str → Option Value} {base : Heap} {f : Addr} {fd : FuncData}
theorem ok_law_sign_text (F : Fun K "_law_sign_text" "_law_sign_text" s_law_sign_text f fd) (T : Txt mg) (c_law_take : Cal P w K mg base 1 "_law_take" spTake) : FnOk P w K mg base CX0 2 f fd ["_law_bag_z", "_law_most"] spSign := by
  refine F.ok sc_law_sign_text (fun vs H Q E h => ?_) (fun cdv A outer s H vs Q E hr h => ?_)
  · obtain ⟨b, r, most, rfl, _⟩ := h
    rfl
  · obtain ⟨b, r, most, rfl, hb, k0, k1, q⟩ := h
    refine ⟨_, (pss_cons (ps_set (i := 2) sc_law_sign_text.nd rfl (.inr rfl) pe_str)
      (pss_one (ps_ret (pe_joinX K pe_str (pe_lc (own := [("_law_k", 3)]) (g := gName 3) (tt := tYes) (by rfl) sc_law_sign_text.nd (pi_range1 (by rfl) T.range (pa_cons (pe_c c_law_take hr (by omega) (by rfl) (pa_cons (pv 0) (pa_cons (pe_op (op_addX K) (pv 1) pe_int) pa_nil))) pa_nil)) (blkOk_by (own := [("_law_k", 3)]) (N := ["_law_bag_z", "_law_most", "_law_signs", "_law_k"]) (sc := defScope s_law_sign_text) (by decide +kernel)) (fun _ _ _ _ _ => pg_name (i := 3) sc_law_sign_text.nd rfl (Or.inl rfl)) (fun _ _ _ _ _ => pts_nil) (fun _ _ _ _ _ => (pe_ix (ix_X K) (pv 2) (pe_c c_law_take hr (by omega) (by rfl) (pa_cons (pv 0) (pa_cons (pe_callB (call_lenX K) (by rfl) T.len PySem.boot_len (pa_cons (pv 2) pa_nil)) pa_nil))) (fun _ _ => rfl)))))))), ?_⟩
    change (_ : TS) _ [some (V.ref b), some (.int most), none, none] _
    k_extra "rr"
    refine ⟨b, r, _, rfl, hb, by omega, by omega, fun n1 H1 bb1 hb1 n10 n11 => ?_⟩
    k_extra "rr"
    intro D nD
    obtain ⟨nDb, nDr⟩ := hb1.ne_none nD
    refine lc_range (lo := 0) (n := n1.toNat) (fun i H' => ∃ cs : List Nat, cs.length = i ∧ (∀ c ∈ cs, c ∈ signsL) ∧ H' D = some (.lst (cs.map fun c => V.str ⟨#[c]⟩)) ∧ But b H1 H' ∧ BagAt H' b r)
      ⟨[], rfl, (fun _ h => by cases h), upd_same, But.new nD, hb1.new nD⟩ ?_ ?_
    · rintro i H' hi ⟨cs, ec, hc, eD, bb, hb'⟩
      k_extra "rr"
      refine ⟨rfl, ?_⟩
      k_extra "rr"
      have hsz : (Str.ofString " !#$&'()*+,-./:;<=>?\x40[]^_{|}~0189AMZamz").length = 39 := by decide +kernel
      refine ⟨b, r, _, rfl, hb', by rw [hsz]; decide, by rw [hsz]; decide, fun n2 H2 bb2 hb2 n20 n21 => ?_⟩
      obtain ⟨c, e1, e2⟩ := at_str (z := Str.ofString " !#$&'()*+,-./:;<=>?\x40[]^_{|}~0189AMZamz") n20 n21
      refine ixS (by rw [hsz, sizeLine_eq]; decide) e1 ?_
      refine ⟨_, bb2 _ _ eD nDb, by rw [List.length_map, sizeLine_eq]; omega, cs ++ [c], by rw [List.length_append, ec]; rfl, fun d hd => ?_, ?_, (bb.trans bb2).mutNew nD, hb2.mut hb1 nD⟩
      · rcases List.mem_append.mp hd with h | h
        · exact hc d h
        · rw [List.mem_singleton.mp h]
          rw [signs_eq] at e2
          exact e2
      · rw [upd_same, List.map_append]
        rfl
    · rintro H' ⟨cs, ec, hc, eD, bb, hb'⟩
      have eD' : H' D = some (.lst ((cs.map fun c => (⟨#[c]⟩ : Str)).map V.str)) := by
        rw [List.map_map]
        exact eD
      rw [empty_S]
      refine joinL (SqL.of eD') (by rw [len_sg, S_len0, Nat.mul_zero]; omega) ?_
      rw [join_sg]
      k_extra "rr"
      exact q cs H' (by omega) hc (bb1.trans bb) hb'
end

/-! ### equal and of the same kinds -/
def sca : V → Bool
  | .non => true
  | .bl _ => true
  | .int _ => true
  | .str _ => true
  | _ => false
/-- equal data of the same kinds, nested below n -/
def Alk (K : PySem.W.Frag) (H : Hp) : Nat → V → V → Prop
  | 0 => fun _ _ => False
  | n + 1 => fun x y => (x = y ∧ sca x = true) ∨ ∃ a b xs ys, x = .ref a ∧ y = .ref b ∧ ((SqL K H a xs ∧ SqL K H b ys) ∨ (SqT K H a xs ∧ SqT K H b ys)) ∧ xs.length = ys.length ∧ xs.length ≤ 100000 ∧
      ∀ (i : Nat) (x y : V), xs[i]? = some x → ys[i]? = some y → Alk K H n x y
theorem Alk.same {K : PySem.W.Frag} {H H' : Hp} (s : Same H H') : ∀ {n : Nat} {x y : V}, Alk K H n x y → Alk K H' n x y
  | 0, _, _, h => h
  | n + 1, x, y, h => by
    rcases h with h | ⟨a, b, xs, ys, rfl, rfl, h, hl, hz, k⟩
    · exact .inl h
    · refine .inr ⟨a, b, xs, ys, rfl, rfl, ?_, hl, hz, fun i x y h1 h2 => Alk.same s (k i x y h1 h2)⟩
      rcases h with ⟨h1, h2⟩ | ⟨h1, h2⟩
      · exact .inl ⟨s.seq h1, s.seq h2⟩
      · exact .inr ⟨Rg.Same.seqT s h1, Rg.Same.seqT s h2⟩
def spAlike (K : PySem.W.Frag) (n : Nat) : Sp := fun vs H Q _ => ∃ (x y : V), vs = [x, y] ∧ Alk K H n x y ∧ ∀ H', Same H H' → Q (.bl true) H'
section
variable {P : Program} {w : World} {K : PySem.W.Frag} {mg : Str → Option Value} {base : Heap} {f : Addr} {fd : FuncData}
theorem ok_law_alike0 (F : Fun K "_law_alike" "_law_alike" s_law_alike f fd) : FnOk P w K mg base CX0 1 f fd ["_law_found", "_law_due"] (spAlike K 0) := by
  refine F.ok sc_law_alike (fun vs H Q E h => ?_) (fun cdv A outer s H vs Q E hr h => ?_)
  · obtain ⟨x, y, rfl, _⟩ := h
    rfl
  · obtain ⟨x, y, rfl, h, _⟩ := h
    exact h.elim
theorem ok_law_alike1 (F : Fun K "_law_alike" "_law_alike" s_law_alike f fd) (T : Txt mg) {n : Nat} (c_law_alike : Cal P w K mg base (n + 1) "_law_alike" (spAlike K n)) : FnOk P w K mg base CX0 (n + 2) f fd ["_law_found", "_law_due"] (spAlike K (n + 1)) := by
  refine F.ok sc_law_alike (fun vs H Q E h => ?_) (fun cdv A outer s H vs Q E hr h => ?_)
  · obtain ⟨x, y, rfl, _⟩ := h
    rfl
  · obtain ⟨x, y, rfl, h, q⟩ := h
    refine ⟨_, (pss_cons (ps_if (PW.pt (pw_or (pt_cmpR op_isNn (pv 1) pe_non (nomark _)) (pw_or1 (pt_cmpR op_isNn (pv 0) pe_non (nomark _))))) (pss_one (ps_ret (pe_and (pe_cmpR op_isNn (pv 1) pe_non (nomark _)) (pe_one (pe_cmpR op_isNn (pv 0) pe_non (nomark _)))))) pss_nil)
      (pss_cons (ps_if (PW.pt (pw_or (pt_val (pe_callB (cr_isi K) (by rfl) T.isinstance (by decide +kernel) (pa_cons (pv 1) (pa_cons (pe_bltn (v := .ty "bool") (by rfl) T.bool (by decide +kernel) rfl) pa_nil)))) (pw_or1 (pt_val (pe_callB (cr_isi K) (by rfl) T.isinstance (by decide +kernel) (pa_cons (pv 0) (pa_cons (pe_bltn (v := .ty "bool") (by rfl) T.bool (by decide +kernel) rfl) pa_nil))))))) (pss_one (ps_ret (pe_and (pe_callB (cr_isi K) (by rfl) T.isinstance (by decide +kernel) (pa_cons (pv 1) (pa_cons (pe_bltn (v := .ty "bool") (by rfl) T.bool (by decide +kernel) rfl) pa_nil))) (pe_and (pe_callB (cr_isi K) (by rfl) T.isinstance (by decide +kernel) (pa_cons (pv 0) (pa_cons (pe_bltn (v := .ty "bool") (by rfl) T.bool (by decide +kernel) rfl) pa_nil))) (pe_one (pe_cmpR (op_eqX K hr) (pv 0) (pv 1) (nomark _))))))) pss_nil)
      (pss_cons (ps_if (pt_val (pe_callB (cr_isiT K) (by rfl) T.isinstance (by decide +kernel) (pa_cons (pv 1) (pa_cons (pe_tup (pa_cons (pe_bltn (v := .ty "int") (by rfl) T.int (by decide +kernel) rfl) (pa_cons (pe_bltn (v := .ty "str") (by rfl) T.str (by decide +kernel) rfl) pa_nil))) pa_nil)))) (pss_one (ps_ret (pe_and (pe_callB (cr_isiT K) (by rfl) T.isinstance (by decide +kernel) (pa_cons (pv 0) (pa_cons (pe_tup (pa_cons (pe_bltn (v := .ty "int") (by rfl) T.int (by decide +kernel) rfl) (pa_cons (pe_bltn (v := .ty "str") (by rfl) T.str (by decide +kernel) rfl) pa_nil))) pa_nil))) (pe_and (pe_cmpR (op_eqX K hr) (pe_callB (cr_isi K) (by rfl) T.isinstance (by decide +kernel) (pa_cons (pv 0) (pa_cons (pe_bltn (v := .ty "int") (by rfl) T.int (by decide +kernel) rfl) pa_nil))) (pe_callB (cr_isi K) (by rfl) T.isinstance (by decide +kernel) (pa_cons (pv 1) (pa_cons (pe_bltn (v := .ty "int") (by rfl) T.int (by decide +kernel) rfl) pa_nil))) (nomark _)) (pe_one (pe_cmpR (op_eqX K hr) (pv 0) (pv 1) (nomark _))))))) pss_nil)
      (pss_cons (ps_if (pt_val (pe_callB (cr_isi K) (by rfl) T.isinstance (by decide +kernel) (pa_cons (pv 1) (pa_cons (pe_bltn (v := .ty "dict") (by rfl) T.dict (by decide +kernel) rfl) pa_nil)))) pss_never pss_nil)
      (pss_cons (ps_if (PW.pt (pw_or (pt_cmpR (op_neX K hr) (pe_callB (cr_isi K) (by rfl) T.isinstance (by decide +kernel) (pa_cons (pv 1) (pa_cons (pe_bltn (v := .ty "tuple") (by rfl) T.tuple (by decide +kernel) rfl) pa_nil))) (pe_callB (cr_isi K) (by rfl) T.isinstance (by decide +kernel) (pa_cons (pv 0) (pa_cons (pe_bltn (v := .ty "tuple") (by rfl) T.tuple (by decide +kernel) rfl) pa_nil))) (nomark _)) (pw_or1 (pt_cmpR (op_neX K hr) (pe_callB (cr_isi K) (by rfl) T.isinstance (by decide +kernel) (pa_cons (pv 1) (pa_cons (pe_bltn (v := .ty "list") (by rfl) T.list (by decide +kernel) rfl) pa_nil))) (pe_callB (cr_isi K) (by rfl) T.isinstance (by decide +kernel) (pa_cons (pv 0) (pa_cons (pe_bltn (v := .ty "list") (by rfl) T.list (by decide +kernel) rfl) pa_nil))) (nomark _))))) (pss_one (ps_ret pe_bl)) pss_nil)
      (pss_one (ps_ret (pe_and (pe_cmpR (op_eqX K hr) (pe_callB (call_lenX K) (by rfl) T.len PySem.boot_len (pa_cons (pv 0) pa_nil)) (pe_callB (call_lenX K) (by rfl) T.len PySem.boot_len (pa_cons (pv 1) pa_nil)) (nomark _)) (pe_one (pe_callB (cr_allX K (by rfl)) (by rfl) T.all (by decide +kernel) (pa_cons (pe_lc (own := [("_law_one", 3), ("_law_two", 4)])  (tt := tYes) (by rfl) sc_law_alike.nd (pi_zipX K (RZ.pi_zipA (by rfl) T.zip (pa_cons (pv 0) (pa_cons (pv 1) pa_nil)))) (blkOk_by (own := [("_law_one", 3), ("_law_two", 4)]) (N := ["_law_found", "_law_due", "_law_key", "_law_one", "_law_two"]) (sc := defScope s_law_alike) (by decide +kernel)) (fun _ _ _ _ _ => pg_tupX K (pg_tup (n := 2) (by rfl) (pgs_cons (pg_name (i := 3) sc_law_alike.nd rfl (Or.inl rfl)) (pgs_cons (pg_name (i := 4) sc_law_alike.nd rfl (Or.inl rfl)) pgs_nil)))) (fun _ _ _ _ _ => pts_nil) (fun _ _ _ _ _ => (pe_c c_law_alike hr (by omega) (by rfl) (pa_cons (pv 3) (pa_cons (pv 4) pa_nil))))) pa_nil))))))))))), ?_⟩
    rcases h with ⟨rfl, hx⟩ | ⟨a, b, xs, ys, rfl, rfl, h, hl, hz, k⟩
    · cases x with
      | non =>
        change (_ : TS) _ [some V.non, some V.non, none, none, none] _
        k_extra "rr"
        exact q H (Same.refl H)
      | bl c =>
        change (_ : TS) _ [some (V.bl c), some (V.bl c), none, none, none] _
        k_extra "rr"
        rw [decide_eq_true rfl]
        exact q H (Same.refl H)
      | int i =>
        change (_ : TS) _ [some (V.int i), some (V.int i), none, none, none] _
        k_extra "rr"
        refine ⟨by k_extra "sz", fun t nt => ?_⟩
        k_extra "rr"
        refine isiT (b := true) upd_same (cls2 _ _) (.base (.int _)) (kitAny2 kB_int_int kB_int_str) ?_
        k_extra "rr"
        refine ⟨by k_extra "sz", fun t2 nt2 => ?_⟩
        k_extra "rr"
        refine isiT (b := true) upd_same (cls2 _ _) (.base (.int _)) (kitAny2 kB_int_int kB_int_str) ?_
        k_extra "rr"
        rw [decide_eq_true rfl]
        exact q _ ((same_upd nt).trans (same_upd nt2))
      | str z =>
        change (_ : TS) _ [some (V.str z), some (V.str z), none, none, none] _
        k_extra "rr"
        refine ⟨by k_extra "sz", fun t nt => ?_⟩
        k_extra "rr"
        refine isiT (b := true) upd_same (cls2 _ _) (.base (.str _)) (kitAny2 kB_str_int kB_str_str) ?_
        k_extra "rr"
        refine ⟨by k_extra "sz", fun t2 nt2 => ?_⟩
        k_extra "rr"
        refine isiT (b := true) upd_same (cls2 _ _) (.base (.str _)) (kitAny2 kB_str_int kB_str_str) ?_
        k_extra "rr"
        rw [decide_eq_true rfl]
        exact q _ ((same_upd nt).trans (same_upd nt2))
      | byt _ => cases hx
      | flt _ => cases hx
      | ref _ => cases hx
      | ty _ => cases hx
    · rcases h with ⟨h1, h2⟩ | ⟨h1, h2⟩
      · change (_ : TS) _ [some (V.ref a), some (V.ref b), none, none, none] _
        have t1 := tyx_L h1
        have t2 := tyx_L h2
        k_extra "rr"
        refine ⟨by k_extra "sz", fun t nt => ?_⟩
        have s1 : Same H (upd H t (.tup [V.ty "int", V.ty "str"])) := same_upd nt
        have h1' := Same.seq s1 h1
        have h2' := Same.seq s1 h2
        have t1' := tyx_L h1'
        have t2' := tyx_L h2'
        k_extra "rr"
        refine isiT (b := false) upd_same (cls2 _ _) t2' (kitAny2 kB_list_int kB_list_str) ?_
        generalize upd H t (.tup [V.ty "int", V.ty "str"]) = H1 at s1 h1' h2' t1' t2'
        k_extra "rr"
        rw [hl, decide_eq_true rfl]
        k_extra "rr"
        refine ⟨a, b, xs, ys, rfl, .inl ⟨h1', h2', fun D nD => ?_⟩⟩
        refine lc_it (walk_zip (K := K) (a := a) (b := b) (xs := xs) (ys := ys) (n := xs.length) (by rw [hl, Nat.min_self])) (fun i H' => H' D = some (.lst ((List.replicate i true).map V.bl)) ∧ Same H1 H')
          ⟨upd_same, same_upd nD⟩ (fun i H' _ p => ⟨Same.seq p.2 h1', Same.seq p.2 h2'⟩) ?_ ?_
        · rintro i x H2 H3 hi ⟨eD, s2⟩ ⟨T, x1, y1, rfl, nT, rfl, e1, e2⟩
          k_extra "rr"
          refine ⟨rfl, ?_⟩
          k_extra "rr"
          have s3 : Same H2 (upd H2 T (.tup [x1, y1])) := same_upd nT
          refine ⟨x1, y1, rfl, ((k i x1 y1 e1 e2).same (s1.trans s2)).same s3, fun H4 s4 => ?_⟩
          refine ⟨_, s4 _ _ (s3 _ _ eD), ?_, ?_, fun c o hc => ?_⟩
          · rw [List.length_map, List.length_replicate]
            rw [sizeLine_eq]
            omega
          · rw [upd_same, List.replicate_succ', List.map_append]
            rfl
          · rw [upd_ne (ne_of_none hc nD)]
            exact s4 _ _ (s3 _ _ (s2 _ _ hc))
        · rintro H2 ⟨eD, s2⟩
          k_extra "rr"
          refine all_ (SqL.of eD) ?_
          rw [show (List.replicate xs.length true).all id = true from List.all_eq_true.mpr fun z hz => List.eq_of_mem_replicate hz]
          exact q H2 (s1.trans s2)
      · change (_ : TS) _ [some (V.ref a), some (V.ref b), none, none, none] _
        have t1 := tyx_T h1
        have t2 := tyx_T h2
        k_extra "rr"
        refine ⟨by k_extra "sz", fun t nt => ?_⟩
        have s1 : Same H (upd H t (.tup [V.ty "int", V.ty "str"])) := same_upd nt
        have h1' := Rg.Same.seqT s1 h1
        have h2' := Rg.Same.seqT s1 h2
        have t1' := tyx_T h1'
        have t2' := tyx_T h2'
        k_extra "rr"
        refine isiT (b := false) upd_same (cls2 _ _) t2' (kitAny2 kB_tuple_int kB_tuple_str) ?_
        generalize upd H t (.tup [V.ty "int", V.ty "str"]) = H1 at s1 h1' h2' t1' t2'
        k_extra "rr"
        rw [hl, decide_eq_true rfl]
        k_extra "rr"
        refine ⟨a, b, xs, ys, rfl, .inr ⟨h1', h2', fun D nD => ?_⟩⟩
        refine lc_it (walk_zipT (K := K) (a := a) (b := b) (xs := xs) (ys := ys) (n := xs.length) (by rw [hl, Nat.min_self])) (fun i H' => H' D = some (.lst ((List.replicate i true).map V.bl)) ∧ Same H1 H')
          ⟨upd_same, same_upd nD⟩ (fun i H' _ p => ⟨Rg.Same.seqT p.2 h1', Rg.Same.seqT p.2 h2'⟩) ?_ ?_
        · rintro i x H2 H3 hi ⟨eD, s2⟩ ⟨T, x1, y1, rfl, nT, rfl, e1, e2⟩
          k_extra "rr"
          refine ⟨rfl, ?_⟩
          k_extra "rr"
          have s3 : Same H2 (upd H2 T (.tup [x1, y1])) := same_upd nT
          refine ⟨x1, y1, rfl, ((k i x1 y1 e1 e2).same (s1.trans s2)).same s3, fun H4 s4 => ?_⟩
          refine ⟨_, s4 _ _ (s3 _ _ eD), ?_, ?_, fun c o hc => ?_⟩
          · rw [List.length_map, List.length_replicate]
            rw [sizeLine_eq]
            omega
          · rw [upd_same, List.replicate_succ', List.map_append]
            rfl
          · rw [upd_ne (ne_of_none hc nD)]
            exact s4 _ _ (s3 _ _ (s2 _ _ hc))
        · rintro H2 ⟨eD, s2⟩
          k_extra "rr"
          refine all_ (SqL.of eD) ?_
          rw [show (List.replicate xs.length true).all id = true from List.all_eq_true.mpr fun z hz => List.eq_of_mem_replicate hz]
          exact q H2 (s1.trans s2)
end

/-! ### is_sign -/
def signB (c : Nat) : Bool := decide (32 ≤ c) && (decide (c ≤ 126) && !decide (c = 34))
def spIsSign : Sp := fun vs H Q _ => ∃ (c : Nat), vs = [.str ⟨#[c]⟩] ∧ Q (.bl (signB c)) H
section
variable {P : Program} {w : World} {K : PySem.W.Frag} {mg : Str → Option Value} {base : Heap} {f : Addr} {fd : FuncData}
end

/-! ### kinds and texts -/
def letters' : List Nat := letters
/-- a value that is a text, or is known to be none -/
def StrOr (K : PySem.W.Frag) (H : Hp) (x : V) : Prop := (∃ l : List Nat, x = .str (SX.S l) ∧ l.length ≤ 100000) ∨ ((∀ z, x ≠ .str z) ∧ ∃ T, TyX K H x (.type T) ∧ kitB T "str" = some false)
def wordB (x : V) (most : Int) : Bool := match x with
  | .str z => decide (1 ≤ (z.length : Int)) && (decide ((z.length : Int) ≤ most) && (z.cps.toList.map fun c => decide (c ∈ letters)).all id)
  | _ => false
def textB (x : V) : Bool := match x with
  | .str z => decide ((z.length : Int) ≤ 20) && (z.cps.toList.map signB).all id
  | _ => false
theorem wordB_no {x : V} (h : ∀ z, x ≠ .str z) (m : Int) : wordB x m = false := by
  cases x with
  | str z => exact absurd rfl (h z)
  | _ => rfl
theorem textB_no {x : V} (h : ∀ z, x ≠ .str z) : textB x = false := by
  cases x with
  | str z => exact absurd rfl (h z)
  | _ => rfl
def spWord (K : PySem.W.Frag) : Sp := fun vs H Q _ => ∃ (x : V) (most : Int), vs = [x, .int most] ∧ StrOr K H x ∧ ∀ H', Same H H' → Q (.bl (wordB x most)) H'
def spKind (K : PySem.W.Frag) : Sp := fun vs H Q _ => ∃ (x : V), vs = [x] ∧ StrOr K H x ∧ ∀ H', Same H H' → Q (.bl (wordB x 6)) H'
def spText (K : PySem.W.Frag) : Sp := fun vs H Q _ => ∃ (x : V), vs = [x] ∧ StrOr K H x ∧ ∀ H', Same H H' → Q (.bl (textB x)) H'
section
variable {P : Program} {w : World} {K : PySem.W.Frag} {mg : Str → Option Value} {base : Heap} {f : Addr} {fd : FuncData}
theorem ok_is_word (F : Fun K "is_word" "is_word" s_is_word f fd) (T : Txt mg) : FnOk P w K mg base CX0 1 f fd ["value", "most"] (spWord K) := by
  refine F.ok sc_is_word (fun vs H Q E h => ?_) (fun cdv A outer s H vs Q E hr h => ?_)
  · obtain ⟨x, m, rfl, _⟩ := h
    rfl
  · obtain ⟨x, m, rfl, hx, q⟩ := h
    refine ⟨_, (pss_one (ps_ret (pe_and (pe_callB (cr_isi K) (by rfl) T.isinstance (by decide +kernel) (pa_cons (pv 0) (pa_cons (pe_bltn (v := .ty "str") (by rfl) T.str (by decide +kernel) rfl) pa_nil))) (pe_and (pe_chain op_leX op_leX pe_int (pe_callB (call_lenX K) (by rfl) T.len PySem.boot_len (pa_cons (pv 0) pa_nil)) (pv 1)) (pe_one (pe_callB (cr_allX K (by rfl)) (by rfl) T.all (by decide +kernel) (pa_cons (pe_lc (own := [("sign", 2)]) (g := gName 2) (tt := tYes) (by rfl) sc_is_word.nd (pi_str (pv 0)) (blkOk_by (own := [("sign", 2)]) (N := ["value", "most", "sign"]) (sc := defScope s_is_word) (by decide +kernel)) (fun _ _ _ _ _ => pg_name (i := 2) sc_is_word.nd rfl (Or.inl rfl)) (fun _ _ _ _ _ => pts_nil) (fun _ _ _ _ _ => (pe_cmpR (op_inX K) (pv 2) (pe_gc (by rfl) T.g_SMALL) (by rfl)))) pa_nil))))))), ?_⟩
    rcases hx with ⟨l, rfl, hl⟩ | ⟨hn, T', hT, hk⟩
    · change (_ : TS) _ [some (V.str (SX.S l)), some (.int m), none] _
      have hs : (SX.S l).length ≤ sizeLine := by rw [SX.S_len, sizeLine_eq]; omega
      k_extra "rr"
      refine iteD (fun h1 => ?_) (fun h1 => ?_)
      · k_extra "rr"
        cases h2 : decide (((SX.S l).length : Int) ≤ m) with
        | false =>
          k_extra "rr"
          have e : wordB (.str (SX.S l)) m = false := by
            show (_ && (decide (((SX.S l).length : Int) ≤ m) && _)) = false
            rw [h2, Bool.false_and, Bool.and_false]
          rw [← e]
          exact q H (Same.refl H)
        | true =>
          k_extra "rr"
          intro D nD
          refine lc_signs (p := fun c => decide (c ∈ letters)) (fun c H' Q' hc q' => ?_) (fun v => rfl) hl ?_
          · k_extra "rr"
            rw [letters_eq]
            exact q'
          · k_extra "rr"
            refine all_ (SqL.of upd_same) ?_
            have e : wordB (.str (SX.S l)) m = (l.map fun c => decide (c ∈ letters)).all id := by
              show (decide (1 ≤ ((SX.S l).length : Int)) && (decide (((SX.S l).length : Int) ≤ m) && _)) = _
              rw [h2, decide_eq_true h1, Bool.true_and, Bool.true_and]
            rw [← e]
            exact q _ (same_upd nD)
      · k_extra "rr"
        have e : wordB (.str (SX.S l)) m = false := by
          show (decide (1 ≤ ((SX.S l).length : Int)) && _) = false
          rw [decide_eq_false h1, Bool.false_and]
        rw [← e]
        exact q H (Same.refl H)
    · change (_ : TS) _ [some x, some (.int m), none] _
      k_extra "rr"
      refine isi hT (kit_ty hk) ?_
      k_extra "rr"
      rw [← wordB_no hn m]
      exact q H (Same.refl H)
theorem ok_is_kind (F : Fun K "is_kind" "is_kind" s_is_kind f fd) (T : Txt mg) (c_is_word : Cal P w K mg base 1 "is_word" (spWord K)) : FnOk P w K mg base CX0 2 f fd ["value"] (spKind K) := by
  refine F.ok sc_is_kind (fun vs H Q E h => ?_) (fun cdv A outer s H vs Q E hr h => ?_)
  · obtain ⟨x, rfl, _⟩ := h
    rfl
  · obtain ⟨x, rfl, hx, q⟩ := h
    refine ⟨_, (pss_one (ps_ret (pe_c c_is_word hr (by omega) (by rfl) (pa_cons (pv 0) (pa_cons (pe_gc (by rfl) T.g_MOST_LETTERS) pa_nil))))), ?_⟩
    change (_ : TS) _ [some x] _
    k_extra "rr"
    exact ⟨x, 6, rfl, hx, fun H' s => q H' s⟩
end

/-! ### documents -/
inductive Fo where
  | nil
  | cons (k t : List Nat) (i r : Fo)
namespace Fo
def size : Fo → Nat
  | nil => 0
  | cons _ _ i r => 1 + i.size + r.size
def depth : Fo → Nat
  | nil => 0
  | cons _ _ i r => max (i.depth + 1) r.depth
def len : Fo → Nat
  | nil => 0
  | cons _ _ _ r => r.len + 1
def All (p : List Nat → List Nat → Prop) : Fo → Prop
  | nil => True
  | cons k t i r => p k t ∧ All p i ∧ All p r
def snoc : Fo → List Nat → List Nat → Fo → Fo
  | nil, k, t, i => cons k t i nil
  | cons k' t' i' r, k, t, i => cons k' t' i' (snoc r k t i)
theorem size_snoc (k t : List Nat) (i : Fo) : ∀ f : Fo, (snoc f k t i).size = f.size + i.size + 1
  | nil => by
    show 1 + i.size + 0 = 0 + i.size + 1
    omega
  | cons k' t' i' r => by
    have := size_snoc k t i r
    show 1 + i'.size + (snoc r k t i).size = 1 + i'.size + r.size + i.size + 1
    omega
theorem all_snoc {p : List Nat → List Nat → Prop} {k t : List Nat} {i : Fo} (h : p k t) (hi : i.All p) : ∀ {f : Fo}, f.All p → (snoc f k t i).All p
  | nil, _ => ⟨h, hi, trivial⟩
  | cons _ _ _ _, ⟨h1, h2, h3⟩ => ⟨h1, h2, all_snoc h hi h3⟩
theorem All.imp {p q : List Nat → List Nat → Prop} (h : ∀ k t, p k t → q k t) : ∀ {f : Fo}, f.All p → f.All q
  | nil, _ => trivial
  | cons _ _ _ _, ⟨h1, h2, h3⟩ => ⟨h _ _ h1, All.imp h h2, All.imp h h3⟩
theorem depth_le : ∀ f : Fo, f.depth ≤ f.size
  | nil => Nat.le_refl 0
  | cons k t i r => by
    have h1 := depth_le i
    have h2 := depth_le r
    show max (i.depth + 1) r.depth ≤ 1 + i.size + r.size
    omega
theorem len_le : ∀ f : Fo, f.len ≤ f.size
  | nil => Nat.le_refl 0
  | cons k t i r => by
    have h2 := len_le r
    show r.len + 1 ≤ 1 + i.size + r.size
    omega
end Fo
/-- no tuple is lost -/
def TupLe (H H' : Hp) : Prop := ∀ c xs, H c = some (.tup xs) → H' c = some (.tup xs)
theorem TupLe.refl (H : Hp) : TupLe H H := fun _ _ h => h
theorem TupLe.trans {H H1 H2 : Hp} (a : TupLe H H1) (b : TupLe H1 H2) : TupLe H H2 := fun c xs h => b c xs (a c xs h)
theorem TupLe.same {H H' : Hp} (s : Same H H') : TupLe H H' := fun c xs h => s c _ h
theorem TupLe.but {b : Addr} {H H' : Hp} (s : But b H H') {l : List V} (h : H b = some (.lst l)) : TupLe H H' := fun c xs e => s c _ e fun z => by
  rw [z, h] at e
  cases e
theorem TupLe.new {H : Hp} {p : Addr} {o : HO} (h : H p = none) : TupLe H (upd H p o) := TupLe.same (same_upd h)
theorem TupLe.lst {H : Hp} {p : Addr} {l m : List V} (h : H p = some (.lst l)) : TupLe H (upd H p (.lst m)) := fun c xs e => by
  by_cases z : c = p
  · rw [z, h] at e
    cases e
  · rw [upd_ne z]
    exact e
def Items (H : Hp) : Fo → List V → Prop
  | .nil, xs => xs = []
  | .cons k t i r, xs => ∃ p q ys xs', xs = .ref p :: xs' ∧ H p = some (.tup [.str (SX.S k), .str (SX.S t), .ref q]) ∧ H q = some (.tup ys) ∧ Items H i ys ∧ Items H r xs'
def Doc (H : Hp) (f : Fo) (a : Addr) : Prop := ∃ xs, H a = some (.tup xs) ∧ Items H f xs
theorem Items.le {H H' : Hp} (s : TupLe H H') : ∀ {f : Fo} {xs : List V}, Items H f xs → Items H' f xs
  | .nil, _, h => h
  | .cons _ _ _ _, _, ⟨p, q, ys, xs', e, h1, h2, h3, h4⟩ => ⟨p, q, ys, xs', e, s _ _ h1, s _ _ h2, h3.le s, h4.le s⟩
theorem Doc.le {H H' : Hp} (s : TupLe H H') {f : Fo} {a : Addr} : Doc H f a → Doc H' f a := fun ⟨xs, h, i⟩ => ⟨xs, s _ _ h, i.le s⟩
theorem Items.len {H : Hp} : ∀ {f : Fo} {xs : List V}, Items H f xs → xs.length = f.len
  | .nil, _, h => by rw [show _ = _ from h]; rfl
  | .cons _ _ _ r, _, ⟨p, q, ys, xs', e, h1, h2, h3, h4⟩ => by
    rw [e, List.length_cons, h4.len]
    rfl
theorem Items.snoc {H : Hp} {k t : List Nat} {i : Fo} {p q : Addr} {ys : List V} (hp : H p = some (.tup [.str (SX.S k), .str (SX.S t), .ref q])) (hq : H q = some (.tup ys)) (hi : Items H i ys) :
    ∀ {f : Fo} {xs : List V}, Items H f xs → Items H (f.snoc k t i) (xs ++ [.ref p])
  | .nil, _, h => by
    rw [show _ = _ from h]
    exact ⟨p, q, ys, [], rfl, hp, hq, hi, rfl⟩
  | .cons _ _ _ _, _, ⟨p', q', ys', xs', e, h1, h2, h3, h4⟩ => ⟨p', q', ys', xs' ++ [.ref p], by rw [e]; rfl, h1, h2, h3, Items.snoc hp hq hi h4⟩
/-! as plain data -/
def fdata : Fo → List PyData
  | .nil => []
  | .cons k t i r => .tuple [.str (SX.S k), .str (SX.S t), .tuple (fdata i)] :: fdata r
theorem Items.dp {K : PySem.W.Frag} {H : Hp} : ∀ {f : Fo} {xs : List V}, Items H f xs → DpAll K H xs (fdata f)
  | .nil, _, h => by
    rw [show _ = _ from h]
    exact .nil
  | .cons _ _ _ _, _, ⟨p, q, ys, xs', e, h1, h2, h3, h4⟩ => by
    rw [e]
    exact .cons (.tup (SqT.of h1) (.cons (.str _) (.cons (.str _) (.cons (.tup (SqT.of h2) h3.dp) .nil)))) h4.dp
theorem Doc.dp {K : PySem.W.Frag} {H : Hp} {f : Fo} {a : Addr} : Doc H f a → Dp K H (.ref a) (.tuple (fdata f)) := fun ⟨xs, h, i⟩ => .tup (SqT.of h) i.dp
/-- two documents of one forest are alike, at twice the depth and one -/
theorem Items.alk {K : PySem.W.Frag} {H : Hp} : ∀ {f : Fo} {n : Nat} {xs ys : List V}, f.size ≤ 1000 → 2 * f.depth ≤ n → Items H f xs → Items H f ys → xs.length = ys.length ∧ xs.length ≤ 1000 ∧ ∀ (i : Nat) (x y : V), xs[i]? = some x → ys[i]? = some y → Alk K H n x y
  | .nil, n, _, _, _, _, h1, h2 => by
    rw [show _ = _ from h1, show _ = _ from h2]
    exact ⟨rfl, Nat.zero_le _, fun i x y h => by cases h⟩
  | .cons k t i r, n, _, _, hz, hn, h1, h2 => by
    have hl1 := h1.len
    have hl2 := h2.len
    have hl := Fo.len_le (.cons k t i r)
    obtain ⟨p, q, ys, xs', e, h1, h2', h3, h4⟩ := h1
    obtain ⟨p2, q2, ys2, xs2, e2, g1, g2, g3, g4⟩ := h2
    have hs : 1 + i.size + r.size ≤ 1000 := hz
    have hd : 2 * max (i.depth + 1) r.depth ≤ n := hn
    obtain ⟨a1, a2, a3⟩ := Items.alk (K := K) (n := n) (by omega) (by omega) h4 g4
    obtain ⟨m, rfl⟩ : ∃ m, n = m + 2 := ⟨n - 2, by omega⟩
    obtain ⟨b1, b2, b3⟩ := Items.alk (K := K) (n := m) (by omega) (by omega) h3 g3
    refine ⟨by rw [hl1, hl2], by rw [hl1]; omega, fun j x y hx hy => ?_⟩
    subst e e2
    cases j with
    | succ j => exact a3 j x y hx hy
    | zero =>
      cases hx
      cases hy
      refine .inr ⟨p, p2, _, _, rfl, rfl, .inr ⟨SqT.of h1, SqT.of g1⟩, rfl, (by show 3 ≤ 100000; decide), fun j x y hx hy => ?_⟩
      rcases j with _ | _ | _ | j
      · cases hx
        cases hy
        exact .inl ⟨rfl, rfl⟩
      · cases hx
        cases hy
        exact .inl ⟨rfl, rfl⟩
      · cases hx
        cases hy
        exact .inr ⟨q, q2, _, _, rfl, rfl, .inr ⟨SqT.of h2', SqT.of g2⟩, b1, by omega, b3⟩
      · cases hx
theorem Doc.alk {K : PySem.W.Frag} {H : Hp} {f : Fo} {a b : Addr} {n : Nat} (hz : f.size ≤ 1000) (hn : 2 * f.depth ≤ n) (h1 : Doc H f a) (h2 : Doc H f b) : Alk K H (n + 1) (.ref a) (.ref b) := by
  obtain ⟨xs, e1, i1⟩ := h1
  obtain ⟨ys, e2, i2⟩ := h2
  obtain ⟨l1, l2, k⟩ := Items.alk (K := K) hz hn i1 i2
  exact .inr ⟨a, b, xs, ys, rfl, rfl, .inr ⟨SqT.of e1, SqT.of e2⟩, l1, by omega, k⟩

/-! ### names -/
def restL : List Nat := [114, 101, 115, 116]
theorem rest_S : Str.ofString "rest" = SX.S restL := by decide +kernel
def GoodK (k : List Nat) : Prop := (∀ c ∈ k, c ∈ letters) ∧ 1 ≤ k.length ∧ k.length ≤ 6 ∧ k ≠ restL
theorem fix_rest (w : Str) : fixW w ≠ "rest" := by
  unfold fixW
  by_cases h2 : w = "if"
  · rw [if_pos h2]
    decide +kernel
  rw [if_neg h2]
  by_cases h3 : w = "is"
  · rw [if_pos h3]
    decide +kernel
  rw [if_neg h3]
  by_cases h4 : w = "end"
  · rw [if_pos h4]
    decide +kernel
  rw [if_neg h4]
  by_cases h5 : w = "rest"
  · rw [if_pos h5]
    decide +kernel
  rw [if_neg h5]
  exact h5
theorem words_good {many most : Int} {ws : List Str} (h0 : 0 ≤ many) (h : Words many most ws) (hm : most ≤ 5) : ∃ ks : List (List Nat), ws = ks.map SX.S ∧ (∀ k ∈ ks, GoodK k) ∧ (ks.length : Int) = many := by
  obtain ⟨st, at_, s0, h1, h2, h3, h4, rfl⟩ := h
  refine ⟨((List.range many.toNat).map fun k => fixW (SX.S (wordAt st at_ s0 k))).map fun z => z.cps.toList, ?_, fun k hk => ?_, ?_⟩
  · rw [List.map_map]
    have e : (SX.S ∘ fun z : Str => z.cps.toList) = id := funext fun z => (str_S z).symm
    rw [e, List.map_id]
  · rw [List.map_map] at hk
    obtain ⟨j, hj, rfl⟩ := List.mem_map.mp hk
    obtain ⟨w1, w2, w3⟩ := wordAt_ok (at_ := at_) (s0 := s0) (k := j) h2
    obtain ⟨m, em, m1, m2, m3⟩ := fix_ok w1 w2
    show GoodK (fixW (SX.S (wordAt st at_ s0 j))).cps.toList
    rw [em]
    have e : (SX.S m).cps.toList = m := by simp [SX.S]
    rw [e]
    refine ⟨m1, m2, by omega, fun z => fix_rest (SX.S (wordAt st at_ s0 j)) ?_⟩
    rw [em, z]
    exact rest_S.symm
  · rw [List.length_map, List.length_map, List.length_range]
    omega
theorem digit_len : ∀ k : Fin 10, (Str.ofString (toString ((k.val : Nat) : Int))).length ≤ 2 := by decide +kernel
theorem digit_len' {k : Int} (h0 : 0 ≤ k) (h1 : k < 10) : (Str.ofString (toString k)).length ≤ 2 := by
  have := digit_len ⟨k.toNat, by omega⟩
  have e : ((k.toNat : Nat) : Int) = k := by omega
  rw [show ((((⟨k.toNat, by omega⟩ : Fin 10).val : Nat) : Int)) = k from e] at this
  exact this
def kws (ks : List (List Nat)) : List V := ks.map fun k => V.str (SX.S k)
def spNames : Sp := fun vs H Q _ => ∃ (b r : Addr), vs = [.ref b] ∧ BagAt H b r ∧
  ∀ (p a1 a2 a3 : Addr) (k1 k2 : List (List Nat)) (n : Nat) (H' : Hp), But b H H' → BagAt H' b r → H' p = some (.lst [.ref a1, .ref a2, .ref a3]) → H' a1 = some (.lst (kws k1)) → H' a2 = some (.lst (kws k2)) →
    k1.length = 3 → k2.length = 3 → (∀ k ∈ k1, GoodK k) → (∀ k ∈ k2, GoodK k) → H p = none → H a1 = none → H a2 = none → Q (.ref p) H'
section
variable {P : Program} {w : World} {K : PySem.W.Frag} {mg : Str → Option Value} {base : Heap} {f : Addr} {fd : FuncData}
theorem ok_law_names (F : Fun K "_law_names" "_law_names" s_law_names f fd) (T : Txt mg) (c_law_take : Cal P w K mg base 1 "_law_take" spTake) (c_law_words : Cal P w K mg base 3 "_law_words" spWords) : FnOk P w K mg base CX0 4 f fd ["_law_bag_z"] spNames := by
  refine F.ok sc_law_names (fun vs H Q E h => ?_) (fun cdv A outer s H vs Q E hr h => ?_)
  · obtain ⟨b, r, rfl, _⟩ := h
    rfl
  · obtain ⟨b, r, rfl, hb, q⟩ := h
    refine ⟨_, (pss_one (ps_ret (pe_lst (pa_cons (pe_c c_law_words hr (by omega) (by rfl) (pa_cons (pv 0) (pa_cons pe_int (pa_cons pe_int pa_nil)))) (pa_cons (pe_c c_law_words hr (by omega) (by rfl) (pa_cons (pv 0) (pa_cons pe_int (pa_cons pe_int pa_nil)))) (pa_cons (pe_lst (pa_cons pe_str (pa_cons (pe_op (op_addX K) pe_str (pe_callTy call_str_int (by rfl) T.str (by decide +kernel) (pa_cons (pe_c c_law_take hr (by omega) (by rfl) (pa_cons (pv 0) (pa_cons pe_int pa_nil))) pa_nil))) pa_nil))) pa_nil)))))), ?_⟩
    change (_ : TS) _ [some (V.ref b)] _
    k_extra "rr"
    refine ⟨b, r, 3, 5, rfl, hb, by omega, by omega, by omega, by omega, fun ws1 a1 H1 hw1 bb1 hb1 n1 e1 nb1 => ?_⟩
    k_extra "rr"
    refine ⟨b, r, 3, 3, rfl, hb1, by omega, by omega, by omega, by omega, fun ws2 a2 H2 hw2 bb2 hb2 n2 e2 nb2 => ?_⟩
    k_extra "rr"
    refine ⟨b, r, 10, rfl, hb2, by omega, by omega, fun k H3 bb3 hb3 k0 k1 => ?_⟩
    k_extra "rr"
    have hd : (Str.ofString (toString k)).length ≤ 2 := digit_len' k0 k1
    refine ⟨k, rfl, (by have : k.natAbs < 2 ^ 10 := by omega
                        exact Nat.lt_of_le_of_lt (Nat.log2_le_self _) (by omega)), ?_⟩
    have z1 : (Str.ofString "t").length + (Str.ofString (toString k)).length ≤ sizeLine := by
      rw [sizeLine_eq, show (Str.ofString "t").length = 1 by decide +kernel]
      omega
    k_extra "rr"
    refine ⟨by k_extra "sz", fun a3 n3 => ?_⟩
    k_extra "rr"
    refine ⟨by k_extra "sz", fun p np => ?_⟩
    k_extra "rr"
    obtain ⟨k1, rfl, g1, l1⟩ := words_good (by omega) hw1 (by omega)
    obtain ⟨k2, rfl, g2, l2⟩ := words_good (by omega) hw2 (by omega)
    rw [List.map_map] at e1 e2
    have bb := ((bb1.trans bb2).trans bb3).trans (But.new (o := .lst [.str "", .str ("t" ++ Str.ofString (toString k))]) n3)
    exact q p a1 a2 a3 k1 k2 0 _ (bb.trans (But.new np)) ((hb3.new n3).new np) upd_same (same_upd np _ _ (same_upd n3 _ _ (bb3 _ _ (bb2 _ _ e1 nb1) nb1))) (same_upd np _ _ (same_upd n3 _ _ (bb3 _ _ e2 nb2))) (by omega) (by omega) g1 g2 (bb.free (hb3.new n3).ex np) n1 (bb1.free hb1.ex n2)
end

/-! ### _law_nested -/
def ivs (ms : List Int) : List V := ms.map V.int
/-- the rows (the last one first) and the forests that they hold -/
def RowsR (H : Hp) : List Addr → List Fo → Prop
  | [], [] => True
  | r :: rs, f :: fs => (∃ xs, H r = some (.lst xs) ∧ Items H f xs) ∧ RowsR H rs fs
  | _, _ => False
def sizes (fs : List Fo) : Nat := (fs.map Fo.size).sum
theorem RowsR.len {H : Hp} : ∀ {rs : List Addr} {fs : List Fo}, RowsR H rs fs → rs.length = fs.length
  | [], [], _ => rfl
  | _ :: _, _ :: _, h => by rw [List.length_cons, List.length_cons, h.2.len]
theorem RowsR.keep {H H' : Hp} (t : TupLe H H') : ∀ {rs : List Addr} {fs : List Fo}, (∀ r ∈ rs, ∀ xs, H r = some (.lst xs) → H' r = some (.lst xs)) → RowsR H rs fs → RowsR H' rs fs
  | [], [], _, _ => trivial
  | r :: rs, f :: fs, k, ⟨⟨xs, h, i⟩, q⟩ => ⟨⟨xs, k r (List.mem_cons_self ..) _ h, i.le t⟩, RowsR.keep t (fun r' m => k r' (List.mem_cons_of_mem _ m)) q⟩
theorem RowsR.mem {H : Hp} : ∀ {rs : List Addr} {fs : List Fo}, RowsR H rs fs → ∀ r ∈ rs, ∃ xs, H r = some (.lst xs)
  | _ :: _, _ :: _, ⟨⟨xs, h, _⟩, q⟩, r, m => by
    rcases List.mem_cons.mp m with rfl | m
    · exact ⟨xs, h⟩
    · exact q.mem r m
theorem RowsR.at {H : Hp} : ∀ {rs : List Addr} {fs : List Fo}, RowsR H rs fs → ∀ r ∈ rs, ∃ f xs, f ∈ fs ∧ H r = some (.lst xs) ∧ Items H f xs
  | _ :: _, _ :: _, ⟨⟨xs, h, i⟩, q⟩, r, m => by
    rcases List.mem_cons.mp m with rfl | m
    · exact ⟨_, xs, List.mem_cons_self .., h, i⟩
    · obtain ⟨f, ys, h1, h2, h3⟩ := q.at r m
      exact ⟨f, ys, List.mem_cons_of_mem _ h1, h2, h3⟩
theorem sizes_mem {f : Fo} : ∀ {fs : List Fo}, f ∈ fs → f.size ≤ sizes fs
  | g :: r, m => by
    have e : sizes (g :: r) = g.size + sizes r := rfl
    rcases List.mem_cons.mp m with rfl | m
    · omega
    · have := sizes_mem m
      omega
theorem ints_ne {K : PySem.W.Frag} {H : Hp} : ∀ (os : List Int), DpAll K H (ivs os) (os.map PyData.int)
  | [] => .nil
  | i :: r => .cons (.int i) (ints_ne r)
theorem lay_ints : ∀ os : List Int, PyData.canLayAll0 (os.map PyData.int) = true
  | [] => by simp [PyData.canLayAll0]
  | i :: r => by
    rw [List.map_cons]
    unfold PyData.canLayAll0
    rw [lay_ints r]
    simp [PyData.canLay0]
theorem depth_ints : ∀ os : List Int, PyData.depthAll (os.map PyData.int) = 0
  | [] => by simp [PyData.depthAll]
  | i :: r => by
    rw [List.map_cons]
    unfold PyData.depthAll
    rw [depth_ints r]
    simp [PyData.depth]
theorem shaped_ints (os : List Int) : SeqAt.shaped (.list (os.map PyData.int)) = true := by
  unfold SeqAt.shaped
  have h1 : PyData.canLay0 (.list (os.map PyData.int)) = true := by
    unfold PyData.canLay0
    exact lay_ints os
  have h2 : PyData.depth (.list (os.map PyData.int)) = 1 := by
    unfold PyData.depth
    rw [depth_ints]
  rw [h1, h2]
  rfl
theorem shaped_nilL : SeqAt.shaped (.list []) = true := by decide +kernel
theorem shaped_nilT : SeqAt.shaped (.tuple []) = true := by decide +kernel
theorem eqv_nilL : ∀ ds : List PyData, PyData.eqv (.list ds) (.list []) = ds.isEmpty
  | [] => by simp [PyData.eqv, PyData.eqvAll]
  | d :: r => by simp [PyData.eqv, PyData.eqvAll]
theorem eqv_nilT : ∀ ds : List PyData, PyData.eqv (.tuple ds) (.tuple []) = ds.isEmpty
  | [] => by simp [PyData.eqv, PyData.eqvAll]
  | d :: r => by simp [PyData.eqv, PyData.eqvAll]
theorem emp_map {α β : Type} (f : α → β) (l : List α) : (l.map f).isEmpty = l.isEmpty := by cases l <;> rfl
structure NI (H : Hp) (R O : Addr) (p : List Nat → List Nat → Prop) (i : Nat) (osr : List Int) (rs : List Addr) (fs : List Fo) (H' : Hp) : Prop where
  same : Same H H'
  fR : H R = none
  fO : H O = none
  hR : H' R = some (.lst (rs.reverse.map V.ref))
  hO : H' O = some (.lst (ivs osr.reverse))
  rows : RowsR H' rs fs
  len : rs.length = osr.length + 1
  nd : rs.Nodup
  nR : R ∉ rs
  nO : O ∉ rs
  RO : R ≠ O
  fresh : ∀ r ∈ rs, H r = none
  sz : 2 * sizes fs + osr.length ≤ i
  all : ∀ f ∈ fs, f.All p
theorem NI.new {H : Hp} {R O : Addr} {p : List Nat → List Nat → Prop} {i : Nat} {osr : List Int} {rs : List Addr} {fs : List Fo} {H' : Hp} {x : Addr} {o : HO} (h : NI H R O p i osr rs fs H') (n : H' x = none) : NI H R O p i osr rs fs (upd H' x o) :=
  { h with
    same := h.same.trans (same_upd n)
    hR := same_upd n _ _ h.hR
    hO := same_upd n _ _ h.hO
    rows := h.rows.keep (TupLe.new n) fun r _ xs e => same_upd n _ _ e }
theorem NI.open {H : Hp} {R O : Addr} {p : List Nat → List Nat → Prop} {i : Nat} {osr : List Int} {rs : List Addr} {fs : List Fo} {H' : Hp} {e : Addr} {mk : Int} (h : NI H R O p i osr rs fs H') (n : upd H' O (.lst (ivs osr.reverse ++ [.int mk])) e = none) :
    NI H R O p (i + 1) (mk :: osr) (e :: rs) (.nil :: fs) (upd (upd (upd H' O (.lst (ivs osr.reverse ++ [.int mk]))) e (.lst [])) R (.lst (rs.reverse.map V.ref ++ [.ref e]))) := by
  have n1 : H' e = none := un0 n
  have eO : e ≠ O := fun z => by
    rw [z, upd_same] at n
    cases n
  have eR : e ≠ R := (ne_of_none h.hR n1).symm
  have er : e ∉ rs := fun m => by
    obtain ⟨xs, q⟩ := h.rows.mem e m
    rw [n1] at q
    cases q
  have he : H e = none := by
    cases q : H e with
    | none => rfl
    | some o =>
      rw [h.same _ _ q] at n1
      cases n1
  have t1 : TupLe H' (upd H' O (.lst (ivs osr.reverse ++ [.int mk]))) := TupLe.lst h.hO
  have t2 := t1.trans (TupLe.new (o := .lst []) n)
  have hR2 : upd (upd H' O (.lst (ivs osr.reverse ++ [.int mk]))) e (.lst []) R = some (.lst (rs.reverse.map V.ref)) := same_upd n _ _ (upd2 h.RO h.hR)
  have t3 := t2.trans (TupLe.lst (m := rs.reverse.map V.ref ++ [.ref e]) hR2)
  refine {
    same := same_mut ((same_mut h.same h.fO).trans (same_upd n)) h.fR
    fR := h.fR
    fO := h.fO
    hR := ?_
    hO := ?_
    rows := ⟨⟨[], ?_, rfl⟩, h.rows.keep t3 fun r m xs q => ?_⟩
    len := (by rw [List.length_cons, List.length_cons, h.len])
    nd := List.nodup_cons.mpr ⟨er, h.nd⟩
    nR := fun m => ?_
    nO := fun m => ?_
    RO := h.RO
    fresh := fun r m => ?_
    sz := ?_
    all := fun f m => ?_ }
  · rw [upd_same, List.reverse_cons, List.map_append]
    rfl
  · rw [upd_ne h.RO.symm, upd_ne eO.symm, upd_same, List.reverse_cons]
    unfold ivs
    rw [List.map_append]
    rfl
  · rw [upd_ne eR, upd_same]
  · have mR : r ≠ R := fun z => h.nR (z ▸ m)
    have mO : r ≠ O := fun z => h.nO (z ▸ m)
    have me : r ≠ e := fun z => er (z ▸ m)
    rw [upd_ne mR, upd_ne me, upd_ne mO]
    exact q
  · rcases List.mem_cons.mp m with z | m
    · exact eR z.symm
    · exact h.nR m
  · rcases List.mem_cons.mp m with z | m
    · exact eO z.symm
    · exact h.nO m
  · rcases List.mem_cons.mp m with rfl | m
    · exact he
    · exact h.fresh r m
  · have := h.sz
    show 2 * (0 + sizes fs) + (osr.length + 1) ≤ i + 1
    omega
  · rcases List.mem_cons.mp m with rfl | m
    · trivial
    · exact h.all f m
theorem NI.close {H : Hp} {R O : Addr} {p : List Nat → List Nat → Prop} {i : Nat} {o : Int} {os : List Int} {rl rp : Addr} {rest : List Addr} {fl fp : Fo} {fr : List Fo} {H' : Hp} {q pn : Addr} {xl xp : List V} {k t : List Nat} (h : NI H R O p i (o :: os) (rl :: rp :: rest) (fl :: fp :: fr) H')
    (hl : H' rl = some (.lst xl)) (hp : H' rp = some (.lst xp)) (il : Items H' fl xl) (ip : Items H' fp xp) (hkt : p k t)
    (nq : upd (upd H' O (.lst (ivs os.reverse))) R (.lst ((rp :: rest).reverse.map V.ref)) q = none)
    (npn : upd (upd (upd H' O (.lst (ivs os.reverse))) R (.lst ((rp :: rest).reverse.map V.ref))) q (.tup xl) pn = none) :
    NI H R O p (i + 1) os (rp :: rest) (fp.snoc k t fl :: fr) (upd (upd (upd (upd (upd H' O (.lst (ivs os.reverse))) R (.lst ((rp :: rest).reverse.map V.ref))) q (.tup xl)) pn (.tup [.str (SX.S k), .str (SX.S t), .ref q])) rp (.lst (xp ++ [.ref pn]))) := by
  have nd := List.nodup_cons.mp h.nd
  have nd2 := List.nodup_cons.mp nd.2
  have mp_ : rp ∈ rl :: rp :: rest := List.mem_cons_of_mem _ (List.mem_cons_self ..)
  have pR : rp ≠ R := fun z => h.nR (z ▸ mp_)
  have pO : rp ≠ O := fun z => h.nO (z ▸ mp_)
  have t1 : TupLe H' (upd H' O (.lst (ivs os.reverse))) := TupLe.lst h.hO
  have hR1 : upd H' O (.lst (ivs os.reverse)) R = some (.lst ((rl :: rp :: rest).reverse.map V.ref)) := upd2 h.RO h.hR
  have t2 := t1.trans (TupLe.lst (m := (rp :: rest).reverse.map V.ref) hR1)
  have t3 := t2.trans (TupLe.new (o := .tup xl) nq)
  have t4 := t3.trans (TupLe.new (o := .tup [.str (SX.S k), .str (SX.S t), .ref q]) npn)
  have hp2 : upd (upd H' O (.lst (ivs os.reverse))) R (.lst ((rp :: rest).reverse.map V.ref)) rp = some (.lst xp) := upd2 pR (upd2 pO hp)
  have hp4 := same_upd (o := .tup [.str (SX.S k), .str (SX.S t), .ref q]) npn _ _ (same_upd (o := .tup xl) nq _ _ hp2)
  have t5 := t4.trans (TupLe.lst (m := xp ++ [.ref pn]) hp4)
  have t45 : TupLe _ _ := TupLe.lst (m := xp ++ [.ref pn]) hp4
  have hq4 : upd (upd (upd (upd H' O (.lst (ivs os.reverse))) R (.lst ((rp :: rest).reverse.map V.ref))) q (.tup xl)) pn (.tup [.str (SX.S k), .str (SX.S t), .ref q]) q = some (.tup xl) := same_upd npn _ _ upd_same
  obtain ⟨_, _, hrows⟩ := h.rows
  have qO : H O = none := h.fO
  have keepR : ∀ {c : Addr} {u : HO}, c ≠ rp → upd (upd H' O (.lst (ivs os.reverse))) R (.lst ((rp :: rest).reverse.map V.ref)) c = some u →
      upd (upd (upd (upd (upd H' O (.lst (ivs os.reverse))) R (.lst ((rp :: rest).reverse.map V.ref))) q (.tup xl)) pn (.tup [.str (SX.S k), .str (SX.S t), .ref q])) rp (.lst (xp ++ [.ref pn])) c = some u := fun nc e => upd2 nc (same_upd npn _ _ (same_upd nq _ _ e))
  refine {
    same := same_mut (((same_mut (same_mut h.same h.fO) h.fR).trans (same_upd nq)).trans (same_upd npn)) (h.fresh rp mp_)
    fR := h.fR
    fO := h.fO
    hR := keepR pR.symm upd_same
    hO := keepR pO.symm (upd2 h.RO.symm upd_same)
    rows := ⟨⟨xp ++ [.ref pn], upd_same, Items.snoc (t45 _ _ upd_same) (t45 _ _ hq4) (il.le t5) (ip.le t5)⟩, hrows.keep t5 fun r m xs e => ?_⟩
    len := ?_
    nd := nd.2
    nR := fun m => h.nR (List.mem_cons_of_mem _ m)
    nO := fun m => h.nO (List.mem_cons_of_mem _ m)
    RO := h.RO
    fresh := fun r m => h.fresh r (List.mem_cons_of_mem _ m)
    sz := ?_
    all := fun f m => ?_ }
  · have m2 : r ∈ rl :: rp :: rest := List.mem_cons_of_mem _ (List.mem_cons_of_mem _ m)
    exact keepR (fun z => nd2.1 (z ▸ m)) (upd2 (fun z => h.nR (z ▸ m2)) (upd2 (fun z => h.nO (z ▸ m2)) e))
  · have := h.len
    rw [List.length_cons, List.length_cons, List.length_cons] at this
    rw [List.length_cons]
    omega
  · have := h.sz
    have e : sizes (fl :: fp :: fr) = fl.size + (fp.size + sizes fr) := rfl
    have e2 : sizes (fp.snoc k t fl :: fr) = (fp.snoc k t fl).size + sizes fr := rfl
    rw [e, List.length_cons] at this
    rw [e2, Fo.size_snoc]
    omega
  · rcases List.mem_cons.mp m with rfl | m
    · exact Fo.all_snoc hkt (h.all fl (List.mem_cons_self ..)) (h.all fp (List.mem_cons_of_mem _ (List.mem_cons_self ..)))
    · exact h.all f (List.mem_cons_of_mem _ (List.mem_cons_of_mem _ m))
def spNested : Sp := fun vs H Q _ => ∃ (st m so tx : Addr) (ms : List Int) (ks ts : List (List Nat)) (p : List Nat → List Nat → Prop), vs = [.ref st] ∧ H st = some (.lst [.ref m, .ref so, .ref tx]) ∧ H m = some (.lst (ivs ms)) ∧ H so = some (.lst (kws ks)) ∧ H tx = some (.lst (kws ts)) ∧
  ms.length ≤ 100000 ∧ (∀ x ∈ ms, 0 ≤ x ∧ x < 2 ^ 62 ∧ ∃ k t, ks[x.toNat]? = some k ∧ ts[x.toNat]? = some t ∧ p k t) ∧
  ∀ (f : Fo) (a : Addr) (H' : Hp), Same H H' → Doc H' f a → 2 * f.size ≤ ms.length → f.All p → Q (.ref a) H'
section
variable {P : Program} {w : World} {K : PySem.W.Frag} {mg : Str → Option Value} {base : Heap} {f : Addr} {fd : FuncData}
theorem ok_law_nested (F : Fun K "_law_nested" "_law_nested" s_law_nested f fd) (T : Txt mg) : FnOk P w K mg base CX0 1 f fd ["_law_state"] spNested := by
  refine F.ok sc_law_nested (fun vs H Q E h => ?_) (fun cdv A outer s H vs Q E hr h => ?_)
  · obtain ⟨st, m, so, tx, ms, ks, ts, p, rfl, _⟩ := h
    rfl
  · obtain ⟨st, m, so, tx, ms, ks, ts, p, rfl, hst, hm, hso, htx, hl, hms, q⟩ := h
    refine ⟨_, (pss_cons (ps_par (i := 1) (j := 2) (by rfl) sc_law_nested.nd rfl rfl (by decide) rfl rfl (pa_cons (pe_lst (pa_cons (pe_lst pa_nil) pa_nil)) (pa_cons (pe_lst pa_nil) pa_nil)) (by rfl))
      (pss_cons (ps_for PassesOwn.never rfl (pi_listX K (pe_ix (ix_X K) (pv 0) pe_int (fun _ _ => rfl))) (pg_name (i := 3) sc_law_nested.nd rfl (.inl rfl)) (pss_one (ps_if (PW.pt (pw_and (pt_cmpR (op_neX K hr) (pv 2) (pe_lst pa_nil) (nomark _)) (pw_and1 (pt_cmpR (op_eqX K hr) (pe_ix (ix_X K) (pv 2) (pe_un un_neg pe_int) (fun _ _ => rfl)) (pv 3) (nomark _))))) (pss_cons (ps_expr (pe_bm0X K (pe_bm0 PySem.F.plainAttrs_list PySem.F.slot_list_pop PySem.F.type_list_pop mt_pop (pv 2))))
      (pss_cons (ps_set (i := 4) sc_law_nested.nd rfl (.inl rfl) (pe_callTy (cr_tuple K) (by rfl) T.tuple (by decide +kernel) (pa_cons (pe_bm0X K (pe_bm0 PySem.F.plainAttrs_list PySem.F.slot_list_pop PySem.F.type_list_pop mt_pop (pv 1))) pa_nil)))
      (pss_one (ps_expr (pe_bmX K (pe_bm PySem.F.plainAttrs_list PySem.F.slot_list_append PySem.F.type_list_append mt_append (pe_ix (ix_X K) (pv 1) (pe_un un_neg pe_int) (fun _ _ => rfl)) (pa_cons (pe_tup (pa_cons (pe_ix (ix_X K) (pe_ix (ix_X K) (pv 0) pe_int (fun _ _ => rfl)) (pv 3) (fun _ _ => rfl)) (pa_cons (pe_ix (ix_X K) (pe_ix (ix_X K) (pv 0) pe_int (fun _ _ => rfl)) (pv 3) (fun _ _ => rfl)) (pa_cons (pv 4) pa_nil)))) pa_nil))))))) (pss_cons (ps_expr (pe_bmX K (pe_bm PySem.F.plainAttrs_list PySem.F.slot_list_append PySem.F.type_list_append mt_append (pv 2) (pa_cons (pv 3) pa_nil))))
      (pss_one (ps_expr (pe_bmX K (pe_bm PySem.F.plainAttrs_list PySem.F.slot_list_append PySem.F.type_list_append mt_append (pv 1) (pa_cons (pe_lst pa_nil) pa_nil)))))))))
      (pss_one (ps_ret (pe_callTy (cr_tuple K) (by rfl) T.tuple (by decide +kernel) (pa_cons (pe_ix (ix_X K) (pv 1) pe_int (fun _ _ => rfl)) pa_nil)))))), ?_⟩
    change (_ : TS) _ [some (V.ref st), none, none, none, none] _
    k_extra "rr"
    refine ⟨by k_extra "sz", fun r0 nr0 => ?_⟩
    k_extra "rr"
    refine ⟨by k_extra "sz", fun R nR => ?_⟩
    k_extra "rr"
    refine ⟨by k_extra "sz", fun O nO => ?_⟩
    k_extra "rr"
    refine ixL (SqL.of (same_upd nO _ _ (same_upd nR _ _ (same_upd nr0 _ _ hst)))) rfl ?_
    have i0 : NI H R O p 0 [] [r0] [.nil] (upd (upd (upd H r0 (.lst [])) R (.lst [.ref r0])) O (.lst [])) := {
      same := ((same_upd nr0).trans (same_upd nR)).trans (same_upd nO)
      fR := un0 nR
      fO := un0 (un0 nO)
      hR := upd2 (ne_of_none upd_same nO) upd_same
      hO := upd_same
      rows := ⟨⟨[], same_upd nO _ _ (same_upd nR _ _ upd_same), rfl⟩, trivial⟩
      len := rfl
      nd := (by simp)
      nR := fun z => ne_of_none upd_same nR (List.mem_singleton.mp z).symm
      nO := fun z => ne_of_none (same_upd nR _ _ upd_same) nO (List.mem_singleton.mp z).symm
      RO := ne_of_none upd_same nO
      fresh := fun r z => (by rw [List.mem_singleton.mp z]; exact nr0)
      sz := Nat.le_refl _
      all := fun f z => (by rw [List.mem_singleton.mp z]; trivial) }
    refine ⟨m, rfl, ⟨_, SqL.of (i0.same _ _ hm)⟩, for_list (K := K) (a := m) (xs := ivs ms) (fun i σ H' => ∃ (rs : List Addr) (fs : List Fo) (osr : List Int) (v3 v4 : Option V), σ = [some (.ref st), some (.ref R), some (.ref O), v3, v4] ∧ NI H R O p i osr rs fs H')
      ⟨_, _, _, _, _, rfl, i0⟩ (fun i σ H' _ ⟨_, _, _, _, _, _, I⟩ => SqL.of (I.same _ _ hm)) ?_ ?_⟩
    · rintro i x σ H' hx ⟨rs, fs, osr, v3, v4, rfl, I⟩
      obtain ⟨mk, hmk, rfl⟩ := map_at hx
      obtain ⟨mk0, mk1, k, t, ek, et, hkt⟩ := hms mk (List.mem_of_getElem? hmk)
      k_extra "rr"
      refine ⟨by k_extra "sz", fun e0 ne0 => ?_⟩
      k_extra "rr"
      have I1 := I.new (o := .lst []) ne0
      refine neDd (d := .list (osr.reverse.map .int)) (e := .list []) (.lst (SqL.of I1.hO) (ints_ne _)) (.lst (SqL.of upd_same) .nil) (shaped_ints _) shaped_nilL ?_
      rw [eqv_nilL, emp_map]
      clear I
      have il : i < ms.length := (List.getElem?_eq_some_iff.mp hmk).1
      have hsz := I1.sz
      have hlen := I1.len
      rcases osr with _ | ⟨o, os⟩
      · rw [show (!([] : List Int).reverse.isEmpty) = false from rfl]
        rw [List.length_nil] at hsz hlen
        k_extra "rr"
        refine ⟨tyvL I1.hO, ?_⟩
        k_extra "rr"
        refine app I1.hO (by unfold ivs; rw [List.length_map, List.length_reverse, sizeLine_eq]; first | omega | (rw [List.length_nil]; omega) | (rw [List.length_cons]; omega)) ?_
        k_extra "rr"
        refine ⟨tyvL (upd2 I1.RO I1.hR), ?_⟩
        k_extra "rr"
        refine ⟨by k_extra "sz", fun e ne => ?_⟩
        k_extra "rr"
        refine app (same_upd ne _ _ (upd2 I1.RO I1.hR)) (by rw [List.length_map, List.length_reverse, sizeLine_eq]; omega) ?_
        k_extra "rr"
        exact ⟨_, _, _, _, _, rfl, I1.open ne⟩
      · rw [show (!(o :: os).reverse.isEmpty) = true by simp]
        rw [List.length_cons] at hsz hlen
        k_extra "rr"
        have hO2 : upd H' e0 (.lst []) O = some (.lst (ivs os.reverse ++ [.int o])) := by
          have := I1.hO
          rw [List.reverse_cons] at this
          unfold ivs at this
          rw [List.map_append] at this
          exact this
        refine ixL (SqL.of hO2) atI_last ?_
        k_extra "rr"
        by_cases z : o = mk
        · subst z
          rw [decide_eq_true rfl]
          k_extra "rr"
          refine ⟨tyvL hO2, popL hO2 ?_⟩
          k_extra "rr"
          obtain ⟨rl, rp, rest, rfl⟩ : ∃ rl rp rest, rs = rl :: rp :: rest := by
            match rs, hlen with
            | a :: b :: r, _ => exact ⟨a, b, r, rfl⟩
          obtain ⟨fl, fp, fr, rfl⟩ : ∃ fl fp fr, fs = fl :: fp :: fr := by
            have := I1.rows.len
            match fs, this with
            | a :: b :: r, _ => exact ⟨a, b, r, rfl⟩
          obtain ⟨⟨xl, hxl, ixl⟩, ⟨xp, hxp, ixp⟩, _⟩ := id I1.rows
          have mp_ : rp ∈ rl :: rp :: rest := List.mem_cons_of_mem _ (List.mem_cons_self ..)
          have ml_ : rl ∈ rl :: rp :: rest := List.mem_cons_self ..
          have pR : rp ≠ R := fun z => I1.nR (z ▸ mp_)
          have pO : rp ≠ O := fun z => I1.nO (z ▸ mp_)
          have lR : rl ≠ R := fun z => I1.nR (z ▸ ml_)
          have lO : rl ≠ O := fun z => I1.nO (z ▸ ml_)
          have hR1 : upd (upd H' e0 (.lst [])) O (.lst (ivs os.reverse)) R = some (.lst ((rp :: rest).reverse.map V.ref ++ [V.ref rl])) := by
            have := I1.hR
            rw [List.reverse_cons, List.map_append] at this
            exact upd2 I1.RO this
          refine ⟨tyvL hR1, popL hR1 ?_⟩
          k_extra "rr"
          refine tupL (SqL.of (upd2 lR (upd2 lO hxl))) fun q0 nq => ?_
          k_extra "rr"
          have hR3 : upd (upd (upd (upd H' e0 (.lst [])) O (.lst (ivs os.reverse))) R (.lst ((rp :: rest).reverse.map V.ref))) q0 (.tup xl) R = some (.lst (rest.reverse.map V.ref ++ [V.ref rp])) := by
            rw [same_upd nq _ _ upd_same, List.reverse_cons, List.map_append]
            rfl
          refine ixL (SqL.of hR3) atI_last ?_
          have hp3 := same_upd (o := .tup xl) nq _ _ (upd2 (o := .lst ((rp :: rest).reverse.map V.ref)) pR (upd2 (o := .lst (ivs os.reverse)) pO hxp))
          refine ⟨tyvL hp3, ?_⟩
          k_extra "rr"
          have sm : Same H (upd (upd (upd (upd H' e0 (.lst [])) O (.lst (ivs os.reverse))) R (.lst ((rp :: rest).reverse.map V.ref))) q0 (.tup xl)) := (same_mut (same_mut I1.same I1.fO) I1.fR).trans (same_upd nq)
          refine ixL (SqL.of (sm _ _ hst)) rfl ?_
          k_extra "rr"
          have ek' : atI (kws ks) o = some (.str (SX.S k)) := by
            have e := atI_nat (xs := kws ks) (j := o.toNat) (v := .str (SX.S k)) (by unfold kws; rw [List.getElem?_map, ek]; rfl)
            rw [show ((o.toNat : Nat) : Int) = o by omega] at e
            exact e
          have et' : atI (kws ts) o = some (.str (SX.S t)) := by
            have e := atI_nat (xs := kws ts) (j := o.toNat) (v := .str (SX.S t)) (by unfold kws; rw [List.getElem?_map, et]; rfl)
            rw [show ((o.toNat : Nat) : Int) = o by omega] at e
            exact e
          refine ixL (SqL.of (sm _ _ hso)) ek' ?_
          k_extra "rr"
          refine ixL (SqL.of (sm _ _ hst)) rfl ?_
          k_extra "rr"
          refine ixL (SqL.of (sm _ _ htx)) et' ?_
          k_extra "rr"
          refine ⟨by k_extra "sz", fun pn npn => ?_⟩
          k_extra "rr"
          have hlp := ixp.len
          have hfp : fp.len ≤ fp.size := Fo.len_le fp
          have hss : sizes (fl :: fp :: fr) = fl.size + (fp.size + sizes fr) := rfl
          refine app (same_upd npn _ _ hp3) (by rw [sizeLine_eq]; omega) ?_
          k_extra "rr"
          exact ⟨_, _, _, _, _, rfl, I1.close hxl hxp ixl ixp hkt nq npn⟩
        · rw [decide_eq_false z]
          k_extra "rr"
          refine ⟨tyvL I1.hO, ?_⟩
          k_extra "rr"
          refine app I1.hO (by unfold ivs; rw [List.length_map, List.length_reverse, sizeLine_eq]; first | omega | (rw [List.length_nil]; omega) | (rw [List.length_cons]; omega)) ?_
          k_extra "rr"
          refine ⟨tyvL (upd2 I1.RO I1.hR), ?_⟩
          k_extra "rr"
          refine ⟨by k_extra "sz", fun e ne => ?_⟩
          k_extra "rr"
          refine app (same_upd ne _ _ (upd2 I1.RO I1.hR)) (by rw [List.length_map, List.length_reverse, sizeLine_eq]; omega) ?_
          k_extra "rr"
          exact ⟨_, _, _, _, _, rfl, I1.open ne⟩
    · rintro σ H' ⟨rs, fs, osr, v3, v4, rfl, I⟩
      k_extra "rr"
      have hlen := I.len
      obtain ⟨g, r0', hg⟩ : ∃ g r0', rs.reverse = g :: r0' := by
        cases e : rs.reverse with
        | nil =>
          rw [List.reverse_eq_nil_iff.mp e] at hlen
          cases hlen
        | cons a l => exact ⟨a, l, rfl⟩
      have hR2 := I.hR
      rw [hg, List.map_cons] at hR2
      refine ixL (SqL.of hR2) (atI_nat (j := 0) rfl) ?_
      obtain ⟨fg, xs, hfg, hx, ix⟩ := I.rows.at g (by rw [← List.mem_reverse, hg]; exact List.mem_cons_self ..)
      refine tupL (SqL.of hx) fun a na => ?_
      have hsz := I.sz
      unfold ivs at hsz
      rw [List.length_map] at hsz
      have hs2 := sizes_mem hfg
      exact q fg a _ (I.same.trans (same_upd na)) ⟨xs, upd_same, ix.le (TupLe.new na)⟩ (by omega) (I.all fg hfg)
end

/-! ### _law_document -/
def spDocument : Sp := fun vs H Q _ => ∃ (b r ka : Addr) (many : Int) (ks : List (List Nat)), vs = [.ref b, .ref ka, .int many] ∧ BagAt H b r ∧ ka ≠ b ∧ H ka = some (.lst (kws ks)) ∧ 1 ≤ ks.length ∧ ks.length ≤ 1000 ∧ 0 ≤ many ∧ many ≤ 1000 ∧
  ∀ (f : Fo) (a : Addr) (H' : Hp), But b H H' → BagAt H' b r → Doc H' f a → (f.size : Int) ≤ many → f.All (fun k t => k ∈ ks ∧ t.length ≤ 3 ∧ ∀ c ∈ t, c ∈ signsL) → Q (.ref a) H'
structure DI (H : Hp) (b r M O S X : Addr) (ks : List (List Nat)) (j a c : Nat) (ms osr : List Int) (sk tk : List (List Nat)) (H' : Hp) : Prop where
  b0 : BagAt H b r
  but : But b H H'
  bag : BagAt H' b r
  fM : H M = none
  fO : H O = none
  fS : H S = none
  fX : H X = none
  hM : H' M = some (.lst (ivs ms))
  hO : H' O = some (.lst (ivs osr.reverse))
  hS : H' S = some (.lst (kws sk))
  hX : H' X = some (.lst (kws tk))
  MO : M ≠ O
  MS : M ≠ S
  MX : M ≠ X
  OS : O ≠ S
  OX : O ≠ X
  SX_ : S ≠ X
  cnt : ms.length + osr.length = 2 * j
  la : sk.length = a
  lc : tk.length = c
  om : ∀ x ∈ ms, 0 ≤ x ∧ x < j
  oo : ∀ x ∈ osr, 0 ≤ x ∧ x < j
  ok : ∀ k ∈ sk, k ∈ ks
  ot : ∀ t ∈ tk, t.length ≤ 3 ∧ ∀ c ∈ t, c ∈ signsL
section
variable {H H' H2 : Hp} {b r M O S X x : Addr} {ks sk tk : List (List Nat)} {j a c : Nat} {ms osr os : List Int} {o : Int} {u : HO}
theorem DI.bagged (h : DI H b r M O S X ks j a c ms osr sk tk H') (bb : But b H' H2) (hb : BagAt H2 b r) : DI H b r M O S X ks j a c ms osr sk tk H2 :=
  { h with
    but := h.but.trans bb
    bag := hb
    hM := bb _ _ h.hM (h.b0.ne_none h.fM).1
    hO := bb _ _ h.hO (h.b0.ne_none h.fO).1
    hS := bb _ _ h.hS (h.b0.ne_none h.fS).1
    hX := bb _ _ h.hX (h.b0.ne_none h.fX).1 }
theorem DI.new (h : DI H b r M O S X ks j a c ms osr sk tk H') (n : H' x = none) : DI H b r M O S X ks j a c ms osr sk tk (upd H' x u) :=
  h.bagged (But.new n) (h.bag.new n)
/-- what is new to the start may change -/
theorem bag_mut {m : List V} {l : List V} (b0 : BagAt H b r) (fx : H x = none) (hb : BagAt H' b r) (hx : H' x = some (.lst l)) : BagAt (upd H' x (.lst m)) b r := by
  obtain ⟨n1, n2⟩ := b0.ne_none fx
  obtain ⟨ns, i, c, m, h1, h2, h3⟩ := hb
  exact ⟨ns, i, c, m, upd2 n1.symm h1, upd2 n2.symm h2, h3⟩
theorem DI.move (h : DI H b r M O S X ks j a c ms (o :: os) sk tk H') : DI H b r M O S X ks j a c (ms ++ [o]) os sk tk (upd (upd H' O (.lst (ivs os.reverse))) M (.lst (ivs ms ++ [.int o]))) :=
  { h with
    but := (h.but.mutNew h.fO).mutNew h.fM
    bag := bag_mut h.b0 h.fM (bag_mut h.b0 h.fO h.bag h.hO) (upd2 h.MO h.hM)
    hM := (by rw [upd_same]; unfold ivs; rw [List.map_append]; rfl)
    hO := upd2 h.MO.symm upd_same
    hS := upd2 h.MS.symm (upd2 h.OS.symm h.hS)
    hX := upd2 h.MX.symm (upd2 h.OX.symm h.hX)
    cnt := (by
      have := h.cnt
      rw [List.length_cons] at this
      rw [List.length_append, List.length_singleton]
      omega)
    om := fun x hx => (by
      rcases List.mem_append.mp hx with hx | hx
      · exact h.om x hx
      · rw [List.mem_singleton.mp hx]
        exact h.oo o (List.mem_cons_self ..))
    oo := fun x hx => h.oo x (List.mem_cons_of_mem _ hx) }
theorem DI.mark (h : DI H b r M O S X ks j a c ms osr sk tk H') (ho : o = (j : Int)) : DI H b r M O S X ks (j + 1) a c (ms ++ [o]) (o :: osr) sk tk (upd (upd H' M (.lst (ivs ms ++ [.int o]))) O (.lst (ivs osr.reverse ++ [.int o]))) :=
  { h with
    but := (h.but.mutNew h.fM).mutNew h.fO
    bag := bag_mut h.b0 h.fO (bag_mut h.b0 h.fM h.bag h.hM) (upd2 h.MO.symm h.hO)
    hM := (by rw [upd_ne h.MO, upd_same]; unfold ivs; rw [List.map_append]; rfl)
    hO := (by rw [upd_same]; unfold ivs; rw [List.reverse_cons, List.map_append]; rfl)
    hS := upd2 h.OS.symm (upd2 h.MS.symm h.hS)
    hX := upd2 h.OX.symm (upd2 h.MX.symm h.hX)
    cnt := (by
      have := h.cnt
      rw [List.length_append, List.length_singleton, List.length_cons]
      omega)
    om := fun x hx => (by
      rcases List.mem_append.mp hx with hx | hx
      · have := h.om x hx
        omega
      · rw [List.mem_singleton.mp hx]
        omega)
    oo := fun x hx => (by
      rcases List.mem_cons.mp hx with hx | hx
      · rw [hx]
        omega
      · have := h.oo x hx
        omega) }
theorem DI.kind {k : List Nat} (h : DI H b r M O S X ks j a c ms osr sk tk H') (hk : k ∈ ks) : DI H b r M O S X ks j (a + 1) c ms osr (sk ++ [k]) tk (upd H' S (.lst (kws sk ++ [.str (SX.S k)]))) :=
  { h with
    but := h.but.mutNew h.fS
    bag := bag_mut h.b0 h.fS h.bag h.hS
    hM := upd2 h.MS h.hM
    hO := upd2 h.OS h.hO
    hS := (by rw [upd_same]; unfold kws; rw [List.map_append]; rfl)
    hX := upd2 h.SX_.symm h.hX
    la := (by rw [List.length_append, List.length_singleton, h.la])
    ok := fun x hx => (by
      rcases List.mem_append.mp hx with hx | hx
      · exact h.ok x hx
      · rw [List.mem_singleton.mp hx]
        exact hk) }
theorem DI.text {t : List Nat} (h : DI H b r M O S X ks j a c ms osr sk tk H') (ht : t.length ≤ 3 ∧ ∀ c ∈ t, c ∈ signsL) : DI H b r M O S X ks j a (c + 1) ms osr sk (tk ++ [t]) (upd H' X (.lst (kws tk ++ [.str (SX.S t)]))) :=
  { h with
    but := h.but.mutNew h.fX
    bag := bag_mut h.b0 h.fX h.bag h.hX
    hM := upd2 h.MX h.hM
    hO := upd2 h.OX h.hO
    hS := upd2 h.SX_ h.hS
    hX := (by rw [upd_same]; unfold kws; rw [List.map_append]; rfl)
    lc := (by rw [List.length_append, List.length_singleton, h.lc])
    ot := fun x hx => (by
      rcases List.mem_append.mp hx with hx | hx
      · exact h.ot x hx
      · rw [List.mem_singleton.mp hx]
        exact ht) }
end
section
variable {P : Program} {w : World} {K : PySem.W.Frag} {mg : Str → Option Value} {base : Heap} {f : Addr} {fd : FuncData}
theorem ok_law_document (F : Fun K "_law_document" "_law_document" s_law_document f fd) (T : Txt mg) (c_law_take : Cal P w K mg base 1 "_law_take" spTake) (c_law_of : Cal P w K mg base 2 "_law_of" (spOf K)) (c_law_sign_text : Cal P w K mg base 2 "_law_sign_text" spSign) (c_law_nested : Cal P w K mg base 1 "_law_nested" spNested) :
    FnOk P w K mg base CX0 3 f fd ["_law_bag_z", "_law_kinds", "_law_many"] spDocument := by
  refine F.ok sc_law_document (fun vs H Q E h => ?_) (fun cdv A outer s H vs Q E hr h => ?_)
  · obtain ⟨b, r, ka, many, ks, rfl, _⟩ := h
    rfl
  · obtain ⟨b, r, ka, many, ks, rfl, hb, nkb, hka, k0, k1, m0, m1, q⟩ := h
    refine ⟨_, (pss_cons (ps_asg (pe_tup (pa_cons (pe_lst pa_nil) (pa_cons (pe_lst pa_nil) (pa_cons (pe_lst pa_nil) (pa_cons (pe_lst pa_nil) pa_nil))))) (pg_tupX K (pg_tup (n := 4) (by rfl) (pgs_cons (pg_name (i := 3) sc_law_document.nd rfl (.inl rfl)) (pgs_cons (pg_name (i := 4) sc_law_document.nd rfl (.inl rfl)) (pgs_cons (pg_name (i := 5) sc_law_document.nd rfl (.inl rfl)) (pgs_cons (pg_name (i := 6) sc_law_document.nd rfl (.inl rfl)) pgs_nil)))))))
      (pss_cons (ps_for PassesOwn.never rfl (pi_range1 (by rfl) T.range (pa_cons (pe_c c_law_take hr (by omega) (by rfl) (pa_cons (pv 0) (pa_cons (pe_op (op_addX K) (pv 2) pe_int) pa_nil))) pa_nil)) (pg_name (i := 7) sc_law_document.nd rfl (.inl rfl)) (pss_cons (ps_for PassesOwn.never rfl (pi_range1 (by rfl) T.range (pa_cons (pe_c c_law_take hr (by omega) (by rfl) (pa_cons (pv 0) (pa_cons (pe_op (op_addX K) (pe_callB (call_lenX K) (by rfl) T.len PySem.boot_len (pa_cons (pv 4) pa_nil)) pe_int) pa_nil))) pa_nil)) (pg_name (i := 8) sc_law_document.nd rfl (.inl rfl)) (pss_one (ps_expr (pe_bmX K (pe_bm PySem.F.plainAttrs_list PySem.F.slot_list_append PySem.F.type_list_append mt_append (pv 3) (pa_cons (pe_bm0X K (pe_bm0 PySem.F.plainAttrs_list PySem.F.slot_list_pop PySem.F.type_list_pop mt_pop (pv 4))) pa_nil))))))
      (pss_cons (ps_if (pt_cmpR op_gt (pe_callB (call_lenX K) (by rfl) T.len PySem.boot_len (pa_cons (pv 4) pa_nil)) pe_int (nomark _)) (pss_one (ps_expr (pe_bmX K (pe_bm PySem.F.plainAttrs_list PySem.F.slot_list_append PySem.F.type_list_append mt_append (pv 3) (pa_cons (pe_bm0X K (pe_bm0 PySem.F.plainAttrs_list PySem.F.slot_list_pop PySem.F.type_list_pop mt_pop (pv 4))) pa_nil))))) pss_nil)
      (pss_cons (ps_expr (pe_bmX K (pe_bm PySem.F.plainAttrs_list PySem.F.slot_list_append PySem.F.type_list_append mt_append (pv 3) (pa_cons (pv 7) pa_nil))))
      (pss_cons (ps_expr (pe_bmX K (pe_bm PySem.F.plainAttrs_list PySem.F.slot_list_append PySem.F.type_list_append mt_append (pv 4) (pa_cons (pv 7) pa_nil))))
      (pss_cons (ps_expr (pe_bmX K (pe_bm PySem.F.plainAttrs_list PySem.F.slot_list_append PySem.F.type_list_append mt_append (pv 5) (pa_cons (pe_c c_law_of hr (by omega) (by rfl) (pa_cons (pv 0) (pa_cons (pv 1) pa_nil))) pa_nil))))
      (pss_one (ps_expr (pe_bmX K (pe_bm PySem.F.plainAttrs_list PySem.F.slot_list_append PySem.F.type_list_append mt_append (pv 6) (pa_cons (pe_c c_law_sign_text hr (by omega) (by rfl) (pa_cons (pv 0) (pa_cons pe_int pa_nil))) pa_nil)))))))))))
      (pss_one (ps_ret (pe_c c_law_nested hr (by omega) (by rfl) (pa_cons (pe_lst (pa_cons (pe_op (op_addX K) (pv 3) (pe_revLX K (pv 4))) (pa_cons (pv 5) (pa_cons (pv 6) pa_nil)))) pa_nil)))))), ?_⟩
    change (_ : TS) _ [some (V.ref b), some (V.ref ka), some (V.int many), none, none, none, none, none, none] _
    k_extra "rr"
    refine ⟨by k_extra "sz", fun M nM => ?_⟩
    k_extra "rr"
    refine ⟨by k_extra "sz", fun O nO => ?_⟩
    k_extra "rr"
    refine ⟨by k_extra "sz", fun S nS => ?_⟩
    k_extra "rr"
    refine ⟨by k_extra "sz", fun X nX => ?_⟩
    k_extra "rr"
    refine ⟨by k_extra "sz", fun tp ntp => ?_⟩
    have i0 : DI H b r M O S X ks 0 0 0 [] [] [] [] (upd (upd (upd (upd (upd H M (.lst [])) O (.lst [])) S (.lst [])) X (.lst [])) tp (.tup [.ref M, .ref O, .ref S, .ref X])) := by
      have nXX : upd (upd (upd H M (.lst [])) O (.lst [])) S (.lst []) X = none := nX
      refine DI.new ?_ ntp
      refine {
        b0 := hb
        but := (((But.new nM).trans (But.new nO)).trans (But.new nS)).trans (But.new nX)
        bag := (((hb.new nM).new nO).new nS).new nX
        fM := nM
        fO := un0 nO
        fS := un0 (un0 nS)
        fX := un0 (un0 (un0 nX))
        hM := same_upd nX _ _ (same_upd nS _ _ (same_upd nO _ _ upd_same))
        hO := same_upd nX _ _ (same_upd nS _ _ upd_same)
        hS := same_upd nX _ _ upd_same
        hX := upd_same
        MO := ne_of_none upd_same nO
        MS := ne_of_none (same_upd nO _ _ upd_same) nS
        MX := ne_of_none (same_upd nS _ _ (same_upd nO _ _ upd_same)) nX
        OS := ne_of_none upd_same nS
        OX := ne_of_none (same_upd nS _ _ upd_same) nX
        SX_ := ne_of_none upd_same nX
        cnt := rfl
        la := rfl
        lc := rfl
        om := fun x hx => nomatch hx
        oo := fun x hx => nomatch hx
        ok := fun x hx => nomatch hx
        ot := fun x hx => nomatch hx }
    generalize hH5 : upd (upd (upd (upd (upd H M (.lst [])) O (.lst [])) S (.lst [])) X (.lst [])) tp (.tup [.ref M, .ref O, .ref S, .ref X]) = H5 at i0
    have htp : H5 tp = some (.tup [.ref M, .ref O, .ref S, .ref X]) := by
      rw [← hH5, upd_same]
    clear hH5
    k_extra "rr"
    refine ⟨b, r, _, rfl, i0.bag, by omega, by omega, fun n H6 bb6 hb6 n0 n1 => ?_⟩
    have i1 := i0.bagged bb6 hb6
    k_extra "rr"
    refine for_range (lo := 0) (n := n.toNat) (fun i σ H' => ∃ (ms osr : List Int) (sk tk : List (List Nat)) (v7 v8 : Option V), σ = [some (.ref b), some (.ref ka), some (.int many), some (.ref M), some (.ref O), some (.ref S), some (.ref X), v7, v8] ∧ DI H b r M O S X ks i i i ms osr sk tk H')
      ⟨_, _, _, _, _, _, rfl, i1⟩ ?_ ?_
    · rintro i σ H' hi ⟨ms, osr, sk, tk, v7, v8, rfl, I⟩
      rw [Int.zero_add]
      have hil : (i : Int) ≤ many := by omega
      have lenO : ∀ os : List Int, (ivs os.reverse).length = os.length := fun os => by unfold ivs; rw [List.length_map, List.length_reverse]
      have lenM : ∀ os : List Int, (ivs os).length = os.length := fun os => by unfold ivs; rw [List.length_map]
      k_extra "rr"
      refine lenL (SqL.of I.hO) ?_
      rw [lenO]
      have hcnt := I.cnt
      k_extra "rr"
      refine ⟨b, r, _, rfl, I.bag, by omega, by omega, fun t H2 bb2 hb2 t0 t1 => ?_⟩
      have I2 := I.bagged bb2 hb2
      k_extra "rr"
      refine for_range (lo := 0) (n := t.toNat) (fun s σ H' => ∃ (ms1 osr1 : List Int) (v8 : Option V), σ = [some (.ref b), some (.ref ka), some (.int many), some (.ref M), some (.ref O), some (.ref S), some (.ref X), some (.int i), v8] ∧ osr1.length + s = osr.length ∧ DI H b r M O S X ks i i i ms1 osr1 sk tk H')
        ⟨ms, osr, _, rfl, rfl, I2⟩ ?_ ?_
      · rintro s0 σ H3 hs ⟨ms1, osr1, v8', rfl, hl, I3⟩
        have hcnt := I3.cnt
        k_extra "rr"
        refine ⟨tyvL I3.hM, ?_⟩
        k_extra "rr"
        obtain ⟨o, os, rfl⟩ : ∃ o os, osr1 = o :: os := by
          cases osr1 with
          | nil =>
            rw [List.length_nil] at hl
            omega
          | cons o os => exact ⟨o, os, rfl⟩
        have hO2 : H3 O = some (.lst (ivs os.reverse ++ [.int o])) := by
          have := I3.hO
          rw [List.reverse_cons] at this
          unfold ivs at this
          rw [List.map_append] at this
          exact this
        refine ⟨tyvL hO2, popL hO2 ?_⟩
        k_extra "rr"
        refine app (upd2 I3.MO I3.hM) (by rw [lenM, sizeLine_eq]; omega) ?_
        k_extra "rr"
        rw [List.length_cons] at hl
        exact ⟨_, _, _, rfl, by omega, I3.move⟩
      · rintro σ H3 ⟨ms1, osr1, v8', rfl, hl, I3⟩
        k_extra "rr"
        refine lenL (SqL.of I3.hO) ?_
        k_extra "rr"
        rw [lenO]
        refine iteD (fun hc => ?yes) (fun hc => ?no)
        case' yes =>
          have hcnt := I3.cnt
          k_extra "rr"
          refine ⟨tyvL I3.hM, ?_⟩
          k_extra "rr"
          obtain ⟨o, os, rfl⟩ : ∃ o os, osr1 = o :: os := by
            cases osr1 with
            | nil =>
              rw [List.length_nil] at hc
              omega
            | cons o os => exact ⟨o, os, rfl⟩
          have hO2 : H3 O = some (.lst (ivs os.reverse ++ [.int o])) := by
            have := I3.hO
            rw [List.reverse_cons] at this
            unfold ivs at this
            rw [List.map_append] at this
            exact this
          refine ⟨tyvL hO2, popL hO2 ?_⟩
          k_extra "rr"
          refine app (upd2 I3.MO I3.hM) (by rw [lenM, sizeLine_eq]; omega) ?_
          have I4 := I3.move
          generalize upd (upd H3 O (.lst (ivs os.reverse))) M (.lst (ivs ms1 ++ [.int o])) = H4 at I4
        case' no =>
          have I4 := I3
          generalize H3 = H4 at I4
        all_goals
          k_extra "rr"
          have hcnt2 := I4.cnt
          refine ⟨tyvL I4.hM, ?_⟩
          k_extra "rr"
          refine app I4.hM (by rw [lenM, sizeLine_eq]; omega) ?_
          k_extra "rr"
          refine ⟨tyvL (upd2 I4.MO.symm I4.hO), ?_⟩
          k_extra "rr"
          refine app (upd2 I4.MO.symm I4.hO) (by rw [lenO, sizeLine_eq]; omega) ?_
          k_extra "rr"
          have I5 := I4.mark (o := i) rfl
          refine ⟨tyvL I5.hS, ?_⟩
          k_extra "rr"
          refine ⟨b, r, _, rfl, I5.bag, .inr ⟨ka, _, rfl, nkb, SqL.of (I5.but _ _ hka nkb), by unfold kws; rw [List.length_map]; omega, by unfold kws; rw [List.length_map]; omega, fun i2 v2 H6 hv bb6 hb6 => ?_⟩⟩
          obtain ⟨kd, hkd, rfl⟩ := map_at hv
          have I6 := I5.bagged bb6 hb6
          have hla := I6.la
          have hlc := I6.lc
          k_extra "rr"
          refine app I6.hS (by unfold kws; rw [List.length_map, sizeLine_eq]; omega) ?_
          have I7 := I6.kind (List.mem_of_getElem? hkd)
          k_extra "rr"
          refine ⟨tyvL I7.hX, ?_⟩
          k_extra "rr"
          refine ⟨b, r, 3, rfl, I7.bag, by omega, by omega, fun lt H8 hlt hsg bb8 hb8 => ?_⟩
          have I8 := I7.bagged bb8 hb8
          k_extra "rr"
          refine app I8.hX (by unfold kws; rw [List.length_map, sizeLine_eq]; omega) ?_
          have I9 := I8.text (t := lt) ⟨by omega, hsg⟩
          k_extra "rr"
          exact ⟨_, _, _, _, _, _, rfl, I9⟩
    · rintro σ H' ⟨ms, osr, sk, tk, v7, v8, rfl, I⟩
      k_extra "rr"
      refine ⟨O, _, rfl, SqL.of I.hO, fun y ny => ?_⟩
      have I2 := I.new (u := .lst (ivs osr.reverse).reverse) ny
      have hcnt := I.cnt
      have hrr : (ivs osr.reverse).reverse = ivs osr := by unfold ivs; rw [← List.map_reverse, List.reverse_reverse]
      refine addL I2.hM upd_same (by rw [hrr]; unfold ivs; rw [List.length_map, List.length_map, sizeLine_eq]; omega) fun z nz => ?_
      have I3 := I2.new (u := .lst (ivs ms ++ (ivs osr.reverse).reverse)) nz
      k_extra "rr"
      refine ⟨by k_extra "sz", fun st nst => ?_⟩
      have I4 := I3.new (u := .lst [.ref z, .ref S, .ref X]) nst
      k_extra "rr"
      have hz : ivs ms ++ (ivs osr.reverse).reverse = ivs (ms ++ osr) := by rw [hrr]; unfold ivs; rw [List.map_append]
      refine ⟨st, z, S, X, ms ++ osr, sk, tk, fun k t => k ∈ ks ∧ t.length ≤ 3 ∧ ∀ c ∈ t, c ∈ signsL, rfl, upd_same, by rw [← hz]; exact same_upd nst _ _ upd_same, I4.hS, I4.hX, by rw [List.length_append]; omega, fun x hx => ?_, fun f a H9 s9 hd hs ha => ?_⟩
      · obtain ⟨x0, x1⟩ : 0 ≤ x ∧ x < n.toNat := by
          rcases List.mem_append.mp hx with hx | hx
          · exact I.om x hx
          · exact I.oo x hx
        have hk : x.toNat < sk.length := by rw [I.la]; omega
        have ht : x.toNat < tk.length := by rw [I.lc]; omega
        exact ⟨x0, by omega, sk[x.toNat], tk[x.toNat], List.getElem?_eq_getElem hk, List.getElem?_eq_getElem ht, I.ok _ (List.getElem_mem hk), I.ot _ (List.getElem_mem ht)⟩
      · rw [List.length_append] at hs
        exact q f a H9 (I4.but.trans (But.of_same s9)) (I4.bag.same s9) hd (by omega) ha
end

/-! ### texts of documents -/
namespace Fo
def isNil : Fo → Bool
  | nil => true
  | cons _ _ _ _ => false
def get : Fo → Nat → Option (List Nat × List Nat × Fo)
  | nil, _ => none
  | cons k t i _, 0 => some (k, t, i)
  | cons _ _ _ r, j + 1 => r.get j
end Fo
def headT (k t : List Nat) : List Nat := k ++ (if t = [] then [] else 34 :: (t ++ [34]))
def sepT : Fo → List Nat → List Nat
  | .nil, _ => []
  | .cons _ _ _ _, w => 32 :: w
def parT : Fo → List Nat → List Nat
  | .nil, _ => []
  | .cons _ _ _ _, w => 40 :: (w ++ [41])
def wr : Fo → List Nat
  | .nil => []
  | .cons k t i r => headT k t ++ parT i (wr i) ++ sepT r (wr r)
def nw (k t : List Nat) (i : Fo) : List Nat := headT k t ++ parT i (wr i)
def nws : Fo → List (List Nat)
  | .nil => []
  | .cons k t i r => nw k t i :: nws r
theorem wr_join : ∀ f : Fo, TL.joinL [32] (nws f) = wr f
  | .nil => rfl
  | .cons k t i .nil => by
    show nw k t i = nw k t i ++ []
    rw [List.append_nil]
  | .cons k t i (.cons k2 t2 i2 r2) => by
    show nw k t i ++ ([32] ++ TL.joinL [32] (nws (.cons k2 t2 i2 r2))) = nw k t i ++ 32 :: wr (.cons k2 t2 i2 r2)
    rw [wr_join (.cons k2 t2 i2 r2)]
    rfl
/-- kinds and texts as the documents have them -/
def GN (k t : List Nat) : Prop := (∀ c ∈ k, c ∈ letters) ∧ 1 ≤ k.length ∧ k.length ≤ 6 ∧ t.length ≤ 20 ∧ ∀ c ∈ t, signB c = true
abbrev GF (f : Fo) : Prop := f.All GN
theorem head_len {k t : List Nat} (h : GN k t) : (headT k t).length ≤ 28 := by
  obtain ⟨_, h1, h2, h3, _⟩ := h
  unfold headT
  rw [List.length_append]
  by_cases z : t = []
  · rw [if_pos z, List.length_nil]
    omega
  · rw [if_neg z, List.length_cons, List.length_append, List.length_singleton]
    omega
theorem wr_len : ∀ {f : Fo}, GF f → (wr f).length ≤ 31 * f.size
  | .nil, _ => Nat.le_refl 0
  | .cons k t i r, ⟨h1, h2, h3⟩ => by
    have a1 := head_len h1
    have a2 := wr_len h2
    have a3 := wr_len h3
    have b2 : (parT i (wr i)).length ≤ (wr i).length + 2 := by
      cases i with
      | nil => exact Nat.zero_le _
      | cons _ _ _ _ =>
        show (40 :: (_ ++ [41])).length ≤ _
        rw [List.length_cons, List.length_append, List.length_singleton]
        omega
    have b3 : (sepT r (wr r)).length ≤ (wr r).length + 1 := by
      cases r with
      | nil => exact Nat.zero_le _
      | cons _ _ _ _ => exact Nat.le_refl _
    show (headT k t ++ parT i (wr i) ++ sepT r (wr r)).length ≤ 31 * (1 + i.size + r.size)
    rw [List.length_append, List.length_append]
    omega
theorem nw_len {k t : List Nat} {i : Fo} (h : GN k t) (hi : GF i) : (nw k t i).length ≤ 31 * i.size + 30 := by
  have a1 := head_len h
  have a2 := wr_len hi
  unfold nw
  rw [List.length_append]
  cases i with
  | nil =>
    show _ + 0 ≤ _
    omega
  | cons _ _ _ _ =>
    show _ + (40 :: (_ ++ [41])).length ≤ _
    rw [List.length_cons, List.length_append, List.length_singleton]
    omega
theorem nws_sum : ∀ {f : Fo}, GF f → ((nws f).map List.length).sum ≤ 31 * f.size ∧ (nws f).length = f.len
  | .nil, _ => ⟨Nat.le_refl 0, rfl⟩
  | .cons k t i r, ⟨h1, h2, h3⟩ => by
    obtain ⟨a1, a2⟩ := nws_sum h3
    have a3 := nw_len h1 h2
    constructor
    · show (nw k t i).length + ((nws r).map List.length).sum ≤ 31 * (1 + i.size + r.size)
      omega
    · show (nws r).length + 1 = r.len + 1
      rw [a2]
theorem get_nws : ∀ {f : Fo} {j : Nat} {k t : List Nat} {i : Fo}, f.get j = some (k, t, i) → (nws f)[j]? = some (nw k t i)
  | .cons _ _ _ _, 0, _, _, _, h => by
    cases h
    rfl
  | .cons _ _ _ r, j + 1, _, _, _, h => get_nws (f := r) h
theorem get_depth : ∀ {f : Fo} {j : Nat} {k t : List Nat} {i : Fo}, f.get j = some (k, t, i) → i.depth + 1 ≤ f.depth ∧ i.size + 1 ≤ f.size
  | .cons _ _ i r, 0, _, _, _, h => by
    cases h
    constructor
    · show _ ≤ max (i.depth + 1) r.depth
      omega
    · show _ ≤ 1 + i.size + r.size
      omega
  | .cons _ _ i r, j + 1, _, _, i2, h => by
    obtain ⟨a, b⟩ := get_depth (f := r) h
    constructor
    · show _ ≤ max (i.depth + 1) r.depth
      omega
    · show _ ≤ 1 + i.size + r.size
      omega
theorem get_all {p : List Nat → List Nat → Prop} : ∀ {f : Fo} {j : Nat} {k t : List Nat} {i : Fo}, f.All p → f.get j = some (k, t, i) → p k t ∧ i.All p
  | .cons _ _ _ _, 0, _, _, _, ⟨h1, h2, h3⟩, h => by
    cases h
    exact ⟨h1, h2⟩
  | .cons _ _ _ r, j + 1, _, _, _, ⟨h1, h2, h3⟩, h => get_all (f := r) h3 h
theorem Items.get {H : Hp} : ∀ {f : Fo} {xs : List V} {j : Nat} {x : V}, Items H f xs → xs[j]? = some x → ∃ k t i p q, f.get j = some (k, t, i) ∧ x = .ref p ∧ H p = some (.tup [.str (SX.S k), .str (SX.S t), .ref q]) ∧ Doc H i q
  | .nil, _, _, _, h, hx => by
    rw [show _ = _ from h] at hx
    cases hx
  | .cons k t i r, _, j, _, ⟨p, q, ys, xs', e, h1, h2, h3, h4⟩, hx => by
    subst e
    cases j with
    | zero =>
      cases hx
      exact ⟨k, t, i, p, q, rfl, rfl, h1, ys, h2, h3⟩
    | succ j =>
      have e := Items.get h4 hx
      exact e
/-! shapes -/
theorem sign_small {c : Nat} (h : signB c = true) : c < 1114112 := by
  unfold signB at h
  simp only [Bool.and_eq_true, decide_eq_true_eq] at h
  omega
theorem letters_small : ∀ c ∈ letters, c < 1114112 := by decide
theorem ok_S {l : List Nat} (h : ∀ c ∈ l, c < 1114112) : PyData.strOk (SX.S l) = true := by
  unfold PyData.strOk
  show (l.toArray.all (· < 0x110000)) = true
  rw [List.all_toArray]
  exact List.all_eq_true.mpr fun c hc => decide_eq_true (h c hc)
theorem lay_fdata : ∀ {f : Fo}, GF f → PyData.canLayAll0 (fdata f) = true
  | .nil, _ => by simp [fdata, PyData.canLayAll0]
  | .cons k t i r, ⟨⟨h1, _, _, _, h2⟩, h3, h4⟩ => by
    have a1 := lay_fdata h3
    have a2 := lay_fdata h4
    have b1 := ok_S fun c hc => letters_small c (h1 c hc)
    have b2 := ok_S fun c hc => sign_small (h2 c hc)
    unfold fdata
    simp only [PyData.canLayAll0, PyData.canLay0, a1, a2, b1, b2, Bool.and_self, Bool.and_true]
theorem depth_fdata : ∀ f : Fo, PyData.depthAll (fdata f) ≤ 2 * f.depth
  | .nil => by simp [fdata, PyData.depthAll]
  | .cons k t i r => by
    have a1 := depth_fdata i
    have a2 := depth_fdata r
    unfold fdata
    simp only [PyData.depthAll, PyData.depth]
    show _ ≤ 2 * max (i.depth + 1) r.depth
    omega
theorem shaped_doc {f : Fo} (h : GF f) (hd : f.depth ≤ 31) : SeqAt.shaped (.tuple (fdata f)) = true := by
  have h1 := lay_fdata h
  have h2 := depth_fdata f
  unfold SeqAt.shaped
  simp only [PyData.canLay0, PyData.depth, h1, Bool.true_and]
  exact decide_eq_true (by omega)
theorem fdata_nil : ∀ f : Fo, (fdata f).isEmpty = f.isNil
  | .nil => rfl
  | .cons _ _ _ _ => rfl
/-! ### _law_text -/
def spLText (n : Nat) : Sp := fun vs H Q _ => ∃ (a : Addr) (f : Fo), vs = [.ref a] ∧ Doc H f a ∧ f.depth < n ∧ f.depth ≤ 31 ∧ f.size ≤ 100 ∧ GF f ∧ ∀ H', Same H H' → Q (.str (SX.S (wr f))) H'
section
variable {P : Program} {w : World} {K : PySem.W.Frag} {mg : Str → Option Value} {base : Heap} {f : Addr} {fd : FuncData}
end

/-! ### spaced, document_text -/
def spaceL (xs : List V) : List V := ((xs.reverse.map fun x => [x, V.str " "]).flatten).dropLast
def spSpaced : Sp := fun vs H Q _ => ∃ (a : Addr) (xs : List V), vs = [.ref a] ∧ H a = some (.tup xs) ∧ xs.length ≤ 1000 ∧ ∀ (p : Addr) (H' : Hp), Same H H' → H p = none → H' p = some (.lst (spaceL xs)) → Q (.ref p) H'
theorem flat_len (xs : List V) : ((xs.map fun x => [x, V.str " "]).flatten).length = 2 * xs.length := by
  induction xs with
  | nil => rfl
  | cons x r ih =>
    rw [List.map_cons, List.flatten_cons, List.length_append, ih]
    show 2 + 2 * r.length = 2 * (r.length + 1)
    omega
section
variable {P : Program} {w : World} {K : PySem.W.Frag} {mg : Str → Option Value} {base : Heap} {f : Addr} {fd : FuncData}
end

/-! ### document_text: its stack -/
inductive Tk where
  | s (l : List Nat)
  | n (k t : List Nat) (i : Fo)
def TkAt (H : Hp) : Tk → V → Prop
  | .s l, v => v = .str (SX.S l)
  | .n k t i, v => ∃ p q, v = .ref p ∧ H p = some (.tup [.str (SX.S k), .str (SX.S t), .ref q]) ∧ Doc H i q
def tkT : Tk → List Nat
  | .s l => l
  | .n k t i => nw k t i
def tksT (ts : List Tk) : List Nat := (ts.map tkT).flatten
def wt : Fo → Nat
  | .nil => 0
  | .cons _ _ i r => 4 + wt i + wt r
def tkW : Tk → Nat
  | .s _ => 1
  | .n _ _ i => 3 + wt i
def tksW (ts : List Tk) : Nat := (ts.map tkW).sum
def TkG : Tk → Prop
  | .s l => l.length ≤ 1 ∧ ∀ c ∈ l, c < 1114112
  | .n k t i => GN k t ∧ GF i ∧ i.depth ≤ 30
def toks2 : Fo → List Tk
  | .nil => []
  | .cons k t i r => .s [32] :: .n k t i :: toks2 r
def toks (f : Fo) : List Tk := (toks2 f).tail
theorem toks2_T : ∀ f : Fo, tksT (toks2 f) = sepT f (wr f)
  | .nil => rfl
  | .cons k t i r => by
    have ih := toks2_T r
    show 32 :: (nw k t i ++ tksT (toks2 r)) = 32 :: (nw k t i ++ sepT r (wr r))
    rw [ih]
theorem toks_T : ∀ f : Fo, tksT (toks f) = wr f
  | .nil => rfl
  | .cons k t i r => by
    have ih := toks2_T r
    show nw k t i ++ tksT (toks2 r) = nw k t i ++ sepT r (wr r)
    rw [ih]
theorem toks2_W : ∀ f : Fo, tksW (toks2 f) = wt f
  | .nil => rfl
  | .cons k t i r => by
    have ih := toks2_W r
    show 1 + (3 + wt i + tksW (toks2 r)) = 4 + wt i + wt r
    rw [ih]
    omega
theorem toks_W : ∀ f : Fo, tksW (toks f) ≤ wt f
  | .nil => Nat.le_refl 0
  | .cons k t i r => by
    have ih := toks2_W r
    show 3 + wt i + tksW (toks2 r) ≤ 4 + wt i + wt r
    rw [ih]
    omega
theorem wt_le : ∀ f : Fo, wt f ≤ 4 * f.size
  | .nil => Nat.le_refl 0
  | .cons k t i r => by
    have h1 := wt_le i
    have h2 := wt_le r
    show 4 + wt i + wt r ≤ 4 * (1 + i.size + r.size)
    omega
theorem len_wt : ∀ f : Fo, f.len ≤ wt f
  | .nil => Nat.le_refl 0
  | .cons k t i r => by
    have h2 := len_wt r
    show r.len + 1 ≤ 4 + wt i + wt r
    omega
theorem toks2_G : ∀ {f : Fo}, GF f → f.depth ≤ 31 → ∀ t ∈ toks2 f, TkG t
  | .nil, _, _, _, h => nomatch h
  | .cons k t i r, ⟨h1, h2, h3⟩, hd, x, h => by
    have hd2 : max (i.depth + 1) r.depth ≤ 31 := hd
    rcases List.mem_cons.mp h with rfl | h
    · exact ⟨Nat.le_refl 1, by decide⟩
    · rcases List.mem_cons.mp h with rfl | h
      · exact ⟨h1, h2, by omega⟩
      · exact toks2_G h3 (by omega) x h
theorem toks_G {f : Fo} (h : GF f) (hd : f.depth ≤ 31) : ∀ t ∈ toks f, TkG t := fun t m => toks2_G h hd t (List.mem_of_mem_tail m)
theorem len_W : ∀ ts : List Tk, ts.length ≤ tksW ts
  | [] => Nat.le_refl 0
  | t :: r => by
    have := len_W r
    have h : 1 ≤ tkW t := by
      cases t with
      | s l => exact Nat.le_refl 1
      | n k t i =>
        show 1 ≤ 3 + wt i
        omega
    show r.length + 1 ≤ tkW t + tksW r
    omega
theorem TkAt.le {H H' : Hp} (s : TupLe H H') : ∀ {t : Tk} {v : V}, TkAt H t v → TkAt H' t v
  | .s _, _, h => h
  | .n _ _ _, _, ⟨p, q, e, h, d⟩ => ⟨p, q, e, s _ _ h, d.le s⟩
def TksAt (H : Hp) : List Tk → List V → Prop
  | [], [] => True
  | t :: ts, v :: vs => TkAt H t v ∧ TksAt H ts vs
  | _, _ => False
theorem TksAt.le {H H' : Hp} (s : TupLe H H') : ∀ {ts : List Tk} {vs : List V}, TksAt H ts vs → TksAt H' ts vs
  | [], [], _ => trivial
  | _ :: _, _ :: _, ⟨h, r⟩ => ⟨h.le s, r.le s⟩
theorem TksAt.len {H : Hp} : ∀ {ts : List Tk} {vs : List V}, TksAt H ts vs → vs.length = ts.length
  | [], [], _ => rfl
  | _ :: _, _ :: _, ⟨h, r⟩ => by rw [List.length_cons, List.length_cons, r.len]
theorem TksAt.app {H : Hp} : ∀ {ts us : List Tk} {vs ws : List V}, TksAt H ts vs → TksAt H us ws → TksAt H (ts ++ us) (vs ++ ws)
  | [], _, [], _, _, h => h
  | _ :: _, _, _ :: _, _, ⟨h, r⟩, q => ⟨h, r.app q⟩
theorem Items.toks2 {H : Hp} : ∀ {f : Fo} {xs : List V}, Items H f xs → TksAt H (toks2 f) ((xs.map fun x => [V.str " ", x]).flatten)
  | .nil, _, h => by
    rw [show _ = _ from h]
    trivial
  | .cons k t i r, _, ⟨p, q, ys, xs', e, h1, h2, h3, h4⟩ => by
    subst e
    exact ⟨congrArg V.str (by decide +kernel), ⟨p, q, rfl, h1, ys, h2, h3⟩, Items.toks2 h4⟩
theorem space_rev (xs : List V) : (spaceL xs).reverse = ((xs.map fun x => [V.str " ", x]).flatten).tail := by
  unfold spaceL
  rw [← List.tail_reverse]
  congr 1
  rw [List.reverse_flatten, List.map_map, List.map_reverse, List.reverse_reverse]
  rfl
theorem TksAt.tail {H : Hp} : ∀ {ts : List Tk} {vs : List V}, TksAt H ts vs → TksAt H ts.tail vs.tail
  | [], [], _ => trivial
  | _ :: _, _ :: _, ⟨_, r⟩ => r
theorem Items.toks {H : Hp} {f : Fo} {xs : List V} (h : Items H f xs) : TksAt H (toks f) (spaceL xs).reverse := by
  rw [space_rev]
  exact (Items.toks2 h).tail
/-! as plain data -/
def tkD : Tk → PyData
  | .s l => .str (SX.S l)
  | .n k t i => .tuple [.str (SX.S k), .str (SX.S t), .tuple (fdata i)]
theorem TkAt.dp {K : PySem.W.Frag} {H : Hp} : ∀ {t : Tk} {v : V}, TkAt H t v → Dp K H v (tkD t)
  | .s _, _, h => by
    rw [show _ = _ from h]
    exact .str _
  | .n _ _ _, _, ⟨p, q, e, h, d⟩ => by
    subst e
    exact .tup (SqT.of h) (.cons (.str _) (.cons (.str _) (.cons d.dp .nil)))
theorem dp_snoc {K : PySem.W.Frag} {H : Hp} {v : V} {d : PyData} (h : Dp K H v d) : ∀ {vs : List V} {ds : List PyData}, DpAll K H vs ds → DpAll K H (vs ++ [v]) (ds ++ [d])
  | _, _, .nil => .cons h .nil
  | _, _, .cons a b => .cons a (dp_snoc h b)
theorem TksAt.dp {K : PySem.W.Frag} {H : Hp} : ∀ {ts : List Tk} {vs : List V}, TksAt H ts vs → DpAll K H vs.reverse (ts.map tkD).reverse
  | [], [], _ => .nil
  | _ :: _, _ :: _, ⟨h, r⟩ => by
    rw [List.map_cons, List.reverse_cons, List.reverse_cons]
    exact dp_snoc h.dp r.dp
theorem TkG.data : ∀ {t : Tk}, TkG t → (tkD t).canLay0 = true ∧ (tkD t).depth ≤ 63
  | .s l, ⟨_, h⟩ => ⟨by
      have := ok_S h
      simpa [tkD, PyData.canLay0] using this, by simp [tkD, PyData.depth]⟩
  | .n k t i, ⟨⟨h1, _, _, _, h2⟩, h3, h4⟩ => by
    have a1 := lay_fdata h3
    have b1 := ok_S fun c hc => letters_small c (h1 c hc)
    have b2 := ok_S fun c hc => sign_small (h2 c hc)
    have a2 := depth_fdata i
    constructor
    · unfold tkD
      simp only [PyData.canLayAll0, PyData.canLay0, a1, b1, b2, Bool.and_self, Bool.and_true]
    · unfold tkD
      simp only [PyData.depthAll, PyData.depth]
      omega
theorem shaped_all : ∀ {ds : List PyData}, (∀ d ∈ ds, d.canLay0 = true ∧ d.depth ≤ 63) → PyData.canLayAll0 ds = true ∧ PyData.depthAll ds ≤ 63
  | [], _ => by simp [PyData.canLayAll0, PyData.depthAll]
  | d :: r, h => by
    obtain ⟨a1, a2⟩ := shaped_all fun x m => h x (List.mem_cons_of_mem _ m)
    obtain ⟨b1, b2⟩ := h d (List.mem_cons_self ..)
    simp only [PyData.canLayAll0, PyData.depthAll, a1, b1, Bool.and_self, true_and]
    omega
theorem shaped_list {ds : List PyData} (h : ∀ d ∈ ds, d.canLay0 = true ∧ d.depth ≤ 63) : SeqAt.shaped (.list ds) = true := by
  obtain ⟨h1, h2⟩ := shaped_all h
  unfold SeqAt.shaped
  simp only [PyData.canLay0, PyData.depth, h1, Bool.true_and]
  exact decide_eq_true (by omega)
theorem shaped_tks {ts : List Tk} (h : ∀ t ∈ ts, TkG t) : SeqAt.shaped (.list (ts.map tkD).reverse) = true := shaped_list fun d m => by
  rw [List.mem_reverse] at m
  obtain ⟨t, ht, rfl⟩ := List.mem_map.mp m
  exact (h t ht).data
def spDText : Sp := fun vs H Q _ => ∃ (a : Addr) (f : Fo), vs = [.ref a] ∧ Doc H f a ∧ f.depth ≤ 31 ∧ f.size ≤ 100 ∧ GF f ∧ ∀ H', Same H H' → Q (.str (SX.S (wr f))) H'
section
variable {P : Program} {w : World} {K : PySem.W.Frag} {mg : Str → Option Value} {base : Heap} {f : Addr} {fd : FuncData}
end

/-! ### class Row: a document as a row -/
abbrev rowF (m k t o : V) : List (Str × V) := [("marks", m), ("kind_row", k), ("text_row", t), ("origin_row", o)]
def RowO (C dx m k t o : Addr) : HO := .ins C dx (rowF (.ref m) (.ref k) (.ref t) (.ref o))
/-- what the text says of the class -/
structure RowC (K : PySem.W.Frag) (mg : Str → Option Value) (C : Addr) : Prop where
  cl : Cls K C
  n1 : NoAttr K C "marks"
  n2 : NoAttr K C "kind_row"
  n3 : NoAttr K C "text_row"
  n4 : NoAttr K C "origin_row"
/-- numbers: a node's at its beginning and at its end -/
def mkI (n : Nat) : Fo → List Int
  | .nil => []
  | .cons _ _ i r => (n : Int) :: (mkI (n + 1) i ++ (n : Int) :: mkI (n + 1 + i.size) r)
def fks : Fo → List (List Nat)
  | .nil => []
  | .cons k _ i r => k :: (fks i ++ fks r)
def fts : Fo → List (List Nat)
  | .nil => []
  | .cons _ t i r => t :: (fts i ++ fts r)
theorem fks_len : ∀ f : Fo, (fks f).length = f.size
  | .nil => rfl
  | .cons k t i r => by
    show (k :: (fks i ++ fks r)).length = 1 + i.size + r.size
    rw [List.length_cons, List.length_append, fks_len i, fks_len r]
    omega
theorem fts_len : ∀ f : Fo, (fts f).length = f.size
  | .nil => rfl
  | .cons k t i r => by
    show (t :: (fts i ++ fts r)).length = 1 + i.size + r.size
    rw [List.length_cons, List.length_append, fts_len i, fts_len r]
    omega
theorem mkI_len : ∀ (f : Fo) (n : Nat), (mkI n f).length = 2 * f.size
  | .nil, n => rfl
  | .cons k t i r, n => by
    show ((n : Int) :: (mkI (n + 1) i ++ (n : Int) :: mkI (n + 1 + i.size) r)).length = 2 * (1 + i.size + r.size)
    rw [List.length_cons, List.length_append, List.length_cons, mkI_len i, mkI_len r]
    omega
/-! the stack of made_of -/
inductive Td where
  | num (i : Int)
  | nd (k t : List Nat) (i : Fo)
def Fo.nodes : Fo → List Td
  | .nil => []
  | .cons k t i r => .nd k t i :: r.nodes
def tdM (n : Nat) : List Td → List Int
  | [] => []
  | .num i :: L => i :: tdM n L
  | .nd _ _ i :: L => (n : Int) :: (mkI (n + 1) i ++ (n : Int) :: tdM (n + 1 + i.size) L)
def tdK : List Td → List (List Nat)
  | [] => []
  | .num _ :: L => tdK L
  | .nd k _ i :: L => k :: (fks i ++ tdK L)
def tdT : List Td → List (List Nat)
  | [] => []
  | .num _ :: L => tdT L
  | .nd _ t i :: L => t :: (fts i ++ tdT L)
def tdW : List Td → Nat
  | [] => 0
  | .num _ :: L => 1 + tdW L
  | .nd _ _ i :: L => 2 + 2 * i.size + tdW L
theorem tdM_nodes (L : List Td) : ∀ (f : Fo) (n : Nat), tdM n (f.nodes ++ L) = mkI n f ++ tdM (n + f.size) L
  | .nil, n => rfl
  | .cons k t i r, n => by
    show (n : Int) :: (mkI (n + 1) i ++ (n : Int) :: tdM (n + 1 + i.size) (r.nodes ++ L)) = ((n : Int) :: (mkI (n + 1) i ++ (n : Int) :: mkI (n + 1 + i.size) r)) ++ tdM (n + (1 + i.size + r.size)) L
    rw [tdM_nodes L r, show n + 1 + i.size + r.size = n + (1 + i.size + r.size) by omega]
    simp only [List.cons_append, List.append_assoc]
theorem tdK_nodes (L : List Td) : ∀ f : Fo, tdK (f.nodes ++ L) = fks f ++ tdK L
  | .nil => rfl
  | .cons k t i r => by
    show k :: (fks i ++ tdK (r.nodes ++ L)) = (k :: (fks i ++ fks r)) ++ tdK L
    rw [tdK_nodes L r]
    simp only [List.cons_append, List.append_assoc]
theorem tdT_nodes (L : List Td) : ∀ f : Fo, tdT (f.nodes ++ L) = fts f ++ tdT L
  | .nil => rfl
  | .cons k t i r => by
    show t :: (fts i ++ tdT (r.nodes ++ L)) = (t :: (fts i ++ fts r)) ++ tdT L
    rw [tdT_nodes L r]
    simp only [List.cons_append, List.append_assoc]
theorem tdW_nodes (L : List Td) : ∀ f : Fo, tdW (f.nodes ++ L) = 2 * f.size + tdW L
  | .nil => (Nat.zero_add _).symm
  | .cons k t i r => by
    show 2 + 2 * i.size + tdW (r.nodes ++ L) = 2 * (1 + i.size + r.size) + tdW L
    rw [tdW_nodes L r]
    omega
theorem tdW_len : ∀ L : List Td, L.length ≤ tdW L
  | [] => Nat.le_refl 0
  | .num _ :: L => by
    have := tdW_len L
    show L.length + 1 ≤ 1 + tdW L
    omega
  | .nd _ _ i :: L => by
    have := tdW_len L
    show L.length + 1 ≤ 2 + 2 * i.size + tdW L
    omega
def TdAt (H : Hp) : Td → V → Prop
  | .num i, v => v = .int i
  | .nd k t i, v => ∃ p q, v = .ref p ∧ H p = some (.tup [.str (SX.S k), .str (SX.S t), .ref q]) ∧ Doc H i q
def TdsAt (H : Hp) : List Td → List V → Prop
  | [], [] => True
  | t :: ts, v :: vs => TdAt H t v ∧ TdsAt H ts vs
  | _, _ => False
def TdG : Td → Prop
  | .num i => 0 ≤ i ∧ i < 100000
  | .nd k t i => GN k t ∧ GF i ∧ i.depth ≤ 30
theorem TdAt.le {H H' : Hp} (s : TupLe H H') : ∀ {t : Td} {v : V}, TdAt H t v → TdAt H' t v
  | .num _, _, h => h
  | .nd _ _ _, _, ⟨p, q, e, h, d⟩ => ⟨p, q, e, s _ _ h, d.le s⟩
theorem TdsAt.le {H H' : Hp} (s : TupLe H H') : ∀ {ts : List Td} {vs : List V}, TdsAt H ts vs → TdsAt H' ts vs
  | [], [], _ => trivial
  | _ :: _, _ :: _, ⟨h, r⟩ => ⟨h.le s, r.le s⟩
theorem TdsAt.len {H : Hp} : ∀ {ts : List Td} {vs : List V}, TdsAt H ts vs → vs.length = ts.length
  | [], [], _ => rfl
  | _ :: _, _ :: _, ⟨h, r⟩ => by rw [List.length_cons, List.length_cons, r.len]
theorem TdsAt.app {H : Hp} : ∀ {ts us : List Td} {vs ws : List V}, TdsAt H ts vs → TdsAt H us ws → TdsAt H (ts ++ us) (vs ++ ws)
  | [], _, [], _, _, h => h
  | _ :: _, _, _ :: _, _, ⟨h, r⟩, q => ⟨h, r.app q⟩
theorem Items.tds {H : Hp} : ∀ {f : Fo} {xs : List V}, Items H f xs → TdsAt H f.nodes xs
  | .nil, _, h => by
    rw [show _ = _ from h]
    trivial
  | .cons k t i r, _, ⟨p, q, ys, xs', e, h1, h2, h3, h4⟩ => by
    subst e
    exact ⟨⟨p, q, rfl, h1, ys, h2, h3⟩, Items.tds h4⟩
theorem nodes_G : ∀ {f : Fo}, GF f → f.depth ≤ 31 → ∀ t ∈ f.nodes, TdG t
  | .nil, _, _, _, h => nomatch h
  | .cons k t i r, ⟨h1, h2, h3⟩, hd, x, h => by
    have hd2 : max (i.depth + 1) r.depth ≤ 31 := hd
    rcases List.mem_cons.mp h with rfl | h
    · exact ⟨h1, h2, by omega⟩
    · exact nodes_G h3 (by omega) x h
def tdD : Td → PyData
  | .num i => .int i
  | .nd k t i => .tuple [.str (SX.S k), .str (SX.S t), .tuple (fdata i)]
theorem TdAt.dp {K : PySem.W.Frag} {H : Hp} : ∀ {t : Td} {v : V}, TdAt H t v → Dp K H v (tdD t)
  | .num _, _, h => by
    rw [show _ = _ from h]
    exact .int _
  | .nd _ _ _, _, ⟨p, q, e, h, d⟩ => by
    subst e
    exact .tup (SqT.of h) (.cons (.str _) (.cons (.str _) (.cons d.dp .nil)))
theorem TdsAt.dp {K : PySem.W.Frag} {H : Hp} : ∀ {ts : List Td} {vs : List V}, TdsAt H ts vs → DpAll K H vs.reverse (ts.map tdD).reverse
  | [], [], _ => .nil
  | _ :: _, _ :: _, ⟨h, r⟩ => by
    rw [List.map_cons, List.reverse_cons, List.reverse_cons]
    exact dp_snoc h.dp r.dp
theorem TdG.data : ∀ {t : Td}, TdG t → (tdD t).canLay0 = true ∧ (tdD t).depth ≤ 63
  | .num i, ⟨h1, h2⟩ => ⟨by simp [tdD, PyData.canLay0], by simp [tdD, PyData.depth]⟩
  | .nd k t i, ⟨⟨h1, _, _, _, h2⟩, h3, h4⟩ => by
    have a1 := lay_fdata h3
    have b1 := ok_S fun c hc => letters_small c (h1 c hc)
    have b2 := ok_S fun c hc => sign_small (h2 c hc)
    have a2 := depth_fdata i
    constructor
    · unfold tdD
      simp only [PyData.canLayAll0, PyData.canLay0, a1, b1, b2, Bool.and_self, Bool.and_true]
    · unfold tdD
      simp only [PyData.depthAll, PyData.depth]
      omega
theorem shaped_tds {ts : List Td} (h : ∀ t ∈ ts, TdG t) : SeqAt.shaped (.list (ts.map tdD).reverse) = true := shaped_list fun d m => by
  rw [List.mem_reverse] at m
  obtain ⟨t, ht, rfl⟩ := List.mem_map.mp m
  exact (h t ht).data
/-! ### the promises -/
/-- __init__: four new lists in the fields -/
def spRowI (C : Addr) : Sp := fun vs H Q _ => ∃ (x dx : Addr), vs = [.ref x] ∧ H x = some (.ins C dx []) ∧
  ∀ (m k t o : Addr) (H' : Hp), (∀ b u, H b = some u → b ≠ x → H' b = some u) → H' x = some (RowO C dx m k t o) → H m = none → H k = none → H t = none → H o = none →
    H' m = some (.lst []) → H' k = some (.lst []) → H' t = some (.lst []) → H' o = some (.lst []) → m ≠ k → m ≠ t → m ≠ o → k ≠ t → k ≠ o → t ≠ o → Q .non H'
/-- added: the three rows grow -/
def spAdded (C : Addr) : Sp := fun vs H Q _ => ∃ (p dx m k t o : Addr) (xk xt xo : V) (ks ts os : List V), vs = [.ref p, xk, xt, xo] ∧ H p = some (RowO C dx m k t o) ∧ H k = some (.lst ks) ∧ H t = some (.lst ts) ∧ H o = some (.lst os) ∧ k ≠ t ∧ k ≠ o ∧ t ≠ o ∧
  ks.length ≤ 100000 ∧ ts.length ≤ 100000 ∧ os.length ≤ 100000 ∧
  ∀ H', (∀ b u, H b = some u → b ≠ k → b ≠ t → b ≠ o → H' b = some u) → (∀ b, H b = none → H' b = none) → H' k = some (.lst (ks ++ [xk])) → H' t = some (.lst (ts ++ [xt])) → H' o = some (.lst (os ++ [xo])) → Q (.int (ks.length : Int)) H'
/-- made_of: a new row of a document -/
structure NewRow (C : Addr) (H H' : Hp) (p dx m k t o : Addr) (ms : List Int) (ks ts : List (List Nat)) (os : List V) : Prop where
  same : Same H H'
  fp : H p = none
  fm : H m = none
  fk : H k = none
  ft : H t = none
  fo : H o = none
  hp : H' p = some (RowO C dx m k t o)
  hm : H' m = some (.lst (ivs ms))
  hk : H' k = some (.lst (kws ks))
  ht : H' t = some (.lst (kws ts))
  ho : H' o = some (.lst os)
  mk_ : m ≠ k
  mt_ : m ≠ t
  mo_ : m ≠ o
  kt_ : k ≠ t
  ko_ : k ≠ o
  to_ : t ≠ o
def upTo (n : Nat) : List V := (List.range n).map fun i : Nat => V.int (i : Int)
def spMade (C : Addr) : Sp := fun vs H Q _ => ∃ (d : Addr) (f : Fo), vs = [.ref C, .ref d] ∧ Doc H f d ∧ GF f ∧ f.depth ≤ 31 ∧ f.size ≤ 1000 ∧
  ∀ (p dx m k t o : Addr) (H' : Hp), NewRow C H H' p dx m k t o (mkI 0 f) (fks f) (fts f) (upTo f.size) → Q (.ref p) H'
theorem istep {H0 H : Hp} {x C dx l : Addr} {fs : List (Str × V)} (fs' : List (Str × V)) {g : Str} (k : ∀ b u, H0 b = some u → b ≠ x → H b = some u) (hx : H x = some (.ins C dx fs)) (nl : H l = none) (pf : putF g (.ref l) fs = fs') :
    (∀ b u, H0 b = some u → b ≠ x → upd (upd H l (.lst [])) x (.ins C dx (putF g (.ref l) fs)) b = some u) ∧ upd (upd H l (.lst [])) x (.ins C dx (putF g (.ref l) fs)) x = some (.ins C dx fs') ∧
      upd (upd H l (.lst [])) x (.ins C dx (putF g (.ref l) fs)) l = some (.lst []) ∧ (∀ b u, H b = some u → b ≠ x → upd (upd H l (.lst [])) x (.ins C dx (putF g (.ref l) fs)) b = some u) ∧ H0 l = none := by
  have nlx : l ≠ x := fun z => by
    rw [z, hx] at nl
    cases nl
  have k2 : ∀ b u, H b = some u → b ≠ x → upd (upd H l (.lst [])) x (.ins C dx (putF g (.ref l) fs)) b = some u := fun b u e n => by
    rw [upd_ne n, upd_ne (ne_of_none e nl)]
    exact e
  refine ⟨fun b u e n => k2 b u (k b u e n) n, by rw [upd_same, pf], by rw [upd_ne nlx, upd_same], k2, ?_⟩
  cases e : H0 l with
  | none => rfl
  | some u =>
    rw [k l u e nlx] at nl
    cases nl
section
variable {P : Program} {w : World} {K : PySem.W.Frag} {mg : Str → Option Value} {base : Heap} {f C : Addr} {fd : FuncData}
theorem ok_Row_init (F : Fun K "__init__" "Row.__init__" s_Row___init__ f fd) (R : RowC K mg C) : FnOk P w K mg base CX0 1 f fd ["self"] (spRowI C) := by
  refine F.ok sc_Row___init__ (fun vs H Q E h => ?_) (fun cdv A outer s H vs Q E hr h => ?_)
  · obtain ⟨x, dx, rfl, _⟩ := h
    rfl
  · obtain ⟨x, dx, rfl, hx, q⟩ := h
    obtain ⟨cl, n1, n2, n3, n4⟩ := R
    refine ⟨_, (pss_cons (ps_fld (pv 0) (pe_lst pa_nil) rfl)
      (pss_cons (ps_fld (pv 0) (pe_lst pa_nil) rfl)
      (pss_cons (ps_fld (pv 0) (pe_lst pa_nil) rfl)
      (pss_one (ps_fld (pv 0) (pe_lst pa_nil) rfl))))), ?_⟩
    change (_ : TS) _ [some (V.ref x)] _
    k_extra "rr"
    refine ⟨by k_extra "sz", fun m nm => ?_⟩
    have hx1 := same_upd (o := .lst []) nm _ _ hx
    k_extra "rr"
    obtain ⟨a1, a2, a3, _, am⟩ := istep (H0 := H) [("marks", V.ref m)] (g := "marks") (fun b u e _ => e) hx nm (by k_extra "pk")
    clear hx1
    generalize upd (upd H m (.lst [])) x _ = H1 at a1 a2 a3
    refine ⟨by k_extra "sz", fun k nk => ?_⟩
    have hx1 := same_upd (o := .lst []) nk _ _ a2
    k_extra "rr"
    obtain ⟨b1, b2, b3, b4, bm⟩ := istep (H0 := H) [("marks", V.ref m), ("kind_row", V.ref k)] (g := "kind_row") a1 a2 nk (by k_extra "pk")
    have nmx : m ≠ x := fun z => by
      rw [z, a2] at a3
      cases a3
    have b5 := b4 _ _ a3 nmx
    have mk_ : m ≠ k := ne_of_none a3 nk
    clear hx1
    generalize upd (upd H1 k (.lst [])) x _ = H2 at b1 b2 b3 b5
    refine ⟨by k_extra "sz", fun t nt => ?_⟩
    have hx1 := same_upd (o := .lst []) nt _ _ b2
    k_extra "rr"
    obtain ⟨c1, c2, c3, c4, cm⟩ := istep (H0 := H) [("marks", V.ref m), ("kind_row", V.ref k), ("text_row", V.ref t)] (g := "text_row") b1 b2 nt (by k_extra "pk")
    have nkx : k ≠ x := fun z => by
      rw [z, b2] at b3
      cases b3
    have c5 := c4 _ _ b5 nmx
    have c6 := c4 _ _ b3 nkx
    have mt_ : m ≠ t := ne_of_none b5 nt
    have kt_ : k ≠ t := ne_of_none b3 nt
    clear hx1
    generalize upd (upd H2 t (.lst [])) x _ = H3 at c1 c2 c3 c5 c6
    refine ⟨by k_extra "sz", fun o no => ?_⟩
    have hx1 := same_upd (o := .lst []) no _ _ c2
    k_extra "rr"
    obtain ⟨d1, d2, d3, d4, dm⟩ := istep (H0 := H) (rowF (.ref m) (.ref k) (.ref t) (.ref o)) (g := "origin_row") c1 c2 no (by k_extra "pk")
    have ntx : t ≠ x := fun z => by
      rw [z, c2] at c3
      cases c3
    exact q m k t o _ d1 d2 am bm cm dm (d4 _ _ c5 nmx) (d4 _ _ c6 nkx) (d4 _ _ c3 ntx) d3 mk_ mt_ (ne_of_none c5 no) kt_ (ne_of_none c6 no) (ne_of_none c3 no)
theorem ok_Row_added (F : Fun K "added" "Row.added" s_Row_added f fd) (T : Txt mg) (R : RowC K mg C) : FnOk P w K mg base CX0 1 f fd ["self", "kind", "text", "origin"] (spAdded C) := by
  refine F.ok sc_Row_added (fun vs H Q E h => ?_) (fun cdv A outer s H vs Q E hr h => ?_)
  · obtain ⟨p, dx, m, k, t, o, xk, xt, xo, ks, ts, os, rfl, _⟩ := h
    rfl
  · obtain ⟨p, dx, m, k, t, o, xk, xt, xo, ks, ts, os, rfl, hp, hk, ht, ho, kt_, ko_, to_, lk, lt, lo, q⟩ := h
    obtain ⟨cl, n1, n2, n3, n4⟩ := R
    have pk : p ≠ k := fun z => by
      rw [z, hk] at hp
      cases hp
    have pt : p ≠ t := fun z => by
      rw [z, ht] at hp
      cases hp
    have po : p ≠ o := fun z => by
      rw [z, ho] at hp
      cases hp
    refine ⟨_, (pss_cons (ps_expr (pe_bmX K (pe_bm PySem.F.plainAttrs_list PySem.F.slot_list_append PySem.F.type_list_append mt_append (pe_fldX K (pe_fld (pv 0) rfl)) (pa_cons (pv 1) pa_nil))))
      (pss_cons (ps_expr (pe_bmX K (pe_bm PySem.F.plainAttrs_list PySem.F.slot_list_append PySem.F.type_list_append mt_append (pe_fldX K (pe_fld (pv 0) rfl)) (pa_cons (pv 2) pa_nil))))
      (pss_cons (ps_expr (pe_bmX K (pe_bm PySem.F.plainAttrs_list PySem.F.slot_list_append PySem.F.type_list_append mt_append (pe_fldX K (pe_fld (pv 0) rfl)) (pa_cons (pv 3) pa_nil))))
      (pss_one (ps_ret (pe_op op_sub (pe_callB (call_lenX K) (by rfl) T.len PySem.boot_len (pa_cons (pe_fldX K (pe_fld (pv 0) rfl)) pa_nil)) pe_int)))))), ?_⟩
    change (_ : TS) _ [some (V.ref p), some xk, some xt, some xo] _
    unfold RowO at hp
    k_extra "rr"
    refine ⟨tyvL hk, ?_⟩
    k_extra "rr"
    refine app hk (by rw [sizeLine_eq]; omega) ?_
    have hp1 := upd2 (o := .lst (ks ++ [xk])) pk hp
    have ht1 := upd2 (o := .lst (ks ++ [xk])) kt_.symm ht
    have ho1 := upd2 (o := .lst (ks ++ [xk])) ko_.symm ho
    k_extra "rr"
    refine ⟨tyvL ht1, ?_⟩
    k_extra "rr"
    refine app ht1 (by rw [sizeLine_eq]; omega) ?_
    have hp2 := upd2 (o := .lst (ts ++ [xt])) pt hp1
    have ho2 := upd2 (o := .lst (ts ++ [xt])) to_.symm ho1
    k_extra "rr"
    refine ⟨tyvL ho2, ?_⟩
    k_extra "rr"
    refine app ho2 (by rw [sizeLine_eq]; omega) ?_
    have hp3 := upd2 (o := .lst (os ++ [xo])) po hp2
    have hk3 : upd (upd (upd H k (.lst (ks ++ [xk]))) t (.lst (ts ++ [xt]))) o (.lst (os ++ [xo])) k = some (.lst (ks ++ [xk])) := upd2 ko_ (upd2 kt_ upd_same)
    have ht3 : upd (upd (upd H k (.lst (ks ++ [xk]))) t (.lst (ts ++ [xt]))) o (.lst (os ++ [xo])) t = some (.lst (ts ++ [xt])) := upd2 to_ upd_same
    have ho3 : upd (upd (upd H k (.lst (ks ++ [xk]))) t (.lst (ts ++ [xt]))) o (.lst (os ++ [xo])) o = some (.lst (os ++ [xo])) := upd_same
    have e3 : ∀ b u, H b = some u → b ≠ k → b ≠ t → b ≠ o → upd (upd (upd H k (.lst (ks ++ [xk]))) t (.lst (ts ++ [xt]))) o (.lst (os ++ [xo])) b = some u := fun b u e n1 n2 n3 => upd2 n3 (upd2 n2 (upd2 n1 e))
    have e4 : ∀ b, H b = none → upd (upd (upd H k (.lst (ks ++ [xk]))) t (.lst (ts ++ [xt]))) o (.lst (os ++ [xo])) b = none := fun b e => by
      rw [upd_ne (ne_of_none ho e).symm, upd_ne (ne_of_none ht e).symm, upd_ne (ne_of_none hk e).symm]
      exact e
    have hq := q _ e3 e4 hk3 ht3 ho3
    generalize upd (upd (upd H k (.lst (ks ++ [xk]))) t (.lst (ts ++ [xt]))) o (.lst (os ++ [xo])) = H3 at hp3 hk3 hq
    k_extra "rr"
    rw [List.length_append, List.length_singleton, show ((ks.length + 1 : Nat) : Int) - 1 = (ks.length : Int) by omega]
    exact hq
end

/-! ### Row.made_of -/
section
variable {C p dx m k t o l x : Addr} {H H' : Hp} {ms : List Int} {ks ts : List (List Nat)} {os : List V} {u : HO}
theorem NewRow.new (h : NewRow C H H' p dx m k t o ms ks ts os) (n : H' x = none) : NewRow C H (upd H' x u) p dx m k t o ms ks ts os :=
  { h with same := h.same.trans (same_upd n), hp := same_upd n _ _ h.hp, hm := same_upd n _ _ h.hm, hk := same_upd n _ _ h.hk, ht := same_upd n _ _ h.ht, ho := same_upd n _ _ h.ho }
theorem NewRow.oth {l1 : List V} (h : NewRow C H H' p dx m k t o ms ks ts os) (fl : H l = none) (hl : H' l = some (.lst l1)) (lm : l ≠ m) (lk : l ≠ k) (lt : l ≠ t) (lo : l ≠ o) : NewRow C H (upd H' l u) p dx m k t o ms ks ts os := by
  have lp : l ≠ p := fun z => by
    rw [z, h.hp] at hl
    cases hl
  exact { h with same := same_mut h.same fl, hp := upd2 lp.symm h.hp, hm := upd2 lm.symm h.hm, hk := upd2 lk.symm h.hk, ht := upd2 lt.symm h.ht, ho := upd2 lo.symm h.ho }
theorem NewRow.mark (h : NewRow C H H' p dx m k t o ms ks ts os) (i : Int) : NewRow C H (upd H' m (.lst (ivs ms ++ [.int i]))) p dx m k t o (ms ++ [i]) ks ts os := by
  have mp : m ≠ p := fun z => by
    have e := h.hp
    rw [← z, h.hm] at e
    cases e
  refine { h with same := same_mut h.same h.fm, hp := upd2 mp.symm h.hp, hm := ?_, hk := upd2 h.mk_.symm h.hk, ht := upd2 h.mt_.symm h.ht, ho := upd2 h.mo_.symm h.ho }
  rw [upd_same]
  unfold ivs
  rw [List.map_append]
  rfl
theorem NewRow.add {H2 : Hp} {a b : List Nat} {v : V} (h : NewRow C H H' p dx m k t o ms ks ts os) (e3 : ∀ b u, H' b = some u → b ≠ k → b ≠ t → b ≠ o → H2 b = some u) (hk : H2 k = some (.lst (kws ks ++ [.str (SX.S a)]))) (ht : H2 t = some (.lst (kws ts ++ [.str (SX.S b)]))) (ho : H2 o = some (.lst (os ++ [v]))) :
    NewRow C H H2 p dx m k t o ms (ks ++ [a]) (ts ++ [b]) (os ++ [v]) := by
  have pk : p ≠ k := fun z => by
    have e := h.hp
    rw [z, h.hk] at e
    cases e
  have pt : p ≠ t := fun z => by
    have e := h.hp
    rw [z, h.ht] at e
    cases e
  have po : p ≠ o := fun z => by
    have e := h.hp
    rw [z, h.ho] at e
    cases e
  refine { h with same := fun c w e => e3 c w (h.same c w e) (ne_of_none e h.fk) (ne_of_none e h.ft) (ne_of_none e h.fo), hp := e3 _ _ h.hp pk pt po, hm := e3 _ _ h.hm h.mk_ h.mt_ h.mo_, hk := ?_, ht := ?_, ho := ho }
  · rw [hk]
    unfold kws
    rw [List.map_append]
    rfl
  · rw [ht]
    unfold kws
    rw [List.map_append]
    rfl
theorem NewRow.tup {H2 : Hp} (h : NewRow C H H' p dx m k t o ms ks ts os) (e3 : ∀ b u, H' b = some u → b ≠ k → b ≠ t → b ≠ o → H2 b = some u) : TupLe H' H2 := fun c xs e => e3 c _ e
  (fun z => by
    rw [z, h.hk] at e
    cases e) (fun z => by
    rw [z, h.ht] at e
    cases e) (fun z => by
    rw [z, h.ho] at e
    cases e)
end
theorem upTo_succ (n : Nat) : upTo (n + 1) = upTo n ++ [.int (n : Int)] := by
  unfold upTo
  rw [List.range_succ, List.map_append]
  rfl
section
variable {P : Program} {w : World} {K : PySem.W.Frag} {mg : Str → Option Value} {base : Heap} {f C : Addr} {fd : FuncData}
theorem ok_Row_made_of (F : Fun K "made_of" "Row.made_of" s_Row_made_of f fd) (T : Txt mg) (R : RowC K mg C) (v_Row : Ob.MakV P w K mg base 1 C (spRowI C)) (c_Row_added : C8.Met P w K mg base 1 C "added" (spAdded C) []) : FnOk P w K mg base CX0 3 f fd ["cls", "document"] (spMade C) := by
  refine F.ok sc_Row_made_of (fun vs H Q E h => ?_) (fun cdv A outer s H vs Q E hr h => ?_)
  · obtain ⟨d, fo, rfl, _⟩ := h
    rfl
  · obtain ⟨d, fo, rfl, hd, hg, hdep, hsz, q⟩ := h
    obtain ⟨cl, n1, n2, n3, n4⟩ := R
    obtain ⟨xs, hxs, ixs⟩ := hd
    refine ⟨_, (pss_cons (ps_set (i := 2) sc_Row_made_of.nd rfl (.inl rfl) (Ob.pe_mkv (i := 0) v_Row hr (by omega) rfl (.inl rfl)))
      (pss_cons (ps_set (i := 3) sc_Row_made_of.nd rfl (.inl rfl) (pe_callTy (cr_list K) (by rfl) T.list (by decide +kernel) (pa_cons (pe_revT K (pv 1)) pa_nil)))
      (pss_cons (ps_while PassesOwn.never (pt_cmpR (op_neX K hr) (pv 3) (pe_lst pa_nil) (nomark _)) (pss_cons (ps_set (i := 4) sc_Row_made_of.nd rfl (.inl rfl) (pe_bm0X K (pe_bm0 PySem.F.plainAttrs_list PySem.F.slot_list_pop PySem.F.type_list_pop mt_pop (pv 3))))
      (pss_one (ps_if (pt_val (pe_callB (cr_isi K) (by rfl) T.isinstance (by decide +kernel) (pa_cons (pv 4) (pa_cons (pe_bltn (v := .ty "int") (by rfl) T.int (by decide +kernel) rfl) pa_nil)))) (pss_one (ps_expr (pe_bmX K (pe_bm PySem.F.plainAttrs_list PySem.F.slot_list_append PySem.F.type_list_append mt_append (pe_fldX K (pe_fld (pv 2) rfl)) (pa_cons (pv 4) pa_nil))))) (pss_cons (ps_asg (pv 4) (pg_tupX K (pg_tup (n := 3) (by rfl) (pgs_cons (pg_name (i := 5) sc_Row_made_of.nd rfl (.inl rfl)) (pgs_cons (pg_name (i := 6) sc_Row_made_of.nd rfl (.inl rfl)) (pgs_cons (pg_name (i := 7) sc_Row_made_of.nd rfl (.inl rfl)) pgs_nil))))))
      (pss_cons (ps_set (i := 8) sc_Row_made_of.nd rfl (.inl rfl) (C8.pe_mt c_Row_added hr (by omega) (pv 2) (pa_cons (pv 5) (pa_cons (pv 6) (pa_cons (pe_callB (call_lenX K) (by rfl) T.len PySem.boot_len (pa_cons (pe_fldX K (pe_fld (pv 2) rfl)) pa_nil)) pa_nil)))))
      (pss_cons (ps_expr (pe_bmX K (pe_bm PySem.F.plainAttrs_list PySem.F.slot_list_append PySem.F.type_list_append mt_append (pe_fldX K (pe_fld (pv 2) rfl)) (pa_cons (pv 8) pa_nil))))
      (pss_cons (ps_expr (pe_bmX K (pe_bm PySem.F.plainAttrs_list PySem.F.slot_list_append PySem.F.type_list_append mt_append (pv 3) (pa_cons (pv 8) pa_nil))))
      (pss_one (ps_aug (i := 3) sc_Row_made_of.nd rfl (.inl rfl) (pe_callTy (cr_list K) (by rfl) T.list (by decide +kernel) (pa_cons (pe_revT K (pv 7)) pa_nil)) ip_X))))))))))
      (pss_one (ps_ret (pv 2)))))), ?_⟩
    change (_ : TS) _ [some (V.ref C), some (.ref d), none, none, none, none, none, none, none] _
    k_extra "rr"
    refine Ob.mkv rfl fun x dx nx ndx nex => ?_
    refine ⟨x, dx, rfl, upd_same, fun m k t o H1 keep hx m0 k0 t0 o0 hm hk ht ho mk_ mt_ mo_ kt_ ko_ to_ => ⟨rfl, ?_⟩⟩
    have s1 : Same H H1 := fun b u e => keep b u (upd2 (ne_of_none e nx) (upd2 (ne_of_none e ndx) e)) (ne_of_none e nx)
    have N0 : NewRow C H H1 x dx m k t o [] [] [] (upTo 0) := ⟨s1, nx, un0 (un0 m0), un0 (un0 k0), un0 (un0 t0), un0 (un0 o0), hx, hm, hk, ht, ho, mk_, mt_, mo_, kt_, ko_, to_⟩
    clear keep hx m0 k0 t0 o0 hm hk ht ho mk_ mt_ mo_ kt_ ko_ to_ nx ndx nex
    k_extra "rr"
    refine ⟨d, xs, rfl, SqT.of (s1 _ _ hxs), fun r nr => ?_⟩
    k_extra "rr"
    refine listT (SqT.of upd_same) fun l nl => ?_
    have N1 := (N0.new (u := .tup xs.reverse) nr).new (u := .lst xs.reverse) nl
    have hl : upd (upd H1 r (.tup xs.reverse)) l (.lst xs.reverse) l = some (.lst xs.reverse) := upd_same
    have lm := ne_of_none (same_upd nr _ _ N0.hm) nl
    have lk := ne_of_none (same_upd nr _ _ N0.hk) nl
    have lt := ne_of_none (same_upd nr _ _ N0.ht) nl
    have lo := ne_of_none (same_upd nr _ _ N0.ho) nl
    have fl : H l = none := by
      cases e : H l with
      | none => rfl
      | some u =>
        rw [same_upd nr _ _ (s1 _ _ e)] at nl
        cases nl
    have hi0 := (ixs.le (TupLe.same N1.same)).tds
    generalize upd (upd H1 r (.tup xs.reverse)) l (.lst xs.reverse) = H2 at N1 hl hi0
    clear N0 s1 nr nl
    k_extra "rr"
    obtain ⟨W, hW⟩ : ∃ W : Nat → L2.St → Hp → Prop, ∀ ms' σ H', W ms' σ H' ↔ ∃ (n : Nat) (L : List Td) (vs : List V) (ms : List Int) (ks ts : List (List Nat)) (v4 v5 v6 v7 v8 : Option V), σ = [some (.ref C), some (.ref d), some (.ref x), some (.ref l), v4, v5, v6, v7, v8] ∧ NewRow C H H' x dx m k t o ms ks ts (upTo n) ∧
      H' l = some (.lst vs.reverse) ∧ TdsAt H' L vs ∧ (∀ t ∈ L, TdG t) ∧ ms ++ tdM n L = mkI 0 fo ∧ ks ++ tdK L = fks fo ∧ ts ++ tdT L = fts fo ∧ ks.length = n ∧ ts.length = n ∧ ms' = tdW L ∧ tdW L ≤ 2000 := ⟨_, fun _ _ _ => Iff.rfl⟩
    refine ⟨W, ⟨_, (hW _ _ _).mpr ⟨0, fo.nodes, xs, [], [], [], _, _, _, _, _, rfl, N1, hl, hi0, nodes_G hg hdep, ?_, ?_, ?_, rfl, rfl, rfl, ?_⟩⟩, ?_⟩
    · have := tdM_nodes [] fo 0
      rw [List.append_nil] at this
      rw [this]
      exact List.append_nil _
    · have := tdK_nodes [] fo
      rw [List.append_nil] at this
      rw [this]
      exact List.append_nil _
    · have := tdT_nodes [] fo
      rw [List.append_nil] at this
      rw [this]
      exact List.append_nil _
    · have := tdW_nodes [] fo
      rw [List.append_nil] at this
      rw [this]
      show 2 * fo.size + 0 ≤ 2000
      omega
    clear hl hi0 N1
    intro me σ H3 hw
    obtain ⟨n, L, vs, ms, ks, ts, v4, v5, v6, v7, v8, rfl, N, hl, hT, hG, hM, hKs, hTs, lks, lts, hme, hwt⟩ := (hW _ _ _).mp hw
    clear hw
    k_extra "rr"
    refine ⟨by k_extra "sz", fun e ne => ?_⟩
    have N2 := N.new (u := .lst []) ne
    have hl2 := same_upd (o := .lst []) ne _ _ hl
    have hT2 := hT.le (TupLe.new (o := .lst []) ne)
    k_extra "rr"
    refine neDd (d := .list (L.map tdD).reverse) (e := .list []) (.lst (SqL.of hl2) hT2.dp) (.lst (SqL.of upd_same) .nil) (shaped_tds hG) shaped_nilL ?_
    rw [eqv_nilL]
    clear N hl hT
    generalize upd H3 e (.lst []) = H4 at N2 hl2 hT2
    have hvl := hT2.len
    have hLl := tdW_len L
    have hml := congrArg List.length hM
    rw [List.length_append, mkI_len] at hml
    have hkl := congrArg List.length hKs
    rw [List.length_append, fks_len] at hkl
    match L, vs, hT2 with
    | [], [], _ =>
      rw [show (!((([] : List Td).map tdD).reverse).isEmpty) = false from rfl]
      k_extra "rr"
      have e1 : mkI 0 fo = ms := by rw [← hM]; exact List.append_nil _
      have e2 : fks fo = ks := by rw [← hKs]; exact List.append_nil _
      have e3 : fts fo = ts := by rw [← hTs]; exact List.append_nil _
      have e4 : fo.size = n := by rw [← fks_len, e2, lks]
      refine q x dx m k t o H4 ?_
      rw [e1, e2, e3, e4]
      exact N2
    | td :: L, v :: vs, ⟨hv, hT3⟩ =>
      rw [show (!(((td :: L).map tdD).reverse).isEmpty) = true by simp]
      k_extra "rr"
      refine ⟨_, fun _ _ h => h, ?_⟩
      k_extra "rr"
      rw [List.reverse_cons] at hl2
      refine ⟨tyvL hl2, popL hl2 ?_⟩
      have N3 := N2.oth (u := .lst vs.reverse) fl hl2 lm.symm lk.symm lt.symm lo.symm
      have tl3 : TupLe H4 (upd H4 l (.lst vs.reverse)) := TupLe.lst hl2
      have hl3 : upd H4 l (.lst vs.reverse) l = some (.lst vs.reverse) := upd_same
      have hv3 := hv.le tl3
      have hT4 := hT3.le tl3
      have hG1 := hG td (List.mem_cons_self ..)
      have hG2 := fun t m => hG t (List.mem_cons_of_mem _ m)
      clear N2 hl2 hv hT3 tl3 hG
      generalize upd H4 l (.lst vs.reverse) = H5 at N3 hl3 hv3 hT4
      have hx5 : H5 x = some (.ins C dx (rowF (.ref m) (.ref k) (.ref t) (.ref o))) := N3.hp
      cases td with
      | num i =>
        rw [show v = .int i from hv3]
        k_extra "rr"
        refine ⟨tyvL N3.hm, ?_⟩
        k_extra "rr"
        refine app N3.hm (by unfold ivs; rw [List.length_map, sizeLine_eq]; omega) ?_
        k_extra "rr"
        have N4 := N3.mark i
        have lm5 : l ≠ m := lm.symm
        have hw1 : tdW (Td.num i :: L) = 1 + tdW L := rfl
        refine ⟨tdW L, by omega, (hW _ _ _).mpr ⟨n, L, vs, ms ++ [i], ks, ts, _, _, _, _, _, rfl, N4, upd2 lm5 hl3, hT4.le (TupLe.lst N3.hm), hG2, ?_, hKs, hTs, lks, lts, rfl, by omega⟩⟩
        rw [List.append_assoc]
        exact hM
      | nd a b i =>
        obtain ⟨pv, qv, rfl, hpv, hqd⟩ := hv3
        obtain ⟨gab, gi, di⟩ := hG1
        have hk5 := N3.hk
        have hw1 : tdW (Td.nd a b i :: L) = 2 + 2 * i.size + tdW L := rfl
        have kl : (kws ks).length = n := by unfold kws; rw [List.length_map]; exact lks
        have tl : (kws ts).length = n := by unfold kws; rw [List.length_map]; exact lts
        have ul : (upTo n).length = n := by unfold upTo; rw [List.length_map, List.length_range]
        k_extra "rr"
        rw [kl]
        refine ⟨x, dx, m, k, t, o, .str (SX.S a), .str (SX.S b), .int (n : Int), kws ks, kws ts, upTo n, rfl, N3.hp, N3.hk, N3.ht, N3.ho, N3.kt_, N3.ko_, N3.to_, by omega, by omega, by omega, fun H6 e3 e4 hk6 ht6 ho6 => ?_⟩
        have N4 := N3.add e3 hk6 ht6 ho6
        rw [← upTo_succ] at N4
        have tl6 := N3.tup e3
        have hl6 := e3 _ _ hl3 lk.symm lt.symm lo.symm
        have hT6 := hT4.le tl6
        have hqd6 := hqd.le tl6
        clear N3 hl3 hT4 hqd hpv tl6 e3 e4 hk6 ht6 ho6 hk5 hx5
        have hx6 : H6 x = some (.ins C dx (rowF (.ref m) (.ref k) (.ref t) (.ref o))) := N4.hp
        rw [kl]
        k_extra "rr"
        refine ⟨tyvL N4.hm, ?_⟩
        k_extra "rr"
        refine app N4.hm (by unfold ivs; rw [List.length_map, sizeLine_eq]; omega) ?_
        have N5 := N4.mark (n : Int)
        have hl7 := upd2 (o := .lst (ivs ms ++ [.int (n : Int)])) lm.symm hl6
        have hT7 := hT6.le (TupLe.lst (m := ivs ms ++ [.int (n : Int)]) N4.hm)
        have hqd7 := hqd6.le (TupLe.lst (m := ivs ms ++ [.int (n : Int)]) N4.hm)
        clear hl6 hT6 hqd6
        generalize upd H6 m (.lst (ivs ms ++ [.int (n : Int)])) = H7 at N5 hl7 hT7 hqd7
        k_extra "rr"
        refine ⟨tyvL hl7, ?_⟩
        k_extra "rr"
        refine app hl7 (by rw [List.length_reverse, sizeLine_eq]; simp only [List.length_cons] at hvl hLl; omega) ?_
        have N6 := N5.oth (u := .lst (vs.reverse ++ [.int (n : Int)])) fl hl7 lm.symm lk.symm lt.symm lo.symm
        have hl8 : upd H7 l (.lst (vs.reverse ++ [.int (n : Int)])) l = some (.lst (vs.reverse ++ [.int (n : Int)])) := upd_same
        have hT8 := hT7.le (TupLe.lst (m := vs.reverse ++ [.int (n : Int)]) hl7)
        obtain ⟨ys, hys, iys⟩ := hqd7.le (TupLe.lst (m := vs.reverse ++ [.int (n : Int)]) hl7)
        clear hl7 hT7 hqd7 N4 N5
        generalize upd H7 l (.lst (vs.reverse ++ [.int (n : Int)])) = H8 at N6 hl8 hT8 hys iys
        k_extra "rr"
        refine ⟨qv, ys, rfl, SqT.of hys, fun r2 nr2 => ?_⟩
        k_extra "rr"
        refine listT (SqT.of upd_same) fun l2 nl2 => ?_
        have N7 := (N6.new (u := .tup ys.reverse) nr2).new (u := .lst ys.reverse) nl2
        have ss := (same_upd (o := .tup ys.reverse) nr2).trans (same_upd (o := .lst ys.reverse) nl2)
        have hl9 := ss _ _ hl8
        have hl29 : upd (upd H8 r2 (.tup ys.reverse)) l2 (.lst ys.reverse) l2 = some (.lst ys.reverse) := upd_same
        have hT9 := hT8.le (TupLe.same ss)
        have i9 := (iys.le (TupLe.same ss)).tds
        have yl := iys.len
        have ile := Fo.len_le i
        clear hl8 hT8 hys iys N6
        generalize upd (upd H8 r2 (.tup ys.reverse)) l2 (.lst ys.reverse) = H9 at N7 hl9 hl29 hT9 i9
        k_extra "rr"
        refine ipL2 hl9 hl29 (by rw [List.length_append, List.length_reverse, List.length_reverse, List.length_singleton, sizeLine_eq]; simp only [List.length_cons] at hvl hLl; omega) ?_
        k_extra "rr"
        have N8 := N7.oth (u := .lst (vs.reverse ++ [.int (n : Int)] ++ ys.reverse)) fl hl9 lm.symm lk.symm lt.symm lo.symm
        have tl9 : TupLe H9 (upd H9 l (.lst (vs.reverse ++ [.int (n : Int)] ++ ys.reverse))) := TupLe.lst hl9
        have hwn : tdW (i.nodes ++ Td.num (n : Int) :: L) = 2 * i.size + (1 + tdW L) := tdW_nodes _ i
        refine ⟨tdW (i.nodes ++ .num (n : Int) :: L), by omega, (hW _ _ _).mpr ⟨n + 1, i.nodes ++ .num (n : Int) :: L, ys ++ .int (n : Int) :: vs, ms ++ [(n : Int)], ks ++ [a], ts ++ [b], _, _, _, _, _, rfl, N8, ?_, ?_, ?_, ?_, ?_, ?_, ?_, ?_, rfl, by omega⟩⟩
        · rw [upd_same, List.reverse_append, List.reverse_cons]
        · exact (i9.le tl9).app ⟨rfl, hT9.le tl9⟩
        · intro t m
          rcases List.mem_append.mp m with m | m
          · exact nodes_G gi (by omega) t m
          · rcases List.mem_cons.mp m with rfl | m
            · exact ⟨by omega, by omega⟩
            · exact hG2 t m
        · rw [tdM_nodes, List.append_assoc]
          exact hM
        · rw [tdK_nodes, List.append_assoc]
          exact hKs
        · rw [tdT_nodes, List.append_assoc]
          exact hTs
        · rw [List.length_append, lks]
          rfl
        · rw [List.length_append, lts]
          rfl
end

/-! ### the spans of a row: first and last place of each number, in the order of the first places -/
def ordF : List Int → List Int → List Int
  | acc, [] => acc
  | acc, m :: r => if m ∈ acc then ordF acc r else ordF (acc ++ [m]) r
def ordM (ms : List Int) : List Int := ordF [] ms
def fstI (ms : List Int) (n : Int) : Nat := ms.idxOf n
def lstI (ms : List Int) (n : Int) : Nat := ms.length - 1 - ms.reverse.idxOf n
theorem ordF_snoc (m : Int) : ∀ (ms acc : List Int), ordF acc (ms ++ [m]) = if m ∈ ordF acc ms then ordF acc ms else ordF acc ms ++ [m]
  | [], acc => rfl
  | x :: r, acc => by
    show (if x ∈ acc then ordF acc (r ++ [m]) else ordF (acc ++ [x]) (r ++ [m])) = if m ∈ (if x ∈ acc then ordF acc r else ordF (acc ++ [x]) r) then _ else _
    by_cases h : x ∈ acc
    · rw [if_pos h, if_pos h]
      have e : ordF acc (x :: r) = ordF acc r := if_pos h
      rw [e]
      exact ordF_snoc m r acc
    · rw [if_neg h, if_neg h]
      have e : ordF acc (x :: r) = ordF (acc ++ [x]) r := if_neg h
      rw [e]
      exact ordF_snoc m r (acc ++ [x])
theorem ordM_snoc (ms : List Int) (m : Int) : ordM (ms ++ [m]) = if m ∈ ordM ms then ordM ms else ordM ms ++ [m] := ordF_snoc m ms []
theorem ordF_mem (n : Int) : ∀ (ms acc : List Int), n ∈ ordF acc ms ↔ n ∈ acc ∨ n ∈ ms
  | [], acc => by simp [ordF]
  | x :: r, acc => by
    unfold ordF
    by_cases h : x ∈ acc
    · rw [if_pos h, ordF_mem n r acc]
      constructor
      · rintro (a | a)
        · exact .inl a
        · exact .inr (List.mem_cons_of_mem _ a)
      · rintro (a | a)
        · exact .inl a
        · rcases List.mem_cons.mp a with rfl | a
          · exact .inl h
          · exact .inr a
    · rw [if_neg h, ordF_mem n r (acc ++ [x])]
      simp only [List.mem_append, List.mem_cons, List.not_mem_nil, or_false]
      exact or_assoc
theorem ordM_mem {ms : List Int} {n : Int} : n ∈ ordM ms ↔ n ∈ ms := by
  unfold ordM
  rw [ordF_mem]
  simp
theorem ordF_nodup : ∀ (ms acc : List Int), acc.Nodup → (ordF acc ms).Nodup
  | [], acc, h => h
  | x :: r, acc, h => by
    unfold ordF
    by_cases hx : x ∈ acc
    · rw [if_pos hx]
      exact ordF_nodup r acc h
    · rw [if_neg hx]
      refine ordF_nodup r _ (List.nodup_append.mpr ⟨h, by simp, fun a ha b hb => ?_⟩)
      rw [List.mem_singleton.mp hb]
      exact fun z => hx (z ▸ ha)
theorem ordM_nodup (ms : List Int) : (ordM ms).Nodup := ordF_nodup ms [] List.nodup_nil
theorem ordM_len (ms : List Int) : (ordM ms).length ≤ ms.length := by
  have : ∀ (ms acc : List Int), (ordF acc ms).length ≤ acc.length + ms.length := by
    intro ms
    induction ms with
    | nil => intro acc; exact Nat.le_refl _
    | cons x r ih =>
      intro acc
      unfold ordF
      by_cases hx : x ∈ acc
      · rw [if_pos hx]
        have := ih acc
        rw [List.length_cons]
        omega
      · rw [if_neg hx]
        have := ih (acc ++ [x])
        rw [List.length_append, List.length_singleton] at this
        rw [List.length_cons]
        omega
  have h := this ms []
  unfold ordM
  simpa using h
theorem fst_snoc {ms : List Int} {n m : Int} (h : n ∈ ms) : fstI (ms ++ [m]) n = fstI ms n := by
  unfold fstI
  rw [List.idxOf_append, if_pos h]
theorem fst_new {ms : List Int} {m : Int} (h : m ∉ ms) : fstI (ms ++ [m]) m = ms.length := by
  unfold fstI
  rw [List.idxOf_append, if_neg h]
  simp
theorem lst_last (ms : List Int) (m : Int) : lstI (ms ++ [m]) m = ms.length := by
  unfold lstI
  rw [List.reverse_append]
  simp
theorem lst_snoc {ms : List Int} {n m : Int} (h : n ≠ m) : lstI (ms ++ [m]) n = lstI ms n := by
  unfold lstI
  rw [List.reverse_append]
  show (ms ++ [m]).length - 1 - (m :: ms.reverse).idxOf n = _
  rw [List.idxOf_cons, List.length_append, List.length_singleton]
  have : (m == n) = false := by simpa using fun e => h e.symm
  rw [this, cond_false]
  omega
/-- the dict: its entries, by the numbers' order -/
def SpAt (H : Hp) (ms : List Int) (kvs : List (Key × V)) : Prop :=
  kvs.length = (ordM ms).length ∧ ∀ (j : Nat) (n : Int), (ordM ms)[j]? = some n → ∃ q, kvs[j]? = some (Sum.inl n, .ref q) ∧ H q = some (.tup [.int (fstI ms n : Int), .int (lstI ms n : Int)])
theorem SpAt.le {H H' : Hp} {ms : List Int} {kvs : List (Key × V)} (h : SpAt H ms kvs) (s : TupLe H H') : SpAt H' ms kvs :=
  ⟨h.1, fun j n e => let ⟨q, a, b⟩ := h.2 j n e; ⟨q, a, s _ _ b⟩⟩
theorem valV_at : ∀ {kvs : List (Key × V)} {ks : List Int} {j : Nat} {n : Int} {v : V}, ks.Nodup → kvs.length = ks.length → (∀ (i : Nat) (m : Int), ks[i]? = some m → ∃ w, kvs[i]? = some (Sum.inl m, w)) → ks[j]? = some n → kvs[j]? = some (Sum.inl n, v) → valV kvs (Sum.inl n) = some v
  | [], [], j, n, v, _, _, _, h, _ => by cases h
  | kv :: kvs, k :: ks, 0, n, v, _, _, _, h, h2 => by
    cases h2
    exact valV_pos rfl
  | kv :: kvs, k :: ks, j + 1, n, v, nd, hl, hk, h, h2 => by
    obtain ⟨w, e⟩ := hk 0 k rfl
    cases e
    have hn : k ≠ n := fun z => by
      have := List.nodup_cons.mp nd
      rw [z] at this
      exact this.1 (List.mem_of_getElem? (show ks[j]? = some n from h))
    have ih := valV_at (j := j) (List.nodup_cons.mp nd).2 (by simpa using hl) (fun i m e => hk (i + 1) m e) h h2
    unfold valV at ih ⊢
    rw [List.find?_cons, decide_eq_false (fun z => hn (Sum.inl.inj z))]
    exact ih
theorem valV_no : ∀ {kvs : List (Key × V)} {ks : List Int} {n : Int}, kvs.length = ks.length → (∀ (i : Nat) (m : Int), ks[i]? = some m → ∃ w, kvs[i]? = some (Sum.inl m, w)) → n ∉ ks → valV kvs (Sum.inl n) = none
  | [], [], n, _, _, _ => rfl
  | kv :: kvs, k :: ks, n, hl, hk, h => by
    obtain ⟨w, e⟩ := hk 0 k rfl
    cases e
    have hn : k ≠ n := fun z => h (z ▸ List.mem_cons_self ..)
    have ih := valV_no (by simpa using hl) (fun i m e => hk (i + 1) m e) (fun m => h (List.mem_cons_of_mem _ m))
    unfold valV at ih ⊢
    rw [List.find?_cons, decide_eq_false (fun z => hn (Sum.inl.inj z))]
    exact ih
theorem SpAt.get {H : Hp} {ms : List Int} {kvs : List (Key × V)} {n : Int} (h : SpAt H ms kvs) (hn : n ∈ ms) : ∃ q, valV kvs (Sum.inl n) = some (.ref q) ∧ H q = some (.tup [.int (fstI ms n : Int), .int (lstI ms n : Int)]) := by
  obtain ⟨j, hj⟩ := List.getElem?_of_mem (ordM_mem.mpr hn)
  obtain ⟨q, a, b⟩ := h.2 j n hj
  exact ⟨q, valV_at (ordM_nodup ms) h.1 (fun i m e => let ⟨q, a, _⟩ := h.2 i m e; ⟨_, a⟩) hj a, b⟩
theorem SpAt.no {H : Hp} {ms : List Int} {kvs : List (Key × V)} {n : Int} (h : SpAt H ms kvs) (hn : n ∉ ms) : valV kvs (Sum.inl n) = none :=
  valV_no h.1 (fun i m e => let ⟨q, a, _⟩ := h.2 i m e; ⟨_, a⟩) fun z => hn (ordM_mem.mp z)
theorem SpAt.old {H : Hp} {ms : List Int} {kvs : List (Key × V)} {m : Int} {q : Addr} (h : SpAt H ms kvs) (hm : m ∈ ms) (hq : H q = some (.tup [.int (fstI ms m : Int), .int (ms.length : Int)])) : SpAt H (ms ++ [m]) (putK kvs (Sum.inl m) (.ref q)) := by
  have ho : ordM (ms ++ [m]) = ordM ms := by rw [ordM_snoc, if_pos (ordM_mem.mpr hm)]
  have hany : (kvs.any fun kv => decide (kv.1 = Sum.inl m)) = true := by
    obtain ⟨j, hj⟩ := List.getElem?_of_mem (ordM_mem.mpr hm)
    obtain ⟨q, a, b⟩ := h.2 j m hj
    exact List.any_eq_true.mpr ⟨_, List.mem_of_getElem? a, decide_eq_true rfl⟩
  have e : putK kvs (Sum.inl m) (.ref q) = kvs.map (fun kv => if kv.1 = Sum.inl m then (kv.1, V.ref q) else kv) := by
    unfold putK
    rw [if_pos hany]
  rw [e]
  refine ⟨by rw [List.length_map, ho]; exact h.1, fun j n hj => ?_⟩
  rw [ho] at hj
  obtain ⟨q2, a, b⟩ := h.2 j n hj
  rw [List.getElem?_map, a]
  by_cases hn : n = m
  · subst hn
    exact ⟨q, by simp, by rw [fst_snoc hm, lst_last]; exact hq⟩
  · refine ⟨q2, ?_, ?_⟩
    · have : ¬ (Sum.inl n : Key) = Sum.inl m := fun z => hn (Sum.inl.inj z)
      simp [hn]
    · rw [fst_snoc (ordM_mem.mp (List.mem_of_getElem? hj)), lst_snoc hn]
      exact b
theorem SpAt.fresh {H : Hp} {ms : List Int} {kvs : List (Key × V)} {m : Int} {q : Addr} (h : SpAt H ms kvs) (hm : m ∉ ms) (hq : H q = some (.tup [.int (ms.length : Int), .int (ms.length : Int)])) : SpAt H (ms ++ [m]) (putK kvs (Sum.inl m) (.ref q)) := by
  have ho : ordM (ms ++ [m]) = ordM ms ++ [m] := by rw [ordM_snoc, if_neg (fun z => hm (ordM_mem.mp z))]
  have hany : ¬ (kvs.any fun kv => decide (kv.1 = Sum.inl m)) = true := fun z => by
    obtain ⟨kv, hk, e⟩ := List.any_eq_true.mp z
    obtain ⟨j, hj⟩ := List.getElem?_of_mem hk
    have lt : j < (ordM ms).length := by
      have := (List.getElem?_eq_some_iff.mp hj).1
      rw [h.1] at this
      exact this
    obtain ⟨q2, a, _⟩ := h.2 j _ (List.getElem?_eq_getElem lt)
    rw [hj] at a
    cases a
    have e := Sum.inl.inj (of_decide_eq_true e)
    exact hm (ordM_mem.mp (by rw [← e]; exact List.getElem_mem lt))
  have e : putK kvs (Sum.inl m) (.ref q) = kvs ++ [(Sum.inl m, .ref q)] := by
    unfold putK
    rw [if_neg hany]
  rw [e]
  refine ⟨by rw [List.length_append, ho, List.length_append, h.1]; rfl, fun j n hj => ?_⟩
  rw [ho] at hj
  by_cases hjl : j < (ordM ms).length
  · rw [List.getElem?_append_left hjl] at hj
    obtain ⟨q2, a, b⟩ := h.2 j n hj
    have hn := ordM_mem.mp (List.mem_of_getElem? hj)
    refine ⟨q2, by rw [List.getElem?_append_left (by rw [h.1]; exact hjl)]; exact a, ?_⟩
    rw [fst_snoc hn, lst_snoc (fun z => hm (by rw [← z]; exact hn))]
    exact b
  · rw [List.getElem?_append_right (by omega)] at hj
    have hj0 : j - (ordM ms).length = 0 := by
      have := (List.getElem?_eq_some_iff.mp hj).1
      rw [List.length_singleton] at this
      omega
    rw [hj0] at hj
    cases hj
    refine ⟨q, by rw [List.getElem?_append_right (by rw [h.1]; omega), h.1, hj0]; rfl, ?_⟩
    rw [fst_new hm, lst_last]
    exact hq
theorem TupLe.dk {H : Hp} {d : Addr} {kvs : List (Key × V)} {u : HO} (h : H d = some (.dK kvs)) : TupLe H (upd H d u) := fun c xs e => by
  by_cases z : c = d
  · rw [z, h] at e
    cases e
  · rw [upd_ne z]
    exact e
def spSpans (C : Addr) : Sp := fun vs H Q _ => ∃ (p dx m k t o : Addr) (ms : List Int), vs = [.ref p] ∧ H p = some (RowO C dx m k t o) ∧ H m = some (.lst (ivs ms)) ∧ ms.length ≤ 100000 ∧
  ∀ (d : Addr) (kvs : List (Key × V)) (H' : Hp), Same H H' → H d = none → H' d = some (.dK kvs) → SpAt H' ms kvs → Q (.ref d) H'
section
variable {P : Program} {w : World} {K : PySem.W.Frag} {mg : Str → Option Value} {base : Heap} {f C : Addr} {fd : FuncData}
theorem ok_Row_spans (F : Fun K "spans" "Row.spans" s_Row_spans f fd) (T : Txt mg) (R : RowC K mg C) : FnOk P w K mg base CX0 1 f fd ["self"] (spSpans C) := by
  refine F.ok sc_Row_spans (fun vs H Q E h => ?_) (fun cdv A outer s H vs Q E hr h => ?_)
  · obtain ⟨p, dx, m, k, t, o, ms, rfl, _⟩ := h
    rfl
  · obtain ⟨p, dx, m, k, t, o, ms, rfl, hp, hm, hlen, q⟩ := h
    obtain ⟨cl, n1, n2, n3, n4⟩ := R
    have hp : H p = some (.ins C dx (rowF (.ref m) (.ref k) (.ref t) (.ref o))) := hp
    refine ⟨_, (pss_cons (ps_set (i := 1) sc_Row_spans.nd rfl (.inl rfl) pe_dnewK)
      (pss_cons (ps_for PassesOwn.never rfl (pi_enX K (by rfl) T.enumerate (pa_cons (pe_fldX K (pe_fld (pv 0) rfl)) pa_nil)) (pg_tupX K (pg_tup (n := 2) (by rfl) (pgs_cons (pg_name (i := 2) sc_Row_spans.nd rfl (.inl rfl)) (pgs_cons (pg_name (i := 3) sc_Row_spans.nd rfl (.inl rfl)) pgs_nil)))) (pss_one (ps_dput (hu_of hr) (pv 1) (pv 3) (pe_ifExp (pt_cmp (pc_din (hu_of hr) (pv 3) (pv 1))) (pe_tup (pa_cons (pe_ix (ix_X K) (pe_dget (hu_of hr) (pv 1) (pv 3) (fun _ _ => rfl)) pe_int (fun _ _ => rfl)) (pa_cons (pv 2) pa_nil))) (pe_tup (pa_cons (pv 2) (pa_cons (pv 2) pa_nil)))) rfl)))
      (pss_one (ps_ret (pv 1))))), ?_⟩
    change (_ : TS) _ [some (V.ref p), none, none, none] _
    k_extra "rr"
    intro d nd
    have hp1 := same_upd (o := .dK []) nd _ _ hp
    have hm1 := same_upd (o := .dK []) nd _ _ hm
    k_extra "rr"
    refine ⟨m, ivs ms, rfl, .inl ⟨SqL.of hm1, ?_⟩⟩
    have il : (ivs ms).length = ms.length := by unfold ivs; rw [List.length_map]
    refine for_it (walk_enum (K := K) (a := m) (xs := ivs ms)) (fun i σ H' => ∃ (v2 v3 : Option V) (kvs : List (Key × V)), σ = [some (.ref p), some (.ref d), v2, v3] ∧ Same H H' ∧ H' d = some (.dK kvs) ∧ SpAt H' (ms.take i) kvs) ⟨_, _, [], rfl, same_upd nd, upd_same, rfl, fun j n e => by cases e⟩ (fun i σ H' _ ⟨_, _, _, _, s, _⟩ => SqL.of (s _ _ hm)) ?_ ?_
    · rintro i x σ H1 H2 hi ⟨v2, v3, kvs, rfl, s1, hd, hk⟩ hy
      obtain ⟨tq, x1, x2, rfl, ntq, rfl, e1, e2⟩ := hy
      cases e1
      obtain ⟨mi, emi, rfl⟩ := map_at e2
      have il2 : i < ms.length := (List.getElem?_eq_some_iff.mp emi).1
      have s12 := same_upd (o := .tup [.int (i : Int), .int mi]) ntq
      have hd2 := s12 _ _ hd
      have hk2 := hk.le (TupLe.same s12)
      have hk1l : (ms.take i).length = i := by rw [List.length_take]; omega
      have tk : ms.take (i + 1) = ms.take i ++ [mi] := by
        rw [List.take_add_one, emi]
        rfl
      have htq : upd H1 tq (.tup [.int (i : Int), .int mi]) tq = some (.tup [.int (i : Int), .int mi]) := upd_same
      have sH := s1.trans s12
      generalize upd H1 tq (.tup [.int (i : Int), .int mi]) = H2 at hd2 hk2 htq sH
      k_extra "rr"
      have hkl : kvs.length ≤ 100000 := by
        have := hk2.1
        have := ordM_len (ms.take i)
        omega
      by_cases hmem : mi ∈ ms.take i
      · obtain ⟨q2, ev, hq2⟩ := hk2.get hmem
        refine Ob.exdin (Ob.getK mi hd2) ?_
        rw [ev, show (some (V.ref q2)).isSome = true from rfl]
        k_extra "rr"
        refine Ob.exdget (Ob.getKv hd2 ev) ?_
        k_extra "rr"
        refine ⟨by k_extra "sz", fun pn npn => ?_⟩
        have hd3 := same_upd (o := .tup [.int (fstI (ms.take i) mi : Int), .int (i : Int)]) npn _ _ hd2
        have hk3 := hk2.le (TupLe.new (o := .tup [.int (fstI (ms.take i) mi : Int), .int (i : Int)]) npn)
        k_extra "rr"
        refine Ob.exdput (DPut.k (k := Sum.inl mi) hd3 (by rw [sizeLine_eq]; omega)) ?_
        k_extra "rr"
        refine ⟨_, _, _, rfl, same_mut (sH.trans (same_upd npn)) nd, upd_same, ?_⟩
        rw [tk]
        refine (hk3.old hmem ?_).le (TupLe.dk hd3)
        rw [hk1l]
        exact upd_same
      · have ev := hk2.no hmem
        refine Ob.exdin (Ob.getK mi hd2) ?_
        rw [ev, show (none : Option V).isSome = false from rfl]
        k_extra "rr"
        refine ⟨by k_extra "sz", fun pn npn => ?_⟩
        have hd3 := same_upd (o := .tup [.int (i : Int), .int (i : Int)]) npn _ _ hd2
        have hk3 := hk2.le (TupLe.new (o := .tup [.int (i : Int), .int (i : Int)]) npn)
        k_extra "rr"
        refine Ob.exdput (DPut.k (k := Sum.inl mi) hd3 (by rw [sizeLine_eq]; omega)) ?_
        k_extra "rr"
        refine ⟨_, _, _, rfl, same_mut (sH.trans (same_upd npn)) nd, upd_same, ?_⟩
        rw [tk]
        refine (hk3.fresh hmem ?_).le (TupLe.dk hd3)
        rw [hk1l]
        exact upd_same
    · rintro σ H1 ⟨v2, v3, kvs, rfl, s1, hd, hk⟩
      rw [il, List.take_length] at hk
      k_extra "rr"
      exact q d kvs H1 s1 nd hd hk
end

/-! ### the law's own rows: _law_flat, _law_row -/
def upF (a n : Nat) : List V := (List.range n).map fun i : Nat => V.int ((a + i : Nat) : Int)
theorem upF_cons (a n : Nat) : upF a (n + 1) = .int (a : Int) :: upF (a + 1) n := by
  unfold upF
  rw [List.range_succ_eq_map, List.map_cons, List.map_map]
  congr 1
  refine List.map_congr_left fun i _ => ?_
  show V.int ((a + (i + 1) : Nat) : Int) = V.int ((a + 1 + i : Nat) : Int)
  rw [show a + (i + 1) = a + 1 + i by omega]
theorem upF_app : ∀ (n a m : Nat), upF a (n + m) = upF a n ++ upF (a + n) m
  | 0, a, m => by rw [Nat.zero_add]; rfl
  | n + 1, a, m => by
    rw [show n + 1 + m = (n + m) + 1 by omega, upF_cons, upF_app n (a + 1) m, upF_cons, show a + 1 + n = a + (n + 1) by omega]
    rfl
theorem upF_len (a n : Nat) : (upF a n).length = n := by unfold upF; rw [List.length_map, List.length_range]
theorem upF_zero (n : Nat) : upF 0 n = upTo n := by
  unfold upF upTo
  refine List.map_congr_left fun i _ => ?_
  rw [Nat.zero_add]
/-- four lists in a list -/
structure St4 (H : Hp) (st m k t o : Addr) (ms : List Int) (ks ts : List (List Nat)) (os : List V) : Prop where
  hst : H st = some (.lst [.ref m, .ref k, .ref t, .ref o])
  hm : H m = some (.lst (ivs ms))
  hk : H k = some (.lst (kws ks))
  ht : H t = some (.lst (kws ts))
  ho : H o = some (.lst os)
  sm : st ≠ m
  sk : st ≠ k
  s_t : st ≠ t
  so : st ≠ o
  mk_ : m ≠ k
  mt_ : m ≠ t
  mo_ : m ≠ o
  kt_ : k ≠ t
  ko_ : k ≠ o
  to_ : t ≠ o
def But4 (m k t o : Addr) (H H' : Hp) : Prop := ∀ b u, H b = some u → b ≠ m → b ≠ k → b ≠ t → b ≠ o → H' b = some u
section
variable {st m k t o : Addr} {H H' H2 : Hp} {ms : List Int} {ks ts : List (List Nat)} {os : List V}
theorem But4.refl : But4 m k t o H H := fun _ _ e _ _ _ _ => e
theorem But4.trans (a : But4 m k t o H H') (b : But4 m k t o H' H2) : But4 m k t o H H2 := fun c u e h1 h2 h3 h4 => b c u (a c u e h1 h2 h3 h4) h1 h2 h3 h4
theorem But4.upd {l : Addr} {u : HO} (h : l = m ∨ l = k ∨ l = t ∨ l = o) : But4 m k t o H (upd H l u) := fun c w e h1 h2 h3 h4 => by
  rw [upd_ne (fun z => by rcases h with h | h | h | h <;> simp_all)]
  exact e
theorem But4.tup (h : St4 H st m k t o ms ks ts os) (b : But4 m k t o H H') : TupLe H H' := fun c xs e => b c _ e
  (fun z => by
    rw [z, h.hm] at e
    cases e) (fun z => by
    rw [z, h.hk] at e
    cases e) (fun z => by
    rw [z, h.ht] at e
    cases e) (fun z => by
    rw [z, h.ho] at e
    cases e)
theorem St4.mark (h : St4 H st m k t o ms ks ts os) (i : Int) : St4 (upd H m (.lst (ivs ms ++ [.int i]))) st m k t o (ms ++ [i]) ks ts os :=
  { h with hst := upd2 h.sm h.hst, hm := (by rw [upd_same]; unfold ivs; rw [List.map_append]; rfl), hk := upd2 h.mk_.symm h.hk, ht := upd2 h.mt_.symm h.ht, ho := upd2 h.mo_.symm h.ho }
theorem St4.kind (h : St4 H st m k t o ms ks ts os) (a : List Nat) : St4 (upd H k (.lst (kws ks ++ [.str (SX.S a)]))) st m k t o ms (ks ++ [a]) ts os :=
  { h with hst := upd2 h.sk h.hst, hm := upd2 h.mk_ h.hm, hk := (by rw [upd_same]; unfold kws; rw [List.map_append]; rfl), ht := upd2 h.kt_.symm h.ht, ho := upd2 h.ko_.symm h.ho }
theorem St4.text (h : St4 H st m k t o ms ks ts os) (a : List Nat) : St4 (upd H t (.lst (kws ts ++ [.str (SX.S a)]))) st m k t o ms ks (ts ++ [a]) os :=
  { h with hst := upd2 h.s_t h.hst, hm := upd2 h.mt_ h.hm, hk := upd2 h.kt_ h.hk, ht := (by rw [upd_same]; unfold kws; rw [List.map_append]; rfl), ho := upd2 h.to_.symm h.ho }
theorem St4.orig (h : St4 H st m k t o ms ks ts os) (v : V) : St4 (upd H o (.lst (os ++ [v]))) st m k t o ms ks ts (os ++ [v]) :=
  { h with hst := upd2 h.so h.hst, hm := upd2 h.mo_ h.hm, hk := upd2 h.ko_ h.hk, ht := upd2 h.to_ h.ht, ho := upd_same }
end
def spFlat (K : PySem.W.Frag) (n : Nat) : Sp := fun vs H Q _ => ∃ (d st m k t o : Addr) (xs : List V) (f : Fo) (ms : List Int) (ks ts : List (List Nat)) (os : List V), vs = [.ref d, .ref st] ∧ H d = some (.tup xs) ∧ Items H f xs ∧ f.depth ≤ n ∧ St4 H st m k t o ms ks ts os ∧
  ms.length + 2 * f.size ≤ 100000 ∧ ks.length + f.size ≤ 100000 ∧ ts.length + f.size ≤ 100000 ∧ os.length + f.size ≤ 100000 ∧
  ∀ H', But4 m k t o H H' → St4 H' st m k t o (ms ++ mkI ks.length f) (ks ++ fks f) (ts ++ fts f) (os ++ upF ks.length f.size) → Q (.ref st) H'
section
variable {P : Program} {w : World} {K : PySem.W.Frag} {mg : Str → Option Value} {base : Heap} {f : Addr} {fd : FuncData}
theorem ok_law_flat {n : Nat} {sp' : Sp} (F : Fun K "_law_flat" "_law_flat" s_law_flat f fd) (T : Txt mg) (c_law_flat : Cal P w K mg base (n + 1) "_law_flat" sp') (hsub : ∀ j, n = j + 1 → ∀ vs H Q E, spFlat K j vs H Q E → sp' vs H Q E) : FnOk P w K mg base CX0 (n + 2) f fd ["_law_document_z", "_law_state"] (spFlat K n) := by
  refine F.ok sc_law_flat (fun vs H Q E h => ?_) (fun cdv A outer s H vs Q E hr h => ?_)
  · obtain ⟨d, st, m, k, t, o, xs, f, ms, ks, ts, os, rfl, _⟩ := h
    rfl
  · obtain ⟨d, st, m, k, t, o, xs, fo, ms, ks, ts, os, rfl, hd, ix, hdep, S0, l1, l2, l3, l4, q⟩ := h
    refine ⟨_, (pss_cons (ps_for PassesOwn.never rfl (pi_tupX K (pv 0)) (pg_tupX K (pg_tup (n := 3) (by rfl) (pgs_cons (pg_name (i := 2) sc_law_flat.nd rfl (.inl rfl)) (pgs_cons (pg_name (i := 3) sc_law_flat.nd rfl (.inl rfl)) (pgs_cons (pg_name (i := 4) sc_law_flat.nd rfl (.inl rfl)) pgs_nil))))) (pss_cons (ps_set (i := 5) sc_law_flat.nd rfl (.inl rfl) (pe_callB (call_lenX K) (by rfl) T.len PySem.boot_len (pa_cons (pe_ix (ix_X K) (pv 1) pe_int (fun _ _ => rfl)) pa_nil)))
      (pss_cons (ps_expr (pe_bmX K (pe_bm PySem.F.plainAttrs_list PySem.F.slot_list_append PySem.F.type_list_append mt_append (pe_ix (ix_X K) (pv 1) pe_int (fun _ _ => rfl)) (pa_cons (pv 5) pa_nil))))
      (pss_cons (ps_expr (pe_bmX K (pe_bm PySem.F.plainAttrs_list PySem.F.slot_list_append PySem.F.type_list_append mt_append (pe_ix (ix_X K) (pv 1) pe_int (fun _ _ => rfl)) (pa_cons (pv 2) pa_nil))))
      (pss_cons (ps_expr (pe_bmX K (pe_bm PySem.F.plainAttrs_list PySem.F.slot_list_append PySem.F.type_list_append mt_append (pe_ix (ix_X K) (pv 1) pe_int (fun _ _ => rfl)) (pa_cons (pv 3) pa_nil))))
      (pss_cons (ps_expr (pe_bmX K (pe_bm PySem.F.plainAttrs_list PySem.F.slot_list_append PySem.F.type_list_append mt_append (pe_ix (ix_X K) (pv 1) pe_int (fun _ _ => rfl)) (pa_cons (pv 5) pa_nil))))
      (pss_cons (ps_expr (pe_c c_law_flat hr (by omega) (by rfl) (pa_cons (pv 4) (pa_cons (pv 1) pa_nil))))
      (pss_one (ps_expr (pe_bmX K (pe_bm PySem.F.plainAttrs_list PySem.F.slot_list_append PySem.F.type_list_append mt_append (pe_ix (ix_X K) (pv 1) pe_int (fun _ _ => rfl)) (pa_cons (pv 5) pa_nil))))))))))))
      (pss_one (ps_ret (pv 1)))), ?_⟩
    change (_ : TS) _ [some (V.ref d), some (.ref st), none, none, none, none] _
    k_extra "rr"
    obtain ⟨Pv, hPv⟩ : ∃ Pv : Nat → L2.St → Hp → Prop, ∀ i σ H', Pv i σ H' ↔ ∃ (r : Fo) (ms' : List Int) (ks' ts' : List (List Nat)) (os' : List V) (v2 v3 v4 v5 : Option V), σ = [some (.ref d), some (.ref st), v2, v3, v4, v5] ∧ But4 m k t o H H' ∧ Items H' r (xs.drop i) ∧ St4 H' st m k t o ms' ks' ts' os' ∧
      ms' ++ mkI ks'.length r = ms ++ mkI ks.length fo ∧ ks' ++ fks r = ks ++ fks fo ∧ ts' ++ fts r = ts ++ fts fo ∧ os' ++ upF ks'.length r.size = os ++ upF ks.length fo.size ∧ r.depth ≤ n := ⟨_, fun _ _ _ => Iff.rfl⟩
    refine ⟨d, rfl, ⟨xs, SqT.of hd⟩, for_tup (K := K) (a := d) (xs := xs) Pv ((hPv _ _ _).mpr ⟨fo, ms, ks, ts, os, _, _, _, _, rfl, But4.refl, ix, S0, rfl, rfl, rfl, rfl, hdep⟩) (fun i σ H' _ hp => ?_) ?_ ?_⟩
    · obtain ⟨r, ms', ks', ts', os', v2, v3, v4, v5, rfl, b, _⟩ := (hPv _ _ _).mp hp
      exact SqT.of (But4.tup S0 b _ _ hd)
    · intro i x σ H1 hi hp
      obtain ⟨r, ms', ks', ts', os', v2, v3, v4, v5, rfl, b1, iy, S1, eM, eK, eT, eO, hrd⟩ := (hPv _ _ _).mp hp
      clear hp
      have hlt : i < xs.length := (List.getElem?_eq_some_iff.mp hi).1
      have hx : xs[i] = x := (List.getElem?_eq_some_iff.mp hi).2
      rw [List.drop_eq_getElem_cons hlt, hx] at iy
      cases r with
      | nil => exact absurd iy (by intro z; cases z)
      | cons a c i2 r2 =>
        obtain ⟨pn, qn, zs, xs', e, hpn, hqn, iz, ir⟩ := iy
        cases e
        have hrd2 : max (i2.depth + 1) r2.depth ≤ n := hrd
        obtain ⟨j, rfl⟩ : ∃ j, n = j + 1 := ⟨n - 1, by omega⟩
        have ll1 := congrArg List.length eM
        have ll2 := congrArg List.length eK
        have ll3 := congrArg List.length eT
        have ll4 := congrArg List.length eO
        rw [List.length_append, List.length_append, mkI_len, mkI_len] at ll1
        rw [List.length_append, List.length_append, fks_len, fks_len] at ll2
        rw [List.length_append, List.length_append, fts_len, fts_len] at ll3
        rw [List.length_append, List.length_append, upF_len, upF_len] at ll4
        have hsz : (Fo.cons a c i2 r2).size = 1 + i2.size + r2.size := rfl
        have hst1 := S1.hst
        have hk1 := S1.hk
        have kl : (kws ks').length = ks'.length := by unfold kws; rw [List.length_map]
        k_extra "rr"
        rw [kl]
        refine ⟨tyvL S1.hm, ?_⟩
        k_extra "rr"
        refine app S1.hm (by unfold ivs; rw [List.length_map, sizeLine_eq]; omega) ?_
        have S2 := S1.mark (ks'.length : Int)
        have b2 := b1.trans (But4.upd (H := H1) (l := m) (u := .lst (ivs ms' ++ [.int (ks'.length : Int)])) (.inl rfl))
        have t2 := But4.tup S1 (But4.upd (H := H1) (l := m) (u := .lst (ivs ms' ++ [.int (ks'.length : Int)])) (.inl rfl))
        generalize upd H1 m (.lst (ivs ms' ++ [.int (ks'.length : Int)])) = H2 at S2 b2 t2
        have hst2 := S2.hst
        k_extra "rr"
        refine ⟨tyvL S2.hk, ?_⟩
        k_extra "rr"
        refine app S2.hk (by rw [kl, sizeLine_eq]; omega) ?_
        have S3 := S2.kind a
        have b3 := b2.trans (But4.upd (H := H2) (l := k) (u := .lst (kws ks' ++ [.str (SX.S a)])) (.inr (.inl rfl)))
        have t3 := t2.trans (But4.tup S2 (But4.upd (H := H2) (l := k) (u := .lst (kws ks' ++ [.str (SX.S a)])) (.inr (.inl rfl))))
        generalize upd H2 k (.lst (kws ks' ++ [.str (SX.S a)])) = H3 at S3 b3 t3
        have hst3 := S3.hst
        k_extra "rr"
        refine ⟨tyvL S3.ht, ?_⟩
        k_extra "rr"
        refine app S3.ht (by unfold kws; rw [List.length_map, sizeLine_eq]; omega) ?_
        have S4 := S3.text c
        have b4 := b3.trans (But4.upd (H := H3) (l := t) (u := .lst (kws ts' ++ [.str (SX.S c)])) (.inr (.inr (.inl rfl))))
        have t4 := t3.trans (But4.tup S3 (But4.upd (H := H3) (l := t) (u := .lst (kws ts' ++ [.str (SX.S c)])) (.inr (.inr (.inl rfl)))))
        generalize upd H3 t (.lst (kws ts' ++ [.str (SX.S c)])) = H4 at S4 b4 t4
        have hst4 := S4.hst
        k_extra "rr"
        refine ⟨tyvL S4.ho, ?_⟩
        k_extra "rr"
        refine app S4.ho (by rw [sizeLine_eq]; omega) ?_
        have S5 := S4.orig (.int (ks'.length : Int))
        have b5 := b4.trans (But4.upd (H := H4) (l := o) (u := .lst (os' ++ [.int (ks'.length : Int)])) (.inr (.inr (.inr rfl))))
        have t5 := t4.trans (But4.tup S4 (But4.upd (H := H4) (l := o) (u := .lst (os' ++ [.int (ks'.length : Int)])) (.inr (.inr (.inr rfl)))))
        generalize upd H4 o (.lst (os' ++ [.int (ks'.length : Int)])) = H5 at S5 b5 t5
        k_extra "rr"
        have e1 : (ks' ++ [a]).length = ks'.length + 1 := by rw [List.length_append, List.length_singleton]
        refine hsub j rfl _ _ _ _ ⟨qn, st, m, k, t, o, zs, i2, _, _, _, _, rfl, t5 _ _ hqn, iz.le t5, by omega, S5, ?_, ?_, ?_, ?_, fun H6 b56 S6 => ?_⟩
        · rw [List.length_append, List.length_singleton]; omega
        · rw [e1]; omega
        · rw [List.length_append, List.length_singleton]; omega
        · rw [List.length_append, List.length_singleton]; omega
        have b6 := b5.trans b56
        have t6 := t5.trans (But4.tup S5 b56)
        have hst6 := S6.hst
        k_extra "rr"
        refine ⟨tyvL S6.hm, ?_⟩
        k_extra "rr"
        refine app S6.hm (by unfold ivs; rw [List.length_map, List.length_append, List.length_append, List.length_singleton, mkI_len, sizeLine_eq]; omega) ?_
        have S7 := S6.mark (ks'.length : Int)
        have b67 := But4.upd (m := m) (k := k) (t := t) (o := o) (H := H6) (l := m) (u := .lst (ivs (ms' ++ [(ks'.length : Int)] ++ mkI (ks' ++ [a]).length i2) ++ [.int (ks'.length : Int)])) (.inl rfl)
        have t7 := t6.trans (But4.tup S6 b67)
        k_extra "rr"
        have e2 : (ks' ++ [a] ++ fks i2).length = ks'.length + 1 + i2.size := by rw [List.length_append, e1, fks_len]
        refine (hPv _ _ _).mpr ⟨r2, _, _, _, _, _, _, _, _, rfl, b6.trans b67, ir.le t7, S7, ?_, ?_, ?_, ?_, by omega⟩
        · rw [← eM, e1, e2]
          show _ = ms' ++ ((ks'.length : Int) :: (mkI (ks'.length + 1) i2 ++ (ks'.length : Int) :: mkI (ks'.length + 1 + i2.size) r2))
          simp only [List.append_assoc, List.cons_append, List.nil_append]
        · rw [← eK]
          show _ = ks' ++ (a :: (fks i2 ++ fks r2))
          simp only [List.append_assoc, List.cons_append, List.nil_append]
        · rw [← eT]
          show _ = ts' ++ (c :: (fts i2 ++ fts r2))
          simp only [List.append_assoc, List.cons_append, List.nil_append]
        · rw [← eO, e1, e2, hsz, show 1 + i2.size + r2.size = (i2.size + r2.size) + 1 by omega, upF_cons, upF_app]
          simp only [List.append_assoc, List.cons_append, List.nil_append]
    · intro σ H1 hp
      obtain ⟨r, ms', ks', ts', os', v2, v3, v4, v5, rfl, b1, iy, S1, eM, eK, eT, eO, hrd⟩ := (hPv _ _ _).mp hp
      rw [List.drop_length] at iy
      cases r with
      | cons a c i2 r2 =>
        obtain ⟨pn, qn, zs, xs', e, _⟩ := iy
        cases e
      | nil =>
        k_extra "rr"
        refine q H1 b1 ?_
        rw [← eM, ← eK, ← eT, ← eO]
        show St4 H1 st m k t o (ms' ++ []) (ks' ++ []) (ts' ++ []) (os' ++ [])
        rw [List.append_nil, List.append_nil, List.append_nil, List.append_nil]
        exact S1
/-- _law_row: a new row of a document -/
def spLRow (K : PySem.W.Frag) (n : Nat) : Sp := fun vs H Q _ => ∃ (d : Addr) (f : Fo), vs = [.ref d] ∧ Doc H f d ∧ f.depth ≤ n ∧ f.size ≤ 1000 ∧
  ∀ (st m k t o : Addr) (H' : Hp), Same H H' → H st = none → H m = none → H k = none → H t = none → H o = none → St4 H' st m k t o (mkI 0 f) (fks f) (fts f) (upTo f.size) → Q (.ref st) H'
theorem ok_law_row {n : Nat} (F : Fun K "_law_row" "_law_row" s_law_row f fd) (T : Txt mg) (c_law_flat : Cal P w K mg base (n + 2) "_law_flat" (spFlat K n)) : FnOk P w K mg base CX0 (n + 3) f fd ["_law_document_z"] (spLRow K n) := by
  refine F.ok sc_law_row (fun vs H Q E h => ?_) (fun cdv A outer s H vs Q E hr h => ?_)
  · obtain ⟨d, f, rfl, _⟩ := h
    rfl
  · obtain ⟨d, fo, rfl, ⟨xs, hxs, ixs⟩, hdep, hsz, q⟩ := h
    refine ⟨_, (pss_one (ps_ret (pe_c c_law_flat hr (by omega) (by rfl) (pa_cons (pv 0) (pa_cons (pe_lst (pa_cons (pe_lst pa_nil) (pa_cons (pe_lst pa_nil) (pa_cons (pe_lst pa_nil) (pa_cons (pe_lst pa_nil) pa_nil))))) pa_nil))))), ?_⟩
    change (_ : TS) _ [some (V.ref d)] _
    k_extra "rr"
    refine ⟨by k_extra "sz", fun m nm => ?_⟩
    k_extra "rr"
    refine ⟨by k_extra "sz", fun k nk => ?_⟩
    k_extra "rr"
    refine ⟨by k_extra "sz", fun t nt => ?_⟩
    k_extra "rr"
    refine ⟨by k_extra "sz", fun o no => ?_⟩
    k_extra "rr"
    refine ⟨by k_extra "sz", fun st ns => ?_⟩
    k_extra "rr"
    have s1 := same_upd (o := .lst []) nm
    have s2 := same_upd (o := .lst []) nk
    have s3 := same_upd (o := .lst []) nt
    have s4 := same_upd (o := .lst []) no
    have s5 := same_upd (o := .lst [.ref m, .ref k, .ref t, .ref o]) ns
    have sA := (((s1.trans s2).trans s3).trans s4).trans s5
    have hm := s5 _ _ (s4 _ _ (s3 _ _ (s2 _ _ (upd_same (H := H) (a := m) (o := .lst [])))))
    have hk := s5 _ _ (s4 _ _ (s3 _ _ (upd_same (H := upd H m (.lst [])) (a := k) (o := .lst []))))
    have ht := s5 _ _ (s4 _ _ (upd_same (H := upd (upd H m (.lst [])) k (.lst [])) (a := t) (o := .lst [])))
    have ho := s5 _ _ (upd_same (H := upd (upd (upd H m (.lst [])) k (.lst [])) t (.lst [])) (a := o) (o := .lst []))
    have fk := un0 nk
    have ft := un0 (un0 nt)
    have fO := un0 (un0 (un0 no))
    have fs := un0 (un0 (un0 (un0 ns)))
    have S : St4 (upd (upd (upd (upd (upd H m (.lst [])) k (.lst [])) t (.lst [])) o (.lst [])) st (.lst [.ref m, .ref k, .ref t, .ref o])) st m k t o [] [] [] [] := {
      hst := upd_same
      hm := hm
      hk := hk
      ht := ht
      ho := ho
      sm := (ne_of_none (s4 _ _ (s3 _ _ (s2 _ _ upd_same))) ns).symm
      sk := (ne_of_none (s4 _ _ (s3 _ _ upd_same)) ns).symm
      s_t := (ne_of_none (s4 _ _ upd_same) ns).symm
      so := (ne_of_none upd_same ns).symm
      mk_ := ne_of_none upd_same nk
      mt_ := ne_of_none (s2 _ _ upd_same) nt
      mo_ := ne_of_none (s3 _ _ (s2 _ _ upd_same)) no
      kt_ := ne_of_none upd_same nt
      ko_ := ne_of_none (s3 _ _ upd_same) no
      to_ := ne_of_none upd_same no }
    refine ⟨d, st, m, k, t, o, xs, fo, [], [], [], [], rfl, sA _ _ hxs, ixs.le (TupLe.same sA), hdep, S, by simp; omega, by simp; omega, by simp; omega, by simp; omega, fun H' b S' => ?_⟩
    refine q st m k t o H' (fun c u e => b c u (sA c u e) (ne_of_none e nm) (ne_of_none e fk) (ne_of_none e ft) (ne_of_none e fO)) fs nm fk ft fO ?_
    have e : upF ([] : List (List Nat)).length fo.size = upTo fo.size := upF_zero _
    rw [e] at S'
    exact S'
end

/-! ### the law's spans -/
def aboveB (ms : List Int) (x y : Int) : Bool := decide (fstI ms x < fstI ms y) && decide (lstI ms y < lstI ms x)
def aheadB (ms : List Int) (x y : Int) : Bool := decide (lstI ms x < fstI ms y)
def spLSpan : Sp := fun vs H Q _ => ∃ (a : Addr) (ms : List Int) (n : Int), vs = [.ref a, .int n] ∧ H a = some (.lst (ivs ms)) ∧ ms.length ≤ 100000 ∧ n ∈ ms ∧
  ∀ (p : Addr) (H' : Hp), Same H H' → H' p = some (.tup [.int (fstI ms n : Int), .int (lstI ms n : Int)]) → Q (.ref p) H'
def spLAbove : Sp := fun vs H Q _ => ∃ (a : Addr) (ms : List Int) (x y : Int), vs = [.ref a, .int x, .int y] ∧ H a = some (.lst (ivs ms)) ∧ ms.length ≤ 100000 ∧ x ∈ ms ∧ y ∈ ms ∧ ∀ H', Same H H' → Q (.bl (aboveB ms x y)) H'
def spLAhead : Sp := fun vs H Q _ => ∃ (a : Addr) (ms : List Int) (x y : Int), vs = [.ref a, .int x, .int y] ∧ H a = some (.lst (ivs ms)) ∧ ms.length ≤ 100000 ∧ x ∈ ms ∧ y ∈ ms ∧ ∀ H', Same H H' → Q (.bl (aheadB ms x y)) H'
section
variable {P : Program} {w : World} {K : PySem.W.Frag} {mg : Str → Option Value} {base : Heap} {f : Addr} {fd : FuncData}
theorem ok_law_span (F : Fun K "_law_span" "_law_span" s_law_span f fd) (T : Txt mg) : FnOk P w K mg base CX0 1 f fd ["_law_marks", "_law_number"] spLSpan := by
  refine F.ok sc_law_span (fun vs H Q E h => ?_) (fun cdv A outer s H vs Q E hr h => ?_)
  · obtain ⟨a, ms, n, rfl, _⟩ := h
    rfl
  · obtain ⟨a, ms, n, rfl, ha, hl, hn, q⟩ := h
    have il : (ivs ms).length = ms.length := by unfold ivs; rw [List.length_map]
    refine ⟨_, (pss_one (ps_ret (pe_tup (pa_cons (pe_bmX K (pe_bm PySem.F.plainAttrs_list PySem.F.slot_list_index PySem.F.type_list_index (Ob.mt_indexX K) (pv 0) (pa_cons (pv 1) pa_nil))) (pa_cons (pe_op op_sub (pe_op op_sub (pe_callB (call_lenX K) (by rfl) T.len PySem.boot_len (pa_cons (pv 0) pa_nil)) pe_int) (pe_bmX K (pe_bm PySem.F.plainAttrs_list PySem.F.slot_list_index PySem.F.type_list_index (Ob.mt_indexX K) (pe_revLX K (pv 0)) (pa_cons (pv 1) pa_nil)))) pa_nil))))), ?_⟩
    change (_ : TS) _ [some (V.ref a), some (.int n)] _
    k_extra "rr"
    refine ⟨tyvL ha, ?_⟩
    k_extra "rr"
    refine Ob.idxI (SqL.of ha) hn ?_
    k_extra "rr"
    rw [il]
    refine ⟨a, ivs ms, rfl, SqL.of ha, fun r nr => ?_⟩
    have e : (ivs ms).reverse = ms.reverse.map V.int := by unfold ivs; rw [List.map_reverse]
    rw [e]
    have hr1 : upd H r (.lst (ms.reverse.map V.int)) r = some (.lst (ms.reverse.map V.int)) := upd_same
    have s1 := same_upd (o := .lst (ms.reverse.map V.int)) nr
    generalize upd H r (.lst (ms.reverse.map V.int)) = H1 at hr1 s1
    refine ⟨tyvL hr1, ?_⟩
    k_extra "rr"
    refine Ob.idxI (SqL.of hr1) (List.mem_reverse.mpr hn) ?_
    k_extra "rr"
    refine ⟨by k_extra "sz", fun p np => ?_⟩
    k_extra "rr"
    refine q p _ (s1.trans (same_upd np)) ?_
    rw [upd_same]
    have lt : ms.reverse.idxOf n < ms.length := by
      have := List.idxOf_lt_length_iff.mpr (List.mem_reverse.mpr hn)
      rwa [List.length_reverse] at this
    have e2 : (ms.length : Int) - 1 - ((ms.reverse.idxOf n : Nat) : Int) = ((lstI ms n : Nat) : Int) := by
      unfold lstI
      omega
    rw [e2]
    rfl
theorem ok_law_above (F : Fun K "_law_above" "_law_above" s_law_above f fd) (T : Txt mg) (c_law_span : Cal P w K mg base 1 "_law_span" spLSpan) : FnOk P w K mg base CX0 2 f fd ["_law_marks", "_law_one", "_law_other"] spLAbove := by
  refine F.ok sc_law_above (fun vs H Q E h => ?_) (fun cdv A outer s H vs Q E hr h => ?_)
  · obtain ⟨a, ms, x, y, rfl, _⟩ := h
    rfl
  · obtain ⟨a, ms, x, y, rfl, ha, hl, hx, hy, q⟩ := h
    refine ⟨_, (pss_cons (ps_par (i := 3) (j := 4) (by rfl) sc_law_above.nd rfl rfl (by decide) rfl rfl (pa_cons (pe_c c_law_span hr (by omega) (by rfl) (pa_cons (pv 0) (pa_cons (pv 1) pa_nil))) (pa_cons (pe_c c_law_span hr (by omega) (by rfl) (pa_cons (pv 0) (pa_cons (pv 2) pa_nil))) pa_nil)) (by rfl))
      (pss_one (ps_ret (pe_and (pe_cmpR op_lt (pe_ix (ix_X K) (pv 3) pe_int (fun _ _ => rfl)) (pe_ix (ix_X K) (pv 4) pe_int (fun _ _ => rfl)) (nomark _)) (pe_one (pe_cmpR op_lt (pe_ix (ix_X K) (pv 4) pe_int (fun _ _ => rfl)) (pe_ix (ix_X K) (pv 3) pe_int (fun _ _ => rfl)) (nomark _))))))), ?_⟩
    change (_ : TS) _ [some (V.ref a), some (.int x), some (.int y), none, none] _
    k_extra "rr"
    refine ⟨a, ms, x, rfl, ha, hl, hx, fun p1 H1 s1 h1 => ?_⟩
    k_extra "rr"
    refine ⟨a, ms, y, rfl, s1 _ _ ha, hl, hy, fun p2 H2 s2 h2 => ?_⟩
    have h1 := s2 _ _ h1
    k_extra "rr"
    have e1 : decide ((fstI ms x : Int) < (fstI ms y : Int)) = decide (fstI ms x < fstI ms y) := decide_eq_decide.mpr (by omega)
    have e2 : decide ((lstI ms y : Int) < (lstI ms x : Int)) = decide (lstI ms y < lstI ms x) := decide_eq_decide.mpr (by omega)
    have q := q H2 (s1.trans s2)
    unfold aboveB at q
    rw [e1]
    cases hb : decide (fstI ms x < fstI ms y) with
    | false =>
      rw [hb, Bool.false_and] at q
      k_extra "rr"
      exact q
    | true =>
      rw [hb, Bool.true_and] at q
      k_extra "rr"
      rw [e2]
      exact q
theorem ok_law_ahead (F : Fun K "_law_ahead" "_law_ahead" s_law_ahead f fd) (T : Txt mg) (c_law_span : Cal P w K mg base 1 "_law_span" spLSpan) : FnOk P w K mg base CX0 2 f fd ["_law_marks", "_law_one", "_law_other"] spLAhead := by
  refine F.ok sc_law_ahead (fun vs H Q E h => ?_) (fun cdv A outer s H vs Q E hr h => ?_)
  · obtain ⟨a, ms, x, y, rfl, _⟩ := h
    rfl
  · obtain ⟨a, ms, x, y, rfl, ha, hl, hx, hy, q⟩ := h
    refine ⟨_, (pss_one (ps_ret (pe_cmpR op_lt (pe_ix (ix_X K) (pe_c c_law_span hr (by omega) (by rfl) (pa_cons (pv 0) (pa_cons (pv 1) pa_nil))) pe_int (fun _ _ => rfl)) (pe_ix (ix_X K) (pe_c c_law_span hr (by omega) (by rfl) (pa_cons (pv 0) (pa_cons (pv 2) pa_nil))) pe_int (fun _ _ => rfl)) (nomark _)))), ?_⟩
    change (_ : TS) _ [some (V.ref a), some (.int x), some (.int y)] _
    k_extra "rr"
    refine ⟨a, ms, x, rfl, ha, hl, hx, fun p1 H1 s1 h1 => ?_⟩
    k_extra "rr"
    refine ⟨a, ms, y, rfl, s1 _ _ ha, hl, hy, fun p2 H2 s2 h2 => ?_⟩
    have h1 := s2 _ _ h1
    k_extra "rr"
    have e1 : decide ((lstI ms x : Int) < (fstI ms y : Int)) = decide (lstI ms x < fstI ms y) := decide_eq_decide.mpr (by omega)
    rw [e1]
    exact q H2 (s1.trans s2)
end
/-! the numbers of a document's row -/
def numsFrom (a n : Nat) : List Int := (List.range n).map fun i : Nat => ((a + i : Nat) : Int)
theorem numsFrom_succ (a n : Nat) : numsFrom a (n + 1) = (a : Int) :: numsFrom (a + 1) n := by
  unfold numsFrom
  rw [List.range_succ_eq_map, List.map_cons, List.map_map]
  congr 1
  refine List.map_congr_left fun i _ => ?_
  show ((a + (i + 1) : Nat) : Int) = ((a + 1 + i : Nat) : Int)
  rw [show a + (i + 1) = a + 1 + i by omega]
theorem numsFrom_app : ∀ (n a m : Nat), numsFrom a (n + m) = numsFrom a n ++ numsFrom (a + n) m
  | 0, a, m => by rw [Nat.zero_add]; rfl
  | n + 1, a, m => by
    rw [show n + 1 + m = (n + m) + 1 by omega, numsFrom_succ, numsFrom_app n (a + 1) m, numsFrom_succ, show a + 1 + n = a + (n + 1) by omega]
    rfl
theorem numsFrom_mem {a n : Nat} {x : Int} : x ∈ numsFrom a n ↔ ∃ i, i < n ∧ x = ((a + i : Nat) : Int) := by
  unfold numsFrom
  rw [List.mem_map]
  constructor
  · rintro ⟨i, hi, rfl⟩
    exact ⟨i, List.mem_range.mp hi, rfl⟩
  · rintro ⟨i, hi, rfl⟩
    exact ⟨i, List.mem_range.mpr hi, rfl⟩
theorem ordF_app (acc : List Int) : ∀ (xs ys : List Int), ordF acc (xs ++ ys) = ordF (ordF acc xs) ys := by
  intro xs
  induction xs generalizing acc with
  | nil => intro ys; rfl
  | cons x r ih =>
    intro ys
    show (if x ∈ acc then ordF acc (r ++ ys) else ordF (acc ++ [x]) (r ++ ys)) = ordF (if x ∈ acc then ordF acc r else ordF (acc ++ [x]) r) ys
    by_cases h : x ∈ acc
    · rw [if_pos h, if_pos h, ih]
    · rw [if_neg h, if_neg h, ih]
theorem ord_mkI : ∀ (f : Fo) (n : Nat) (acc : List Int), (∀ x ∈ acc, x < (n : Int)) → ordF acc (mkI n f) = acc ++ numsFrom n f.size
  | .nil, n, acc, _ => by
    show acc = acc ++ []
    rw [List.append_nil]
  | .cons k t i r, n, acc, h => by
    show ordF acc ((n : Int) :: (mkI (n + 1) i ++ (n : Int) :: mkI (n + 1 + i.size) r)) = _
    have hn : (n : Int) ∉ acc := fun z => by
      have := h _ z
      omega
    have e1 : ordF acc ((n : Int) :: (mkI (n + 1) i ++ (n : Int) :: mkI (n + 1 + i.size) r)) = ordF (acc ++ [(n : Int)]) (mkI (n + 1) i ++ (n : Int) :: mkI (n + 1 + i.size) r) := if_neg hn
    have h1 : ∀ x ∈ acc ++ [(n : Int)], x < ((n + 1 : Nat) : Int) := fun x m => by
      rcases List.mem_append.mp m with m | m
      · have := h x m
        omega
      · rw [List.mem_singleton.mp m]
        omega
    rw [e1, ordF_app, ord_mkI i (n + 1) _ h1]
    have hin : (n : Int) ∈ acc ++ [(n : Int)] ++ numsFrom (n + 1) i.size := by simp
    have e2 : ordF (acc ++ [(n : Int)] ++ numsFrom (n + 1) i.size) ((n : Int) :: mkI (n + 1 + i.size) r) = ordF (acc ++ [(n : Int)] ++ numsFrom (n + 1) i.size) (mkI (n + 1 + i.size) r) := if_pos hin
    rw [e2, ord_mkI r (n + 1 + i.size) _ (fun x m => by
      rcases List.mem_append.mp m with m | m
      · have := h1 x m
        omega
      · obtain ⟨j, hj, rfl⟩ := numsFrom_mem.mp m
        omega)]
    show _ = acc ++ numsFrom n (1 + i.size + r.size)
    rw [show 1 + i.size + r.size = (i.size + r.size) + 1 by omega, numsFrom_succ, numsFrom_app]
    simp only [List.append_assoc, List.cons_append, List.nil_append]
theorem ordM_doc (f : Fo) : ordM (mkI 0 f) = numsFrom 0 f.size := by
  have := ord_mkI f 0 [] (fun x m => by cases m)
  rw [List.nil_append] at this
  exact this
theorem mem_doc {f : Fo} {x : Int} : x ∈ mkI 0 f ↔ ∃ i, i < f.size ∧ x = (i : Int) := by
  rw [← ordM_mem, ordM_doc, numsFrom_mem]
  constructor
  · rintro ⟨i, hi, rfl⟩
    exact ⟨i, hi, by rw [Nat.zero_add]⟩
  · rintro ⟨i, hi, rfl⟩
    exact ⟨i, hi, by rw [Nat.zero_add]⟩

/-! ### _law_field, called while its exception is handled -/
/-- the field that the code names -/
def fldOf (code : Str) : Option Str := if code ∈ (["BadShape", "ParseError"] : List Str) then some "at"
  else if code ∈ (["TooMany", "Full"] : List Str) then some "most"
  else if code ∈ (["BadName", "DuplicateName", "WrongKind", "UnknownName"] : List Str) then some "name"
  else if code = "BadDocument" then some "path"
  else if code = "BadScript" then some "line"
  else if code = "BadLimit" then some "given"
  else if code = "BadCommand" then some "word"
  else if code = "UnknownHand" then some "hand"
  else if code = "Quarrel" then some "shown"
  else none
theorem inV_codes (x : Str) : ∀ l : List Str, inV (V.str x) (l.map V.str) = decide (x ∈ l)
  | [] => by simp [inV]
  | y :: r => by
    have ih := inV_codes x r
    unfold inV at ih ⊢
    simp only [List.map_cons, List.any_cons, List.mem_cons] at ih ⊢
    rw [ih, show eqV (V.str y) (V.str x) = (y == x) from rfl]
    by_cases h : x = y
    · subst h
      simp
    · have h2 : ¬ y = x := fun z => h z.symm
      simp [h, h2]
theorem inC {K : PySem.W.Frag} {x : Str} {l : List Str} {p : Addr} {H : Hp} {Q : VK} (h : H p = some (.lst (l.map V.str))) (q : Q (.bl (decide (x ∈ l))) H) : rInX K (.str x) (.ref p) H Q := by
  refine .inr ⟨p, _, rfl, .inl (SqL.of h), rfl, ?_, ?_⟩
  · rw [List.all_map]
    exact List.all_eq_true.mpr fun _ _ => rfl
  · show Q (.bl (inV (V.str x) (l.map V.str))) H
    rw [inV_codes]
    exact q
def spField (K : PySem.W.Frag) : SpE := fun a c d vs H Q _ => ∃ (C dd : Addr) (fs : List (Str × V)) (code : Str), vs = [.ref a] ∧ c = .ref C ∧ d = some dd ∧ XfC K C ∧ H dd = some (.xd fs) ∧ fs.lookup ("code" : Str) = some (V.str code) ∧ PySem.W.findIn K (.ref C) "code" = some none ∧
  ((∃ f v, fldOf code = some f ∧ PySem.W.findIn K (.ref C) f = some none ∧ fs.lookup f = some v ∧ ∀ H', Same H H' → Q v H') ∨ (fldOf code = none ∧ ∀ H', Same H H' → Q .non H'))
section
variable {P : Program} {w : World} {K : PySem.W.Frag} {mg : Str → Option Value} {base : Heap} {f : Addr} {fd : FuncData}
theorem ok_law_field (F : Fun K "_law_field" "_law_field" s_law_field f fd) : FnE P w K mg base CX0 1 f fd ["_law_e"] (spField K) := by
  obtain ⟨oc, od, kV, doc, pm, an, cdv, ct, osl, rfl, lk, hcd⟩ := F.ex
  refine FnE.of lk hcd sc_law_field (fun h => ?_) (fun {A outer z H vs Q E p c d} hz hdat room h => ?_)
  · obtain ⟨C, dd, fs, code, rfl, _⟩ := h
    rfl
  · obtain ⟨C, dd, fs, code, rfl, rfl, rfl, hT, hd, hc, hnc, q⟩ := h
    have hin : p ∈ [p] := List.mem_singleton.mpr rfl
    have hu : (A.deeper (PyProof.Rows.envOfC "_law_field" (defScope s_law_field) z.heap.objs.size f cdv)).units + 64 < cLine := by
      have := room.un
      omega
    refine ⟨_, (pss_cons (ps_if (pt_cmpR (op_inX K) (pe_xfE hz hdat hin (pv 0)) (pe_lst (pa_cons pe_str (pa_cons pe_str pa_nil))) (by rfl)) (pss_one (ps_ret (pe_xfE hz hdat hin (pv 0)))) pss_nil)
      (pss_cons (ps_if (pt_cmpR (op_inX K) (pe_xfE hz hdat hin (pv 0)) (pe_lst (pa_cons pe_str (pa_cons pe_str pa_nil))) (by rfl)) (pss_one (ps_ret (pe_xfE hz hdat hin (pv 0)))) pss_nil)
      (pss_cons (ps_if (pt_cmpR (op_inX K) (pe_xfE hz hdat hin (pv 0)) (pe_lst (pa_cons pe_str (pa_cons pe_str (pa_cons pe_str (pa_cons pe_str pa_nil))))) (by rfl)) (pss_one (ps_ret (pe_xfE hz hdat hin (pv 0)))) pss_nil)
      (pss_cons (ps_if (pt_cmpR (op_eqU K hu) (pe_xfE hz hdat hin (pv 0)) pe_str (nomark _)) (pss_one (ps_ret (pe_xfE hz hdat hin (pv 0)))) pss_nil)
      (pss_cons (ps_if (pt_cmpR (op_eqU K hu) (pe_xfE hz hdat hin (pv 0)) pe_str (nomark _)) (pss_one (ps_ret (pe_xfE hz hdat hin (pv 0)))) pss_nil)
      (pss_cons (ps_if (pt_cmpR (op_eqU K hu) (pe_xfE hz hdat hin (pv 0)) pe_str (nomark _)) (pss_one (ps_ret (pe_xfE hz hdat hin (pv 0)))) pss_nil)
      (pss_cons (ps_if (pt_cmpR (op_eqU K hu) (pe_xfE hz hdat hin (pv 0)) pe_str (nomark _)) (pss_one (ps_ret (pe_xfE hz hdat hin (pv 0)))) pss_nil)
      (pss_cons (ps_if (pt_cmpR (op_eqU K hu) (pe_xfE hz hdat hin (pv 0)) pe_str (nomark _)) (pss_one (ps_ret (pe_xfE hz hdat hin (pv 0)))) pss_nil)
      (pss_one (ps_ret (pe_ifExp (pt_cmpR (op_eqU K hu) (pe_xfE hz hdat hin (pv 0)) pe_str (nomark _)) (pe_xfE hz hdat hin (pv 0)) pe_non))))))))))), ?_⟩
    change (_ : TS) _ [some (V.ref p.1)] _
    k_extra "rr"
    refine xfI hT hnc hd hc rfl ?_
    k_extra "rr"
    refine ⟨by k_extra "sz", fun p0 n0 => ?_⟩
    have s0 := (Same.refl H).trans (same_upd (o := .lst ([.str "BadShape", .str "ParseError"] : List V)) n0)
    k_extra "rr"
    refine inC (l := ["BadShape", "ParseError"]) upd_same ?_
    by_cases h0 : code ∈ (["BadShape", "ParseError"] : List Str)
    · rw [decide_eq_true h0]
      k_extra "rr"
      have ef : fldOf code = some ("at" : Str) := by
        unfold fldOf
        rw [if_pos h0]
      rcases q with ⟨g, v, e2, hn, hl, k⟩ | ⟨e2, _⟩
      · obtain rfl : g = ("at" : Str) := Option.some.inj (e2.symm.trans ef)
        refine xfI hT hn (s0 _ _ hd) hl rfl ?_
        k_extra "rr"
        exact k _ s0
      · cases e2.symm.trans ef
    rw [decide_eq_false h0]
    k_extra "rr"
    refine xfI hT hnc (s0 _ _ hd) hc rfl ?_
    k_extra "rr"
    refine ⟨by k_extra "sz", fun p1 n1 => ?_⟩
    have s1 := s0.trans (same_upd (o := .lst ([.str "TooMany", .str "Full"] : List V)) n1)
    k_extra "rr"
    refine inC (l := ["TooMany", "Full"]) upd_same ?_
    by_cases h1 : code ∈ (["TooMany", "Full"] : List Str)
    · rw [decide_eq_true h1]
      k_extra "rr"
      have ef : fldOf code = some ("most" : Str) := by
        unfold fldOf
        rw [if_neg h0, if_pos h1]
      rcases q with ⟨g, v, e2, hn, hl, k⟩ | ⟨e2, _⟩
      · obtain rfl : g = ("most" : Str) := Option.some.inj (e2.symm.trans ef)
        refine xfI hT hn (s1 _ _ hd) hl rfl ?_
        k_extra "rr"
        exact k _ s1
      · cases e2.symm.trans ef
    rw [decide_eq_false h1]
    k_extra "rr"
    refine xfI hT hnc (s1 _ _ hd) hc rfl ?_
    k_extra "rr"
    refine ⟨by k_extra "sz", fun p2 n2 => ?_⟩
    have s2 := s1.trans (same_upd (o := .lst ([.str "BadName", .str "DuplicateName", .str "WrongKind", .str "UnknownName"] : List V)) n2)
    k_extra "rr"
    refine inC (l := ["BadName", "DuplicateName", "WrongKind", "UnknownName"]) upd_same ?_
    by_cases h2 : code ∈ (["BadName", "DuplicateName", "WrongKind", "UnknownName"] : List Str)
    · rw [decide_eq_true h2]
      k_extra "rr"
      have ef : fldOf code = some ("name" : Str) := by
        unfold fldOf
        rw [if_neg h0, if_neg h1, if_pos h2]
      rcases q with ⟨g, v, e2, hn, hl, k⟩ | ⟨e2, _⟩
      · obtain rfl : g = ("name" : Str) := Option.some.inj (e2.symm.trans ef)
        refine xfI hT hn (s2 _ _ hd) hl rfl ?_
        k_extra "rr"
        exact k _ s2
      · cases e2.symm.trans ef
    rw [decide_eq_false h2]
    k_extra "rr"
    refine xfI hT hnc (s2 _ _ hd) hc rfl ?_
    k_extra "rr"
    by_cases h3 : code = "BadDocument"
    · rw [decide_eq_true h3]
      k_extra "rr"
      have ef : fldOf code = some ("path" : Str) := by
        unfold fldOf
        rw [if_neg h0, if_neg h1, if_neg h2, if_pos h3]
      rcases q with ⟨g, v, e2, hn, hl, k⟩ | ⟨e2, _⟩
      · obtain rfl : g = ("path" : Str) := Option.some.inj (e2.symm.trans ef)
        refine xfI hT hn (s2 _ _ hd) hl rfl ?_
        k_extra "rr"
        exact k _ s2
      · cases e2.symm.trans ef
    rw [decide_eq_false h3]
    k_extra "rr"
    refine xfI hT hnc (s2 _ _ hd) hc rfl ?_
    k_extra "rr"
    by_cases h4 : code = "BadScript"
    · rw [decide_eq_true h4]
      k_extra "rr"
      have ef : fldOf code = some ("line" : Str) := by
        unfold fldOf
        rw [if_neg h0, if_neg h1, if_neg h2, if_neg h3, if_pos h4]
      rcases q with ⟨g, v, e2, hn, hl, k⟩ | ⟨e2, _⟩
      · obtain rfl : g = ("line" : Str) := Option.some.inj (e2.symm.trans ef)
        refine xfI hT hn (s2 _ _ hd) hl rfl ?_
        k_extra "rr"
        exact k _ s2
      · cases e2.symm.trans ef
    rw [decide_eq_false h4]
    k_extra "rr"
    refine xfI hT hnc (s2 _ _ hd) hc rfl ?_
    k_extra "rr"
    by_cases h5 : code = "BadLimit"
    · rw [decide_eq_true h5]
      k_extra "rr"
      have ef : fldOf code = some ("given" : Str) := by
        unfold fldOf
        rw [if_neg h0, if_neg h1, if_neg h2, if_neg h3, if_neg h4, if_pos h5]
      rcases q with ⟨g, v, e2, hn, hl, k⟩ | ⟨e2, _⟩
      · obtain rfl : g = ("given" : Str) := Option.some.inj (e2.symm.trans ef)
        refine xfI hT hn (s2 _ _ hd) hl rfl ?_
        k_extra "rr"
        exact k _ s2
      · cases e2.symm.trans ef
    rw [decide_eq_false h5]
    k_extra "rr"
    refine xfI hT hnc (s2 _ _ hd) hc rfl ?_
    k_extra "rr"
    by_cases h6 : code = "BadCommand"
    · rw [decide_eq_true h6]
      k_extra "rr"
      have ef : fldOf code = some ("word" : Str) := by
        unfold fldOf
        rw [if_neg h0, if_neg h1, if_neg h2, if_neg h3, if_neg h4, if_neg h5, if_pos h6]
      rcases q with ⟨g, v, e2, hn, hl, k⟩ | ⟨e2, _⟩
      · obtain rfl : g = ("word" : Str) := Option.some.inj (e2.symm.trans ef)
        refine xfI hT hn (s2 _ _ hd) hl rfl ?_
        k_extra "rr"
        exact k _ s2
      · cases e2.symm.trans ef
    rw [decide_eq_false h6]
    k_extra "rr"
    refine xfI hT hnc (s2 _ _ hd) hc rfl ?_
    k_extra "rr"
    by_cases h7 : code = "UnknownHand"
    · rw [decide_eq_true h7]
      k_extra "rr"
      have ef : fldOf code = some ("hand" : Str) := by
        unfold fldOf
        rw [if_neg h0, if_neg h1, if_neg h2, if_neg h3, if_neg h4, if_neg h5, if_neg h6, if_pos h7]
      rcases q with ⟨g, v, e2, hn, hl, k⟩ | ⟨e2, _⟩
      · obtain rfl : g = ("hand" : Str) := Option.some.inj (e2.symm.trans ef)
        refine xfI hT hn (s2 _ _ hd) hl rfl ?_
        k_extra "rr"
        exact k _ s2
      · cases e2.symm.trans ef
    rw [decide_eq_false h7]
    k_extra "rr"
    refine xfI hT hnc (s2 _ _ hd) hc rfl ?_
    k_extra "rr"
    by_cases h8 : code = "Quarrel"
    · rw [decide_eq_true h8]
      k_extra "rr"
      have ef : fldOf code = some ("shown" : Str) := by
        unfold fldOf
        rw [if_neg h0, if_neg h1, if_neg h2, if_neg h3, if_neg h4, if_neg h5, if_neg h6, if_neg h7, if_pos h8]
      rcases q with ⟨g, v, e2, hn, hl, k⟩ | ⟨e2, _⟩
      · obtain rfl : g = ("shown" : Str) := Option.some.inj (e2.symm.trans ef)
        refine xfI hT hn (s2 _ _ hd) hl rfl ?_
        k_extra "rr"
        exact k _ s2
      · cases e2.symm.trans ef
    rw [decide_eq_false h8]
    k_extra "rr"
    have ef : fldOf code = none := by
      unfold fldOf
      rw [if_neg h0, if_neg h1, if_neg h2, if_neg h3, if_neg h4, if_neg h5, if_neg h6, if_neg h7, if_neg h8]
    rcases q with ⟨g, v, e2, hn, hl, k⟩ | ⟨_, k⟩
    · cases e2.symm.trans ef
    · exact k _ s2
end

/-! ### _law_why: what it makes of the lambda that it gets -/
/-- no exception: ('', what came); one of the three classes: (its code, its field) -/
def TTwhy (K : PySem.W.Frag) (c1 c2 c3 : Value) : (XK → Hp → VK → Prop) → Hp → VK → Prop := fun tl H Q =>
  tl (fun cls d H1 => PySem.W.exmAny K cls [c1, c2, c3] = some true ∧ ∃ (C dd : Addr) (fs : List (Str × V)) (code : V), cls = .ref C ∧ d = some dd ∧ XfC K C ∧ PySem.W.findIn K (.ref C) "code" = some none ∧ H1 dd = some (.xd fs) ∧ fs.lookup ("code" : Str) = some code ∧
      ∀ a, H1 a = none → spField K a cls d [.ref a] H1 (fun v H2 => ([code, v] : List V).length ≤ sizeLine ∧ ∀ p, H2 p = none → Q (.ref p) (upd H2 p (.tup [code, v]))) E0)
    H fun v H1 => ([V.str "", v] : List V).length ≤ sizeLine ∧ ∀ p, H1 p = none → Q (.ref p) (upd H1 p (.tup [.str "", v]))
section
variable {X : Cx} {K : PySem.W.Frag} {g ff : Addr} {cdg c1 c2 c3 : Value} {q : Str} {ffd : FuncData} {k : Nat}
theorem why_gives (hK : X.K = K) (hr : Room (k + 3) X.A) (N1 : X.mg "GroveError" = some c1) (N2 : X.mg "Missing" = some c2) (N3 : X.mg "NothingLeft" = some c3)
    (F : FnE X.prog X.w K X.mg X.base CX0 1 ff ffd ["_law_e"] (spField K)) (m : X.mg "_law_field" = some (.ref ff)) (hk : PySem.W.keepIn K (.ref ff) = true) (hb : Binds K ffd ["_law_e"] []) :
    LamX.GivesTo X ["_law_ask", "_law_e"] "_law_why" (defScope s_law_why) g cdg (defBody s_law_why) "_law_ask" q (TTwhy K c1 c2 c3) := by
  subst hK
  intro f c' s H Q tl act hc h
  refine ⟨_, pss_one (ps_try_as3 (X := (cxOf C8.CX0 X.prog X.w X.K X.mg X.base ["_law_ask", "_law_e"] "_law_why" (defScope s_law_why) g cdg X.A X.stack s H C8.E0).nox) (i := 1) (c1 := c1) (c2 := c2) (c3 := c3) (n := "_law_e")
    (tb := fun W D σ H => ∃ Ech : XK, (∀ cls d σ' H', Ech cls d H' → W cls d σ' H') ∧ σ[0]? = some (some (.ref f)) ∧ H c' = some (LamX.CodeO c' q) ∧ tl Ech H fun v H1 => ([V.str "", v] : List V).length ≤ sizeLine ∧ ∀ p, H1 p = none → D.rt (.ref p) (upd H1 p (.tup [.str "", v])))
    (ts := fun a cls d => tRet (tTup (tCons (tXfE X.K a cls d "code" (tVar 1)) (tCons (tCE (spField X.K) a cls d (fun _ => E0) (tCons (tVar 1) tNil)) tNil))))
    rfl rfl sc_law_why.nd rfl rfl ⟨rfl, rfl, .inl N1⟩ ⟨rfl, rfl, .inl N2⟩ ⟨rfl, rfl, .inl N3⟩ LamX.takes0 (fun W pn xe tk _ => ?_) (fun a oe cls d pn hz hdat => ?_)), ?_⟩
  · refine ⟨fun pins s' σ H' D I h' => ?_⟩
    obtain ⟨Ech, hW, h1, h2, h3⟩ := h'
    refine' PSs.run ?hq pins s' σ H' D I ?hr
    case hq => exact pss_one (ps_ret (pe_tup (pa_cons pe_str (pa_cons (act W pn xe Ech _ _ tk hW) pa_nil))))
    case hr => exact ⟨h1, h2, h3⟩
  · have hin : (a, oe) ∈ (a, oe) :: pn := List.mem_cons_self ..
    have rm := hr.deeper (PyProof.Rows.envOfC "_law_why" (defScope s_law_why) s.heap.objs.size g cdg)
    have rm1 := rm.mono (j := 1) (by omega)
    exact pss_one (ps_ret (pe_tup (pa_cons (pe_xfE (p := (a, oe)) hz hdat hin (pv 1)) (pa_cons (pe_callE (p := (a, oe)) F ⟨rm1.dp, rm1.un⟩ hz hdat hin (by rfl) m hk hb (fun _ _ _ _ _ _ _ z => z.elim) (pa_cons (pv 1) pa_nil)) pa_nil))))
  · refine ⟨_, fun cls d σ' H' e => ?_, rfl, hc, h⟩
    obtain ⟨e1, C, dd, fs, code, rfl, rfl, hT, hn, hd, hl, k⟩ := e
    refine ⟨true, e1, (fun z => by cases z), fun _ hlen a na => ?_⟩
    have hs : (σ'.set 1 (some (V.ref a)))[1]? = some (some (V.ref a)) := by
      rw [List.getElem?_set_self hlen]
    exact ⟨_, hs, rfl, C, dd, fs, code, rfl, rfl, hT, hn, hd, hl, _, hs, k a na⟩
end

/-! ### data of any depth, apart from the list at b -/
mutual
def Dq (b : Addr) (H : Hp) : PyData → V → Prop
  | .none, v => v = .non
  | .bool c, v => v = .bl c
  | .int i, v => v = .int i
  | .str z, v => v = .str z
  | .list ds, v => ∃ a l, v = .ref a ∧ a ≠ b ∧ H a = some (.lst l) ∧ DqA b H ds l
  | .tuple ds, v => ∃ a l, v = .ref a ∧ H a = some (.tup l) ∧ DqA b H ds l
  | .dict _, _ => False
def DqA (b : Addr) (H : Hp) : List PyData → List V → Prop
  | [], l => l = []
  | d :: r, l => ∃ v m, l = v :: m ∧ Dq b H d v ∧ DqA b H r m
end
/-- tuples stay, and lists other than b's -/
structure Le (b : Addr) (H H' : Hp) : Prop where
  tup : ∀ c xs, H c = some (.tup xs) → H' c = some (.tup xs)
  lst : ∀ c l, c ≠ b → H c = some (.lst l) → H' c = some (.lst l)
theorem Le.refl (b : Addr) (H : Hp) : Le b H H := ⟨fun _ _ h => h, fun _ _ _ h => h⟩
theorem Le.trans {b : Addr} {H H1 H2 : Hp} (s : Le b H H1) (t : Le b H1 H2) : Le b H H2 := ⟨fun c xs h => t.tup c xs (s.tup c xs h), fun c l n h => t.lst c l n (s.lst c l n h)⟩
theorem Le.same {b : Addr} {H H' : Hp} (s : Same H H') : Le b H H' := ⟨fun c xs h => s c _ h, fun c l _ h => s c _ h⟩
theorem Le.but {b : Addr} {H H' : Hp} (s : But b H H') {l : List V} (h : H b = some (.lst l)) : Le b H H' := ⟨fun c xs e => s c _ e fun z => (by
  rw [z, h] at e
  cases e), fun c l n h => s c _ h n⟩
theorem Le.new {b : Addr} {H : Hp} {p : Addr} {o : HO} (h : H p = none) : Le b H (upd H p o) := Le.same (same_upd h)
theorem Le.ext {b : Addr} {H H' : Hp} (s : LamX.ExtN H H') : Le b H H' := ⟨fun c xs h => s c _ h (fun ps z => by cases z), fun c l _ h => s c _ h (fun ps z => by cases z)⟩
mutual
theorem Dq.le {b : Addr} {H H' : Hp} (s : Le b H H') : ∀ {d : PyData} {v : V}, Dq b H d v → Dq b H' d v
  | .none, _, h => by simpa only [Dq] using h
  | .bool _, _, h => by simpa only [Dq] using h
  | .int _, _, h => by simpa only [Dq] using h
  | .str _, _, h => by simpa only [Dq] using h
  | .list ds, _, h => by
    simp only [Dq] at h ⊢
    obtain ⟨a, l, e, n, h1, h2⟩ := h
    exact ⟨a, l, e, n, s.lst a l n h1, DqA.le s h2⟩
  | .tuple ds, _, h => by
    simp only [Dq] at h ⊢
    obtain ⟨a, l, e, h1, h2⟩ := h
    exact ⟨a, l, e, s.tup a l h1, DqA.le s h2⟩
  | .dict _, _, h => by simp only [Dq] at h
theorem DqA.le {b : Addr} {H H' : Hp} (s : Le b H H') : ∀ {ds : List PyData} {l : List V}, DqA b H ds l → DqA b H' ds l
  | [], _, h => by simpa only [DqA] using h
  | d :: r, _, h => by
    simp only [DqA] at h ⊢
    obtain ⟨v, m, e, h1, h2⟩ := h
    exact ⟨v, m, e, Dq.le s h1, DqA.le s h2⟩
end
theorem DqA.len {b : Addr} {H : Hp} : ∀ {ds : List PyData} {l : List V}, DqA b H ds l → l.length = ds.length
  | [], _, h => by
    simp only [DqA] at h
    rw [h]
    rfl
  | d :: r, _, h => by
    simp only [DqA] at h
    obtain ⟨v, m, rfl, h1, h2⟩ := h
    rw [List.length_cons, List.length_cons, h2.len]
theorem DqA.nil {b : Addr} {H : Hp} : DqA b H [] [] := by simp only [DqA]
theorem DqA.cons {b : Addr} {H : Hp} {d : PyData} {ds : List PyData} {v : V} {l : List V} (h : Dq b H d v) (k : DqA b H ds l) : DqA b H (d :: ds) (v :: l) := by
  simp only [DqA]
  exact ⟨v, l, rfl, h, k⟩
theorem DqA.inv {b : Addr} {H : Hp} {d : PyData} {ds : List PyData} {l : List V} (h : DqA b H (d :: ds) l) : ∃ v m, l = v :: m ∧ Dq b H d v ∧ DqA b H ds m := by
  simpa only [DqA] using h
theorem DqA.inv0 {b : Addr} {H : Hp} {l : List V} (h : DqA b H [] l) : l = [] := by
  simpa only [DqA] using h
theorem DqA.app {b : Addr} {H : Hp} : ∀ {ds es : List PyData} {l m : List V}, DqA b H ds l → DqA b H es m → DqA b H (ds ++ es) (l ++ m)
  | [], _, _, _, h, k => by
    rw [h.inv0]
    exact k
  | d :: r, _, _, _, h, k => by
    obtain ⟨v, m, rfl, h1, h2⟩ := h.inv
    exact .cons h1 (h2.app k)
theorem DqA.get {b : Addr} {H : Hp} : ∀ {ds : List PyData} {l : List V} {i : Nat} {v : V}, DqA b H ds l → l[i]? = some v → ∃ d, ds[i]? = some d ∧ Dq b H d v
  | [], _, i, v, h, e => by
    rw [h.inv0] at e
    cases e
  | d :: r, _, 0, v, h, e => by
    obtain ⟨v, m, rfl, h1, h2⟩ := h.inv
    cases e
    exact ⟨d, rfl, h1⟩
  | d :: r, _, i + 1, v, h, e => by
    obtain ⟨v, m, rfl, h1, h2⟩ := h.inv
    exact h2.get (i := i) e
theorem DqA.at {b : Addr} {H : Hp} : ∀ {ds : List PyData} {l : List V} {i : Nat} {d : PyData}, DqA b H ds l → ds[i]? = some d → ∃ v, l[i]? = some v ∧ Dq b H d v
  | [], _, i, v, h, e => by cases e
  | d :: r, _, 0, v, h, e => by
    obtain ⟨v, m, rfl, h1, h2⟩ := h.inv
    cases e
    exact ⟨v, rfl, h1⟩
  | d :: r, _, i + 1, v, h, e => by
    obtain ⟨v, m, rfl, h1, h2⟩ := h.inv
    exact h2.at (i := i) e
theorem DqA.take {b : Addr} {H : Hp} : ∀ {ds : List PyData} {l : List V} (i : Nat), DqA b H ds l → DqA b H (ds.take i) (l.take i)
  | _, _, 0, h => .nil
  | [], _, i + 1, h => by
    rw [h.inv0]
    exact .nil
  | d :: r, _, i + 1, h => by
    obtain ⟨v, m, rfl, h1, h2⟩ := h.inv
    exact .cons h1 (h2.take i)
theorem DqA.drop {b : Addr} {H : Hp} : ∀ {ds : List PyData} {l : List V} (i : Nat), DqA b H ds l → DqA b H (ds.drop i) (l.drop i)
  | _, _, 0, h => h
  | [], _, i + 1, h => by
    rw [h.inv0]
    exact .nil
  | d :: r, _, i + 1, h => by
    obtain ⟨v, m, rfl, h1, h2⟩ := h.inv
    exact h2.drop i
theorem DqA.rev {b : Addr} {H : Hp} : ∀ {ds : List PyData} {l : List V}, DqA b H ds l → DqA b H ds.reverse l.reverse
  | [], _, h => by
    rw [h.inv0]
    exact .nil
  | d :: r, _, h => by
    obtain ⟨v, m, rfl, h1, h2⟩ := h.inv
    rw [List.reverse_cons, List.reverse_cons]
    exact h2.rev.app (.cons h1 .nil)
/-! as plain data; kinds; equal and alike -/
mutual
theorem Dq.dp {K : PySem.W.Frag} {b : Addr} {H : Hp} : ∀ {d : PyData} {v : V}, Dq b H d v → Dp K H v d
  | .none, _, h => by
    simp only [Dq] at h
    exact h ▸ .non
  | .bool _, _, h => by
    simp only [Dq] at h
    exact h ▸ .bl _
  | .int _, _, h => by
    simp only [Dq] at h
    exact h ▸ .int _
  | .str _, _, h => by
    simp only [Dq] at h
    exact h ▸ .str _
  | .list ds, _, h => by
    simp only [Dq] at h
    obtain ⟨a, l, rfl, n, h1, h2⟩ := h
    exact .lst (SqL.of h1) (DqA.dp h2)
  | .tuple ds, _, h => by
    simp only [Dq] at h
    obtain ⟨a, l, rfl, h1, h2⟩ := h
    exact .tup (SqT.of h1) (DqA.dp h2)
  | .dict _, _, h => by simp only [Dq] at h
theorem DqA.dp {K : PySem.W.Frag} {b : Addr} {H : Hp} : ∀ {ds : List PyData} {l : List V}, DqA b H ds l → DpAll K H l ds
  | [], _, h => by
    rw [h.inv0]
    exact .nil
  | d :: r, _, h => by
    obtain ⟨v, m, rfl, h1, h2⟩ := h.inv
    exact .cons (Dq.dp h1) (DqA.dp h2)
end
def tyN : PyData → String
  | .none => "NoneType"
  | .bool _ => "bool"
  | .int _ => "int"
  | .str _ => "str"
  | .list _ => "list"
  | .tuple _ => "tuple"
  | .dict _ => "dict"
theorem Dq.ty {K : PySem.W.Frag} {b : Addr} {H : Hp} : ∀ {d : PyData} {v : V}, Dq b H d v → TyX K H v (.type (tyN d))
  | .none, _, h => by
    simp only [Dq] at h
    exact h ▸ .base .non
  | .bool _, _, h => by
    simp only [Dq] at h
    exact h ▸ .base (.bl _)
  | .int _, _, h => by
    simp only [Dq] at h
    exact h ▸ .base (.int _)
  | .str _, _, h => by
    simp only [Dq] at h
    exact h ▸ .base (.str _)
  | .list ds, _, h => by
    simp only [Dq] at h
    obtain ⟨a, l, rfl, n, h1, h2⟩ := h
    exact .base (.lst h1)
  | .tuple ds, _, h => by
    simp only [Dq] at h
    obtain ⟨a, l, rfl, h1, h2⟩ := h
    exact .base (.tup h1)
  | .dict _, _, h => by simp only [Dq] at h
def isT : PyData → Bool
  | .tuple _ => true
  | _ => false
def isS : PyData → Bool
  | .str _ => true
  | _ => false
theorem kit_isT : ∀ d : PyData, kitB (tyN d) "tuple" = some (isT d)
  | .none => kB_NoneType_tuple
  | .bool _ => kB_bool_tuple
  | .int _ => kB_int_tuple
  | .str _ => kB_str_tuple
  | .list _ => kB_list_tuple
  | .tuple _ => kB_tuple_tuple
  | .dict _ => kB_dict_tuple
theorem kit_isS : ∀ d : PyData, kitB (tyN d) "str" = some (isS d)
  | .none => kB_NoneType_str
  | .bool _ => kB_bool_str
  | .int _ => kB_int_str
  | .str _ => kB_str_str
  | .list _ => kB_list_str
  | .tuple _ => kB_tuple_str
  | .dict _ => kB_dict_str
/-- the value, for one that is a text -/
def vOf : PyData → V
  | .str z => .str z
  | _ => .non
theorem Dq.tup {b : Addr} {H : Hp} {ds : List PyData} {v : V} (h : Dq b H (.tuple ds) v) : ∃ a l, v = .ref a ∧ H a = some (.tup l) ∧ DqA b H ds l := by simpa only [Dq] using h
theorem Dq.tup_mk {b : Addr} {H : Hp} {ds : List PyData} {a : Addr} {l : List V} (h : H a = some (.tup l)) (k : DqA b H ds l) : Dq b H (.tuple ds) (.ref a) := by
  simp only [Dq]
  exact ⟨a, l, rfl, h, k⟩
theorem Dq.lst_mk {b : Addr} {H : Hp} {ds : List PyData} {a : Addr} {l : List V} (n : a ≠ b) (h : H a = some (.lst l)) (k : DqA b H ds l) : Dq b H (.list ds) (.ref a) := by
  simp only [Dq]
  exact ⟨a, l, rfl, n, h, k⟩
theorem Dq.str_mk {b : Addr} {H : Hp} (z : Str) : Dq b H (.str z) (.str z) := by simp only [Dq]
theorem Dq.int_mk {b : Addr} {H : Hp} (i : Int) : Dq b H (.int i) (.int i) := by simp only [Dq]
theorem Dq.non_mk {b : Addr} {H : Hp} : Dq b H .none .non := by simp only [Dq]
theorem Dq.bl_mk {b : Addr} {H : Hp} (c : Bool) : Dq b H (.bool c) (.bl c) := by simp only [Dq]
/-! good data: texts of signs as documents have them, and line feeds -/
def OkC (c : Nat) : Prop := (32 ≤ c ∧ c ≤ 126) ∨ c = 10
instance : DecidablePred OkC := fun c => inferInstanceAs (Decidable ((32 ≤ c ∧ c ≤ 126) ∨ c = 10))
def gS (z : Str) : Bool := decide (z.length ≤ 1000) && z.cps.toList.all fun c => decide (OkC c)
mutual
def gD : PyData → Bool
  | .none => true
  | .bool _ => true
  | .int _ => true
  | .str z => gS z
  | .list ds => gA ds
  | .tuple ds => gA ds
  | .dict _ => false
def gA : List PyData → Bool
  | [] => true
  | d :: r => gD d && gA r
end
theorem gA_mem : ∀ {ds : List PyData} {d : PyData}, gA ds = true → d ∈ ds → gD d = true
  | x :: r, d, h, m => by
    simp only [gA, Bool.and_eq_true] at h
    rcases List.mem_cons.mp m with rfl | m
    · exact h.1
    · exact gA_mem h.2 m
theorem gA_app : ∀ {ds es : List PyData}, gA (ds ++ es) = (gA ds && gA es)
  | [], _ => by simp only [gA, List.nil_append, Bool.true_and]
  | x :: r, es => by
    simp only [gA, List.cons_append, gA_app (ds := r), Bool.and_assoc]
theorem gA_of {ds : List PyData} (h : ∀ d ∈ ds, gD d = true) : gA ds = true := by
  induction ds with
  | nil => simp only [gA]
  | cons x r ih =>
    simp only [gA, Bool.and_eq_true]
    exact ⟨h x List.mem_cons_self, ih fun d m => h d (List.mem_cons_of_mem _ m)⟩
theorem gS_ok {z : Str} (h : gS z = true) : (z.length ≤ 1000) ∧ ∀ c ∈ z.cps.toList, OkC c := by
  unfold gS at h
  simp only [Bool.and_eq_true, decide_eq_true_eq, List.all_eq_true] at h
  exact h
theorem strOk_gS {z : Str} (h : gS z = true) : PyData.strOk z = true := by
  obtain ⟨_, h⟩ := gS_ok h
  unfold PyData.strOk
  rw [← Array.all_toList]
  refine List.all_eq_true.mpr fun c hc => ?_
  have := h c hc
  unfold OkC at this
  exact decide_eq_true (by omega)
mutual
theorem lay_gD : ∀ {d : PyData}, gD d = true → PyData.canLay0 d = true
  | .none, _ => by simp only [PyData.canLay0]
  | .bool _, _ => by simp only [PyData.canLay0]
  | .int _, _ => by simp only [PyData.canLay0]
  | .str z, h => by
    simp only [gD] at h
    simp only [PyData.canLay0]
    exact strOk_gS h
  | .list ds, h => by
    simp only [gD] at h
    simp only [PyData.canLay0]
    exact lay_gA h
  | .tuple ds, h => by
    simp only [gD] at h
    simp only [PyData.canLay0]
    exact lay_gA h
  | .dict _, h => by
    simp only [gD] at h
    cases h
theorem lay_gA : ∀ {ds : List PyData}, gA ds = true → PyData.canLayAll0 ds = true
  | [], _ => by simp only [PyData.canLayAll0]
  | d :: r, h => by
    simp only [gA, Bool.and_eq_true] at h
    simp only [PyData.canLayAll0, Bool.and_eq_true]
    exact ⟨lay_gD h.1, lay_gA h.2⟩
end
theorem shaped_gD {d : PyData} (h : gD d = true) (hd : d.depth ≤ 64) : SeqAt.shaped d = true := by
  unfold SeqAt.shaped
  rw [lay_gD h, decide_eq_true hd]
  rfl
theorem Dq.strOr {K : PySem.W.Frag} {b : Addr} {H : Hp} {d : PyData} {v : V} (h : Dq b H d v) (g : gD d = true) : StrOr K H v := by
  cases d with
  | str z =>
    simp only [Dq] at h
    simp only [gD] at g
    refine .inl ⟨z.cps.toList, ?_, ?_⟩
    · rw [h, SX.S_tl]
    · have := (gS_ok g).1
      have e : z.length = z.cps.toList.length := by simp [Str.length]
      omega
  | none =>
    have t := h.ty (K := K)
    simp only [Dq] at h
    subst h
    exact .inr ⟨fun z e => (by cases e), _, t, kB_NoneType_str⟩
  | bool c =>
    have t := h.ty (K := K)
    simp only [Dq] at h
    subst h
    exact .inr ⟨fun z e => (by cases e), _, t, kB_bool_str⟩
  | int c =>
    have t := h.ty (K := K)
    simp only [Dq] at h
    subst h
    exact .inr ⟨fun z e => (by cases e), _, t, kB_int_str⟩
  | list ds =>
    have t := h.ty (K := K)
    simp only [Dq] at h
    obtain ⟨a, l, rfl, _⟩ := h
    exact .inr ⟨fun z e => (by cases e), _, t, kB_list_str⟩
  | tuple ds =>
    have t := h.ty (K := K)
    simp only [Dq] at h
    obtain ⟨a, l, rfl, _⟩ := h
    exact .inr ⟨fun z e => (by cases e), _, t, kB_tuple_str⟩
  | dict _ => simp only [Dq] at h
theorem Dq.isS {b : Addr} {H : Hp} {d : PyData} {v : V} (h : Dq b H d v) : (isS d = true ∧ ∃ z, d = .str z ∧ v = .str z) ∨ (isS d = false ∧ ∀ z, v ≠ .str z) := by
  cases d <;> simp only [Dq] at h
  case str z => exact .inl ⟨rfl, z, rfl, h⟩
  case list ds =>
    obtain ⟨a, l, rfl, _⟩ := h
    exact .inr ⟨rfl, fun z e => by cases e⟩
  case tuple ds =>
    obtain ⟨a, l, rfl, _⟩ := h
    exact .inr ⟨rfl, fun z e => by cases e⟩
  all_goals exact .inr ⟨rfl, fun z e => by rw [h] at e; cases e⟩
theorem Dq.word {b : Addr} {H : Hp} {d : PyData} {v : V} (h : Dq b H d v) (n : Int) : wordB v n = wordB (vOf d) n := by
  rcases h.isS with ⟨_, z, rfl, rfl⟩ | ⟨e, k⟩
  · rfl
  · rw [wordB_no k, wordB_no]
    cases d <;> first | (intro z q; cases q; done) | cases e
theorem Dq.text {b : Addr} {H : Hp} {d : PyData} {v : V} (h : Dq b H d v) : textB v = textB (vOf d) := by
  rcases h.isS with ⟨_, z, rfl, rfl⟩ | ⟨e, k⟩
  · rfl
  · rw [textB_no k, textB_no]
    cases d <;> first | (intro z q; cases q; done) | cases e
/-! sizes -/
mutual
def sz : PyData → Nat
  | .none => 1
  | .bool _ => 1
  | .int _ => 1
  | .str _ => 1
  | .list ds => 1 + szA ds
  | .tuple ds => 1 + szA ds
  | .dict _ => 1
def szA : List PyData → Nat
  | [] => 0
  | d :: r => sz d + szA r
end
theorem sz_pos : ∀ d : PyData, 1 ≤ sz d := fun d => by cases d <;> simp only [sz] <;> omega
theorem szA_len : ∀ ds : List PyData, ds.length ≤ szA ds
  | [] => Nat.zero_le _
  | d :: r => by
    have := szA_len r
    have := sz_pos d
    simp only [szA, List.length_cons]
    omega
theorem szA_mem : ∀ {ds : List PyData} {d : PyData}, d ∈ ds → sz d ≤ szA ds
  | x :: r, d, m => by
    simp only [szA]
    rcases List.mem_cons.mp m with rfl | m
    · omega
    · have := szA_mem m
      omega
theorem szA_app : ∀ {ds es : List PyData}, szA (ds ++ es) = szA ds + szA es
  | [], _ => by simp only [szA, List.nil_append]; omega
  | x :: r, es => by
    simp only [szA, List.cons_append, szA_app (ds := r)]
    omega
/-- two values of one datum are alike -/
theorem Dq.alk {K : PySem.W.Frag} {b b' : Addr} {H : Hp} : ∀ (n : Nat) {d : PyData} {v u : V}, d.depth ≤ n → sz d ≤ 100000 → Dq b H d v → Dq b' H d u → Alk K H (n + 1) v u := by
  intro n
  induction n with
  | zero =>
    intro d v u hd hs h k
    cases d <;> simp only [Dq] at h k
    all_goals first
      | (rw [h, k]; exact .inl ⟨rfl, rfl⟩)
      | (simp only [PyData.depth] at hd; omega)
  | succ n ih =>
    intro d v u hd hs h k
    cases d <;> simp only [Dq] at h k
    case list ds =>
      obtain ⟨a, l, rfl, _, h1, h2⟩ := h
      obtain ⟨a', l', rfl, _, k1, k2⟩ := k
      simp only [PyData.depth] at hd
      simp only [sz] at hs
      refine .inr ⟨a, a', l, l', rfl, rfl, .inl ⟨SqL.of h1, SqL.of k1⟩, by rw [h2.len, k2.len], by have := szA_len ds; have := h2.len; omega, fun i x y hx hy => ?_⟩
      obtain ⟨d1, e1, f1⟩ := h2.get hx
      obtain ⟨d2, e2, f2⟩ := k2.get hy
      obtain rfl : d1 = d2 := Option.some.inj (e1.symm.trans e2)
      have m := List.mem_of_getElem? e1
      exact ih (by have := PyData.depth_le_depthAll _ _ m; omega) (by have := szA_mem m; omega) f1 f2
    case tuple ds =>
      obtain ⟨a, l, rfl, h1, h2⟩ := h
      obtain ⟨a', l', rfl, k1, k2⟩ := k
      simp only [PyData.depth] at hd
      simp only [sz] at hs
      refine .inr ⟨a, a', l, l', rfl, rfl, .inr ⟨SqT.of h1, SqT.of k1⟩, by rw [h2.len, k2.len], by have := szA_len ds; have := h2.len; omega, fun i x y hx hy => ?_⟩
      obtain ⟨d1, e1, f1⟩ := h2.get hx
      obtain ⟨d2, e2, f2⟩ := k2.get hy
      obtain rfl : d1 = d2 := Option.some.inj (e1.symm.trans e2)
      have m := List.mem_of_getElem? e1
      exact ih (by have := PyData.depth_le_depthAll _ _ m; omega) (by have := szA_mem m; omega) f1 f2
    all_goals (rw [h, k]; exact .inl ⟨rfl, rfl⟩)
theorem DqA.unsnoc {b : Addr} {H : Hp} {d : PyData} : ∀ {ds : List PyData} {l : List V}, DqA b H (ds ++ [d]) l → ∃ m v, l = m ++ [v] ∧ DqA b H ds m ∧ Dq b H d v
  | [], _, h => by
    obtain ⟨v, m, rfl, h1, h2⟩ := h.inv
    rw [h2.inv0]
    exact ⟨[], v, rfl, .nil, h1⟩
  | x :: r, _, h => by
    obtain ⟨v, m, rfl, h1, h2⟩ := h.inv
    obtain ⟨m2, v2, rfl, h3, h4⟩ := h2.unsnoc
    exact ⟨v :: m2, v2, rfl, .cons h1 h3, h4⟩
theorem shaped_lst {ds : List PyData} (g : gA ds = true) (hd : ∀ d ∈ ds, d.depth ≤ 63) : SeqAt.shaped (.list ds) = true := by
  have e : PyData.depthAll ds ≤ 63 := by
    clear g
    induction ds with
    | nil => simp [PyData.depthAll]
    | cons x r ih =>
      have h1 := hd x List.mem_cons_self
      have h2 := ih fun d m => hd d (List.mem_cons_of_mem _ m)
      simp only [PyData.depthAll]
      omega
  refine shaped_gD (by simpa only [gD] using g) ?_
  simp only [PyData.depth]
  omega
/-- a path: ints in a tuple -/
def pathD (p : List Int) : PyData := .tuple (p.map PyData.int)
theorem DqA.ints {b : Addr} {H : Hp} : ∀ (p : List Int), DqA b H (p.map PyData.int) (p.map V.int)
  | [] => .nil
  | i :: r => .cons (Dq.int_mk i) (DqA.ints r)
theorem DqA.ints_inv {b : Addr} {H : Hp} : ∀ {p : List Int} {l : List V}, DqA b H (p.map PyData.int) l → l = p.map V.int
  | [], _, h => h.inv0
  | i :: r, _, h => by
    obtain ⟨v, m, rfl, h1, h2⟩ := h.inv
    simp only [Dq] at h1
    rw [h1, h2.ints_inv]
    rfl
theorem gA_ints : ∀ p : List Int, gA (p.map PyData.int) = true
  | [] => by simp only [List.map_nil, gA]
  | i :: r => by simp only [List.map_cons, gA, gD, gA_ints r, Bool.and_self]
theorem depth_path (p : List Int) : (pathD p).depth = 1 := by
  unfold pathD
  have e : ∀ q : List Int, PyData.depthAll (q.map PyData.int) = 0 := fun q => by
    induction q with
    | nil => simp [PyData.depthAll]
    | cons i r ih => simp only [List.map_cons, PyData.depthAll, ih, PyData.depth, Nat.max_self]
  simp only [PyData.depth, e]
theorem sz_path (p : List Int) : sz (pathD p) = 1 + p.length := by
  unfold pathD
  have e : ∀ q : List Int, szA (q.map PyData.int) = q.length := fun q => by
    induction q with
    | nil => rfl
    | cons i r ih =>
      simp only [List.map_cons, szA, ih, sz, List.length_cons]
      omega
  simp only [sz, e]
theorem Le.set {b : Addr} {H : Hp} {l m : List V} (h : H b = some (.lst l)) : Le b H (upd H b (.lst m)) := by
  refine ⟨fun c xs e => ?_, fun c l n e => ?_⟩
  · rw [upd_ne fun z => ?_]
    · exact e
    · rw [z, h] at e
      cases e
  · rw [upd_ne n]
    exact e
mutual
/-- what is not there is no part of it -/
theorem Dq.free {b x : Addr} {H : Hp} (n : H x = none) : ∀ {d : PyData} {v : V}, Dq b H d v → Dq x H d v
  | .none, _, h => by simpa only [Dq] using h
  | .bool _, _, h => by simpa only [Dq] using h
  | .int _, _, h => by simpa only [Dq] using h
  | .str _, _, h => by simpa only [Dq] using h
  | .list ds, _, h => by
    simp only [Dq] at h ⊢
    obtain ⟨a, l, e, _, h1, h2⟩ := h
    exact ⟨a, l, e, ne_of_none h1 n, h1, DqA.free n h2⟩
  | .tuple ds, _, h => by
    simp only [Dq] at h ⊢
    obtain ⟨a, l, e, h1, h2⟩ := h
    exact ⟨a, l, e, h1, DqA.free n h2⟩
  | .dict _, _, h => by simp only [Dq] at h
theorem DqA.free {b x : Addr} {H : Hp} (n : H x = none) : ∀ {ds : List PyData} {l : List V}, DqA b H ds l → DqA x H ds l
  | [], _, h => by simpa only [DqA] using h
  | d :: r, _, h => by
    simp only [DqA] at h ⊢
    obtain ⟨v, m, e, h1, h2⟩ := h
    exact ⟨v, m, e, Dq.free n h1, DqA.free n h2⟩
end

/-! ### _law_why(lambda: ..) -/
structure WhyC (P : Program) (w : World) (K : PySem.W.Frag) (mg : Str → Option Value) (base : Heap) (c1 c2 c3 : Value) : Prop where
  ex : ∃ (g : Addr) (fd : FuncData), Fun K "_law_why" "_law_why" s_law_why g fd ∧ mg "_law_why" = some (.ref g) ∧ PySem.W.keepIn K (.ref g) = true ∧ Binds K fd ["_law_ask"] []
  N1 : mg "GroveError" = some c1
  N2 : mg "Missing" = some c2
  N3 : mg "NothingLeft" = some c3
  F : ∃ (ff : Addr) (ffd : FuncData), FnE P w K mg base CX0 1 ff ffd ["_law_e"] (spField K) ∧ mg "_law_field" = some (.ref ff) ∧ PySem.W.keepIn K (.ref ff) = true ∧ Binds K ffd ["_law_e"] []
theorem pe_why {X : Cx} {c1 c2 c3 : Value} {c P : Addr} {j : Nat} {params : Arguments} {body : Expr} {scope : Scope} {t : XK → TE} {p lpos pos : Pos} (k : Nat) (hW : WhyC X.prog X.w X.K X.mg X.base c1 c2 c3) (TB : LamX.TabB X.base X.mg c P) (hcode : X.env.code = .ref c) (hr : Room j X.A) (hk : k + 3 ≤ j) (L : LamX.LamS X.env.scope scope)
    (hbind : ∀ (q : Str) (cl : List (Str × Addr)) (pm cv ctv : Value), bindArgs (PySem.W.kla_fn "<lambda>" q params body scope cl pm cv ctv) ⟨[], []⟩ = pure [])
    (hbody : ∀ (A : Around) (outer : List Env) (s : Shared) (H : Hp) (E : XK) (f c' : Addr), Room k (A.deeper (LamX.lamEnv X scope s.heap.objs.size f c')) → PE (LamX.lamCx X A outer s H E scope f c') body (t E))
    (hg : Gl X "_law_why" := by rfl) (hdef : defaultsOf params X.env = ([], []) := by rfl) :
    PE X (.Call (.Name "_law_why" p) [.Lambda params body scope lpos] [] pos) (LamX.tLam [(P, X.env.qual ++ "<lambda>")] (TTwhy X.K c1 c2 c3) t) := by
  obtain ⟨g, fd, F, mW, kW, bW⟩ := hW.ex
  obtain ⟨oc, od, kV, doc, pm, an, cdv, ct, osl, rfl, lk, hcd⟩ := F.ex
  obtain ⟨ff, ffd, FF, mF, kF, bF⟩ := hW.F
  exact LamX.pe_lamcall (T := [(P, X.env.qual ++ "<lambda>")]) (Ng := ["_law_ask", "_law_e"]) (a := "_law_ask") hg mW kW lk hcd bW sc_law_why rfl (.inl rfl) (why_gives (k := k) rfl (hr.mono hk) hW.N1 hW.N2 hW.N3 FF mF kF bF) TB hcode (List.mem_singleton.mpr rfl)
    (fun p hp _ => by rw [List.mem_singleton.mp hp]) (hr.mono (by omega)) L hdef hbind hbody
/-- what such a call wishes of an exception -/
def whyX (K : PySem.W.Frag) (c1 c2 c3 : Value) (Q : VK) : XK := fun cls d H1 => PySem.W.exmAny K cls [c1, c2, c3] = some true ∧ ∃ (C dd : Addr) (fs : List (Str × V)) (code : V), cls = .ref C ∧ d = some dd ∧ XfC K C ∧ PySem.W.findIn K (.ref C) "code" = some none ∧ H1 dd = some (.xd fs) ∧ fs.lookup ("code" : Str) = some code ∧
      ∀ a, H1 a = none → spField K a cls d [.ref a] H1 (fun v H2 => ([code, v] : List V).length ≤ sizeLine ∧ ∀ p, H2 p = none → Q (.ref p) (upd H2 p (.tup [code, v]))) E0
def ErrAt (H : Hp) (d : Addr) (fld code : Str) (v : V) : Prop := H d = some (.xd [(fld, v), (("code" : Str), V.str code)])
theorem why_ {K : PySem.W.Frag} {c1 c2 c3 : Value} {T : List (Addr × Str)} {t : XK → TE} {σ : St} {H : Hp} {Q : VK} (hT : LamX.Tabs T H) (q : ∀ H1, LamX.ExtN H H1 → LamX.Tabs T H1 → t (whyX K c1 c2 c3 Q) σ H1 fun v H2 => ([V.str "", v] : List V).length ≤ sizeLine ∧ ∀ p, H2 p = none → Q (.ref p) (upd H2 p (.tup [.str "", v]))) :
    LamX.tLam T (TTwhy K c1 c2 c3) t σ H Q := ⟨hT, q⟩
theorem why_x {K : PySem.W.Frag} {c1 c2 c3 : Value} {C dd : Addr} {fld code : Str} {v : V} {H1 : Hp} {Q : VK} (exm : PySem.W.exmAny K (.ref C) [c1, c2, c3] = some true) (xf : XfC K C) (n1 : PySem.W.findIn K (.ref C) "code" = some none) (n2 : PySem.W.findIn K (.ref C) fld = some none)
    (hc : fldOf code = some fld) (hne : (("code" : Str) == fld) = false) (hd : ErrAt H1 dd fld code v) (q : ∀ p H2, Same H1 H2 → H2 p = some (.tup [.str code, v]) → Q (.ref p) H2) : whyX K c1 c2 c3 Q (.ref C) (some dd) H1 := by
  have e1 : List.lookup ("code" : Str) [(fld, v), (("code" : Str), V.str code)] = some (V.str code) := by
    simp [List.lookup, hne]
  have e2 : List.lookup fld [(fld, v), (("code" : Str), V.str code)] = some v := by simp [List.lookup]
  refine ⟨exm, C, dd, _, _, rfl, rfl, xf, n1, hd, e1, fun a na => ?_⟩
  exact ⟨C, dd, _, code, rfl, rfl, rfl, xf, hd, e1, n1, .inl ⟨fld, v, hc, n2, e2, fun H' s => ⟨Nat.le_of_ble_eq_true rfl, fun p np => q p _ (s.trans (same_upd np)) upd_same⟩⟩⟩
theorem ext_lst {H H1 : Hp} {a : Addr} {l : List V} (e : LamX.ExtN H H1) (h : H a = some (.lst l)) : H1 a = some (.lst l) := e a _ h fun ps z => by cases z
theorem BagAt.ext {H H' : Hp} {b r : Addr} (h : BagAt H b r) (e : LamX.ExtN H H') : BagAt H' b r := by
  obtain ⟨ns, i, c, m, h1, h2, h3⟩ := h
  exact ⟨ns, i, c, m, ext_lst e h1, ext_lst e h2, h3⟩
/-! ### an own error is made and raised -/
theorem ini_ok {K : PySem.W.Frag} {code fld : Str} {C a : Addr} {v : V} {H1 : Hp} {Ex : XK} (T : OexC K C) (n1 : PySem.W.findIn K (.ref C) "code" = some none) (n2 : PySem.W.findIn K (.ref C) fld = some none) (na : H1 a = none)
    (k : ∀ d H', Same H1 H' → H' d = some (.xd [(fld, v), (("code" : Str), V.str code)]) → Ex (.ref C) (some d) H') :
    spIni K code fld [.ref a, v] (upd H1 a (exo a C none)) (fun r H2 => r = .non ∧ ∃ (d : Addr) (fs : List (Str × V)), H2 a = some (exo a C (some d)) ∧ H2 d = some (exd d fs) ∧ H1 d = none ∧ Ex (.ref C) (some d) (upd (del H2 a) d (.xd fs))) (fun _ _ _ => False) := by
  refine ⟨a, C, v, rfl, T, n1, n2, upd_same, fun d H' nd ne h1 h2 kp => ⟨rfl, d, _, h1, h2, un0 nd, k d _ (fun b o hb => ?_) upd_same⟩⟩
  have nbd : b ≠ d := ne_of_none hb (un0 nd)
  have nba : b ≠ a := ne_of_none hb na
  rw [upd_ne nbd, del_ne nba]
  exact kp b o (by rw [upd_ne nba]; exact hb) nba

/-! ### _law_why(x), x a lambda value of this def that captures nothing (the call may stand within a comprehension) -/
structure Known (P : Program) (w : World) (K : PySem.W.Frag) (mg : Str → Option Value) (base : Heap) (N : List Str) (q : Str) (k : Nat) (F : LamV.LK) (HD : Hp → Prop) (t : XK → TE) : Prop where
  L : ∃ ps, ∀ sc, LamV.LamN N sc F.scope ps
  q : F.qual = q ++ "<lambda>"
  clo : F.clo = []
  cl0 : ∀ cells, cloFrom cells F.scope.names [] = []
  bind : LamV.BindL F HD
  body : ∀ (X : Cx), X.prog = P → X.w = w → X.K = K → X.mg = mg → X.base = base → ∀ (A : Around) (outer : List Env) (s : Shared) (H : Hp) (E : XK) (f : Addr), Room k (A.deeper (LamX.lamEnv X F.scope s.heap.objs.size f F.code)) → PE (LamX.lamCx X A outer s H E F.scope f F.code) F.body (t E)
def tWhyV (P : Program) (w : World) (K : PySem.W.Frag) (mg : Str → Option Value) (base : Heap) (N : List Str) (q : Str) (k : Nat) (TT : (XK → Hp → VK → Prop) → Hp → VK → Prop) (te : TE) : TE := fun σ H Q => te σ H fun x H1 => ∃ (f : Addr) (F : LamV.LK) (HD : Hp → Prop) (t : XK → TE), ([x] : List V) = [.ref f] ∧ Known P w K mg base N q k F HD t ∧ H1 F.code = some (LamX.CodeO F.code F.qual) ∧ H1 f = some (LamV.LamO f F) ∧ HD H1 ∧
  TT (fun E H' Q' => H' f = some (LamV.LamO f F) ∧ HD H' ∧ t E σ H' Q') H1 Q
theorem pe_whyV {X : Cx} {P : Program} {w : World} {K : PySem.W.Frag} {mg : Str → Option Value} {base : Heap} {c1 c2 c3 : Value} {j : Nat} {e : Expr} {te : TE} {p pos : Pos} (N : List Str) (q : Str) (k : Nat) (hW : WhyC P w K mg base c1 c2 c3) (hr : Room j X.A) (hk : k + 3 ≤ j) (hg : Gl X "_law_why") (he : PE X e te)
    (e1 : X.prog = P := by rfl) (e2 : X.w = w := by rfl) (e3 : X.K = K := by rfl) (e4 : X.mg = mg := by rfl) (e5 : X.base = base := by rfl) (e6 : X.N = N := by rfl) (e7 : X.env.qual = q := by rfl)
    (hdb : (("_law_why" : Str) == ("__debug__" : Str)) = false := by decide) (hst : starEach [e] X.env = (false, eval e X.env) :: starEach [] X.env := by rfl) (hpl : (backTo pos (starEach [] X.env)).any (·.1) = false := by rfl) :
    PE X (.Call (.Name "_law_why" p) [e] [] pos) (tWhyV P w K mg base N q k (TTwhy K c1 c2 c3) te) := by
  subst e1 e2 e3 e4 e5 e6 e7
  obtain ⟨g, fd, F0, mW, kW, bW⟩ := hW.ex
  obtain ⟨oc, od, kV, doc, pm, an, cdv, ct, osl, rfl, lk, hcd⟩ := F0.ex
  obtain ⟨ff, ffd, FF, mF, kF, bF⟩ := hW.F
  constructor
  intro pins z σ H Q I h
  refine wpAny_Call_Name_kw (ld_glob I hg mW ?_ hdb)
  have args := (pa_cons he pa_nil hst).run pos pins z σ H (fun vs H1 => ∃ (f : Addr) (F : LamV.LK) (HD : Hp → Prop) (t : XK → TE), vs = [.ref f] ∧ Known X.prog X.w X.K X.mg X.base X.N X.env.qual k F HD t ∧ H1 F.code = some (LamX.CodeO F.code F.qual) ∧ H1 f = some (LamV.LamO f F) ∧ HD H1 ∧ TTwhy X.K c1 c2 c3 (fun E H' Q' => H' f = some (LamV.LamO f F) ∧ HD H' ∧ t E σ H' Q') H1 Q) I
  refine PySem.W.callWith_K (h₀ := X.base) I.ok.mod.kin kW (thn (args ?_) fun us z1 got => ?_) hst hpl
  · exact h
  obtain ⟨vs, H1, J, rel, f, F, HD, t, rfl, kn, code, lam, dflt, promise⟩ := got
  match us, rel with
  | [_], .cons r .nil =>
  cases r
  refine ⟨J.kIn, ?_⟩
  have runs : codeAny (model X.prog X.w) X.A (.call (.ref g) ⟨[.ref f], []⟩) (CR C8.CX0 X.stack X.prog X.w H1 z1 Q C8.E0) z1 := by
    refine LamX.run_ofS (N := ["_law_ask", "_law_e"]) (ps := ["_law_ask"]) (us := [.ref f]) (vs := [.ref f]) lk hcd sc_law_why (hr.mono (show k + 2 ≤ j by omega)) J.env0 (bW z1 [.ref f] J.kIn rfl) (.cons rfl .nil) rfl fun room => ?_
    obtain ⟨ps, L⟩ := kn.L
    have clo : F.clo = cloFrom X.env.cells F.scope.names [] := kn.clo.trans (kn.cl0 _).symm
    obtain ⟨t', ht', now⟩ := why_gives (K := X.K) (c1 := c1) (c2 := c2) (c3 := c3) (q := F.qual) (k := k) rfl (hr.mono hk) hW.N1 hW.N2 hW.N3 FF mF kF bF f F.code z1 H1 Q (fun E H' Q' => H' f = some (LamV.LamO f F) ∧ HD H' ∧ t E σ H' Q')
      (fun W pn xe E p1 p2 tk hWW => LamV.pe_actV (i := 0) J (L _) kn.q clo kn.bind tk hWW room (fun A outer s H hr2 => kn.body X rfl rfl rfl rfl rfl A outer s H E f hr2) rfl (.inl rfl)) code promise
    exact ⟨t', ht'.nox, now⟩
  refine wpAny_call (codeAny_mono runs fun r z2 done => ?_)
  match r, done with
  | .ok (.ret u2), done => exact J.after done

/-! ### is_shape -/
def sizesT : List (Str × V) := [("one", .int 2), ("within", .int 3), ("ahead", .int 3)]
def sizeN (z : Str) : Int := if z = "one" then 2 else if z = "within" then 3 else if z = "ahead" then 3 else 0
theorem sizes_get (z : Str) : (sizesT.lookup z).getD (.int 0) = .int (sizeN z) := by
  unfold sizesT sizeN
  by_cases h1 : z = "one"
  · subst h1
    simp [List.lookup]
  have n1 : (z == ("one" : Str)) = false := by simpa using h1
  by_cases h2 : z = "within"
  · subst h2
    simp only [List.lookup, n1, beq_self_eq_true, if_neg h1, if_true]
    rfl
  have n2 : (z == ("within" : Str)) = false := by simpa using h2
  by_cases h3 : z = "ahead"
  · subst h3
    simp only [List.lookup, n1, n2, beq_self_eq_true, if_neg h1, if_neg h2, if_true]
    rfl
  have n3 : (z == ("ahead" : Str)) = false := by simpa using h3
  simp only [List.lookup, n1, n2, n3, if_neg h1, if_neg h2, if_neg h3]
  rfl
/-- a kind that may be named -/
def kindB (d : PyData) : Bool := wordB (vOf d) 6 && !decide (vOf d = .str "rest")
def shapeB : PyData → Bool
  | .tuple (.str z :: ks) => decide (sizeN z = ks.length + 1) && (ks.map kindB).all id
  | _ => false
def spIsShape : Sp := fun vs H Q _ => ∃ (v : V) (b : Addr) (d : PyData), vs = [v] ∧ Dq b H d v ∧ gD d = true ∧ sz d ≤ 10000 ∧ ∀ H', Same H H' → Q (.bl (shapeB d)) H'
section
variable {P : Program} {w : World} {K : PySem.W.Frag} {mg : Str → Option Value} {base : Heap} {f aS : Addr} {fd : FuncData}
theorem ok_is_shape (F : Fun K "is_shape" "is_shape" s_is_shape f fd) (T : Txt mg) (gS : ∃ u, mg "SIZES" = some u ∧ RelV (.ref aS) u) (tS : KTab K w aS sizesT) (c_is_kind : Cal P w K mg base 2 "is_kind" (spKind K)) : FnOk P w K mg base CX0 3 f fd ["value"] spIsShape := by
  refine F.ok sc_is_shape (fun vs H Q E h => ?_) (fun cdv A outer s H vs Q E hr h => ?_)
  · obtain ⟨v, b, d, rfl, _⟩ := h
    rfl
  · obtain ⟨v, b, d, rfl, hv, g, hs, q⟩ := h
    refine ⟨_, (pss_cons (ps_if (PW.pt (pw_or (pt_not (pt_val (pe_callB (cr_isi K) (by rfl) T.isinstance (by decide +kernel) (pa_cons (pv 0) (pa_cons (pe_bltn (v := .ty "tuple") (by rfl) T.tuple (by decide +kernel) rfl) pa_nil))))) (pw_or (pt_cmpR (op_eqX K hr) (pe_callB (call_lenX K) (by rfl) T.len PySem.boot_len (pa_cons (pv 0) pa_nil)) pe_int (nomark _)) (pw_or1 (pt_not (pt_val (pe_callB (cr_isi K) (by rfl) T.isinstance (by decide +kernel) (pa_cons (pe_ix (ix_X K) (pv 0) pe_int (fun _ _ => rfl)) (pa_cons (pe_bltn (v := .ty "str") (by rfl) T.str (by decide +kernel) rfl) pa_nil))))))))) (pss_one (ps_ret pe_bl)) pss_nil)
      (pss_cons (ps_if (pt_cmpR (op_neX K hr) (pe_kget2 K w (pe_gc (by rfl) gS) (pe_ix (ix_X K) (pv 0) pe_int (fun _ _ => rfl)) pe_int ⟨rfl, rfl, rfl, rfl⟩) (pe_callB (call_lenX K) (by rfl) T.len PySem.boot_len (pa_cons (pv 0) pa_nil)) (nomark _)) (pss_one (ps_ret pe_bl)) pss_nil)
      (pss_one (ps_ret (pe_callB (cr_allX K (by rfl)) (by rfl) T.all (by decide +kernel) (pa_cons (pe_lc (own := [("kind", 1)]) (g := gName 1) (tt := tYes) (by rfl) sc_is_shape.nd (pi_tupX K (pe_slice (sl_X K) (pv 0) (po_some pe_int) po_none)) (blkOk_by (own := [("kind", 1)]) (N := ["value", "kind"]) (sc := defScope s_is_shape) (by decide +kernel)) (fun _ _ _ _ _ => pg_name (i := 1) sc_is_shape.nd rfl (Or.inl rfl)) (fun _ _ _ _ _ => pts_nil) (fun _ _ _ _ _ => (pe_and (pe_c c_is_kind hr (by omega) (by rfl) (pa_cons (pv 1) pa_nil)) (pe_one (pe_cmpR (op_neX K hr) (pv 1) (pe_gc (by rfl) T.g_REST) (nomark _)))))) pa_nil)))))), ?_⟩
    change (_ : TS) _ [some v, none] _
    k_extra "rr"
    refine isi hv.ty (kit_ty (kit_isT d)) ?_
    k_extra "rr"
    cases hT : isT d with
    | false =>
      k_extra "rr"
      have e : shapeB d = false := by
        cases d <;> first | rfl | cases hT
      rw [← e]
      exact q H (Same.refl H)
    | true =>
      obtain ⟨ds, rfl⟩ : ∃ ds, d = .tuple ds := by
        cases d <;> first | exact ⟨_, rfl⟩ | cases hT
      obtain ⟨a, l, rfl, ha, hl⟩ := id hv.tup
      have len := hl.len
      simp only [gD] at g
      simp only [sz] at hs
      have dlen := szA_len ds
      k_extra "rr"
      refine iteD (fun z0 => ?_) (fun z0 => ?_)
      · k_extra "rr"
        have e : shapeB (.tuple ds) = false := by
          match ds, len with
          | [], _ => rfl
          | x :: r, len =>
            rw [len, List.length_cons] at z0
            omega
        rw [← e]
        exact q H (Same.refl H)
      · match ds, hl, len with
        | [], hl, len =>
          rw [len] at z0
          exact absurd rfl z0
        | d0 :: ks, hl, len =>
        obtain ⟨v0, l0, rfl, h0, hks⟩ := hl.inv
        simp only [gA, Bool.and_eq_true] at g
        have lenk := hks.len
        have at0 : ∀ u : V, atI (u :: l0) 0 = some u := fun u => (show atI (u :: l0) ((0 : Nat) : Int) = some u from atI_nat rfl)
        k_extra "rr"
        refine ixT (SqT.of ha) (at0 v0) ?_
        k_extra "rr"
        refine isi h0.ty (kit_ty (kit_isS d0)) ?_
        k_extra "rr"
        rcases h0.isS with ⟨es, z, rfl, rfl⟩ | ⟨es, _⟩
        · rw [es]
          have e : shapeB (.tuple (.str z :: ks)) = (decide (sizeN z = ks.length + 1) && (ks.map kindB).all id) := rfl
          k_extra "rr"
          refine ⟨aS, sizesT, rfl, tS, ?_⟩
          k_extra "rr"
          refine ixT (SqT.of ha) (at0 _) ?_
          k_extra "rr"
          rw [sizes_get]
          k_extra "rr"
          have el : ((V.str z :: l0).length : Int) = (ks.length : Int) + 1 := by
            rw [List.length_cons, lenk]
            omega
          rw [el]
          refine iteN (fun n3 => ?_) (fun n3 => ?_)
          · k_extra "rr"
            rw [decide_eq_false n3, Bool.false_and] at e
            rw [← e]
            exact q H (Same.refl H)
          · rw [decide_eq_true n3, Bool.true_and] at e
            k_extra "rr"
            refine slTX ha fun r H1 s1 h1 => ?_
            rw [show cutV (V.str z :: l0) (some 1) none = l0 from cutV_drop (xs := V.str z :: l0) (i := 1) (by rw [List.length_cons]; omega)] at h1
            refine ⟨r, rfl, ⟨_, SqT.of h1⟩, fun D nD => ?_⟩
            refine lc_it (walk_tup (K := K) (a := r) (xs := l0)) (fun i H' => H' D = some (.lst (((ks.take i).map kindB).map V.bl)) ∧ Same H1 H') ⟨upd_same, same_upd nD⟩ (fun i H' _ p => SqT.of (p.2 _ _ h1)) ?_ ?_
            · rintro i x H2 H3 hi ⟨eD, s2⟩ ⟨rfl, hx⟩
              obtain ⟨d1, ed, hd1⟩ := hks.get hx
              have gd1 := gA_mem g.2 (List.mem_of_getElem? ed)
              have hd2 := hd1.le (Le.same (b := b) (s1.trans s2))
              have tk : (ks.take (i + 1)).map kindB = (ks.take i).map kindB ++ [kindB d1] := by rw [List.take_add_one, ed, List.map_append]; rfl
              have tl : (((ks.take i).map kindB).map V.bl).length < sizeLine := by
                rw [List.length_map, List.length_map, List.length_take, sizeLine_eq]
                simp only [szA] at hs dlen
                have := szA_len ks
                omega
              k_extra "rr"
              refine ⟨rfl, ?_⟩
              k_extra "rr"
              refine ⟨x, rfl, hd2.strOr gd1, fun H4 s4 => ?_⟩
              rw [hd2.word]
              have fin : ∀ {c : Bool}, c = kindB d1 → ∃ acc, H4 D = some (.lst acc) ∧ acc.length < sizeLine ∧ (upd H4 D (.lst (acc ++ [V.bl c])) D = some (.lst (((ks.take (i + 1)).map kindB).map V.bl)) ∧ Same H1 (upd H4 D (.lst (acc ++ [V.bl c])))) := by
                rintro c rfl
                refine ⟨_, s4 _ _ eD, tl, ?_, same_mut (s2.trans s4) nD⟩
                rw [upd_same, tk, List.map_append]
                rfl
              cases ew : wordB (vOf d1) 6 with
              | false =>
                k_extra "rr"
                exact fin (by unfold kindB; rw [ew, Bool.false_and])
              | true =>
                obtain ⟨z1, rfl⟩ : ∃ z1, d1 = .str z1 := by
                  cases d1 <;> first | exact ⟨_, rfl⟩ | cases ew
                simp only [Dq] at hd2
                subst hd2
                k_extra "rr"
                refine fin ?_
                unfold kindB
                rw [ew, Bool.true_and]
                show _ = !decide (V.str z1 = V.str "rest")
                rw [show decide (V.str z1 = V.str "rest") = decide (z1 = "rest") from decide_eq_decide.mpr ⟨V.str.inj, congrArg _⟩]
            · rintro H2 ⟨eD, s2⟩
              k_extra "rr"
              rw [lenk, List.take_length] at eD
              refine all_ (SqL.of eD) ?_
              rw [← e]
              exact q _ (s1.trans s2)
        · rw [es]
          k_extra "rr"
          have e : shapeB (.tuple (d0 :: ks)) = false := by
            cases d0 <;> first | rfl | cases es
          rw [← e]
          exact q H (Same.refl H)
end

/-! ### _law_shape -/
def wOne : List Nat := [111, 110, 101]
def wWithin : List Nat := [119, 105, 116, 104, 105, 110]
def wAhead : List Nat := [97, 104, 101, 97, 100]
def ShapeOk (ks : List (List Nat)) (sh : List (List Nat)) : Prop := (∃ k, sh = [wOne, k] ∧ k ∈ ks) ∨ ∃ w k k2, sh = [w, k, k2] ∧ (w = wWithin ∨ w = wAhead) ∧ k ∈ ks ∧ k2 ∈ ks
def spShape (K : PySem.W.Frag) : Sp := fun vs H Q _ => ∃ (b r ka : Addr) (ks : List (List Nat)), vs = [.ref b, .ref ka] ∧ BagAt H b r ∧ ka ≠ b ∧ H ka = some (.lst (kws ks)) ∧ 1 ≤ ks.length ∧ ks.length ≤ 1000 ∧
  ∀ (p : Addr) (sh : List (List Nat)) (H' : Hp), But b H H' → BagAt H' b r → ShapeOk ks sh → H' p = some (.tup (kws sh)) → Q (.ref p) H'
section
variable {P : Program} {w : World} {K : PySem.W.Frag} {mg : Str → Option Value} {base : Heap} {f : Addr} {fd : FuncData}
theorem ok_law_shape (F : Fun K "_law_shape" "_law_shape" s_law_shape f fd) (T : Txt mg) (c_law_of : Cal P w K mg base 2 "_law_of" (spOf K)) : FnOk P w K mg base CX0 3 f fd ["_law_bag_z", "_law_kinds"] (spShape K) := by
  refine F.ok sc_law_shape (fun vs H Q E h => ?_) (fun cdv A outer s H vs Q E hr h => ?_)
  · obtain ⟨b, r, ka, ks, rfl, _⟩ := h
    rfl
  · obtain ⟨b, r, ka, ks, rfl, hb, nkb, hka, k0, k1, q⟩ := h
    refine ⟨_, (pss_cons (ps_set (i := 2) sc_law_shape.nd rfl (.inl rfl) (pe_c c_law_of hr (by omega) (by rfl) (pa_cons (pv 0) (pa_cons (pe_lst (pa_cons pe_str (pa_cons pe_str (pa_cons pe_str pa_nil)))) pa_nil))))
      (pss_one (ps_ret (pe_ifExp (pt_cmpR (op_eqX K hr) (pv 2) pe_str (nomark _)) (pe_tup (pa_cons (pv 2) (pa_cons (pe_c c_law_of hr (by omega) (by rfl) (pa_cons (pv 0) (pa_cons (pv 1) pa_nil))) pa_nil))) (pe_tup (pa_cons (pv 2) (pa_cons (pe_c c_law_of hr (by omega) (by rfl) (pa_cons (pv 0) (pa_cons (pv 1) pa_nil))) (pa_cons (pe_c c_law_of hr (by omega) (by rfl) (pa_cons (pv 0) (pa_cons (pv 1) pa_nil))) pa_nil)))))))), ?_⟩
    change (_ : TS) _ [some (V.ref b), some (V.ref ka), none] _
    k_extra "rr"
    refine ⟨by k_extra "sz", fun p1 n1 => ?_⟩
    k_extra "rr"
    have lks : (kws ks).length = ks.length := by unfold kws; rw [List.length_map]
    refine ⟨b, r, _, rfl, hb.new n1, .inr ⟨p1, _, rfl, (hb.ne_none n1).1, SqL.of upd_same, (by show 0 < 3; decide), (by show 3 ≤ 1000; decide), fun i v H1 hv bb1 hb1 => ?_⟩⟩
    have bb1' := (But.new (b := b) (o := .lst [.str "one", .str "within", .str "ahead"]) n1).trans bb1
    have hka1 := bb1' _ _ hka nkb
    have e1 : Str.ofString "one" = SX.S wOne := by decide +kernel
    have e2 : Str.ofString "within" = SX.S wWithin := by decide +kernel
    have e3 : Str.ofString "ahead" = SX.S wAhead := by decide +kernel
    obtain ⟨wd, rfl, hwd⟩ : ∃ wd, v = .str (SX.S wd) ∧ (wd = wOne ∨ wd = wWithin ∨ wd = wAhead) := by
      have hm := List.mem_of_getElem? hv
      simp only [List.mem_cons, List.not_mem_nil, or_false] at hm
      rcases hm with rfl | rfl | rfl
      · exact ⟨_, congrArg V.str e1, .inl rfl⟩
      · exact ⟨_, congrArg V.str e2, .inr (.inl rfl)⟩
      · exact ⟨_, congrArg V.str e3, .inr (.inr rfl)⟩
    k_extra "rr"
    rw [e1]
    by_cases hw : wd = wOne
    · rw [decide_eq_true (by rw [hw])]
      k_extra "rr"
      refine ⟨b, r, _, rfl, hb1, .inr ⟨ka, _, rfl, nkb, SqL.of hka1, by omega, by omega, fun i2 v2 H2 hv2 bb2 hb2 => ?_⟩⟩
      obtain ⟨kd, hkd, rfl⟩ := map_at hv2
      k_extra "rr"
      refine ⟨by k_extra "sz", fun p np => ?_⟩
      k_extra "rr"
      exact q p [wd, kd] _ ((bb1'.trans bb2).trans (But.new np)) (hb2.new np) (.inl ⟨kd, by rw [hw], List.mem_of_getElem? hkd⟩) upd_same
    · have hne : ¬ SX.S wd = SX.S wOne := fun z => hw (by
        have := congrArg (fun y : Str => y.cps.toList) z
        simpa [SX.S] using this)
      rw [decide_eq_false hne]
      k_extra "rr"
      refine ⟨b, r, _, rfl, hb1, .inr ⟨ka, _, rfl, nkb, SqL.of hka1, by omega, by omega, fun i2 v2 H2 hv2 bb2 hb2 => ?_⟩⟩
      obtain ⟨kd, hkd, rfl⟩ := map_at hv2
      k_extra "rr"
      refine ⟨b, r, _, rfl, hb2, .inr ⟨ka, _, rfl, nkb, SqL.of (bb2 _ _ hka1 nkb), by omega, by omega, fun i3 v3 H3 hv3 bb3 hb3 => ?_⟩⟩
      obtain ⟨kd2, hkd2, rfl⟩ := map_at hv3
      k_extra "rr"
      refine ⟨by k_extra "sz", fun p np => ?_⟩
      k_extra "rr"
      exact q p [wd, kd, kd2] _ (((bb1'.trans bb2).trans bb3).trans (But.new np)) (hb3.new np) (.inr ⟨wd, kd, kd2, rfl, hwd.resolve_left hw, List.mem_of_getElem? hkd, List.mem_of_getElem? hkd2⟩) upd_same
end

/-! ### stands, holds -/
def onesN (f : Fo) (a : List Nat) : List Int := (numsFrom 0 f.size).filter fun n => decide ((fks f)[n.toNat]? = some a)
def holdsB (f : Fo) (sh : List (List Nat)) : Bool := match sh with
  | [_, a] => !(onesN f a).isEmpty
  | [w, a, b] => (onesN f a).any fun x => (onesN f b).any fun y => if w = wWithin then aboveB (mkI 0 f) y x else aheadB (mkI 0 f) x y
  | _ => false
def standsB (w : List Nat) (a1 b1 a2 b2 : Int) : Bool := if w = wWithin then decide (a2 < a1) && decide (b1 < b2) else decide (b1 < a2)
def spStands : Sp := fun vs H Q _ => ∃ (wd : List Nat) (p1 p2 : Addr) (a1 b1 a2 b2 : Int), vs = [.str (SX.S wd), .ref p1, .ref p2] ∧ H p1 = some (.tup [.int a1, .int b1]) ∧ H p2 = some (.tup [.int a2, .int b2]) ∧ Q (.bl (standsB wd a1 b1 a2 b2)) H
def SpL (H : Hp) (ms : List Int) : List Int → List V → Prop
  | [], [] => True
  | n :: ns, v :: vs => (∃ q, v = .ref q ∧ H q = some (.tup [.int (fstI ms n : Int), .int (lstI ms n : Int)])) ∧ SpL H ms ns vs
  | _, _ => False
theorem SpL.le {H H' : Hp} {ms : List Int} (s : TupLe H H') : ∀ {ns : List Int} {vs : List V}, SpL H ms ns vs → SpL H' ms ns vs
  | [], [], _ => trivial
  | _ :: _, _ :: _, ⟨⟨q, e, h⟩, r⟩ => ⟨⟨q, e, s _ _ h⟩, r.le s⟩
theorem SpL.len {H : Hp} {ms : List Int} : ∀ {ns : List Int} {vs : List V}, SpL H ms ns vs → vs.length = ns.length
  | [], [], _ => rfl
  | _ :: _, _ :: _, ⟨_, r⟩ => by rw [List.length_cons, List.length_cons, r.len]
theorem SpL.snoc {H : Hp} {ms : List Int} {n : Int} {q : Addr} (h : H q = some (.tup [.int (fstI ms n : Int), .int (lstI ms n : Int)])) : ∀ {ns : List Int} {vs : List V}, SpL H ms ns vs → SpL H ms (ns ++ [n]) (vs ++ [.ref q])
  | [], [], _ => ⟨⟨q, rfl, h⟩, trivial⟩
  | _ :: _, _ :: _, ⟨a, r⟩ => ⟨a, SpL.snoc h r⟩
theorem SpL.get {H : Hp} {ms : List Int} : ∀ {ns : List Int} {vs : List V} {j : Nat} {x : V}, SpL H ms ns vs → vs[j]? = some x → ∃ n q, ns[j]? = some n ∧ x = .ref q ∧ H q = some (.tup [.int (fstI ms n : Int), .int (lstI ms n : Int)])
  | [], [], j, x, _, h => by cases h
  | n :: _, v :: _, 0, x, ⟨⟨q, e, h1⟩, _⟩, h => by
    cases h
    exact ⟨n, q, rfl, e, h1⟩
  | _ :: ns, _ :: vs, j + 1, x, ⟨_, r⟩, h => SpL.get (j := j) r h
theorem SpL.dp {K : PySem.W.Frag} {H : Hp} {ms : List Int} : ∀ {ns : List Int} {vs : List V}, SpL H ms ns vs → DpAll K H vs (ns.map fun n => .tuple [.int (fstI ms n : Int), .int (lstI ms n : Int)])
  | [], [], _ => .nil
  | _ :: _, _ :: _, ⟨⟨q, e, h⟩, r⟩ => by
    subst e
    exact .cons (.tup (SqT.of h) (.cons (.int _) (.cons (.int _) .nil))) r.dp
theorem sp_shaped (ms ns : List Int) : SeqAt.shaped (.list (ns.map fun n => PyData.tuple [.int (fstI ms n : Int), .int (lstI ms n : Int)])) = true := shaped_list fun d m => by
  obtain ⟨n, _, rfl⟩ := List.mem_map.mp m
  constructor
  · simp [PyData.canLayAll0, PyData.canLay0]
  · simp [PyData.depthAll, PyData.depth]
theorem nums_at {f : Fo} {j : Nat} {n : Int} (h : (ordM (mkI 0 f))[j]? = some n) : n = (j : Int) ∧ j < f.size := by
  rw [ordM_doc] at h
  unfold numsFrom at h
  rw [List.getElem?_map] at h
  obtain ⟨i, hi, rfl⟩ := Option.map_eq_some_iff.mp h
  obtain ⟨lt, e⟩ := List.getElem?_eq_some_iff.mp hi
  rw [List.getElem_range] at e
  rw [List.length_range] at lt
  subst e
  exact ⟨by rw [Nat.zero_add], lt⟩
theorem ones_take {f : Fo} {a : List Nat} {j : Nat} (hj : j < f.size) : ((numsFrom 0 f.size).take (j + 1)).filter (fun n => decide ((fks f)[n.toNat]? = some a)) =
    ((numsFrom 0 f.size).take j).filter (fun n => decide ((fks f)[n.toNat]? = some a)) ++ if (fks f)[j]? = some a then [(j : Int)] else [] := by
  have e : (numsFrom 0 f.size)[j]? = some (j : Int) := by
    unfold numsFrom
    rw [List.getElem?_map, List.getElem?_range hj, Option.map_some, Nat.zero_add]
  rw [List.take_add_one, e, List.filter_append]
  congr 1
  show List.filter _ [(j : Int)] = _
  rw [List.filter_cons, List.filter_nil]
  simp
theorem S_injH {a b : List Nat} : decide (SX.S a = SX.S b) = decide (a = b) := by
  refine decide_eq_decide.mpr ⟨fun h => ?_, fun h => by rw [h]⟩
  have := congrArg (fun z : Str => z.cps.toList) h
  simpa [SX.S] using this
def spHolds (K : PySem.W.Frag) : Sp := fun vs H Q _ => ∃ (d s : Addr) (f : Fo) (sh : List (List Nat)), vs = [.ref d, .ref s] ∧ Doc H f d ∧ GF f ∧ f.depth ≤ 31 ∧ f.size ≤ 1000 ∧ H s = some (.tup (kws sh)) ∧ ((∃ a, sh = [wOne, a]) ∨ ∃ w a b, sh = [w, a, b] ∧ (w = wWithin ∨ w = wAhead)) ∧
  ∀ H', Same H H' → Q (.bl (holdsB f sh)) H'
section
variable {P : Program} {w : World} {K : PySem.W.Frag} {mg : Str → Option Value} {base : Heap} {f C : Addr} {fd : FuncData}
theorem ok_stands (F : Fun K "stands" "stands" s_stands f fd) (T : Txt mg) : FnOk P w K mg base CX0 1 f fd ["word", "one", "other"] spStands := by
  refine F.ok sc_stands (fun vs H Q E h => ?_) (fun cdv A outer s H vs Q E hr h => ?_)
  · obtain ⟨wd, p1, p2, a1, b1, a2, b2, rfl, _⟩ := h
    rfl
  · obtain ⟨wd, p1, p2, a1, b1, a2, b2, rfl, h1, h2, q⟩ := h
    refine ⟨_, (pss_cons (ps_if (pt_cmpR (op_eqX K hr) (pv 0) pe_str (nomark _)) (pss_one (ps_ret (pe_and (pe_cmpR op_lt (pe_ix (ix_X K) (pv 2) pe_int (fun _ _ => rfl)) (pe_ix (ix_X K) (pv 1) pe_int (fun _ _ => rfl)) (nomark _)) (pe_one (pe_cmpR op_lt (pe_ix (ix_X K) (pv 1) pe_int (fun _ _ => rfl)) (pe_ix (ix_X K) (pv 2) pe_int (fun _ _ => rfl)) (nomark _)))))) pss_nil)
      (pss_one (ps_ret (pe_cmpR op_lt (pe_ix (ix_X K) (pv 1) pe_int (fun _ _ => rfl)) (pe_ix (ix_X K) (pv 2) pe_int (fun _ _ => rfl)) (nomark _))))), ?_⟩
    change (_ : TS) _ [some (V.str (SX.S wd)), some (.ref p1), some (.ref p2)] _
    have e2 : Str.ofString "within" = SX.S wWithin := by decide +kernel
    unfold standsB at q
    k_extra "rr"
    rw [e2, S_injH]
    by_cases hw : wd = wWithin
    · rw [if_pos hw] at q
      rw [decide_eq_true hw]
      k_extra "rr"
      cases hb : decide (a2 < a1) with
      | false =>
        rw [hb, Bool.false_and] at q
        k_extra "rr"
        exact q
      | true =>
        rw [hb, Bool.true_and] at q
        k_extra "rr"
        exact q
    · rw [if_neg hw] at q
      rw [decide_eq_false hw]
      k_extra "rr"
      exact q
theorem ok_holds (F : Fun K "holds" "holds" s_holds f fd) (T : Txt mg) (R : RowC K mg C) (g_Row : mg "Row" = some (.ref C)) (c_Row_made_of : Ob.CalM P w K mg base 3 C "made_of" (spMade C)) (c_Row_spans : C8.Met P w K mg base 1 C "spans" (spSpans C) [])
    (c_stands : Cal P w K mg base 1 "stands" spStands) : FnOk P w K mg base CX0 4 f fd ["document", "shape"] (spHolds K) := by
  refine F.ok sc_holds (fun vs H Q E h => ?_) (fun cdv A outer s H vs Q E hr h => ?_)
  · obtain ⟨d, s, f, sh, rfl, _⟩ := h
    rfl
  · obtain ⟨d, sa, fo, sh, rfl, hd, hg, hdep, hsz, hsh, hform, q⟩ := h
    obtain ⟨cl, n1, n2, n3, n4⟩ := R
    refine ⟨_, (pss_cons (ps_set (i := 2) sc_holds.nd rfl (.inr rfl) (Ob.pe_cm (pe_gc (v := .ref _) (by rfl) ⟨_, g_Row, rfl⟩) c_Row_made_of hr (by omega) (pa_cons (pv 0) pa_nil)))
      (pss_cons (ps_set (i := 3) sc_holds.nd rfl (.inr rfl) (C8.pe_mt0 c_Row_spans hr (by omega) (pv 2)))
      (pss_cons (ps_asg (pv 1) (St6.pg_tupSX K (St6.pg_tupS (n := 3) (i := 2) (by rfl) (pgs_cons (pg_name (i := 4) sc_holds.nd rfl (.inr rfl)) (pgs_cons (pg_name (i := 5) sc_holds.nd rfl (.inr rfl)) (St6.pgs_consS (pg_name (i := 6) sc_holds.nd rfl (.inr rfl)) pgs_nil))) (by decide))))
      (pss_cons (ps_lock (ps_setLc (i := 7) (own := [("number", 9)]) (g := gName 9) (by rfl) sc_holds.nd rfl rfl (sw_true rfl rfl rfl (by decide +kernel)) (pi_keys (pv 3)) (blkOk_by (own := [("number", 9)]) (N := ["document", "shape", "row", "spans", "word", "kind", "rest", "ones", "others", "number", "one", "other"]) (sc := defScope s_holds) (by decide +kernel)) (fun _ _ _ _ _ => pg_name (i := 9) sc_holds.nd rfl (Or.inl rfl)) (fun _ _ _ _ _ => (pts_one (pt_cmpR (op_eqX K hr) (pe_ix (ix_X K) (pe_fldX K (pe_fld (pv 2) rfl)) (pv 9) (fun _ _ => rfl)) (pv 5) (nomark _)))) (fun _ _ _ _ _ => (pe_dget (hu_of hr) (pv 3) (pv 9) (fun _ _ => rfl)))))
      (pss_cons (ps_if (pt_cmpR (op_eqX K hr) (pv 4) pe_str (nomark _)) (pss_one (ps_ret (pe_cmpR (op_neX K hr) (pv 7) (pe_lst pa_nil) (nomark _)))) pss_nil)
      (pss_cons (ps_set (i := 8) sc_holds.nd rfl (.inr rfl) (pe_lock (pe_lc (own := [("number", 9)]) (g := gName 9) (by rfl) sc_holds.nd (pi_keys (pv 3)) (blkOk_by (own := [("number", 9)]) (N := ["document", "shape", "row", "spans", "word", "kind", "rest", "ones", "others", "number", "one", "other"]) (sc := defScope s_holds) (by decide +kernel)) (fun _ _ _ _ _ => pg_name (i := 9) sc_holds.nd rfl (Or.inl rfl)) (fun _ _ _ _ _ => (pts_one (pt_cmpR (op_eqX K hr) (pe_ix (ix_X K) (pe_fldX K (pe_fld (pv 2) rfl)) (pv 9) (fun _ _ => rfl)) (pe_ix (ix_X K) (pv 6) pe_int (fun _ _ => rfl)) (nomark _)))) (fun _ _ _ _ _ => (pe_dget (hu_of hr) (pv 3) (pv 9) (fun _ _ => rfl))))))
      (pss_one (ps_ret (pe_callB (cr_anyX K (by rfl)) (by rfl) T.any (by decide +kernel) (pa_cons (pe_lc2 (own := [("one", 10), ("other", 11)]) (vs1 := [11]) (g := gName 10) (g1 := gName 11) (tt := tYes) (tt1 := tYes) (by rfl) sc_holds.nd (pi_listX K (pv 7)) (blkOk_by (own := [("one", 10), ("other", 11)]) (N := ["document", "shape", "row", "spans", "word", "kind", "rest", "ones", "others", "number", "one", "other"]) (sc := defScope s_holds) (by decide +kernel)) (by decide) (fun _ _ _ _ _ => pg_name (i := 10) sc_holds.nd rfl (Or.inl rfl)) (fun _ _ _ _ _ => pts_nil) (fun _ _ _ _ _ => (pi_listX K (pv 8))) (fun _ _ _ _ _ => pg_name (i := 11) sc_holds.nd rfl (Or.inl rfl)) (fun _ _ _ _ _ => pts_nil) (fun _ _ _ _ _ => (pe_c c_stands hr (by omega) (by rfl) (pa_cons (pv 4) (pa_cons (pv 10) (pa_cons (pv 11) pa_nil)))))) pa_nil)))))))))), ?_⟩
    change (_ : TS) _ [some (V.ref d), some (.ref sa), none, none, none, none, none, none, none, none, none, none] _
    k_extra "rr"
    refine ⟨d, fo, rfl, hd, hg, hdep, hsz, fun p dx m k t o H1 N => ?_⟩
    have hp : H1 p = some (.ins C dx (rowF (.ref m) (.ref k) (.ref t) (.ref o))) := N.hp
    k_extra "rr"
    refine ⟨p, dx, m, k, t, o, mkI 0 fo, rfl, N.hp, N.hm, by rw [mkI_len]; omega, fun ds kvs H2 s2 nds hds hsp => ?_⟩
    have hp2 := s2 _ _ hp
    have hk2 := s2 _ _ N.hk
    have hsh2 := s2 _ _ (N.same _ _ hsh)
    have sH2 := N.same.trans s2
    k_extra "rr"
    obtain ⟨wd, a, rs, rfl, hrs⟩ : ∃ wd a rs, sh = wd :: a :: rs ∧ ((wd = wOne ∧ rs = []) ∨ ∃ b, rs = [b] ∧ (wd = wWithin ∨ wd = wAhead)) := by
      rcases hform with ⟨a, rfl⟩ | ⟨wd, a, b, rfl, h⟩
      · exact ⟨_, a, [], rfl, .inl ⟨rfl, rfl⟩⟩
      · exact ⟨wd, a, [b], rfl, .inr ⟨b, rfl, h⟩⟩
    have hrl : rs.length ≤ 1 := by
      rcases hrs with ⟨_, rfl⟩ | ⟨b, rfl, _⟩
      · exact Nat.zero_le _
      · exact Nat.le_refl _
    have kl : (kws (wd :: a :: rs)).length = rs.length + 2 := by unfold kws; rw [List.length_map]; rfl
    refine Ob.gstar (.inl (SqT.of hsh2)) (by omega) (by omega) fun D nD => ?_
    have em : St6.midS (kws (wd :: a :: rs)) 3 2 = kws rs := by
      unfold St6.midS
      rw [kl, show rs.length + 2 + 1 - 3 = rs.length by omega]
      show (kws rs).take rs.length = kws rs
      exact List.take_of_length_le (by unfold kws; rw [List.length_map]; exact Nat.le_refl _)
    have ee : (kws (wd :: a :: rs)).take 2 ++ [V.ref D] ++ St6.endS (kws (wd :: a :: rs)) 3 2 = [.str (SX.S wd), .str (SX.S a), .ref D] := by
      unfold St6.endS
      rw [kl, show rs.length + 2 + 1 - 3 = rs.length by omega]
      show [V.str (SX.S wd), .str (SX.S a), .ref D] ++ (kws rs).drop rs.length = _
      rw [List.drop_eq_nil_of_le (by unfold kws; rw [List.length_map]; exact Nat.le_refl _)]
      rfl
    rw [em, ee]
    have s3 := same_upd (o := .lst (kws rs)) nD
    have hp3 := s3 _ _ hp2
    have hk3 := s3 _ _ hk2
    have hds3 := s3 _ _ hds
    have hsp3 := hsp.le (TupLe.same s3)
    have hD3 : upd H2 D (.lst (kws rs)) D = some (.lst (kws rs)) := upd_same
    have sH3 := sH2.trans s3
    clear hp hp2 hk2 hds hsp hsh2 hsh sH2 s2 nds N hd kl em ee
    generalize upd H2 D (.lst (kws rs)) = H3 at hp3 hk3 hds3 hsp3 hD3 sH3
    have kvl : kvs.length = fo.size := by
      rw [hsp3.1, ordM_doc]
      unfold numsFrom
      rw [List.length_map, List.length_range]
    -- what a turn over the dict knows
    have turn : ∀ {H5 : Hp} {j : Nat} {kk : Key} {vv : V}, (∀ c xs, H3 c = some (.tup xs) → H5 c = some (.tup xs)) → kvs[j]? = some (kk, vv) → ∃ q, kk = Sum.inl (j : Int) ∧ vv = .ref q ∧ j < fo.size ∧ valV kvs (Sum.inl (j : Int)) = some (.ref q) ∧ H5 q = some (.tup [.int (fstI (mkI 0 fo) (j : Int) : Int), .int (lstI (mkI 0 fo) (j : Int) : Int)]) := by
      intro H5 j kk vv s5 hkv
      have jl : j < (ordM (mkI 0 fo)).length := by
        have := (List.getElem?_eq_some_iff.mp hkv).1
        rw [hsp3.1] at this
        exact this
      obtain ⟨e1, e2⟩ := nums_at (List.getElem?_eq_getElem jl)
      obtain ⟨q0, e3, e4⟩ := hsp3.2 j _ (List.getElem?_eq_getElem jl)
      rw [e1] at e3 e4
      rw [e3] at hkv
      cases hkv
      obtain ⟨q1, e5, e6⟩ := hsp3.get (mem_doc.mpr ⟨j, e2, rfl⟩)
      exact ⟨q0, rfl, rfl, e2, valV_at (ordM_nodup _) hsp3.1 (fun i m e => let ⟨q, a, _⟩ := hsp3.2 i m e; ⟨_, a⟩) (List.getElem?_eq_getElem jl |>.trans (congrArg some e1)) e3, s5 _ _ e4⟩
    have sz1 : sizeLine = 16777216 := sizeLine_eq
    k_extra "rr"
    refine ⟨ds, .dK kvs, hds3, trivial, fun od => ?_⟩
    have hpz : upd H3 ds (.frz od (.dK kvs)) p = some (.ins C dx (rowF (.ref m) (.ref k) (.ref t) (.ref o))) := upd2 (ne_of hp3 hds3 (by intro z; cases z)) hp3
    have hkz : upd H3 ds (.frz od (.dK kvs)) k = some (.lst (kws (fks fo))) := upd2 (ne_of hk3 hds3 (by intro z; cases z)) hk3
    have hfz : upd H3 ds (.frz od (.dK kvs)) ds = some (.frz od (.dK kvs)) := upd_same
    have tlz : TupLe H3 (upd H3 ds (.frz od (.dK kvs))) := TupLe.dk hds3
    k_extra "rr"
    refine ⟨_, rfl, ds, od, rfl, .inl ⟨kvs, upd_same, fun D1 nD1 => ?_⟩⟩
    have nD1ds : D1 ≠ ds := fun z => by
      rw [z, hfz] at nD1
      cases nD1
    refine lc_it walk_keys (fun j H' => Same (upd H3 ds (.frz od (.dK kvs))) H' ∧ ∃ qs, H' D1 = some (.lst qs) ∧ SpL H' (mkI 0 fo) (((numsFrom 0 fo.size).take j).filter fun n => decide ((fks fo)[n.toNat]? = some a)) qs) ⟨same_upd nD1, [], upd_same, trivial⟩ (fun i H' _ s => s.1 _ _ hfz) ?_ ?_
    · rintro j x H5 H6 hj ⟨s5, qs, hD1, hL⟩ ⟨rfl, kk, vv, hkv, rfl⟩
      obtain ⟨q0, rfl, rfl, hjs, hval, hq0⟩ := turn (fun c xs h => s5 _ _ (tlz c xs h)) hkv
      have hp5 := s5 _ _ hpz
      have hk5 := s5 _ _ hkz
      have hz5 := s5 _ _ hfz
      have hkj : (fks fo)[j]? = some ((fks fo)[j]'(by rw [fks_len]; exact hjs)) := List.getElem?_eq_getElem _
      have hqs := hL.len
      have hqs2 : qs.length ≤ 1000 := by
        have := List.length_filter_le (fun n => decide ((fks fo)[n.toNat]? = some a)) ((numsFrom 0 fo.size).take j)
        rw [List.length_take] at this
        omega
      generalize (fks fo)[j]'(by rw [fks_len]; exact hjs) = kd at hkj
      have kv1 : kV (Sum.inl (j : Int)) = .int (j : Int) := rfl
      rw [kv1]
      k_extra "rr"
      refine ⟨rfl, ?_⟩
      k_extra "rr"
      refine ixL (SqL.of hk5) (atI_nat (j := j) (by unfold kws; rw [List.getElem?_map, hkj]; rfl)) ?_
      k_extra "rr"
      rw [S_injH]
      by_cases hka : kd = a
      · rw [decide_eq_true hka]
        k_extra "rr"
        refine Ob.exdget (Ob.getFv hz5 hval) ?_
        refine ⟨qs, hD1, by omega, same_mut s5 nD1, _, upd_same, ?_⟩
        rw [ones_take hjs, if_pos (by rw [hkj, hka])]
        exact (hL.snoc hq0).le (TupLe.lst hD1)
      · rw [decide_eq_false hka]
        k_extra "rr"
        refine ⟨s5, qs, hD1, ?_⟩
        rw [ones_take hjs, if_neg (by rw [hkj]; exact fun z => hka (Option.some.inj z)), List.append_nil]
        exact hL
    · rintro H5 ⟨s5, qs, hD1, hL⟩
      have e5 : (numsFrom 0 fo.size).take kvs.length = numsFrom 0 fo.size := List.take_of_length_le (by unfold numsFrom; rw [List.length_map, List.length_range, kvl]; exact Nat.le_refl _)
      rw [e5] at hL
      have hL : SpL H5 (mkI 0 fo) (onesN fo a) qs := hL
      k_extra "rr"
      refine ⟨s5 _ _ hfz, ?_⟩
      have s6 : Same H3 (upd H5 ds (.dK kvs)) := fun c u e => by
        by_cases z : c = ds
        · rw [z, hds3] at e
          cases e
          rw [z, upd_same]
        · rw [upd_ne z]
          exact s5 _ _ (upd2 z e)
      have hD16 : upd H5 ds (.dK kvs) D1 = some (.lst qs) := upd2 nD1ds hD1
      have hL6 : SpL (upd H5 ds (.dK kvs)) (mkI 0 fo) (onesN fo a) qs := hL.le fun c xs e => by
        by_cases z : c = ds
        · rw [z, s5 _ _ hfz] at e
          cases e
        · rw [upd_ne z]
          exact e
      clear hL hD1 e5
      generalize upd H5 ds (.dK kvs) = H6 at s6 hD16 hL6
      clear s5 hpz hkz hfz tlz nD1
      have e1 : Str.ofString "one" = SX.S wOne := by decide +kernel
      k_extra "rr"
      rw [e1, S_injH]
      rcases hrs with ⟨rfl, rfl⟩ | ⟨b, rfl, hwd⟩
      · rw [decide_eq_true rfl]
        k_extra "rr"
        refine ⟨by k_extra "sz", fun e ne => ?_⟩
        have se := same_upd (o := .lst []) ne
        refine neDd (d := .list ((onesN fo a).map fun n => .tuple [.int (fstI (mkI 0 fo) n : Int), .int (lstI (mkI 0 fo) n : Int)])) (e := .list []) (.lst (SqL.of (se _ _ hD16)) (hL6.le (TupLe.same se)).dp) (.lst (SqL.of upd_same) .nil) (sp_shaped _ _) shaped_nilL ?_
        rw [eqv_nilL]
        have em : ((onesN fo a).map fun n => PyData.tuple [.int (fstI (mkI 0 fo) n : Int), .int (lstI (mkI 0 fo) n : Int)]).isEmpty = (onesN fo a).isEmpty := by cases onesN fo a <;> rfl
        rw [em]
        k_extra "rr"
        exact q _ ((sH3.trans s6).trans se)
      · have hne : ¬ wd = wOne := by
          rcases hwd with rfl | rfl <;> decide
        rw [decide_eq_false hne]
        k_extra "rr"
        have hp6 := s6 _ _ hp3
        have hk6 := s6 _ _ hk3
        have hds6 := s6 _ _ hds3
        have hD6 := s6 _ _ hD3
        refine Ob.lockE hds6 trivial fun od2 => ?_
        have hpz : upd H6 ds (.frz od2 (.dK kvs)) p = some (.ins C dx (rowF (.ref m) (.ref k) (.ref t) (.ref o))) := upd2 (ne_of hp6 hds6 (by intro z; cases z)) hp6
        have hkz : upd H6 ds (.frz od2 (.dK kvs)) k = some (.lst (kws (fks fo))) := upd2 (ne_of hk6 hds6 (by intro z; cases z)) hk6
        have hDz : upd H6 ds (.frz od2 (.dK kvs)) D = some (.lst [.str (SX.S b)]) := upd2 (ne_of hD6 hds6 (by intro z; cases z)) hD6
        have hD1z : upd H6 ds (.frz od2 (.dK kvs)) D1 = some (.lst qs) := upd2 nD1ds hD16
        have hfz : upd H6 ds (.frz od2 (.dK kvs)) ds = some (.frz od2 (.dK kvs)) := upd_same
        have tlz : TupLe H6 (upd H6 ds (.frz od2 (.dK kvs))) := TupLe.dk hds6
        k_extra "rr"
        refine ⟨_, rfl, ds, od2, rfl, .inl ⟨kvs, upd_same, fun D2 nD2 => ?_⟩⟩
        have nD2ds : D2 ≠ ds := fun z => by
          rw [z, hfz] at nD2
          cases nD2
        refine lc_it walk_keys (fun j H' => Same (upd H6 ds (.frz od2 (.dK kvs))) H' ∧ ∃ qs, H' D2 = some (.lst qs) ∧ SpL H' (mkI 0 fo) (((numsFrom 0 fo.size).take j).filter fun n => decide ((fks fo)[n.toNat]? = some b)) qs) ⟨same_upd nD2, [], upd_same, trivial⟩ (fun i H' _ s => s.1 _ _ hfz) ?_ ?_
        · rintro j x H7 H8 hj ⟨s5, qs2, hD2, hL⟩ ⟨rfl, kk, vv, hkv, rfl⟩
          obtain ⟨q0, rfl, rfl, hjs, hval, hq0⟩ := turn (fun c xs h => s5 _ _ (tlz c xs (s6 _ _ h))) hkv
          have hp5 := s5 _ _ hpz
          have hk5 := s5 _ _ hkz
          have hz5 := s5 _ _ hfz
          have hDD := s5 _ _ hDz
          have hkj : (fks fo)[j]? = some ((fks fo)[j]'(by rw [fks_len]; exact hjs)) := List.getElem?_eq_getElem _
          have hqs := hL.len
          have hqs2 : qs2.length ≤ 1000 := by
            have := List.length_filter_le (fun n => decide ((fks fo)[n.toNat]? = some b)) ((numsFrom 0 fo.size).take j)
            rw [List.length_take] at this
            omega
          generalize (fks fo)[j]'(by rw [fks_len]; exact hjs) = kd at hkj
          have kv1 : kV (Sum.inl (j : Int)) = .int (j : Int) := rfl
          rw [kv1]
          k_extra "rr"
          refine ⟨rfl, ?_⟩
          k_extra "rr"
          refine ixL (SqL.of hk5) (atI_nat (j := j) (by unfold kws; rw [List.getElem?_map, hkj]; rfl)) ?_
          k_extra "rr"
          rw [S_injH]
          by_cases hka : kd = b
          · rw [decide_eq_true hka]
            k_extra "rr"
            refine Ob.exdget (Ob.getFv hz5 hval) ?_
            refine ⟨qs2, hD2, by omega, same_mut s5 nD2, _, upd_same, ?_⟩
            rw [ones_take hjs, if_pos (by rw [hkj, hka])]
            exact (hL.snoc hq0).le (TupLe.lst hD2)
          · rw [decide_eq_false hka]
            k_extra "rr"
            refine ⟨s5, qs2, hD2, ?_⟩
            rw [ones_take hjs, if_neg (by rw [hkj]; exact fun z => hka (Option.some.inj z)), List.append_nil]
            exact hL
        · rintro H7 ⟨s5, qs2, hD2, hL⟩
          have e5 : (numsFrom 0 fo.size).take kvs.length = numsFrom 0 fo.size := List.take_of_length_le (by unfold numsFrom; rw [List.length_map, List.length_range, kvl]; exact Nat.le_refl _)
          rw [e5] at hL
          have hL : SpL H7 (mkI 0 fo) (onesN fo b) qs2 := hL
          refine ⟨s5 _ _ hfz, ?_⟩
          have s7 : Same H6 (upd H7 ds (.dK kvs)) := fun c u e => by
            by_cases z : c = ds
            · rw [z, hds6] at e
              cases e
              rw [z, upd_same]
            · rw [upd_ne z]
              exact s5 _ _ (upd2 z e)
          have hD27 : upd H7 ds (.dK kvs) D2 = some (.lst qs2) := upd2 nD2ds hD2
          have hL7 : SpL (upd H7 ds (.dK kvs)) (mkI 0 fo) (onesN fo b) qs2 := hL.le fun c xs e => by
            by_cases z : c = ds
            · rw [z, s5 _ _ hfz] at e
              cases e
            · rw [upd_ne z]
              exact e
          have hD17 := s7 _ _ hD16
          have hL17 := hL6.le (TupLe.same s7)
          clear hL hD2 e5
          generalize upd H7 ds (.dK kvs) = H8 at s7 hD27 hL7 hD17 hL17
          clear s5 hpz hkz hfz tlz nD2 hDz hD1z
          k_extra "rr"
          intro D3 nD3
          have lq1 := hL17.len
          have lq2 := hL7.len
          have ln1 : (onesN fo a).length ≤ 1000 := by
            have := List.length_filter_le (fun n => decide ((fks fo)[n.toNat]? = some a)) (numsFrom 0 fo.size)
            unfold onesN
            unfold numsFrom at this ⊢
            rw [List.length_map, List.length_range] at this
            omega
          have ln2 : (onesN fo b).length ≤ 1000 := by
            have := List.length_filter_le (fun n => decide ((fks fo)[n.toNat]? = some b)) (numsFrom 0 fo.size)
            unfold onesN
            unfold numsFrom at this ⊢
            rw [List.length_map, List.length_range] at this
            omega
          obtain ⟨cnd, hcnd⟩ : ∃ cnd : Int → Int → Bool, ∀ x y, cnd x y = if wd = wWithin then aboveB (mkI 0 fo) y x else aheadB (mkI 0 fo) x y := ⟨_, fun _ _ => rfl⟩
          refine Ob.out_it (walk_list (K := K) (a := D1) (xs := qs)) (fun i H' => Same H8 H' ∧ ∃ bs : List Bool, H' D3 = some (.lst (bs.map V.bl)) ∧ bs.any id = (((onesN fo a).take i).any fun x => (onesN fo b).any fun y => cnd x y) ∧ bs.length = i * qs2.length) ⟨same_upd nD3, [], upd_same, rfl, by simp⟩ (fun i H' _ s => SqL.of (s.1 _ _ hD17)) ?_ ?_
          · rintro i x H9 H10 hi ⟨s8, bs, hD3, hb, hbl⟩ ⟨rfl, hxi⟩
            obtain ⟨n, q1, en, rfl, hq1⟩ := hL17.get hxi
            have hq19 := s8 _ _ hq1
            have hD29 := s8 _ _ hD27
            k_extra "rr"
            refine ⟨rfl, ?_⟩
            k_extra "rr"
            refine Ob.in_it (walk_list (K := K) (a := D2) (xs := qs2)) (fun j H' => Same H8 H' ∧ ∃ bs2 : List Bool, H' D3 = some (.lst (bs2.map V.bl)) ∧ bs2.any id = (bs.any id || ((onesN fo b).take j).any fun y => cnd n y) ∧ bs2.length = bs.length + j) ⟨s8, bs, hD3, by simp, rfl⟩ (fun j H' _ s => SqL.of (s.1 _ _ hD27)) ?_ ?_
            · rintro j y H11 H12 hj ⟨s9, bs2, hD32, hb2, hbl2⟩ ⟨rfl, hyj⟩
              obtain ⟨n', q2, en', rfl, hq2⟩ := hL7.get hyj
              k_extra "rr"
              refine ⟨rfl, ?_⟩
              k_extra "rr"
              refine ⟨wd, q1, q2, _, _, _, _, rfl, s9 _ _ hq1, s9 _ _ hq2, ?_⟩
              have hst : standsB wd (fstI (mkI 0 fo) n : Int) (lstI (mkI 0 fo) n : Int) (fstI (mkI 0 fo) n' : Int) (lstI (mkI 0 fo) n' : Int) = cnd n n' := by
                rw [hcnd]
                unfold standsB aboveB aheadB
                by_cases hw : wd = wWithin
                · rw [if_pos hw, if_pos hw, decide_eq_decide.mpr (show ((fstI (mkI 0 fo) n' : Int) < (fstI (mkI 0 fo) n : Int)) ↔ fstI (mkI 0 fo) n' < fstI (mkI 0 fo) n by omega), decide_eq_decide.mpr (show ((lstI (mkI 0 fo) n : Int) < (lstI (mkI 0 fo) n' : Int)) ↔ lstI (mkI 0 fo) n < lstI (mkI 0 fo) n' by omega)]
                · rw [if_neg hw, if_neg hw]
                  exact decide_eq_decide.mpr (by omega)
              rw [hst]
              have hsz2 : bs2.length < sizeLine := by
                have h1 : i * qs2.length ≤ 1000 * 1000 := Nat.mul_le_mul (by omega) (by omega)
                omega
              refine ⟨bs2.map V.bl, hD32, by rw [List.length_map]; exact hsz2, same_mut s9 nD3, bs2 ++ [cnd n n'], ?_, ?_, ?_⟩
              · rw [upd_same, List.map_append]
                rfl
              · rw [List.any_append, hb2, List.take_add_one, en', List.any_append]
                simp [Bool.or_assoc]
              · rw [List.length_append, hbl2, List.length_singleton]
                omega
            · rintro H11 ⟨s9, bs2, hD32, hb2, hbl2⟩
              refine ⟨s9, bs2, hD32, ?_, ?_⟩
              · rw [hb2, hb, lq2, List.take_length, List.take_add_one, en, List.any_append]
                simp
              · rw [hbl2, hbl, Nat.succ_mul]
          · rintro H9 ⟨s8, bs, hD3, hb, hbl⟩
            rw [lq1, List.take_length] at hb
            k_extra "rr"
            refine any_ (SqL.of hD3) ?_
            rw [hb]
            have e : holdsB fo [wd, a, b] = (onesN fo a).any fun x => (onesN fo b).any fun y => cnd x y := by
              show ((onesN fo a).any fun x => (onesN fo b).any fun y => if wd = wWithin then aboveB (mkI 0 fo) y x else aheadB (mkI 0 fo) x y) = _
              congr 1
              funext x
              congr 1
              funext y
              rw [hcnd]
            rw [← e]
            exact q _ (((sH3.trans s6).trans s7).trans s8)
end

/-! ### shapes_text, read_shapes -/
def wordsD (ws : List (List Nat)) : PyData := .tuple (ws.map fun w => PyData.str (SX.S w))
def readW (l : List Nat) : List (List (List Nat)) := (TL.spl [59, 32] 0 [] l).map fun p => TL.spl [32] 0 [] p
def badIx (i : Nat) : List (List (List Nat)) → Option Nat
  | [] => none
  | ws :: r => if shapeB (wordsD ws) = true then badIx (i + 1) r else some i
def noneL : List Nat := [110, 111, 110, 101]
theorem none_S : Str.ofString "none" = SX.S noneL := by decide +kernel
theorem DqA.words {b : Addr} {H : Hp} : ∀ ws : List (List Nat), DqA b H (ws.map fun w => PyData.str (SX.S w)) (kws ws)
  | [] => .nil
  | w :: r => .cons (Dq.str_mk _) (DqA.words r)
def spRead (C : Addr) : Sp := fun vs H Q E => ∃ (l : List Nat), vs = [.str (SX.S l)] ∧ l.length ≤ 10000 ∧ (∀ p ∈ TL.spl [59, 32] 0 [] l, p.length ≤ 10000 ∧ (TL.spl [32] 0 [] p).length ≤ 500 ∧ gD (wordsD (TL.spl [32] 0 [] p)) = true) ∧ (TL.spl [59, 32] 0 [] l).length ≤ 1000 ∧
  (l = noneL → ∀ q H', Same H H' → H q = none → H' q = some (.lst []) → Q (.ref q) H') ∧
  (l ≠ noneL → badIx 0 (readW l) = none → ∀ q vs H', Same H H' → H q = none → H' q = some (.lst vs) → DqA q H' ((readW l).map wordsD) vs → Q (.ref q) H') ∧
  (l ≠ noneL → ∀ i, badIx 0 (readW l) = some i → ∀ H' dd, Same H H' → ErrAt H' dd "at" "ParseError" (.int (i : Nat)) → E (.ref C) (some dd) H')
/-- tuples of texts, one for each part -/
def TWs (H : Hp) : List (List (List Nat)) → List V → Prop
  | [], m => m = []
  | ws :: r, m => ∃ q m', m = .ref q :: m' ∧ H q = some (.tup (kws ws)) ∧ TWs H r m'
theorem TWs.le {H H' : Hp} (t : TupLe H H') : ∀ {s : List (List (List Nat))} {m : List V}, TWs H s m → TWs H' s m
  | [], _, h => h
  | ws :: r, _, ⟨q, m', e, h1, h2⟩ => ⟨q, m', e, t _ _ h1, h2.le t⟩
theorem TWs.snoc {H : Hp} {ws : List (List Nat)} {q : Addr} (h : H q = some (.tup (kws ws))) : ∀ {s : List (List (List Nat))} {m : List V}, TWs H s m → TWs H (s ++ [ws]) (m ++ [.ref q])
  | [], _, e => by
    obtain rfl : _ = [] := e
    exact ⟨q, [], rfl, h, rfl⟩
  | w2 :: r, _, ⟨q2, m', e, h1, h2⟩ => ⟨q2, m' ++ [.ref q], by rw [e]; rfl, h1, h2.snoc h⟩
theorem TWs.get {H : Hp} : ∀ {s : List (List (List Nat))} {m : List V} {i : Nat} {x : V}, TWs H s m → m[i]? = some x → ∃ sh q, s[i]? = some sh ∧ x = .ref q ∧ H q = some (.tup (kws sh))
  | [], _, i, x, e, hx => by
    obtain rfl : _ = [] := e
    cases hx
  | ws :: r, _, 0, x, ⟨q, m', e, h1, h2⟩, hx => by
    subst e
    cases hx
    exact ⟨ws, q, rfl, rfl, h1⟩
  | ws :: r, _, i + 1, x, ⟨q, m', e, h1, h2⟩, hx => by
    subst e
    exact h2.get (i := i) hx
theorem TWs.dq {b : Addr} {H : Hp} : ∀ {s : List (List (List Nat))} {m : List V}, TWs H s m → DqA b H (s.map wordsD) m
  | [], _, e => by
    obtain rfl : _ = [] := e
    exact .nil
  | ws :: r, _, ⟨q, m', e, h1, h2⟩ => by
    rw [e]
    exact .cons (Dq.tup_mk h1 (DqA.words ws)) h2.dq
theorem TWs.len {H : Hp} : ∀ {s : List (List (List Nat))} {m : List V}, TWs H s m → m.length = s.length
  | [], _, e => by
    obtain rfl : _ = [] := e
    rfl
  | ws :: r, _, ⟨q, m', e, h1, h2⟩ => by
    rw [e, List.length_cons, h2.len]
    rfl
theorem S_inj {a b : List Nat} : decide (SX.S a = SX.S b) = decide (a = b) := by
  refine decide_eq_decide.mpr ⟨fun h => ?_, fun h => by rw [h]⟩
  have e : (SX.S a).cps.toList = (SX.S b).cps.toList := by rw [h]
  simpa [SX.S] using e
theorem semi_S : Str.ofString "; " = SX.S [59, 32] := by decide +kernel
theorem blank_S : Str.ofString " " = SX.S [32] := by decide +kernel
theorem szA_words : ∀ ws : List (List Nat), szA (ws.map fun w => PyData.str (SX.S w)) = ws.length
  | [] => rfl
  | w :: r => by
    simp only [List.map_cons, szA, sz, szA_words r, List.length_cons]
    omega
theorem badIx_drop : ∀ (s : List (List (List Nat))) (i j : Nat) (ws : List (List Nat)), s[j]? = some ws → badIx (i + j) (s.drop j) = if shapeB (wordsD ws) = true then badIx (i + j + 1) (s.drop (j + 1)) else some (i + j)
  | [], i, j, ws, h => by cases h
  | x :: s, i, 0, ws, h => by
    cases h
    rfl
  | x :: s, i, j + 1, ws, h => by
    have e := badIx_drop s (i + 1) j ws h
    rw [show i + (j + 1) = i + 1 + j by omega]
    exact e
section
variable {P : Program} {w : World} {K : PySem.W.Frag} {mg : Str → Option Value} {base : Heap} {f C : Addr} {fd : FuncData}
end

/-! ### the law's own holds; holds_any -/
def cndB (f : Fo) (w : List Nat) (x y : Int) : Bool := if w = wWithin then aboveB (mkI 0 f) y x else aheadB (mkI 0 f) x y
/-- whether the i-th node begins such a pair -/
def pairB (f : Fo) (sh : List (List Nat)) (i : Nat) : Bool := match sh with
  | [_, a] => decide ((fks f)[i]? = some a)
  | [w, a, b] => decide ((fks f)[i]? = some a) && ((List.range f.size).any fun j => decide ((fks f)[j]? = some b) && cndB f w (i : Int) (j : Int))
  | _ => false
theorem ones_any (f : Fo) (a : List Nat) (g : Int → Bool) : (onesN f a).any g = (List.range f.size).any fun i => decide ((fks f)[i]? = some a) && g (i : Int) := by
  unfold onesN numsFrom
  rw [List.any_filter, List.any_map]
  congr 1
  funext i
  simp
theorem holds_pair (f : Fo) : ∀ sh, holdsB f sh = (List.range f.size).any (pairB f sh)
  | [w, a] => by
    have e : holdsB f [w, a] = !(onesN f a).isEmpty := rfl
    have e2 : (!(onesN f a).isEmpty) = (onesN f a).any fun _ => true := by cases onesN f a <;> rfl
    rw [e, e2, ones_any]
    congr 1
    funext i
    simp [pairB]
  | [w, a, b] => by
    have e : holdsB f [w, a, b] = (onesN f a).any fun x => (onesN f b).any fun y => cndB f w x y := rfl
    rw [e, ones_any]
    congr 1
    funext i
    rw [ones_any]
    rfl
  | [] => by
    have : pairB f [] = fun _ => false := rfl
    rw [this]
    simp [holdsB]
  | [x] => by
    have : pairB f [x] = fun _ => false := rfl
    rw [this]
    simp [holdsB]
  | x :: y :: z :: u :: r => by
    have : pairB f (x :: y :: z :: u :: r) = fun _ => false := rfl
    rw [this]
    simp [holdsB]
theorem any_succ (p : Nat → Bool) (i : Nat) : (List.range (i + 1)).any p = ((List.range i).any p || p i) := by
  rw [List.range_succ, List.any_append]
  simp
def ShForm (sh : List (List Nat)) : Prop := (∃ a, sh = [wOne, a]) ∨ ∃ w a b, sh = [w, a, b] ∧ (w = wWithin ∨ w = wAhead)
def spLHolds (K : PySem.W.Frag) : Sp := fun vs H Q _ => ∃ (d s : Addr) (f : Fo) (sh : List (List Nat)), vs = [.ref d, .ref s] ∧ Doc H f d ∧ f.depth ≤ 31 ∧ f.size ≤ 1000 ∧ H s = some (.tup (kws sh)) ∧ ShForm sh ∧ ∀ H', Same H H' → Q (.bl (holdsB f sh)) H'
def spHoldsAny (K : PySem.W.Frag) : Sp := fun vs H Q _ => ∃ (d L : Addr) (f : Fo) (qs : List V) (shs : List (List (List Nat))), vs = [.ref d, .ref L] ∧ Doc H f d ∧ GF f ∧ f.depth ≤ 31 ∧ f.size ≤ 1000 ∧ (H L = some (.lst qs) ∨ H L = some (.tup qs)) ∧ TWs H shs qs ∧ shs.length ≤ 1000 ∧ (∀ sh ∈ shs, ShForm sh) ∧
  ∀ H', Same H H' → Q (.bl (shs.any (holdsB f))) H'
section
variable {P : Program} {w : World} {K : PySem.W.Frag} {mg : Str → Option Value} {base : Heap} {f : Addr} {fd : FuncData}
theorem ok_holds_any (F : Fun K "holds_any" "holds_any" s_holds_any f fd) (T : Txt mg) (c_holds : Cal P w K mg base 4 "holds" (spHolds K)) : FnOk P w K mg base CX0 5 f fd ["document", "shapes"] (spHoldsAny K) := by
  refine F.ok sc_holds_any (fun vs H Q E h => ?_) (fun cdv A outer s H vs Q E hr h => ?_)
  · obtain ⟨d, L, f, qs, shs, rfl, _⟩ := h
    rfl
  · obtain ⟨d, L, fo, qs, shs, rfl, hd, hg, hdep, hsz, hL, tw, hlen, hf, q⟩ := h
    have tl := tw.len
    rcases hL with hL | hL
    case' inl =>
      refine ⟨_, (pss_one (ps_ret (pe_callB (cr_anyX K (by rfl)) (by rfl) T.any (by decide +kernel) (pa_cons (pe_lc (own := [("shape", 2)]) (g := gName 2) (tt := tYes) (by rfl) sc_holds_any.nd (pi_listX K (pv 1)) (blkOk_by (own := [("shape", 2)]) (N := ["document", "shapes", "shape"]) (sc := defScope s_holds_any) (by decide +kernel)) (fun _ _ _ _ _ => pg_name (i := 2) sc_holds_any.nd rfl (Or.inl rfl)) (fun _ _ _ _ _ => pts_nil) (fun _ _ _ _ _ => (pe_c c_holds hr (by omega) (by rfl) (pa_cons (pv 0) (pa_cons (pv 2) pa_nil))))) pa_nil)))), ?_⟩
      change (_ : TS) _ [some (V.ref d), some (.ref L), none] _
      have hW := walk_list (K := K) (a := L) (xs := qs)
      have hG : ∀ H', Same H H' → SqL K H' L qs := fun H' s => SqL.of (s _ _ hL)
      k_extra "rr"
    case' inr =>
      refine ⟨_, (pss_one (ps_ret (pe_callB (cr_anyX K (by rfl)) (by rfl) T.any (by decide +kernel) (pa_cons (pe_lc (own := [("shape", 2)]) (g := gName 2) (tt := tYes) (by rfl) sc_holds_any.nd (pi_tupX K (pv 1)) (blkOk_by (own := [("shape", 2)]) (N := ["document", "shapes", "shape"]) (sc := defScope s_holds_any) (by decide +kernel)) (fun _ _ _ _ _ => pg_name (i := 2) sc_holds_any.nd rfl (Or.inl rfl)) (fun _ _ _ _ _ => pts_nil) (fun _ _ _ _ _ => (pe_c c_holds hr (by omega) (by rfl) (pa_cons (pv 0) (pa_cons (pv 2) pa_nil))))) pa_nil)))), ?_⟩
      change (_ : TS) _ [some (V.ref d), some (.ref L), none] _
      have hW := walk_tup (K := K) (a := L) (xs := qs)
      have hG : ∀ H', Same H H' → SqT K H' L qs := fun H' s => SqT.of (s _ _ hL)
      k_extra "rr"
      refine ⟨L, rfl, ⟨qs, SqT.of hL⟩, ?_⟩
    all_goals
      intro D nD
      refine lc_it hW (fun i H' => Same H H' ∧ H' D = some (.lst (((shs.take i).map (holdsB fo)).map V.bl))) ⟨same_upd nD, upd_same⟩ (fun i H' _ s => hG _ s.1) ?_ ?_
      · rintro i x H1 H2 hi ⟨s1, hD⟩ ⟨rfl, hxi⟩
        obtain ⟨sh, qa, esh, rfl, hqa⟩ := tw.get hxi
        k_extra "rr"
        refine ⟨rfl, ?_⟩
        k_extra "rr"
        refine ⟨d, qa, fo, sh, rfl, hd.le (TupLe.same s1), hg, hdep, hsz, s1 _ _ hqa, hf sh (List.mem_of_getElem? esh), fun H3 s3 => ?_⟩
        refine ⟨_, s3 _ _ hD, by rw [List.length_map, List.length_map, List.length_take, sizeLine_eq]; omega, same_mut (s1.trans s3) nD, ?_⟩
        rw [upd_same, List.take_add_one, esh, List.map_append, List.map_append]
        rfl
      · rintro H1 ⟨s1, hD⟩
        rw [tl, List.take_length] at hD
        k_extra "rr"
        refine any_ (SqL.of hD) ?_
        rw [List.any_map]
        exact q H1 s1
theorem ok_law_holds (F : Fun K "_law_holds" "_law_holds" s_law_holds f fd) (T : Txt mg) (c_law_row : Cal P w K mg base 34 "_law_row" (spLRow K 31)) (c_law_above : Cal P w K mg base 2 "_law_above" spLAbove) (c_law_ahead : Cal P w K mg base 2 "_law_ahead" spLAhead) :
    FnOk P w K mg base CX0 35 f fd ["_law_document_z", "_law_shape_z"] (spLHolds K) := by
  refine F.ok sc_law_holds (fun vs H Q E h => ?_) (fun cdv A outer s H vs Q E hr h => ?_)
  · obtain ⟨d, s, f, sh, rfl, _⟩ := h
    rfl
  · obtain ⟨d, sa, fo, sh, rfl, hd, hdep, hsz, hsh, hform, q⟩ := h
    refine ⟨_, (pss_cons (ps_par (i := 2) (j := 3) (by rfl) sc_law_holds.nd rfl rfl (by decide) rfl rfl (pa_cons (pe_c c_law_row hr (by omega) (by rfl) (pa_cons (pv 0) pa_nil)) (pa_cons pe_bl pa_nil)) (by rfl))
      (pss_cons (ps_for PassesOwn.never rfl (pi_range1 (by rfl) T.range (pa_cons (pe_callB (call_lenX K) (by rfl) T.len PySem.boot_len (pa_cons (pe_ix (ix_X K) (pv 2) pe_int (fun _ _ => rfl)) pa_nil)) pa_nil)) (pg_name (i := 4) sc_law_holds.nd rfl (.inl rfl)) (pss_one (ps_if (pt_cmpR (op_eqX K hr) (pe_ix (ix_X K) (pe_ix (ix_X K) (pv 2) pe_int (fun _ _ => rfl)) (pv 4) (fun _ _ => rfl)) (pe_ix (ix_X K) (pv 1) pe_int (fun _ _ => rfl)) (nomark _)) (pss_cons (ps_set (i := 3) sc_law_holds.nd rfl (.inl rfl) (pe_or (pv 3) (pe_one (pe_cmpR (op_eqX K hr) (pe_ix (ix_X K) (pv 1) pe_int (fun _ _ => rfl)) pe_str (nomark _)))))
      (pss_one (ps_for PassesOwn.never rfl (pi_range1 (by rfl) T.range (pa_cons (pe_callB (call_lenX K) (by rfl) T.len PySem.boot_len (pa_cons (pe_ix (ix_X K) (pv 2) pe_int (fun _ _ => rfl)) pa_nil)) pa_nil)) (pg_name (i := 5) sc_law_holds.nd rfl (.inl rfl)) (pss_one (ps_if (PW.pt (pw_and (pt_cmpR (op_neX K hr) (pe_ix (ix_X K) (pv 1) pe_int (fun _ _ => rfl)) pe_str (nomark _)) (pw_and1 (pt_cmpR (op_eqX K hr) (pe_ix (ix_X K) (pe_ix (ix_X K) (pv 2) pe_int (fun _ _ => rfl)) (pv 5) (fun _ _ => rfl)) (pe_ix (ix_X K) (pv 1) pe_int (fun _ _ => rfl)) (nomark _))))) (pss_cons (ps_set (i := 3) sc_law_holds.nd rfl (.inl rfl) (pe_or (pv 3) (pe_one (pe_and (pe_cmpR (op_eqX K hr) (pe_ix (ix_X K) (pv 1) pe_int (fun _ _ => rfl)) pe_str (nomark _)) (pe_one (pe_c c_law_above hr (by omega) (by rfl) (pa_cons (pe_ix (ix_X K) (pv 2) pe_int (fun _ _ => rfl)) (pa_cons (pv 5) (pa_cons (pv 4) pa_nil)))))))))
      (pss_one (ps_set (i := 3) sc_law_holds.nd rfl (.inl rfl) (pe_or (pv 3) (pe_one (pe_and (pe_cmpR (op_eqX K hr) (pe_ix (ix_X K) (pv 1) pe_int (fun _ _ => rfl)) pe_str (nomark _)) (pe_one (pe_c c_law_ahead hr (by omega) (by rfl) (pa_cons (pe_ix (ix_X K) (pv 2) pe_int (fun _ _ => rfl)) (pa_cons (pv 4) (pa_cons (pv 5) pa_nil))))))))))) pss_nil))))) pss_nil)))
      (pss_one (ps_ret (pv 3))))), ?_⟩
    change (_ : TS) _ [some (V.ref d), some (.ref sa), none, none, none, none] _
    k_extra "rr"
    refine ⟨d, fo, rfl, hd, hdep, hsz, fun st m k t o H1 s1 _ _ _ _ _ S => ?_⟩
    have hst := S.hst
    have hk := S.hk
    have hm := S.hm
    have hsh1 := s1 _ _ hsh
    have kl : (kws (fks fo)).length = fo.size := by unfold kws; rw [List.length_map, fks_len]
    have ml : (mkI 0 fo).length ≤ 100000 := by rw [mkI_len]; omega
    have mem : ∀ i : Nat, i < fo.size → (i : Int) ∈ mkI 0 fo := fun i h => mem_doc.mpr ⟨i, h, rfl⟩
    have kat : ∀ i : Nat, i < fo.size → ∃ kd, (fks fo)[i]? = some kd := fun i h => ⟨_, List.getElem?_eq_getElem (by rw [fks_len]; exact h)⟩
    have e1 : Str.ofString "one" = SX.S wOne := by decide +kernel
    have e2 : Str.ofString "within" = SX.S wWithin := by decide +kernel
    have e3 : Str.ofString "ahead" = SX.S wAhead := by decide +kernel
    obtain ⟨wd, a, rs, rfl, hrs⟩ : ∃ wd a rs, sh = wd :: a :: rs ∧ ((wd = wOne ∧ rs = []) ∨ ∃ b, rs = [b] ∧ (wd = wWithin ∨ wd = wAhead)) := by
      rcases hform with ⟨a, rfl⟩ | ⟨wd, a, b, rfl, h⟩
      · exact ⟨_, a, [], rfl, .inl ⟨rfl, rfl⟩⟩
      · exact ⟨wd, a, [b], rfl, .inr ⟨b, rfl, h⟩⟩
    have hsh1 : H1 sa = some (.tup (.str (SX.S wd) :: .str (SX.S a) :: kws rs)) := hsh1
    rw [holds_pair] at q
    k_extra "rr"
    rw [kl]
    obtain ⟨Pv, hPv⟩ : ∃ Pv : Nat → L2.St → Hp → Prop, ∀ i σ H', Pv i σ H' ↔ ∃ (v4 v5 : Option V), σ = [some (V.ref d), some (.ref sa), some (.ref st), some (.bl ((List.range i).any (pairB fo (wd :: a :: rs)))), v4, v5] ∧ Same H1 H' := ⟨_, fun _ _ _ => Iff.rfl⟩
    have nN : ((fo.size : Nat) : Int).toNat = fo.size := Int.toNat_natCast _
    have ixk : ∀ {j : Nat} {kd : List Nat} {Q2 : VK} {H' : Hp}, (fks fo)[j]? = some kd → Same H1 H' → Q2 (.str (SX.S kd)) H' → rIx K (.ref k) (.int (j : Int)) H' Q2 := fun {j kd Q2 H'} e s q2 => ixL (v := .str (SX.S kd)) (SqL.of (s _ _ hk)) (atI_nat (j := j) (by unfold kws; rw [List.getElem?_map, e]; rfl)) q2
    have ix0 : ∀ {Q2 : VK} {H' : Hp}, Same H1 H' → Q2 (.str (SX.S wd)) H' → rIx K (.ref sa) (.int 0) H' Q2 := fun {Q2 H'} s q2 => ixT (SqT.of (s _ _ hsh1)) (atI_nat (j := 0) rfl) q2
    have ix1 : ∀ {Q2 : VK} {H' : Hp}, Same H1 H' → Q2 (.str (SX.S a)) H' → rIx K (.ref sa) (.int 1) H' Q2 := fun {Q2 H'} s q2 => ixT (SqT.of (s _ _ hsh1)) (atI_nat (j := 1) rfl) q2
    refine for_range (lo := 0) (n := ((fo.size : Nat) : Int).toNat) Pv ((hPv _ _ _).mpr ⟨_, _, rfl, Same.refl _⟩) ?_ ?_
    · intro i σ H2 hi hp
      obtain ⟨v4, v5, rfl, s2⟩ := (hPv _ _ _).mp hp
      clear hp
      rw [nN] at hi
      obtain ⟨kd, hkd⟩ := kat i hi
      have hst2 := s2 _ _ hst
      have hk2 := s2 _ _ hk
      rw [Int.zero_add]
      generalize hF : (List.range i).any (pairB fo (wd :: a :: rs)) = F0
      k_extra "rr"
      refine ixk hkd s2 ?_
      k_extra "rr"
      refine ix1 s2 ?_
      k_extra "rr"
      rw [S_injH]
      by_cases hka : kd = a
      · rw [decide_eq_true hka]
        repeat ((fail_if_success (with_reducible refine Rg.orV ?_)); k_extra "r")
        refine toV (v := .bl (F0 || decide (wd = wOne))) (H := H2) ?_ (fun Q' q' => ?_)
        case refine_2 =>
          cases F0 with
          | true =>
            k_extra "rr"
            exact q'
          | false =>
            k_extra "rr"
            refine ix0 s2 ?_
            k_extra "rr"
            rw [e1, S_injH]
            exact q'
        k_extra "rr"
        rw [kl]
        rcases hrs with ⟨rfl, rfl⟩ | ⟨b, rfl, hwd⟩
        · -- one
          have hP : pairB fo [wOne, a] i = true := decide_eq_true (by rw [hkd, hka])
          rw [decide_eq_true rfl, Bool.or_true]
          obtain ⟨Pw, hPw⟩ : ∃ Pw : Nat → L2.St → Hp → Prop, ∀ j σ H', Pw j σ H' ↔ ∃ (v5 : Option V), σ = [some (V.ref d), some (.ref sa), some (.ref st), some (.bl true), some (.int (i : Int)), v5] ∧ Same H1 H' := ⟨_, fun _ _ _ => Iff.rfl⟩
          refine for_range (lo := 0) (n := ((fo.size : Nat) : Int).toNat) Pw ((hPw _ _ _).mpr ⟨_, rfl, s2⟩) ?_ ?_
          · intro j σ H3 hj hp
            obtain ⟨v5, rfl, s3⟩ := (hPw _ _ _).mp hp
            clear hp
            k_extra "rr"
            refine ix0 s3 ?_
            k_extra "rr"
            rw [e1, S_injH, decide_eq_true rfl, Bool.not_true]
            k_extra "rr"
            exact (hPw _ _ _).mpr ⟨_, rfl, s3⟩
          · intro σ H3 hp
            obtain ⟨v5, rfl, s3⟩ := (hPw _ _ _).mp hp
            refine (hPv _ _ _).mpr ⟨some (.int (i : Int)), v5, ?_, s3⟩
            rw [any_succ, hP, Bool.or_true]
        · have hne : ¬ wd = wOne := by
            rcases hwd with rfl | rfl <;> decide
          rw [decide_eq_false hne, Bool.or_false]
          have ix2 : ∀ {Q2 : VK} {H' : Hp}, Same H1 H' → Q2 (.str (SX.S b)) H' → rIx K (.ref sa) (.int 2) H' Q2 := fun {Q2 H'} s q2 => ixT (SqT.of (s _ _ hsh1)) (atI_nat (j := 2) rfl) q2
          obtain ⟨Pw, hPw⟩ : ∃ Pw : Nat → L2.St → Hp → Prop, ∀ j σ H', Pw j σ H' ↔ ∃ (v5 : Option V), σ = [some (V.ref d), some (.ref sa), some (.ref st), some (.bl (F0 || (List.range j).any fun m => decide ((fks fo)[m]? = some b) && cndB fo wd (i : Int) (m : Int))), some (.int (i : Int)), v5] ∧ Same H1 H' := ⟨_, fun _ _ _ => Iff.rfl⟩
          refine for_range (lo := 0) (n := ((fo.size : Nat) : Int).toNat) Pw ((hPw _ _ _).mpr ⟨_, by rw [List.range_zero, List.any_nil, Bool.or_false]; rfl, s2⟩) ?_ ?_
          · intro j σ H3 hj hp
            obtain ⟨v5, rfl, s3⟩ := (hPw _ _ _).mp hp
            clear hp
            rw [nN] at hj
            obtain ⟨kj, hkj⟩ := kat j hj
            have hst3 := s3 _ _ hst
            rw [Int.zero_add]
            generalize hG0 : (F0 || (List.range j).any fun m => decide ((fks fo)[m]? = some b) && cndB fo wd (i : Int) (m : Int)) = G0
            k_extra "rr"
            refine ix0 s3 ?_
            k_extra "rr"
            rw [e1, S_injH, decide_eq_false hne, Bool.not_false]
            k_extra "rr"
            refine ixk hkj s3 ?_
            k_extra "rr"
            refine ix2 s3 ?_
            k_extra "rr"
            rw [S_injH]
            by_cases hkb : kj = b
            · rw [decide_eq_true hkb]
              repeat ((fail_if_success (with_reducible refine Rg.orV ?_)); k_extra "r")
              refine toH (v := .bl (G0 || (decide (wd = wWithin) && aboveB (mkI 0 fo) (j : Int) (i : Int)))) (H := H3) (fun H4 s4 => ?_) (fun Q' q' => ?_)
              case refine_2 =>
                cases G0 with
                | true =>
                  k_extra "rr"
                  exact q' H3 (Same.refl _)
                | false =>
                  k_extra "rr"
                  refine ix0 s3 ?_
                  k_extra "rr"
                  rw [e2, S_injH]
                  by_cases hw : wd = wWithin
                  · rw [decide_eq_true hw] at q' ⊢
                    k_extra "rr"
                    refine ⟨m, mkI 0 fo, (j : Int), (i : Int), rfl, s3 _ _ hm, ml, mem j hj, mem i hi, fun H5 s5 => ?_⟩
                    exact q' H5 s5
                  · rw [decide_eq_false hw] at q' ⊢
                    k_extra "rr"
                    exact q' H3 (Same.refl _)
              have s34 := s3.trans s4
              have hst4 := s34 _ _ hst
              generalize hG1 : (G0 || (decide (wd = wWithin) && aboveB (mkI 0 fo) (j : Int) (i : Int))) = G1
              repeat ((fail_if_success (with_reducible refine Rg.orV ?_)); k_extra "r")
              refine toH (v := .bl (G1 || (decide (wd = wAhead) && aheadB (mkI 0 fo) (i : Int) (j : Int)))) (H := H4) (fun H5 s5 => ?_) (fun Q' q' => ?_)
              case refine_2 =>
                cases G1 with
                | true =>
                  k_extra "rr"
                  exact q' H4 (Same.refl _)
                | false =>
                  k_extra "rr"
                  refine ix0 s34 ?_
                  k_extra "rr"
                  rw [e3, S_injH]
                  by_cases hw : wd = wAhead
                  · rw [decide_eq_true hw] at q' ⊢
                    k_extra "rr"
                    refine ⟨m, mkI 0 fo, (i : Int), (j : Int), rfl, s34 _ _ hm, ml, mem i hi, mem j hj, fun H5 s5 => ?_⟩
                    exact q' H5 s5
                  · rw [decide_eq_false hw] at q' ⊢
                    k_extra "rr"
                    exact q' H4 (Same.refl _)
              k_extra "rr"
              refine (hPw _ _ _).mpr ⟨some (.int (j : Int)), ?_, s34.trans s5⟩
              rw [any_succ, ← Bool.or_assoc, hG0, ← hG1]
              have ec : cndB fo wd (i : Int) (j : Int) = ((decide (wd = wWithin) && aboveB (mkI 0 fo) (j : Int) (i : Int)) || (decide (wd = wAhead) && aheadB (mkI 0 fo) (i : Int) (j : Int))) := by
                unfold cndB
                rcases hwd with rfl | rfl
                · rw [if_pos rfl, decide_eq_true rfl, decide_eq_false (show ¬ wWithin = wAhead by decide), Bool.true_and, Bool.false_and, Bool.or_false]
                · rw [if_neg (show ¬ wAhead = wWithin by decide), decide_eq_true rfl, decide_eq_false (show ¬ wAhead = wWithin by decide), Bool.true_and, Bool.false_and, Bool.false_or]
              rw [decide_eq_true (show (fks fo)[j]? = some b by rw [hkj, hkb]), Bool.true_and, ec, Bool.or_assoc]
              rfl
            · rw [decide_eq_false hkb]
              k_extra "rr"
              refine (hPw _ _ _).mpr ⟨some (.int (j : Int)), ?_, s3⟩
              rw [any_succ, decide_eq_false (show ¬ (fks fo)[j]? = some b by rw [hkj]; exact fun z => hkb (Option.some.inj z)), Bool.false_and, Bool.or_false, hG0]
              rfl
          · intro σ H3 hp
            obtain ⟨v5, rfl, s3⟩ := (hPw _ _ _).mp hp
            refine (hPv _ _ _).mpr ⟨some (.int (i : Int)), v5, ?_, s3⟩
            rw [any_succ, hF, nN]
            have hP : pairB fo [wd, a, b] i = ((List.range fo.size).any fun m => decide ((fks fo)[m]? = some b) && cndB fo wd (i : Int) (m : Int)) := by
              show (decide ((fks fo)[i]? = some a) && _) = _
              rw [decide_eq_true (by rw [hkd, hka]), Bool.true_and]
            rw [hP]
      · rw [decide_eq_false hka]
        k_extra "rr"
        have hP : pairB fo (wd :: a :: rs) i = false := by
          have : ¬ (fks fo)[i]? = some a := by rw [hkd]; exact fun z => hka (Option.some.inj z)
          rcases hrs with ⟨rfl, rfl⟩ | ⟨b, rfl, hwd⟩
          · exact decide_eq_false this
          · show (decide ((fks fo)[i]? = some a) && _) = false
            rw [decide_eq_false this, Bool.false_and]
        refine (hPv _ _ _).mpr ⟨some (.int (i : Int)), v5, ?_, s2⟩
        rw [any_succ, hP, Bool.or_false, hF]
        rfl
    · intro σ H2 hp
      obtain ⟨v4, v5, rfl, s2⟩ := (hPv _ _ _).mp hp
      rw [nN]
      k_extra "rr"
      exact q H2 (s1.trans s2)
end

/-! ### check_shapes -/
def faultS : Nat → List PyData → Option Nat
  | _, [] => none
  | i, d :: r => if shapeB d = true then faultS (i + 1) r else some i
def chkD : PyData → Option Nat
  | .tuple ds => faultS 0 ds
  | .list ds => faultS 0 ds
  | _ => some 0
def isLT : PyData → Bool
  | .tuple _ => true
  | .list _ => true
  | _ => false
theorem kit_isLT : ∀ {K : PySem.W.Frag} (d : PyData), PySem.W.kitAny K (.type (tyN d)) [.type "list", .type "tuple"] = some (isLT d)
  | _, .none => kitAny2 kB_NoneType_list kB_NoneType_tuple
  | _, .bool _ => kitAny2 kB_bool_list kB_bool_tuple
  | _, .int _ => kitAny2 kB_int_list kB_int_tuple
  | _, .str _ => kitAny2 kB_str_list kB_str_tuple
  | _, .list _ => kitAny2 kB_list_list kB_list_tuple
  | _, .tuple _ => kitAny2 kB_tuple_list kB_tuple_tuple
  | _, .dict _ => kitAny2 kB_dict_list kB_dict_tuple
theorem faultS_drop : ∀ (s : List PyData) (i j : Nat) (d : PyData), s[j]? = some d → faultS (i + j) (s.drop j) = if shapeB d = true then faultS (i + j + 1) (s.drop (j + 1)) else some (i + j)
  | [], i, j, d, h => by cases h
  | x :: s, i, 0, d, h => by
    cases h
    rfl
  | x :: s, i, j + 1, d, h => by
    have e := faultS_drop s (i + 1) j d h
    rw [show i + (j + 1) = i + 1 + j by omega]
    exact e
def spChkS (C : Addr) : Sp := fun vs H Q E => ∃ (v : V) (b : Addr) (d : PyData), vs = [v] ∧ Dq b H d v ∧ gD d = true ∧ sz d ≤ 10000 ∧
  (chkD d = none → ∀ H', Same H H' → Q .non H') ∧ (∀ i, chkD d = some i → ∀ H' dd, Same H H' → ErrAt H' dd "at" "BadShape" (.int (i : Int)) → E (.ref C) (some dd) H')
section
variable {P : Program} {w : World} {K : PySem.W.Frag} {mg : Str → Option Value} {base : Heap} {f C : Addr} {fd : FuncData}
theorem ok_check_shapes (F : Fun K "check_shapes" "check_shapes" s_check_shapes f fd) (T : Txt mg) (c_is_shape : Cal P w K mg base 3 "is_shape" spIsShape)
    (err_BadShape : ErrC P w K mg base "BadShape" C 2 (spIni K "BadShape" "at")) (n1 : PySem.W.findIn K (.ref C) "code" = some none) (n2 : PySem.W.findIn K (.ref C) "at" = some none) : FnOk P w K mg base (L2.CX P w) 4 f fd ["shapes"] (spChkS C) := by
  refine F.okX sc_check_shapes (fun vs H Q E h => ?_) (fun cdv A outer s H vs Q E hr h => ?_)
  · obtain ⟨v, b, d, rfl, _⟩ := h
    rfl
  · obtain ⟨v, b, d, rfl, hv, hg, hs, q, qx⟩ := h
    refine ⟨_, (pss_cons (ps_if (pt_not (pt_val (pe_callB (cr_isiT K) (by rfl) T.isinstance (by decide +kernel) (pa_cons (pv 0) (pa_cons (pe_tup (pa_cons (pe_bltn (v := .ty "list") (by rfl) T.list (by decide +kernel) rfl) (pa_cons (pe_bltn (v := .ty "tuple") (by rfl) T.tuple (by decide +kernel) rfl) pa_nil))) pa_nil))))) (pss_one (ps_rz rfl (takes_of rfl rfl rfl rfl) err_BadShape hr (by omega) (by rfl) (pa_cons pe_int pa_nil))) pss_nil)
      (pss_one (ps_for (passes_of rfl) rfl (pi_enX K (by rfl) T.enumerate (pa_cons (pv 0) pa_nil)) (pg_tupX K (pg_tup (n := 2) (by rfl) (pgs_cons (pg_name (i := 1) sc_check_shapes.nd rfl (.inl rfl)) (pgs_cons (pg_name (i := 2) sc_check_shapes.nd rfl (.inl rfl)) pgs_nil)))) (pss_one (ps_if (pt_not (pt_val (pe_c c_is_shape hr (by omega) (by rfl) (pa_cons (pv 2) pa_nil)))) (pss_one (ps_rz rfl (takes_of rfl rfl rfl rfl) err_BadShape hr (by omega) (by rfl) (pa_cons (pv 1) pa_nil))) pss_nil))))), ?_⟩
    change (_ : TS) _ [some v, none, none] _
    k_extra "rr"
    refine ⟨by k_extra "sz", fun p0 np0 => ?_⟩
    k_extra "rr"
    have s0 := same_upd (o := .tup [V.ty "list", V.ty "tuple"]) np0
    have hv0 := hv.le (Le.same s0)
    refine isiT (b := isLT d) upd_same (cls2 _ _) hv0.ty (kit_isLT d) ?_
    generalize upd H p0 (.tup [V.ty "list", V.ty "tuple"]) = H0 at s0 hv0
    cases hlt : isLT d with
    | false =>
      k_extra "rr"
      refine rz ?_
      k_extra "rr"
      refine ⟨Nat.le_of_ble_eq_true rfl, fun a na2 => ini_ok err_BadShape.T n1 n2 na2 fun dd H' s6 h6 => ?_⟩
      have e : chkD d = some 0 := by
        cases d <;> first | rfl | cases hlt
      exact qx 0 e H' dd (s0.trans s6) h6
    | true =>
      k_extra "rr"
      obtain ⟨ds, a, l, rfl, hD, hc, hl, hga, hsa⟩ : ∃ ds a l, v = .ref a ∧ (H0 a = some (.lst l) ∨ H0 a = some (.tup l)) ∧ chkD d = faultS 0 ds ∧ DqA b H0 ds l ∧ gA ds = true ∧ szA ds ≤ 10000 := by
        cases d with
        | tuple ds =>
          obtain ⟨a, l, rfl, h1, h2⟩ := hv0.tup
          exact ⟨ds, a, l, rfl, .inr h1, rfl, h2, by simpa only [gD] using hg, by simp only [sz] at hs; omega⟩
        | list ds =>
          simp only [Dq] at hv0
          obtain ⟨a, l, rfl, n, h1, h2⟩ := hv0
          exact ⟨ds, a, l, rfl, .inl h1, rfl, h2, by simpa only [gD] using hg, by simp only [sz] at hs; omega⟩
        | none => cases hlt
        | bool _ => cases hlt
        | int _ => cases hlt
        | str _ => cases hlt
        | dict _ => cases hlt
      rw [hc] at q qx
      have tl := hl.len
      have go : ∀ {J : It} {G : Hp → Prop} (w : Walk J l.length G (YPair (fun i => some (.int (i : Nat))) (fun i => l[i]?))) (hG : ∀ H', Same H0 H' → G H'), True := fun _ _ => trivial
      refine ⟨a, l, rfl, ?_⟩
      rcases hD with hD | hD
      case' inl =>
        refine .inl ⟨SqL.of hD, ?_⟩
        have hW := walk_enum (K := K) (a := a) (xs := l)
        have hG : ∀ H', Same H0 H' → SqL K H' a l := fun H' s => SqL.of (s _ _ hD)
      case' inr =>
        refine .inr ⟨SqT.of hD, ?_⟩
        have hW := walk_enT (K := K) (a := a) (xs := l)
        have hG : ∀ H', Same H0 H' → SqT K H' a l := fun H' s => SqT.of (s _ _ hD)
      all_goals
        refine for_it hW (fun i σ H' => ∃ (v1 v2 : Option V), σ = [some (.ref a), v1, v2] ∧ Same H0 H' ∧ faultS i (ds.drop i) = faultS 0 ds) ⟨_, _, rfl, Same.refl _, rfl⟩ (fun i σ H' _ ⟨_, _, _, s, _⟩ => hG _ s) ?_ ?_
        · rintro i x σ H3 H4 hi ⟨v1, v2, rfl, s3, hbx⟩ ⟨Tp, x0, y0, rfl, nT, rfl, ex, ey⟩
          cases ex
          obtain ⟨di, edi, hdi⟩ := hl.get ey
          have s4 := s3.trans (same_upd (o := .tup [.int (i : Nat), y0]) nT)
          have hbd := faultS_drop ds 0 i _ edi
          rw [Nat.zero_add, hbx] at hbd
          have hdi4 := hdi.le (Le.same s4)
          k_extra "rr"
          refine ⟨_, b, di, rfl, hdi4, gA_mem hga (List.mem_of_getElem? edi), ?_, fun H5 s5 => ?_⟩
          · have : ∀ {ds : List PyData} {x : PyData}, x ∈ ds → sz x ≤ szA ds := by
              intro ds
              induction ds with
              | nil => intro x m; cases m
              | cons y r ih =>
                intro x m
                simp only [szA]
                rcases List.mem_cons.mp m with rfl | m
                · omega
                · have := ih m
                  omega
            exact Nat.le_trans (this (List.mem_of_getElem? edi)) hsa
          cases hsb : shapeB di with
          | false =>
            rw [hsb, if_neg Bool.false_ne_true] at hbd
            k_extra "rr"
            refine rz ?_
            k_extra "rr"
            refine ⟨Nat.le_of_ble_eq_true rfl, fun a na2 => ini_ok err_BadShape.T n1 n2 na2 fun dd H' s6 h6 => ?_⟩
            exact qx i hbd H' dd (((s0.trans s4).trans s5).trans s6) h6
          | true =>
            rw [hsb, if_pos rfl] at hbd
            k_extra "rr"
            exact ⟨_, _, rfl, s4.trans s5, hbd.symm⟩
        · rintro σ H3 ⟨v1, v2, rfl, s3, hbx⟩
          rw [tl, List.drop_length] at hbx
          k_extra "rr"
          exact q hbx.symm H3 (s0.trans s3)
end

/-! ### literal values -/
inductive Lit where
  | non
  | bl (b : Bool)
  | int (i : Int)
  | str (z : Str)
  | mul (z : Str) (n : Nat)
  | tup (xs : List Lit)
  | lst (xs : List Lit)
mutual
def Lit.data : Lit → PyData
  | .non => .none
  | .bl b => .bool b
  | .int i => .int i
  | .str z => .str z
  | .mul z n => .str (Txt.mul z n)
  | .tup xs => .tuple (Lit.dataA xs)
  | .lst xs => .list (Lit.dataA xs)
def Lit.dataA : List Lit → List PyData
  | [] => []
  | x :: r => x.data :: Lit.dataA r
end
mutual
def Lit.te : Lit → TE
  | .non => tC .non
  | .bl b => tC (.bl b)
  | .int i => tC (.int i)
  | .str z => tC (.str z)
  | .mul z n => tOp rMulX (tC (.str z)) (tC (.int n))
  | .tup xs => tTup (Lit.ta xs)
  | .lst xs => tLst (Lit.ta xs)
def Lit.ta : List Lit → TA
  | [] => tNil
  | x :: r => tCons x.te (Lit.ta r)
end
mutual
def Lit.ok : Lit → Bool
  | .non => true
  | .bl _ => true
  | .int _ => true
  | .str _ => true
  | .mul z n => decide (z.length ≤ 1000) && decide (n ≤ 1000)
  | .tup xs => decide (xs.length ≤ 1000) && Lit.okA xs
  | .lst xs => decide (xs.length ≤ 1000) && Lit.okA xs
def Lit.okA : List Lit → Bool
  | [] => true
  | x :: r => x.ok && Lit.okA r
end
theorem Lit.lenA : ∀ xs : List Lit, (Lit.dataA xs).length = xs.length
  | [] => rfl
  | x :: r => by rw [Lit.dataA, List.length_cons, List.length_cons, Lit.lenA r]
mutual
theorem Lit.run {b : Addr} {l : List V} : ∀ (x : Lit) {σ : St} {H : Hp} {Q : VK}, x.ok = true → H b = some (.lst l) → (∀ v H', Same H H' → Dq b H' x.data v → Q v H') → x.te σ H Q
  | .non, σ, H, Q, _, _, q => q _ H (Same.refl H) (by rw [Lit.data]; exact Dq.non_mk)
  | .bl c, σ, H, Q, _, _, q => q _ H (Same.refl H) (by rw [Lit.data]; exact Dq.bl_mk c)
  | .int i, σ, H, Q, _, _, q => q _ H (Same.refl H) (by rw [Lit.data]; exact Dq.int_mk i)
  | .str z, σ, H, Q, _, _, q => q _ H (Same.refl H) (by rw [Lit.data]; exact Dq.str_mk z)
  | .mul z n, σ, H, Q, h, _, q => by
    simp only [Lit.ok, Bool.and_eq_true, decide_eq_true_eq] at h
    simp only [Lit.te]
    k_extra "rr"
    exact mulS h.1 (by omega) (by omega) (q _ H (Same.refl H) (by rw [Lit.data]; exact Dq.str_mk _))
  | .tup xs, σ, H, Q, h, hb, q => by
    simp only [Lit.ok, Bool.and_eq_true, decide_eq_true_eq] at h
    simp only [Lit.te]
    refine Rg.tup_ (Lit.runA xs h.2 hb fun vs H1 s1 h1 => ⟨?_, fun p np => q _ _ (s1.trans (same_upd np)) ?_⟩)
    · rw [h1.len, Lit.lenA, sizeLine_eq]
      omega
    · rw [Lit.data]
      exact Dq.tup_mk upd_same (h1.le (Le.new np))
  | .lst xs, σ, H, Q, h, hb, q => by
    simp only [Lit.ok, Bool.and_eq_true, decide_eq_true_eq] at h
    simp only [Lit.te]
    refine Rg.lst_ (Lit.runA xs h.2 hb fun vs H1 s1 h1 => ⟨?_, fun p np => q _ _ (s1.trans (same_upd np)) ?_⟩)
    · rw [h1.len, Lit.lenA, sizeLine_eq]
      omega
    · rw [Lit.data]
      exact Dq.lst_mk (ne_of_none (s1 _ _ hb) np).symm upd_same (h1.le (Le.new np))
theorem Lit.runA {b : Addr} {l : List V} : ∀ (xs : List Lit) {σ : St} {H : Hp} {QA : List V → Hp → Prop}, Lit.okA xs = true → H b = some (.lst l) → (∀ vs H', Same H H' → DqA b H' (Lit.dataA xs) vs → QA vs H') → Lit.ta xs σ H QA
  | [], σ, H, QA, _, _, q => q [] H (Same.refl H) (by rw [Lit.dataA]; exact .nil)
  | x :: r, σ, H, QA, h, hb, q => by
    simp only [Lit.okA, Bool.and_eq_true] at h
    simp only [Lit.ta]
    refine Rg.acons (Lit.run x h.1 hb fun v H1 s1 h1 => Lit.runA r h.2 (s1 _ _ hb) fun vs H2 s2 h2 => q _ _ (s1.trans s2) ?_)
    rw [Lit.dataA]
    exact .cons (h1.le (Le.same s2)) h2
end
/-- drawn from a literal list: one of its items -/
theorem lit_of {K : PySem.W.Frag} {b r : Addr} {xs : List Lit} {t : TE} (et : (Lit.lst xs).te = t) {σ : St} {H : Hp} {Q : VK} (ok : (Lit.lst xs).ok = true) (h0 : 0 < xs.length) (hb : BagAt H b r) (q : ∀ v d H', d ∈ Lit.dataA xs → But b H H' → BagAt H' b r → Dq b H' d v → Q v H') :
    t σ H fun v H1 => tNil σ H1 fun xs H2 => spOf K (.ref b :: v :: xs) H2 Q E0 := by
  show t σ H fun v H1 => spOf K [.ref b, v] H1 Q E0
  rw [← et]
  obtain ⟨l, hl⟩ : ∃ l, H b = some (.lst l) := by
    obtain ⟨ns, i, c, m, h1, _⟩ := hb
    exact ⟨_, h1⟩
  have ok2 := ok
  simp only [Lit.ok, Bool.and_eq_true, decide_eq_true_eq] at ok2
  simp only [Lit.te]
  refine Rg.lst_ (Lit.runA xs ok2.2 hl fun vs H1 s1 h1 => ⟨?_, fun p np => ?_⟩)
  · rw [h1.len, Lit.lenA, sizeLine_eq]
    omega
  · have hb1 := (hb.same s1).new (o := .lst vs) np
    have len := h1.len
    rw [Lit.lenA] at len
    refine ⟨b, r, _, rfl, hb1, .inr ⟨p, vs, rfl, ((hb.same s1).ne_none np).1, SqL.of upd_same, by omega, by omega, fun i v H2 hv bb hb2 => ?_⟩⟩
    obtain ⟨d, ed, hd⟩ := h1.get hv
    have l1 : Le b (upd H1 p (.lst vs)) H2 := by
      obtain ⟨ns, i, c, m, e1, _⟩ := hb1
      exact Le.but bb e1
    exact q v d H2 (List.mem_of_getElem? ed) ((But.of_same (s1.trans (same_upd np))).trans bb) hb2 (hd.le ((Le.new np).trans l1))

/-! ### good texts -/
theorem gS_of {l : List Nat} (h1 : l.length ≤ 1000) (h2 : ∀ c ∈ l, OkC c) : gS (SX.S l) = true := by
  unfold gS
  rw [SX.S_len]
  simp only [Bool.and_eq_true, decide_eq_true_eq, List.all_eq_true]
  refine ⟨h1, fun c hc => h2 c ?_⟩
  simpa [SX.S] using hc
theorem okC_letters : ∀ c ∈ letters, OkC c := by decide
theorem okC_sign {c : Nat} (h : signB c = true) : OkC c := by
  unfold signB at h
  simp only [Bool.and_eq_true, decide_eq_true_eq] at h
  exact .inl ⟨h.1, h.2.1⟩
theorem word_S {k : List Nat} {n : Int} (h1 : ∀ c ∈ k, c ∈ letters) (h2 : 1 ≤ k.length) (h3 : (k.length : Int) ≤ n) : wordB (.str (SX.S k)) n = true := by
  have e : (SX.S k).cps.toList = k := by simp [SX.S]
  show (decide (1 ≤ ((SX.S k).length : Int)) && (decide (((SX.S k).length : Int) ≤ n) && _)) = true
  rw [SX.S_len, decide_eq_true (show 1 ≤ (k.length : Int) by omega), decide_eq_true h3, e, Bool.true_and, Bool.true_and]
  refine List.all_eq_true.mpr fun x hx => ?_
  obtain ⟨c, hc, rfl⟩ := List.mem_map.mp hx
  exact decide_eq_true (h1 c hc)

/-! ### what every law's text has -/
theorem toP {Q : VK} {g : VK → Prop} (M : V → Hp → Prop) (h : ∀ v H', M v H' → Q v H') (k : ∀ Q' : VK, (∀ v H', M v H' → Q' v H') → g Q') : g Q := k Q h
def spLaw (K : PySem.W.Frag) (PA : Addr) : Sp := fun vs H Q _ => ∃ (a : Addr) (ns : List Int), vs = [.ref a] ∧ SqL K H a (ns.map V.int) ∧ ns.length ≤ 63 ∧ H PA = some (.tbl #[]) ∧ ∀ H', Q (.bl true) H'
abbrev tabQ (PA : Addr) : List (Addr × Str) := [(PA, "law.<locals>.<lambda>")]
theorem BagAt.lst {H : Hp} {b r : Addr} (h : BagAt H b r) : ∃ l, H b = some (.lst l) := by
  obtain ⟨ns, i, c, m, h1, _⟩ := h
  exact ⟨_, h1⟩
theorem BagAt.le {H H' : Hp} {b r : Addr} (h : BagAt H b r) (s : But b H H') : Le b H H' := by
  obtain ⟨l, h1⟩ := h.lst
  exact Le.but s h1

/-! ### the law -/
theorem signs_ok : ∀ c ∈ signsL, signB c = true := by decide
theorem field_at : fldOf "BadShape" = some "at" := by decide +kernel
theorem code_at : (("code" : Str) == ("at" : Str)) = false := by decide
def oddL : List Lit := [.non, (.int 3), (.tup []), (.str "one"), (.tup [(.str "one")]), (.tup [(.str "one"), (.str "a"), (.str "b")]), (.tup [(.str "within"), (.str "a")]), (.tup [(.str "ahead"), (.str "a"), (.str "rest")]), (.tup [(.str "one"), (.str "rest")]), (.tup [(.str "One"), (.str "a")]), (.tup [(.str "one"), (.str "A")]), (.lst [(.str "one"), (.str "a")]), (.tup [(.tup [(.str "one")]), (.str "a")]), (.tup [(.str "ahead"), (.str "a"), (.str "abcdefg")]), (.tup [(.str "two"), (.str "a"), (.str "b")])]
theorem oddL_te : (Lit.lst oddL).te = (tLst (tCons (tC .non) (tCons (tC (.int 3)) (tCons (tTup tNil) (tCons (tC (.str "one")) (tCons (tTup (tCons (tC (.str "one")) tNil)) (tCons (tTup (tCons (tC (.str "one")) (tCons (tC (.str "a")) (tCons (tC (.str "b")) tNil)))) (tCons (tTup (tCons (tC (.str "within")) (tCons (tC (.str "a")) tNil))) (tCons (tTup (tCons (tC (.str "ahead")) (tCons (tC (.str "a")) (tCons (tC (.str "rest")) tNil)))) (tCons (tTup (tCons (tC (.str "one")) (tCons (tC (.str "rest")) tNil))) (tCons (tTup (tCons (tC (.str "One")) (tCons (tC (.str "a")) tNil))) (tCons (tTup (tCons (tC (.str "one")) (tCons (tC (.str "A")) tNil))) (tCons (tLst (tCons (tC (.str "one")) (tCons (tC (.str "a")) tNil))) (tCons (tTup (tCons (tTup (tCons (tC (.str "one")) tNil)) (tCons (tC (.str "a")) tNil))) (tCons (tTup (tCons (tC (.str "ahead")) (tCons (tC (.str "a")) (tCons (tC (.str "abcdefg")) tNil)))) (tCons (tTup (tCons (tC (.str "two")) (tCons (tC (.str "a")) (tCons (tC (.str "b")) tNil)))) tNil)))))))))))))))) := by
  unfold oddL
  simp only [Lit.te, Lit.ta]
  try rfl
theorem oddL_ok : ∀ d ∈ Lit.dataA oddL, gD d = true ∧ d.depth ≤ 5 ∧ sz d ≤ 10 ∧ shapeB d = false := by decide +kernel
def strL : List Lit := [.non, (.int 3), (.str "one"), (.bl true)]
theorem strL_te : (Lit.lst strL).te = (tLst (tCons (tC .non) (tCons (tC (.int 3)) (tCons (tC (.str "one")) (tCons (tC (.bl true)) tNil))))) := by
  unfold strL
  simp only [Lit.te, Lit.ta]
  try rfl
theorem strL_ok : ∀ d ∈ Lit.dataA strL, gD d = true ∧ d.depth ≤ 5 ∧ sz d ≤ 10 ∧ chkD d = some 0 := by decide +kernel
theorem kind_good {k : List Nat} (h : GoodK k) : kindB (.str (SX.S k)) = true := by
  show (wordB (.str (SX.S k)) 6 && !decide (V.str (SX.S k) = .str "rest")) = true
  rw [word_S h.1 h.2.1 (show (k.length : Int) ≤ 6 by have := h.2.2.1; omega), decide_eq_false (p := V.str (SX.S k) = .str "rest") (fun z => h.2.2.2 (SX.S_inj ((V.str.inj z).trans rest_S)))]
  rfl
theorem gS_word {k : List Nat} (h : GoodK k) : gS (SX.S k) = true := gS_of (by have := h.2.2.1; omega) fun c hc => okC_letters c (h.1 c hc)
structure ShG (sh : List (List Nat)) : Prop where
  form : ShForm sh
  ok : shapeB (wordsD sh) = true
  g : gD (wordsD sh) = true
  sz_ : sz (wordsD sh) ≤ 10
  dep : (wordsD sh).depth ≤ 5
  lay : (wordsD sh).canLay0 = true
theorem words_sz (sh : List (List Nat)) : sz (wordsD sh) = 1 + sh.length := by
  unfold wordsD
  simp only [sz]
  congr 1
  induction sh with
  | nil => rfl
  | cons x r ih => simp only [List.map_cons, szA, sz, ih, List.length_cons]; omega
theorem words_dep (sh : List (List Nat)) : (wordsD sh).depth ≤ 5 := by
  unfold wordsD
  simp only [PyData.depth]
  have : PyData.depthAll (sh.map fun w => PyData.str (SX.S w)) ≤ 2 := by
    induction sh with
    | nil => simp [PyData.depthAll]
    | cons x r ih => simp only [List.map_cons, PyData.depthAll, PyData.depth]; omega
  omega
theorem words_lay {sh : List (List Nat)} (h : ∀ w ∈ sh, ∀ c ∈ w, c ∈ letters) : (wordsD sh).canLay0 = true := by
  unfold wordsD
  simp only [PyData.canLay0]
  induction sh with
  | nil => simp [PyData.canLayAll0]
  | cons x r ih =>
    have b1 := ok_S fun c hc => letters_small c (h x (List.mem_cons_self ..) c hc)
    simp only [List.map_cons, PyData.canLayAll0, PyData.canLay0, b1, ih fun w m => h w (List.mem_cons_of_mem _ m), Bool.and_self]
theorem shg {ks sh : List (List Nat)} (h : ShapeOk ks sh) (g : ∀ k ∈ ks, GoodK k) : ShG sh := by
  have l1 : ∀ c ∈ wOne, c ∈ letters := by decide
  have l2 : ∀ c ∈ wWithin, c ∈ letters := by decide
  have l3 : ∀ c ∈ wAhead, c ∈ letters := by decide
  have g1 : gS (SX.S wOne) = true := by decide +kernel
  have g2 : gS (SX.S wWithin) = true := by decide +kernel
  have g3 : gS (SX.S wAhead) = true := by decide +kernel
  rcases h with ⟨k, rfl, hk⟩ | ⟨w, k, k2, rfl, hw, hk, hk2⟩
  · have gk := g k hk
    refine ⟨.inl ⟨k, rfl⟩, ?_, ?_, by rw [words_sz]; show 1 + 2 ≤ 10; decide, words_dep _, words_lay fun x m => ?_⟩
    · show (decide (sizeN (SX.S wOne) = ([PyData.str (SX.S k)].length : Int) + 1) && ([PyData.str (SX.S k)].map kindB).all id) = true
      rw [show sizeN (SX.S wOne) = 2 by decide +kernel]
      simp [kind_good gk]
    · simp only [wordsD, List.map_cons, List.map_nil, gD, gA, g1, gS_word gk, Bool.and_self]
    · simp only [List.mem_cons, List.not_mem_nil, or_false] at m
      rcases m with rfl | rfl
      · exact l1
      · exact gk.1
  · have gk := g k hk
    have gk2 := g k2 hk2
    have gw : gS (SX.S w) = true ∧ ∀ c ∈ w, c ∈ letters := by
      rcases hw with rfl | rfl
      · exact ⟨g2, l2⟩
      · exact ⟨g3, l3⟩
    refine ⟨.inr ⟨w, k, k2, rfl, hw⟩, ?_, ?_, by rw [words_sz]; show 1 + 3 ≤ 10; decide, words_dep _, words_lay fun x m => ?_⟩
    · show (decide (sizeN (SX.S w) = ([PyData.str (SX.S k), PyData.str (SX.S k2)].length : Int) + 1) && ([PyData.str (SX.S k), PyData.str (SX.S k2)].map kindB).all id) = true
      rw [show sizeN (SX.S w) = 3 by rcases hw with rfl | rfl <;> decide +kernel]
      simp [kind_good gk, kind_good gk2]
    · simp only [wordsD, List.map_cons, List.map_nil, gD, gA, gw.1, gS_word gk, gS_word gk2, Bool.and_self]
    · simp only [List.mem_cons, List.not_mem_nil, or_false] at m
      rcases m with rfl | rfl | rfl
      · exact gw.2
      · exact gk.1
      · exact gk2.1
theorem fault_good : ∀ (shs : List (List (List Nat))) (i : Nat) (r : List PyData), (∀ sh ∈ shs, shapeB (wordsD sh) = true) → faultS i (shs.map wordsD ++ r) = faultS (i + shs.length) r
  | [], i, r, _ => rfl
  | sh :: s, i, r, h => by
    show (if shapeB (wordsD sh) = true then faultS (i + 1) (s.map wordsD ++ r) else some i) = _
    rw [if_pos (h sh (List.mem_cons_self ..)), fault_good s (i + 1) r fun x m => h x (List.mem_cons_of_mem _ m), List.length_cons, show i + 1 + s.length = i + (s.length + 1) by omega]
theorem TWs.dqA {b : Addr} {H : Hp} : ∀ {s : List (List (List Nat))} {m : List V}, TWs H s m → DqA b H (s.map wordsD) m
  | [], _, e => by
    obtain rfl : _ = [] := e
    exact .nil
  | ws :: r, _, ⟨q, m', e, h1, h2⟩ => by
    subst e
    exact .cons (Dq.tup_mk h1 (DqA.words ws)) h2.dqA
theorem gA_shs {shs : List (List (List Nat))} (h : ∀ sh ∈ shs, ShG sh) : gA (shs.map wordsD) = true ∧ szA (shs.map wordsD) ≤ 10 * shs.length ∧ PyData.canLayAll0 (shs.map wordsD) = true ∧ PyData.depthAll (shs.map wordsD) ≤ 6 := by
  induction shs with
  | nil => exact ⟨rfl, Nat.le_refl _, by simp [PyData.canLayAll0], by simp [PyData.depthAll]⟩
  | cons x r ih =>
    obtain ⟨a, b, c, d⟩ := ih fun s m => h s (List.mem_cons_of_mem _ m)
    have hx := h x (List.mem_cons_self ..)
    have := hx.sz_
    have := hx.dep
    refine ⟨?_, ?_, ?_, ?_⟩
    · simp only [List.map_cons, gA, hx.g, a, Bool.and_self]
    · simp only [List.map_cons, szA, List.length_cons]; omega
    · simp only [List.map_cons, PyData.canLayAll0, hx.lay, c, Bool.and_self]
    · simp only [List.map_cons, PyData.depthAll]; omega
theorem inV_bls (bs : List Bool) : inV (.bl true) (bs.map V.bl) = bs.any id := by
  unfold inV
  rw [List.any_map]
  congr 1
  funext x
  cases x <;> rfl
def badD (i : Nat) : PyData := .tuple [.str "BadShape", .int (i : Int)]
/-- the written document of the end -/
def lastF : Fo := .cons [97] [] (.cons [97] [] (.cons [98] [] .nil .nil) .nil) (.cons [98] [] .nil .nil)
theorem lastG : GF lastF := by
  refine ⟨⟨by decide, by decide, by decide, by decide, by decide⟩, ⟨⟨by decide, by decide, by decide, by decide, by decide⟩, ⟨⟨by decide, by decide, by decide, by decide, by decide⟩, trivial, trivial⟩, trivial⟩, ⟨⟨by decide, by decide, by decide, by decide, by decide⟩, trivial, trivial⟩⟩
theorem last1 : holdsB lastF [wWithin, [97], [97]] = true := by decide +kernel
theorem last2 : holdsB lastF [wAhead, [97], [97]] = false := by decide +kernel
theorem last3 : holdsB lastF [wAhead, [98], [98]] = true := by decide +kernel
theorem last4 : [[wOne, [97]]].any (holdsB .nil) = false := by decide +kernel
theorem tft_sh : SeqAt.shaped (.list [.bool true, .bool false, .bool true]) = true := by decide +kernel
section
variable {P : Program} {w : World} {K : PySem.W.Frag} {mg : Str → Option Value} {base : Heap} {f C cA PA g1 g2 g3 : Addr}
/-- what _law_why(lambda: check_shapes(v)) gives where v is none -/
theorem why_chks {σ : St} {H : Hp} {Q : VK} {t : XK → TE} (exm : PySem.W.exmAny K (.ref C) [.ref g1, .ref g2, .ref g3] = some true) (xf : XfC K C) (n1 : PySem.W.findIn K (.ref C) "code" = some none) (n2 : PySem.W.findIn K (.ref C) "at" = some none)
    (b : Addr) (d : PyData) (v : V) (i : Nat) (ht : ∀ (E : XK) (H1 : Hp) (Q1 : VK), spChkS C [v] H1 Q1 E → t E σ H1 Q1) (hT : LamX.Tabs (tabQ PA) H) (hv : Dq b H d v) (g : gD d = true) (hs : sz d ≤ 10000) (hc : chkD d = some i)
    (q : ∀ (p : Addr) (H1 H2 : Hp), LamX.ExtN H H1 → Same H1 H2 → LamX.Tabs (tabQ PA) H2 → H2 p = some (.tup [.str "BadShape", .int (i : Int)]) → Q (.ref p) H2) : LamX.tLam (tabQ PA) (TTwhy K (.ref g1) (.ref g2) (.ref g3)) t σ H Q := by
  refine why_ hT fun H1 e1 hT1 => ht _ _ _ ⟨v, b, d, rfl, hv.le (Le.ext e1), g, hs, fun e => (by rw [hc] at e; cases e), fun i2 e H2 dd s2 he => ?_⟩
  rw [hc] at e
  cases e
  refine why_x exm xf n1 n2 field_at code_at he fun p3 H3 s3 h3 => ?_
  exact q p3 H1 H3 e1 (s2.trans s3) (hT1.ext fun c o h => (s2.trans s3) c o h) h3
/-- a call by keywords alone -/
def kwO {α : Type} (us ws : List α) : List α := match us with
  | [] => ws
  | _ :: _ => []
theorem ok_law {u1 u2 u3 : Addr} {oc dc pm ct kV : Value} {od an : Option Addr} {sl : Array (Option Value)} (lk : K.lookup f = some ⟨oc, od, .func (PySem.W.fnOf "law" "law" (defArgs s_law) (defBody s_law) (defScope s_law) .none kV dc pm an (.ref cA) ct), sl⟩) (hcd : PySem.W.codeIn K (.ref cA) "law" = true) (T : Txt mg) (TB : LamX.TabB base mg cA PA)
    (hW : WhyC P w K mg base (.ref u1) (.ref u2) (.ref u3)) (exm : PySem.W.exmAny K (.ref C) [.ref u1, .ref u2, .ref u3] = some true) (xf : XfC K C) (n1 : PySem.W.findIn K (.ref C) "code" = some none) (n2 : PySem.W.findIn K (.ref C) "at" = some none)
    (c_law_bag : Cal P w K mg base 1 "_law_bag" (spBag K)) (c_law_names : Cal P w K mg base 4 "_law_names" spNames) (c_law_take : Cal P w K mg base 1 "_law_take" spTake) (c_law_of : Cal P w K mg base 2 "_law_of" (spOf K))
    (c_law_document : Cal P w K mg base 3 "_law_document" spDocument) (c_law_shape : Cal P w K mg base 3 "_law_shape" (spShape K)) (c_law_holds : Cal P w K mg base 35 "_law_holds" (spLHolds K)) (c_law_alike : Cal P w K mg base 11 "_law_alike" (spAlike K 10))
    (c_holds : Cal P w K mg base 4 "holds" (spHolds K)) (c_holds_any : Cal P w K mg base 5 "holds_any" (spHoldsAny K)) (k_holds_any_document_shapes : CalK P w K mg base 5 "holds_any" ["document", "shapes"] kwO (spHoldsAny K)) (k_holds_document_shape : CalK P w K mg base 4 "holds" ["document", "shape"] kwO (spHolds K))
    (c_check_shapes : CalR P w K mg base 4 "check_shapes" (spChkS C)) (r_check_shapes_shapes : CalRK P w K mg base 4 "check_shapes" ["shapes"] (fun us ws => us ++ ws) (spChkS C)) :
    FnOk P w K mg base CX0 61 f (PySem.W.fnOf "law" "law" (defArgs s_law) (defBody s_law) (defScope s_law) .none kV dc pm an (.ref cA) ct) ["_law_script"] (spLaw K PA) := by
  refine fn_of lk hcd sc_law (fun vs H Q E h => ?_) fun A outer s H vs Q E hr h => ?_
  · obtain ⟨a, ns, rfl, _⟩ := h
    rfl
  · suffices ∃ t, PSs (cxOf CX0 P w K mg base ["_law_script", "_law_bag_z", "_law_names_z", "_law_kinds", "_law_turn", "_law_some", "_law_document_z", "_law_kept", "_law_due", "_law_told", "_law_odd", "_law_at", "_law_late", "_law_strange", "_law_nested_z", "_law_k", "_law_shape_z"] "law" (defScope s_law) f (.ref cA) A outer s H E).nox (defBody s_law) t ∧ t { nx := fun _ H' => Q .non H', rt := Q } (L2.start ["_law_script", "_law_bag_z", "_law_names_z", "_law_kinds", "_law_turn", "_law_some", "_law_document_z", "_law_kept", "_law_due", "_law_told", "_law_odd", "_law_at", "_law_late", "_law_strange", "_law_nested_z", "_law_k", "_law_shape_z"] vs) H from
      let ⟨t, h1, h2⟩ := this
      ⟨t, h1.nox, h2⟩
    obtain ⟨a, ns, rfl, hS, hl, hP, q⟩ := h
    refine ⟨_, (pss_cons (ps_set (i := 1) sc_law.nd rfl (.inr rfl) (pe_c c_law_bag hr (by omega) (by rfl) (pa_cons (pv 0) pa_nil)))
      (pss_cons (ps_set (i := 2) sc_law.nd rfl (.inl rfl) (pe_c c_law_names hr (by omega) (by rfl) (pa_cons (pv 1) pa_nil)))
      (pss_cons (ps_set (i := 3) sc_law.nd rfl (.inr rfl) (pe_slice (sl_X K) (pe_ix (ix_X K) (pv 2) pe_int (fun _ _ => rfl)) po_none (po_some (pe_op (op_addX K) pe_int (pe_c c_law_take hr (by omega) (by rfl) (pa_cons (pv 1) (pa_cons pe_int pa_nil)))))))
      (pss_cons (ps_for PassesOwn.never rfl (pi_range1 (by rfl) T.range (pa_cons pe_int pa_nil)) (pg_name (i := 4) sc_law.nd rfl (.inl rfl)) (pss_cons (ps_setLc (i := 5) (own := [("_law_k", 15)]) (g := gName 15) (tt := tYes) (by rfl) sc_law.nd rfl rfl (sw_true rfl rfl rfl (by decide +kernel)) (pi_range1 (by rfl) T.range (pa_cons (pe_c c_law_take hr (by omega) (by rfl) (pa_cons (pv 1) (pa_cons pe_int pa_nil))) pa_nil)) (blkOk_by (own := [("_law_k", 15)]) (N := ["_law_script", "_law_bag_z", "_law_names_z", "_law_kinds", "_law_turn", "_law_some", "_law_document_z", "_law_kept", "_law_due", "_law_told", "_law_odd", "_law_at", "_law_late", "_law_strange", "_law_nested_z", "_law_k", "_law_shape_z"]) (sc := defScope s_law) (by decide +kernel)) (fun _ _ _ _ _ => pg_name (i := 15) sc_law.nd rfl (Or.inl rfl)) (fun _ _ _ _ _ => pts_nil) (fun _ _ _ _ _ => (pe_c c_law_shape hr (by omega) (by rfl) (pa_cons (pv 1) (pa_cons (pv 3) pa_nil)))))
      (pss_cons (ps_asg (pe_tup (pa_cons (pe_c c_law_document hr (by omega) (by rfl) (pa_cons (pv 1) (pa_cons (pv 3) (pa_cons pe_int pa_nil)))) (pa_cons (pe_callTy (cr_list K) (by rfl) T.list (by decide +kernel) (pa_cons (pv 5) pa_nil)) pa_nil))) (pg_tupX K (pg_tup (n := 2) (by rfl) (pgs_cons (pg_name (i := 6) sc_law.nd rfl (.inr rfl)) (pgs_cons (pg_name (i := 7) sc_law.nd rfl (.inl rfl)) pgs_nil)))))
      (pss_cons (ps_setLc (i := 8) (own := [("_law_shape_z", 16)]) (g := gName 16) (tt := tYes) (by rfl) sc_law.nd rfl rfl (sw_true rfl rfl rfl (by decide +kernel)) (pi_listX K (pv 5)) (blkOk_by (own := [("_law_shape_z", 16)]) (N := ["_law_script", "_law_bag_z", "_law_names_z", "_law_kinds", "_law_turn", "_law_some", "_law_document_z", "_law_kept", "_law_due", "_law_told", "_law_odd", "_law_at", "_law_late", "_law_strange", "_law_nested_z", "_law_k", "_law_shape_z"]) (sc := defScope s_law) (by decide +kernel)) (fun _ _ _ _ _ => pg_name (i := 16) sc_law.nd rfl (Or.inl rfl)) (fun _ _ _ _ _ => pts_nil) (fun _ _ _ _ _ => (pe_c c_law_holds hr (by omega) (by rfl) (pa_cons (pv 6) (pa_cons (pv 16) pa_nil)))))
      (pss_cons (ps_if (PW.pt (pw_or (pt_not (pt_val (pe_c c_law_alike hr (by omega) (by rfl) (pa_cons (pe_lc (own := [("_law_shape_z", 16)]) (g := gName 16) (tt := tYes) (by rfl) sc_law.nd (pi_listX K (pv 5)) (blkOk_by (own := [("_law_shape_z", 16)]) (N := ["_law_script", "_law_bag_z", "_law_names_z", "_law_kinds", "_law_turn", "_law_some", "_law_document_z", "_law_kept", "_law_due", "_law_told", "_law_odd", "_law_at", "_law_late", "_law_strange", "_law_nested_z", "_law_k", "_law_shape_z"]) (sc := defScope s_law) (by decide +kernel)) (fun _ _ _ _ _ => pg_name (i := 16) sc_law.nd rfl (Or.inl rfl)) (fun _ _ _ _ _ => pts_nil) (fun _ _ _ _ _ => (pe_c c_holds hr (by omega) (by rfl) (pa_cons (pv 6) (pa_cons (pv 16) pa_nil))))) (pa_cons (pv 8) pa_nil))))) (pw_or1 (pt_cmpR op_notNn (pe_cR takes0 c_check_shapes hr (by omega) (by rfl) (pa_cons (pv 5) pa_nil)) pe_non (nomark _))))) (pss_one (ps_ret pe_bl)) pss_nil)
      (pss_cons (ps_set (i := 9) sc_law.nd rfl (.inl rfl) (pe_lst (pa_cons (pe_c c_holds_any hr (by omega) (by rfl) (pa_cons (pv 6) (pa_cons (pv 5) pa_nil))) (pa_cons (pe_cK0 k_holds_any_document_shapes hr (by omega) (by rfl) (pk_cons (pv 6) (pk_cons (pe_callTy (cr_tuple K) (by rfl) T.tuple (by decide +kernel) (pa_cons (pv 5) pa_nil)) pk_nil))) pa_nil))))
      (pss_cons (ps_if (PW.pt (pw_or (pt_not (pt_val (pe_c c_law_alike hr (by omega) (by rfl) (pa_cons (pv 9) (pa_cons (pe_lst (pa_cons (pe_cmpR (op_inX K) pe_bl (pv 8) (by rfl)) (pa_cons (pe_cmpR (op_inX K) pe_bl (pv 8) (by rfl)) pa_nil))) pa_nil))))) (pw_or1 (pt_cmpR (op_neX K hr) (pv 5) (pv 7) (nomark _))))) (pss_one (ps_ret pe_bl)) pss_nil)
      (pss_cons (ps_set (i := 10) sc_law.nd rfl (.inl rfl) (pe_c c_law_of hr (by omega) (by rfl) (pa_cons (pv 1) (pa_cons (pe_lst (pa_cons pe_non (pa_cons pe_int (pa_cons (pe_tup pa_nil) (pa_cons pe_str (pa_cons (pe_tup (pa_cons pe_str pa_nil)) (pa_cons (pe_tup (pa_cons pe_str (pa_cons pe_str (pa_cons pe_str pa_nil)))) (pa_cons (pe_tup (pa_cons pe_str (pa_cons pe_str pa_nil))) (pa_cons (pe_tup (pa_cons pe_str (pa_cons pe_str (pa_cons pe_str pa_nil)))) (pa_cons (pe_tup (pa_cons pe_str (pa_cons pe_str pa_nil))) (pa_cons (pe_tup (pa_cons pe_str (pa_cons pe_str pa_nil))) (pa_cons (pe_tup (pa_cons pe_str (pa_cons pe_str pa_nil))) (pa_cons (pe_lst (pa_cons pe_str (pa_cons pe_str pa_nil))) (pa_cons (pe_tup (pa_cons (pe_tup (pa_cons pe_str pa_nil)) (pa_cons pe_str pa_nil))) (pa_cons (pe_tup (pa_cons pe_str (pa_cons pe_str (pa_cons pe_str pa_nil)))) (pa_cons (pe_tup (pa_cons pe_str (pa_cons pe_str (pa_cons pe_str pa_nil)))) pa_nil)))))))))))))))) pa_nil))))
      (pss_cons (ps_set (i := 11) sc_law.nd rfl (.inl rfl) (pe_c c_law_take hr (by omega) (by rfl) (pa_cons (pv 1) (pa_cons (pe_op (op_addX K) (pe_callB (call_lenX K) (by rfl) T.len PySem.boot_len (pa_cons (pv 5) pa_nil)) pe_int) pa_nil))))
      (pss_cons (ps_set (i := 12) sc_law.nd rfl (.inr rfl) (pe_op (op_addX K) (pe_op (op_addX K) (pe_op (op_addX K) (pe_slice (sl_X K) (pv 5) po_none (po_some (pv 11))) (pe_lst (pa_cons (pv 10) pa_nil))) (pe_slice (sl_X K) (pv 5) (po_some (pv 11)) po_none)) (pe_lst (pa_cons pe_non pa_nil))))
      (pss_cons (ps_if (pt_not (pt_val (pe_c c_law_alike hr (by omega) (by rfl) (pa_cons (pe_why 10 hW TB rfl hr (by omega) (LamX.lamS_by (by show LamX.lamSB (defScope s_law) _ = true; decide +kernel)) (fun _ _ _ _ _ => rfl) (fun A outer s H E f c' hrL => (pe_cRK (passes_call (takes_of rfl rfl rfl rfl) fun _ _ _ _ z => z) r_check_shapes_shapes hrL (by omega) (by rfl) (pk_cons (pv 12) pk_nil)))) (pa_cons (pe_tup (pa_cons pe_str (pa_cons (pv 11) pa_nil))) pa_nil))))) (pss_one (ps_ret pe_bl)) pss_nil)
      (pss_cons (ps_set (i := 13) sc_law.nd rfl (.inr rfl) (pe_c c_law_of hr (by omega) (by rfl) (pa_cons (pv 1) (pa_cons (pe_lst (pa_cons pe_non (pa_cons pe_int (pa_cons pe_str (pa_cons pe_bl pa_nil))))) pa_nil))))
      (pss_one (ps_if (pt_not (pt_val (pe_c c_law_alike hr (by omega) (by rfl) (pa_cons (pe_why 10 hW TB rfl hr (by omega) (LamX.lamS_by (by show LamX.lamSB (defScope s_law) _ = true; decide +kernel)) (fun _ _ _ _ _ => rfl) (fun A outer s H E f c' hrL => (pe_cR (takes_of rfl rfl rfl rfl) c_check_shapes hrL (by omega) (by rfl) (pa_cons (pv 13) pa_nil)))) (pa_cons (pe_tup (pa_cons pe_str (pa_cons pe_int pa_nil))) pa_nil))))) (pss_one (ps_ret pe_bl)) pss_nil))))))))))))))
      (pss_cons (ps_set (i := 14) sc_law.nd rfl (.inl rfl) (pe_tup (pa_cons (pe_tup (pa_cons pe_str (pa_cons pe_str (pa_cons (pe_tup (pa_cons (pe_tup (pa_cons pe_str (pa_cons pe_str (pa_cons (pe_tup (pa_cons (pe_tup (pa_cons pe_str (pa_cons pe_str (pa_cons (pe_tup pa_nil) pa_nil)))) pa_nil)) pa_nil)))) pa_nil)) pa_nil)))) (pa_cons (pe_tup (pa_cons pe_str (pa_cons pe_str (pa_cons (pe_tup pa_nil) pa_nil)))) pa_nil))))
      (pss_cons (ps_set (i := 9) sc_law.nd rfl (.inl rfl) (pe_lst (pa_cons (pe_cK0 k_holds_document_shape hr (by omega) (by rfl) (pk_cons (pv 14) (pk_cons (pe_tup (pa_cons pe_str (pa_cons pe_str (pa_cons pe_str pa_nil)))) pk_nil))) (pa_cons (pe_c c_holds hr (by omega) (by rfl) (pa_cons (pv 14) (pa_cons (pe_tup (pa_cons pe_str (pa_cons pe_str (pa_cons pe_str pa_nil)))) pa_nil))) (pa_cons (pe_c c_holds hr (by omega) (by rfl) (pa_cons (pv 14) (pa_cons (pe_tup (pa_cons pe_str (pa_cons pe_str (pa_cons pe_str pa_nil)))) pa_nil))) pa_nil)))))
      (pss_one (ps_ret (pe_and (pe_cmpR (op_eqX K hr) (pv 9) (pe_lst (pa_cons pe_bl (pa_cons pe_bl (pa_cons pe_bl pa_nil)))) (nomark _)) (pe_and (pe_not (pe_c c_holds_any hr (by omega) (by rfl) (pa_cons (pe_tup pa_nil) (pa_cons (pe_lst (pa_cons (pe_tup (pa_cons pe_str (pa_cons pe_str pa_nil))) pa_nil)) pa_nil)))) (pe_one (pe_cmpR op_isNn (pe_cR takes0 c_check_shapes hr (by omega) (by rfl) (pa_cons (pe_lst pa_nil) pa_nil)) pe_non (nomark _))))))))))))), ?_⟩
    change (_ : TS) _ [some (V.ref a), none, none, none, none, none, none, none, none, none, none, none, none, none, none, none, none] _
    k_extra "rr"
    have hT : LamX.Tabs (tabQ PA) H := fun p hp => List.mem_singleton.mp hp ▸ LamX.TabS.nil hP
    refine ⟨a, ns, rfl, hS, hl, fun H1 b r s1 nb hb => ?_⟩
    have hT1 : LamX.Tabs (tabQ PA) H1 := hT.ext fun c o h => s1 c o h
    k_extra "rr"
    refine ⟨b, r, rfl, hb, fun p a1 a2 a3 k1 k2 n H2 bb2 hb2 hp ha1 ha2 l1 l2 g1 g2 np na1 na2 => ?_⟩
    obtain ⟨lb, hlb⟩ := hb.lst
    have hT2 := Tabs.but hT1 bb2 hlb
    have nb1 : a1 ≠ b := (hb.ne_none na1).1
    k_extra "rr"
    refine ⟨b, r, 3, rfl, hb2, by omega, by omega, fun m0 H3 bb3 hb3 m00 m01 => ?_⟩
    obtain ⟨lb2, hlb2⟩ := hb2.lst
    have hT3 := Tabs.but hT2 bb3 hlb2
    have ha3 := bb3 _ _ ha1 nb1
    k_extra "rr"
    refine slL (SqL.of ha3) fun ka nka => ?_
    obtain ⟨mk, rfl⟩ : ∃ mk : Nat, m0 = (mk : Int) := ⟨m0.toNat, by omega⟩
    have kl1 : (kws k1).length = 3 := by unfold kws; rw [List.length_map]; exact l1
    rw [show (1 : Int) + (mk : Int) = ((mk + 1 : Nat) : Int) by omega, cutV_take (by omega)]
    have ek : (kws k1).take (mk + 1) = kws (k1.take (mk + 1)) := by unfold kws; rw [List.map_take]
    rw [ek]
    have gk : ∀ k ∈ k1.take (mk + 1), GoodK k := fun k m => g1 k (List.mem_of_mem_take m)
    have lk1 : 1 ≤ (k1.take (mk + 1)).length := by rw [List.length_take]; omega
    have lk2 : (k1.take (mk + 1)).length ≤ 3 := by rw [List.length_take]; omega
    generalize k1.take (mk + 1) = ks at gk lk1 lk2
    have nbk : ka ≠ b := (hb3.ne_none nka).1
    have hb4 := hb3.new (o := .lst (kws ks)) nka
    have hka : upd H3 ka (.lst (kws ks)) ka = some (.lst (kws ks)) := upd_same
    have hT4 := hT3.ext fun c o h => same_upd (o := .lst (kws ks)) nka c o h
    generalize upd H3 ka (.lst (kws ks)) = H4 at hb4 hka hT4
    clear hb hb2 hp ha1 ha2 g1 g2 np na1 na2 hlb hlb2 hT1 hT2 hT3 bb2 bb3 hb3 ha3 nka s1 kl1 ek
    k_extra "rr"
    obtain ⟨W, hW'⟩ : ∃ W : Nat → L2.St → Hp → Prop, ∀ i σ H', W i σ H' ↔ ∃ (v4 v5 v6 v7 v8 v9 v10 v11 v12 v13 v14 v15 v16 : Option V), σ = [some (.ref a), some (.ref b), some (.ref p), some (.ref ka), v4, v5, v6, v7, v8, v9, v10, v11, v12, v13, v14, v15, v16] ∧ BagAt H' b r ∧ H' ka = some (.lst (kws ks)) ∧ LamX.Tabs (tabQ PA) H' := ⟨_, fun _ _ _ => Iff.rfl⟩
    refine for_range (lo := 0) (n := (5 : Int).toNat) W ((hW' _ _ _).mpr ⟨_, _, _, _, _, _, _, _, _, _, _, _, _, rfl, hb4, hka, hT4⟩) ?_ ?_
    · intro i σ H5 hi hw
      obtain ⟨v4, v5, v6, v7, v8, v9, v10, v11, v12, v13, v14, v15, v16, rfl, hb5, hk5, hT5⟩ := (hW' _ _ _).mp hw
      clear hw hb4 hka hT4
      k_extra "rr"
      refine ⟨b, r, 5, rfl, hb5, by omega, by omega, fun m1 H6 bb6 hb6 m10 m11 => ?_⟩
      obtain ⟨lb5, hlb5⟩ := hb5.lst
      have hT6 := Tabs.but hT5 bb6 hlb5
      have hk6 := bb6 _ _ hk5 nbk
      clear hb5 hk5 hT5 bb6 hlb5
      k_extra "rr"
      intro D nD
      obtain ⟨nDb, nDr⟩ := hb6.ne_none nD
      refine lc_range (lo := 0) (n := m1.toNat) (fun i H' => ∃ (shs : List (List (List Nat))) (qs : List V), shs.length = i ∧ (∀ sh ∈ shs, ShapeOk ks sh) ∧ H' D = some (.lst qs) ∧ TWs H' shs qs ∧ But b H6 H' ∧ BagAt H' b r)
        ⟨[], [], rfl, (fun _ h => by cases h), upd_same, rfl, But.new nD, hb6.new nD⟩ ?_ ?_
      · rintro j H' hj ⟨shs, qs, ec, hc, eD, tw, bb, hb'⟩
        have ha5 := bb _ _ hk6 nbk
        k_extra "rr"
        refine ⟨rfl, ?_⟩
        k_extra "rr"
        refine ⟨b, r, ka, ks, rfl, hb', nbk, ha5, by omega, by omega, fun pq sh H5 bb5 hb5 hsh hpq => ?_⟩
        obtain ⟨lb5, hlb5⟩ := hb'.lst
        have tq := tw.len
        have eD5 := bb5 _ _ eD nDb
        refine ⟨_, eD5, by rw [tq, sizeLine_eq]; omega, shs ++ [sh], _, by rw [List.length_append, ec]; rfl, fun x hx => ?_, upd_same, ?_, (bb.trans bb5).mutNew nD, hb5.mut hb6 nD⟩
        · rcases List.mem_append.mp hx with h | h
          · exact hc x h
          · rw [List.mem_singleton.mp h]
            exact hsh
        · exact ((tw.le (TupLe.but bb5 hlb5)).snoc hpq).le (TupLe.lst eD5)
      · rintro H7 ⟨shs, qs, ec, hc, eD, tw, bb7, hb7⟩
        have hG : ∀ sh ∈ shs, ShG sh := fun sh m => shg (hc sh m) gk
        have hlen : shs.length ≤ 5 := by omega
        obtain ⟨lb6, hlb6⟩ := hb6.lst
        have hT7 := Tabs.but hT6 bb7 hlb6
        have hk7 := bb7 _ _ hk6 nbk
        have tq := tw.len
        clear hb6 hT6 hk6 bb7 hlb6 hc nD nDr
        k_extra "rr"
        refine ⟨b, r, ka, 8, ks, rfl, hb7, nbk, hk7, by omega, by omega, by omega, by omega, fun fo d H8 bb8 hb8 hd hsz hall => ?_⟩
        have hg : GF fo := hall.imp fun k t h => ⟨(gk k h.1).1, (gk k h.1).2.1, (gk k h.1).2.2.1, by omega, fun c hc => signs_ok c (h.2.2 c hc)⟩
        have hdp := Fo.depth_le fo
        obtain ⟨lb7, hlb7⟩ := hb7.lst
        have hT8 := Tabs.but hT7 bb8 hlb7
        have hk8 := bb8 _ _ hk7 nbk
        have eD8 := bb8 _ _ eD nDb
        have tw8 := tw.le (TupLe.but bb8 hlb7)
        clear hb7 hT7 hk7 bb8 hlb7 eD tw hall
        k_extra "rr"
        refine listL (SqL.of eD8) fun Kp nKp => ?_
        k_extra "rr"
        refine ⟨by k_extra "sz", fun pt npt => ?_⟩
        k_extra "rr"
        have s8A := (same_upd (o := .lst qs) nKp).trans (same_upd (o := .tup [.ref d, .ref Kp]) npt)
        have hKp : upd (upd H8 Kp (.lst qs)) pt (.tup [.ref d, .ref Kp]) Kp = some (.lst qs) := same_upd npt _ _ upd_same
        have hbA := hb8.same s8A
        have hTA := hT8.ext fun c o h => s8A c o h
        have hkA := s8A _ _ hk8
        have eDA := s8A _ _ eD8
        have twA := tw8.le (TupLe.same s8A)
        have hdA := hd.le (TupLe.same s8A)
        have nKb : Kp ≠ b := (hb8.ne_none nKp).1
        generalize upd (upd H8 Kp (.lst qs)) pt (.tup [.ref d, .ref Kp]) = HA at hKp hbA hTA hkA eDA twA hdA
        clear hb8 hT8 hk8 eD8 tw8 hd s8A nKp npt
        have hdd : fo.depth ≤ 31 := by omega
        have hds : fo.size ≤ 1000 := by omega
        have lbs : (shs.map (holdsB fo)).length = shs.length := List.length_map _
        obtain ⟨gA1, gA2, gA3, gA4⟩ := gA_shs hG
        have hform : ∀ sh ∈ shs, ShForm sh := fun sh m => (hG sh m).form
        have hshl : SeqAt.shaped (.list (shs.map wordsD)) = true := by
          unfold SeqAt.shaped
          simp only [PyData.canLay0, PyData.depth, gA3, Bool.true_and]
          exact decide_eq_true (by omega)
        have hfn : chkD (.list (shs.map wordsD)) = none := by
          have := fault_good shs 0 [] fun sh m => (hG sh m).ok
          rw [List.append_nil] at this
          exact this
        k_extra "rr"
        intro D1 nD1
        refine lc_it (walk_list (K := K) (a := D) (xs := qs)) (fun i H' => Same HA H' ∧ H' D1 = some (.lst (((shs.take i).map (holdsB fo)).map V.bl))) ⟨same_upd nD1, upd_same⟩ (fun i H' _ s => SqL.of (s.1 _ _ eDA)) ?_ ?_
        · rintro j x HB HB' hj ⟨sB, hD1⟩ ⟨rfl, hxi⟩
          obtain ⟨sh, qa, esh, rfl, hqa⟩ := twA.get hxi
          k_extra "rr"
          refine ⟨rfl, ?_⟩
          k_extra "rr"
          refine ⟨d, qa, fo, sh, rfl, hdA.le (TupLe.same sB), hdd, hds, sB _ _ hqa, hform sh (List.mem_of_getElem? esh), fun HC sC => ?_⟩
          refine ⟨_, sC _ _ hD1, by rw [List.length_map, List.length_map, List.length_take, sizeLine_eq]; omega, same_mut (sB.trans sC) nD1, ?_⟩
          rw [upd_same, List.take_add_one, esh, List.map_append, List.map_append]
          rfl
        rintro HB ⟨sB, hD1⟩
        rw [tq, List.take_length] at hD1
        have eDB := sB _ _ eDA
        have hdB := hdA.le (TupLe.same sB)
        have twB := twA.le (TupLe.same sB)
        k_extra "rr"
        intro D2 nD2
        refine lc_it (walk_list (K := K) (a := D) (xs := qs)) (fun i H' => Same HB H' ∧ H' D2 = some (.lst (((shs.take i).map (holdsB fo)).map V.bl))) ⟨same_upd nD2, upd_same⟩ (fun i H' _ s => SqL.of (s.1 _ _ eDB)) ?_ ?_
        · rintro j x HC HC' hj ⟨sC, hD2⟩ ⟨rfl, hxi⟩
          obtain ⟨sh, qa, esh, rfl, hqa⟩ := twB.get hxi
          k_extra "rr"
          refine ⟨rfl, ?_⟩
          k_extra "rr"
          refine ⟨d, qa, fo, sh, rfl, hdB.le (TupLe.same sC), hg, hdd, hds, sC _ _ hqa, hform sh (List.mem_of_getElem? esh), fun HD sD => ?_⟩
          refine ⟨_, sD _ _ hD2, by rw [List.length_map, List.length_map, List.length_take, sizeLine_eq]; omega, same_mut (sC.trans sD) nD2, ?_⟩
          rw [upd_same, List.take_add_one, esh, List.map_append, List.map_append]
          rfl
        rintro HC ⟨sC, hD2⟩
        rw [tq, List.take_length] at hD2
        have hD1C := sC _ _ hD1
        have sAC := sB.trans sC
        k_extra "rr"
        refine ⟨_, _, rfl, .inr ⟨D2, D1, _, _, rfl, rfl, .inl ⟨SqL.of hD2, SqL.of hD1C⟩, rfl, by rw [List.length_map, List.length_map]; omega, fun j x y hx hy => ?_⟩, fun HD sD => ?_⟩
        · rw [hx] at hy
          cases hy
          obtain ⟨bb, _, rfl⟩ := map_at hx
          exact .inl ⟨rfl, rfl⟩
        have sAD := sAC.trans sD
        have hD1D := sD _ _ hD1C
        have eDD := sAD _ _ eDA
        have twD := twA.le (TupLe.same sAD)
        k_extra "rr"
        refine ⟨_, b, .list (shs.map wordsD), rfl, Dq.lst_mk nDb eDD twD.dqA, by simpa only [gD] using gA1, by simp only [sz]; omega, fun _ HE sE => ?_, fun i e => by rw [hfn] at e; cases e⟩
        have sAE := sAD.trans sE
        have hdE := hdA.le (TupLe.same sAE)
        have eDE := sAE _ _ eDA
        have twE := twA.le (TupLe.same sAE)
        k_extra "rr"
        refine ⟨d, D, fo, qs, shs, rfl, hdE, hg, hdd, hds, .inl eDE, twE, by omega, hform, fun HF sF => ?_⟩
        have sAF := sAE.trans sF
        have eDF := sAF _ _ eDA
        k_extra "rr"
        refine tupL (SqL.of eDF) fun Tq nTq => ?_
        have sAG := sAF.trans (same_upd (o := .tup qs) nTq)
        k_extra "rr"
        refine ⟨d, Tq, fo, qs, shs, rfl, hdA.le (TupLe.same sAG), hg, hdd, hds, .inr upd_same, twA.le (TupLe.same sAG), by omega, hform, fun HG sG => ?_⟩
        have sAH := sAG.trans sG
        have hD1H : HG D1 = some (.lst ((shs.map (holdsB fo)).map V.bl)) := sG _ _ (same_upd nTq _ _ (sF _ _ (sE _ _ hD1D)))
        k_extra "rr"
        refine ⟨by k_extra "sz", fun L1 nL1 => ?_⟩
        have sL1 := same_upd (o := .lst [.bl (shs.any (holdsB fo)), .bl (shs.any (holdsB fo))]) nL1
        have hL1 : upd HG L1 (.lst [.bl (shs.any (holdsB fo)), .bl (shs.any (holdsB fo))]) L1 = some (.lst [.bl (shs.any (holdsB fo)), .bl (shs.any (holdsB fo))]) := upd_same
        have hD1I := sL1 _ _ hD1H
        have sAI := sAH.trans sL1
        generalize upd HG L1 (.lst [.bl (shs.any (holdsB fo)), .bl (shs.any (holdsB fo))]) = HI at hL1 hD1I sAI
        have einV : inV (.bl true) ((shs.map (holdsB fo)).map V.bl) = shs.any (holdsB fo) := by
          rw [inV_bls, List.any_map]
          rfl
        have hfl : ((shs.map (holdsB fo)).map V.bl).all flatV = true := List.all_eq_true.mpr fun x m => by
          obtain ⟨c, _, rfl⟩ := List.mem_map.mp m
          rfl
        k_extra "rr"
        refine .inr ⟨D1, _, rfl, .inl (SqL.of hD1I), rfl, hfl, ?_⟩
        rw [einV, if_neg Bool.false_ne_true]
        k_extra "rr"
        refine .inr ⟨D1, _, rfl, .inl (SqL.of hD1I), rfl, hfl, ?_⟩
        rw [einV, if_neg Bool.false_ne_true]
        k_extra "rr"
        refine ⟨by k_extra "sz", fun L2 nL2 => ?_⟩
        k_extra "rr"
        have sL2 := same_upd (o := .lst [.bl (shs.any (holdsB fo)), .bl (shs.any (holdsB fo))]) nL2
        refine ⟨_, _, rfl, .inr ⟨L1, L2, _, _, rfl, rfl, .inl ⟨SqL.of (sL2 _ _ hL1), SqL.of upd_same⟩, rfl, by show 2 ≤ 100000; decide, fun j x y hx hy => ?_⟩, fun HJ sJ => ?_⟩
        · rw [hx] at hy
          cases hy
          rcases j with _ | _ | j
          · cases hx
            exact .inl ⟨rfl, rfl⟩
          · cases hx
            exact .inl ⟨rfl, rfl⟩
          · cases hx
        have sAJ := (sAI.trans sL2).trans sJ
        have eDJ := sAJ _ _ eDA
        have twJ := twA.le (TupLe.same sAJ)
        have hbJ := hbA.same sAJ
        have hTJ := hTA.ext fun c o h => sAJ c o h
        have hkJ := sAJ _ _ hkA
        have hKJ := sAJ _ _ hKp
        clear hbA hTA hkA eDA twA hdA hKp sAI sAH sAG sAF sAE sAD sAC eDB hdB twB eDD twD hdE eDE twE eDF
        k_extra "rr"
        refine neDd (d := .list (shs.map wordsD)) (e := .list (shs.map wordsD)) (.lst (SqL.of eDJ) (twJ.dqA (b := b)).dp) (.lst (SqL.of hKJ) (twJ.dqA (b := b)).dp) hshl hshl ?_
        rw [SeqAt.eqv_refl _ (SeqAt.canLay_of_shaped hshl), Bool.not_true]
        k_extra "rl"
        refine lit_of oddL_te (by decide +kernel) (by decide +kernel) hbJ (fun vx od HK mod bbK hbK hod => ?_)
        obtain ⟨o1, o2, o3, o4⟩ := oddL_ok od mod
        obtain ⟨lbJ, hlbJ⟩ := hbJ.lst
        have hTK := Tabs.but hTJ bbK hlbJ
        have hkK := bbK _ _ hkJ nbk
        have eDK := bbK _ _ eDJ nDb
        have twK := twJ.le (TupLe.but bbK hlbJ)
        clear hbJ hTJ hkJ hKJ eDJ twJ bbK hlbJ
        k_extra "rr"
        refine ⟨b, r, _, rfl, hbK, by omega, by omega, fun at_ HL bbL hbL at0 at1 => ?_⟩
        obtain ⟨lbK, hlbK⟩ := hbK.lst
        have hTL := Tabs.but hTK bbL hlbK
        have hkL := bbL _ _ hkK nbk
        have eDL := bbL _ _ eDK nDb
        have twL := twK.le (TupLe.but bbL hlbK)
        have hodL := hod.le (Le.but bbL hlbK)
        clear hbK hTK hkK eDK twK bbL hlbK hod
        obtain ⟨ix, rfl⟩ : ∃ ix : Nat, at_ = (ix : Int) := ⟨at_.toNat, by omega⟩
        have hix : ix ≤ qs.length := by omega
        k_extra "rr"
        refine slL (SqL.of eDL) fun S1 nS1 => ?_
        rw [cutV_take hix]
        have t1 := same_upd (o := .lst (qs.take ix)) nS1
        k_extra "rr"
        refine ⟨by k_extra "sz", fun S2 nS2 => ?_⟩
        have t2 := same_upd (o := .lst [vx]) nS2
        refine addL (t2 _ _ upd_same) upd_same (by rw [List.length_take, List.length_singleton, sizeLine_eq]; omega) fun S3 nS3 => ?_
        have t3 := same_upd (o := .lst (qs.take ix ++ [vx])) nS3
        have t13 := (t1.trans t2).trans t3
        k_extra "rr"
        refine slL (SqL.of (t13 _ _ eDL)) fun S4 nS4 => ?_
        rw [cutV_drop hix]
        have t4 := same_upd (o := .lst (qs.drop ix)) nS4
        refine addL (t4 _ _ upd_same) upd_same (by rw [List.length_append, List.length_take, List.length_drop, List.length_singleton, sizeLine_eq]; omega) fun S5 nS5 => ?_
        have t5 := same_upd (o := .lst (qs.take ix ++ [vx] ++ qs.drop ix)) nS5
        k_extra "rr"
        refine ⟨by k_extra "sz", fun S6 nS6 => ?_⟩
        have t6 := same_upd (o := .lst [V.non]) nS6
        refine addL (t6 _ _ upd_same) upd_same (by rw [List.length_append, List.length_append, List.length_take, List.length_drop, List.length_singleton, List.length_singleton, sizeLine_eq]; omega) fun S7 nS7 => ?_
        have t7 := same_upd (o := .lst (qs.take ix ++ [vx] ++ qs.drop ix ++ [V.non])) nS7
        have t17 := (((t13.trans t4).trans t5).trans t6).trans t7
        have hbM := hbL.same t17
        have hTM := hTL.ext fun c o h => t17 c o h
        have hkM := t17 _ _ hkL
        have nS7b : S7 ≠ b := ((hbL.same (((t13.trans t4).trans t5).trans t6)).ne_none nS7).1
        have dqL := twL.dqA (b := b)
        have hdl : DqA b _ ((shs.map wordsD).take ix ++ [od] ++ (shs.map wordsD).drop ix ++ [.none]) (qs.take ix ++ [vx] ++ qs.drop ix ++ [V.non]) :=
          ((((dqL.take ix).app (.cons hodL .nil)).app (dqL.drop ix)).app (.cons Dq.non_mk .nil)).le (Le.same t17)
        have hS7 : Dq b _ (.list ((shs.map wordsD).take ix ++ [od] ++ (shs.map wordsD).drop ix ++ [.none])) (.ref S7) := Dq.lst_mk nS7b upd_same hdl
        clear hdl t1 t2 t3 t4 t5 t6 t7 t13 t17 hbL hTL hkL hodL dqL eDL twL nS1 nS2 nS3 nS4 nS5 nS6 nS7
        have hchk : chkD (.list ((shs.map wordsD).take ix ++ [od] ++ (shs.map wordsD).drop ix ++ [.none])) = some ix := by
          show faultS 0 _ = some ix
          rw [List.append_assoc, List.append_assoc, ← List.map_take, fault_good _ _ _ (fun sh m => (hG sh (List.mem_of_mem_take m)).ok)]
          show (if shapeB od = true then _ else some _) = some ix
          rw [if_neg (by rw [o4]; decide), Nat.zero_add, List.length_take, Nat.min_eq_left (by omega)]
        have hgl : gD (.list ((shs.map wordsD).take ix ++ [od] ++ (shs.map wordsD).drop ix ++ [.none])) = true := by
          have e : gA ((shs.map wordsD).take ix ++ (shs.map wordsD).drop ix) = true := by rw [List.take_append_drop]; exact gA1
          rw [gA_app, Bool.and_eq_true] at e
          simp only [gD, gA_app, gA, e.1, e.2, o1, Bool.and_self]
        have hsl : sz (.list ((shs.map wordsD).take ix ++ [od] ++ (shs.map wordsD).drop ix ++ [.none])) ≤ 10000 := by
          have app : ∀ (a b : List PyData), szA (a ++ b) = szA a + szA b := fun a b => by
            induction a with
            | nil => simp [szA]
            | cons x r ih => simp only [List.cons_append, szA, ih]; omega
          have e : szA ((shs.map wordsD).take ix) + szA ((shs.map wordsD).drop ix) = szA (shs.map wordsD) := by rw [← app, List.take_append_drop]
          simp only [sz, app, szA]
          omega
        generalize ((shs.map wordsD).take ix ++ [od] ++ (shs.map wordsD).drop ix ++ [PyData.none]) = dl at hS7 hchk hgl hsl
        generalize upd (upd (upd (upd (upd (upd (upd HL S1 _) S2 _) S3 _) S4 _) S5 _) S6 _) S7 _ = HM at hbM hTM hkM hS7
        k_extra "rr"
        refine why_chks (K := K) (PA := PA) (σ := _) exm xf n1 n2 b (.list dl) (.ref S7) ix (fun E H1 Q1 h => ?_) hTM hS7 hgl hsl hchk (fun p3 HN HO eN sO hTO h3 => ?_)
        · k_extra "rr"
          exact h
        have hbO := (hbM.ext eN).same sO
        have hkO := sO _ _ (ext_lst eN hkM)
        clear hbM hTM hkM hS7 hchk hgl hsl
        k_extra "rr"
        refine ⟨by k_extra "sz", fun p4 np4 => ?_⟩
        have s4 := same_upd (o := .tup [.str "BadShape", .int (ix : Int)]) np4
        k_extra "rr"
        refine ⟨_, _, rfl, .inr ⟨p3, p4, _, _, rfl, rfl, .inr ⟨SqT.of (s4 _ _ h3), SqT.of upd_same⟩, rfl, (by show 2 ≤ 100000; decide), fun j x y hx hy => ?_⟩, fun HP sP => ?_⟩
        · rcases j with _ | _ | j
          · cases hx
            cases hy
            exact .inl ⟨rfl, rfl⟩
          · cases hx
            cases hy
            exact .inl ⟨rfl, rfl⟩
          · cases hx
        have sOP := s4.trans sP
        have hbP := hbO.same sOP
        have hkP := sOP _ _ hkO
        have hTP := hTO.ext fun c o h => sOP c o h
        clear hbO hkO hTO h3 s4 sP np4
        k_extra "rl"
        refine lit_of strL_te (by decide +kernel) (by decide +kernel) hbP (fun vy sd HQ mod2 bbQ hbQ hsd => ?_)
        obtain ⟨w1, w2, w3, w4⟩ := strL_ok sd mod2
        obtain ⟨lbP, hlbP⟩ := hbP.lst
        have hTQ := Tabs.but hTP bbQ hlbP
        have hkQ := bbQ _ _ hkP nbk
        clear hbP hTP hkP bbQ hlbP
        k_extra "rr"
        refine why_chks (K := K) (PA := PA) (σ := _) exm xf n1 n2 b sd vy 0 (fun E H1 Q1 h => ?_) hTQ hsd w1 (by omega) w4 (fun p3 HN HO eN sO hTO h3 => ?_)
        · k_extra "rr"
          exact h
        have hbO := (hbQ.ext eN).same sO
        have hkO := sO _ _ (ext_lst eN hkQ)
        k_extra "rr"
        refine ⟨by k_extra "sz", fun p4 np4 => ?_⟩
        have s4 := same_upd (o := .tup [.str "BadShape", .int 0]) np4
        k_extra "rr"
        refine ⟨_, _, rfl, .inr ⟨p3, p4, _, _, rfl, rfl, .inr ⟨SqT.of (s4 _ _ h3), SqT.of upd_same⟩, rfl, (by show 2 ≤ 100000; decide), fun j x y hx hy => ?_⟩, fun HP sP => ?_⟩
        · rcases j with _ | _ | j
          · cases hx
            cases hy
            exact .inl ⟨rfl, rfl⟩
          · cases hx
            cases hy
            exact .inl ⟨rfl, rfl⟩
          · cases hx
        have sOP := s4.trans sP
        k_extra "rr"
        exact (hW' _ _ _).mpr ⟨_, _, _, _, _, _, _, _, _, _, _, _, _, rfl, hbO.same sOP, sOP _ _ hkO, hTO.ext fun c o h => sOP c o h⟩
    · intro σ H5 hw
      obtain ⟨v4, v5, v6, v7, v8, v9, v10, v11, v12, v13, v14, v15, v16, rfl, hb5, hk5, hT5⟩ := (hW' _ _ _).mp hw
      clear hw hb5 hk5 hT5 hb4 hka hT4
      have ea : Str.ofString "a" = SX.S [97] := by decide +kernel
      have eb : Str.ofString "b" = SX.S [98] := by decide +kernel
      have e0 : Str.ofString "" = SX.S [] := empty_S
      have ew : Str.ofString "within" = SX.S wWithin := by decide +kernel
      have eh : Str.ofString "ahead" = SX.S wAhead := by decide +kernel
      have eo : Str.ofString "one" = SX.S wOne := by decide +kernel
      k_extra "rr"
      refine ⟨by k_extra "sz", fun q1 n1' => ?_⟩
      k_extra "rr"
      refine ⟨by k_extra "sz", fun q2 n2' => ?_⟩
      k_extra "rr"
      refine ⟨by k_extra "sz", fun q3 n3' => ?_⟩
      k_extra "rr"
      refine ⟨by k_extra "sz", fun q4 n4' => ?_⟩
      k_extra "rr"
      refine ⟨by k_extra "sz", fun q5 n5' => ?_⟩
      k_extra "rr"
      refine ⟨by k_extra "sz", fun q6 n6' => ?_⟩
      k_extra "rr"
      refine ⟨by k_extra "sz", fun q7 n7' => ?_⟩
      k_extra "rr"
      refine ⟨by k_extra "sz", fun q8 n8' => ?_⟩
      k_extra "rr"
      refine ⟨by k_extra "sz", fun q9 n9' => ?_⟩
      rw [ea, eb, e0] at *
      have t1 := same_upd (o := .tup []) n1'
      have t2 := same_upd (o := .tup [.str (SX.S [98]), .str (SX.S []), .ref q1]) n2'
      have t3 := same_upd (o := .tup [.ref q2]) n3'
      have t4 := same_upd (o := .tup [.str (SX.S [97]), .str (SX.S []), .ref q3]) n4'
      have t5 := same_upd (o := .tup [.ref q4]) n5'
      have t6 := same_upd (o := .tup [.str (SX.S [97]), .str (SX.S []), .ref q5]) n6'
      have t7 := same_upd (o := .tup []) n7'
      have t8 := same_upd (o := .tup [.str (SX.S [98]), .str (SX.S []), .ref q7]) n8'
      have t9 := same_upd (o := .tup [.ref q6, .ref q8]) n9'
      have hdZ : Doc (upd (upd (upd (upd (upd (upd (upd (upd (upd H5 q1 (.tup [])) q2 (.tup [.str (SX.S [98]), .str (SX.S []), .ref q1])) q3 (.tup [.ref q2])) q4 (.tup [.str (SX.S [97]), .str (SX.S []), .ref q3])) q5 (.tup [.ref q4])) q6 (.tup [.str (SX.S [97]), .str (SX.S []), .ref q5])) q7 (.tup [])) q8 (.tup [.str (SX.S [98]), .str (SX.S []), .ref q7])) q9 (.tup [.ref q6, .ref q8])) lastF q9 :=
        ⟨[.ref q6, .ref q8], upd_same, q6, q5, [.ref q4], [.ref q8], rfl, t9 _ _ (t8 _ _ (t7 _ _ upd_same)), t9 _ _ (t8 _ _ (t7 _ _ (t6 _ _ upd_same))),
          ⟨q4, q3, [.ref q2], [], rfl, t9 _ _ (t8 _ _ (t7 _ _ (t6 _ _ (t5 _ _ upd_same)))), t9 _ _ (t8 _ _ (t7 _ _ (t6 _ _ (t5 _ _ (t4 _ _ upd_same))))),
            ⟨q2, q1, [], [], rfl, t9 _ _ (t8 _ _ (t7 _ _ (t6 _ _ (t5 _ _ (t4 _ _ (t3 _ _ upd_same)))))), t9 _ _ (t8 _ _ (t7 _ _ (t6 _ _ (t5 _ _ (t4 _ _ (t3 _ _ (t2 _ _ upd_same))))))), rfl, rfl⟩, rfl⟩,
          ⟨q8, q7, [], [], rfl, t9 _ _ upd_same, t9 _ _ (t8 _ _ upd_same), rfl, rfl⟩⟩
      clear t1 t2 t3 t4 t5 t6 t7 t8 t9
      generalize upd (upd (upd (upd (upd (upd (upd (upd (upd H5 q1 (.tup [])) q2 (.tup [.str (SX.S [98]), .str (SX.S []), .ref q1])) q3 (.tup [.ref q2])) q4 (.tup [.str (SX.S [97]), .str (SX.S []), .ref q3])) q5 (.tup [.ref q4])) q6 (.tup [.str (SX.S [97]), .str (SX.S []), .ref q5])) q7 (.tup [])) q8 (.tup [.str (SX.S [98]), .str (SX.S []), .ref q7])) q9 (.tup [.ref q6, .ref q8]) = HZ at hdZ
      k_extra "rr"
      refine ⟨by k_extra "sz", fun z1 m1 => ?_⟩
      k_extra "rr"
      rw [ew]
      refine ⟨q9, z1, lastF, [wWithin, [97], [97]], rfl, hdZ.le (TupLe.new m1), lastG, by decide, by decide, upd_same, .inr ⟨_, _, _, rfl, .inl rfl⟩, fun HY sY => ?_⟩
      have hdY := hdZ.le (TupLe.same ((same_upd (o := .tup [.str (SX.S wWithin), .str (SX.S [97]), .str (SX.S [97])]) m1).trans sY))
      rw [last1]
      k_extra "rr"
      refine ⟨by k_extra "sz", fun z2 m2 => ?_⟩
      k_extra "rr"
      rw [eh]
      refine ⟨q9, z2, lastF, [wAhead, [97], [97]], rfl, hdY.le (TupLe.new m2), lastG, by decide, by decide, upd_same, .inr ⟨_, _, _, rfl, .inr rfl⟩, fun HX sX => ?_⟩
      have hdX := hdY.le (TupLe.same ((same_upd (o := .tup [.str (SX.S wAhead), .str (SX.S [97]), .str (SX.S [97])]) m2).trans sX))
      rw [last2]
      k_extra "rr"
      refine ⟨by k_extra "sz", fun z3 m3 => ?_⟩
      k_extra "rr"
      refine ⟨q9, z3, lastF, [wAhead, [98], [98]], rfl, hdX.le (TupLe.new m3), lastG, by decide, by decide, upd_same, .inr ⟨_, _, _, rfl, .inr rfl⟩, fun HU sU => ?_⟩
      rw [last3]
      k_extra "rr"
      refine ⟨by k_extra "sz", fun L1 nL1 => ?_⟩
      k_extra "rr"
      refine ⟨by k_extra "sz", fun L2 nL2 => ?_⟩
      k_extra "rr"
      have sL2 := same_upd (o := .lst [.bl true, .bl false, .bl true]) nL2
      have dqb : ∀ H', DqA b H' [.bool true, .bool false, .bool true] [.bl true, .bl false, .bl true] := fun H' => .cons (Dq.bl_mk _) (.cons (Dq.bl_mk _) (.cons (Dq.bl_mk _) .nil))
      refine eqDd (d := .list [.bool true, .bool false, .bool true]) (e := .list [.bool true, .bool false, .bool true]) (.lst (SqL.of (sL2 _ _ upd_same)) (dqb _).dp) (.lst (SqL.of upd_same) (dqb _).dp) tft_sh tft_sh ?_
      rw [SeqAt.eqv_refl _ (SeqAt.canLay_of_shaped tft_sh)]
      k_extra "rr"
      refine ⟨by k_extra "sz", fun y0 my0 => ?_⟩
      k_extra "rr"
      refine ⟨by k_extra "sz", fun y1 my1 => ?_⟩
      k_extra "rr"
      refine ⟨by k_extra "sz", fun y2 my2 => ?_⟩
      k_extra "rr"
      rw [eo] at *
      have u1 := same_upd (o := .tup [.str (SX.S wOne), .str (SX.S [97])]) my1
      have u2 := same_upd (o := .lst [.ref y1]) my2
      refine ⟨y0, y2, .nil, [.ref y1], [[wOne, [97]]], rfl, ⟨[], u2 _ _ (u1 _ _ upd_same), rfl⟩, trivial, by decide, by decide, .inl upd_same, ⟨y1, [], rfl, u2 _ _ upd_same, rfl⟩, by decide, fun sh m => ?_, fun HT sT => ?_⟩
      · rw [List.mem_singleton.mp m]
        exact .inl ⟨_, rfl⟩
      rw [last4]
      k_extra "rr"
      refine ⟨by k_extra "sz", fun y3 my3 => ?_⟩
      k_extra "rr"
      have hy0 := sT _ _ (u2 _ _ (u1 _ _ (upd_same (a := y0) (o := .tup []))))
      have ny : y3 ≠ y0 := (ne_of_none hy0 my3).symm
      refine ⟨_, y0, .list [], rfl, Dq.lst_mk ny upd_same .nil, rfl, by decide, fun _ HE sE => ?_, fun i e => by cases e⟩
      k_extra "rr"
      exact q _
end

/-! ### what the top has written, and the head -/
theorem kb1 {K : PySem.W.Frag} {x p : Str} {st : Stmt} {f : Addr} {fd : FuncData} (F : Fun K x x st f fd)
    (h : ∀ (kV doc pm : Value) (an : Option Addr) (cdv ct u : Value), bindArgs (PySem.W.fnOf x x (defArgs st) (defBody st) (defScope st) .none kV doc pm an cdv ct) ⟨[], [(p, u)]⟩ = pure [(p, u)])
    (h2 : ∀ (kV doc pm : Value) (an : Option Addr) (cdv ct u : Value), bindArgs (PySem.W.fnOf x x (defArgs st) (defBody st) (defScope st) .none kV doc pm an cdv ct) ⟨[u], []⟩ = pure [(p, u)]) :
    KBinds K fd [p] [p] (fun us ws => us ++ ws) (fun us ws => us ++ ws) := by
  obtain ⟨oc, od, kV, doc, pm, an, cdv, ct, osl, rfl, lk, hcd⟩ := F.ex
  refine ⟨fun s us ws _ hl => ?_, fun a b => a.append b⟩
  match us, ws, hl with
  | [], [u], _ => exact .of_eq (h kV doc pm an cdv ct u)
  | [u], [], _ => exact .of_eq (h2 kV doc pm an cdv ct u)
theorem kb2 {K : PySem.W.Frag} {x p q : Str} {st : Stmt} {f : Addr} {fd : FuncData} (F : Fun K x x st f fd)
    (h : ∀ (kV doc pm : Value) (an : Option Addr) (cdv ct u v : Value), bindArgs (PySem.W.fnOf x x (defArgs st) (defBody st) (defScope st) .none kV doc pm an cdv ct) ⟨[], [(p, u), (q, v)]⟩ = pure [(p, u), (q, v)]) :
    KBinds K fd [p, q] [p, q] kwO kwO := by
  obtain ⟨oc, od, kV, doc, pm, an, cdv, ct, osl, rfl, lk, hcd⟩ := F.ex
  refine ⟨fun s us ws _ hl => ?_, fun {vs us zs ws} a b => ?_⟩
  · match us, ws, hl with
    | [], [u, v], _ => exact .of_eq (h kV doc pm an cdv ct u v)
  · cases a with
    | nil => exact b
    | cons _ _ => exact .nil
theorem cal_flat {P : Program} {w : World} {K : PySem.W.Frag} {mg : Str → Option Value} {base : Heap} {f : Addr} {fd : FuncData} (F : Fun K "_law_flat" "_law_flat" s_law_flat f fd) (T : Txt mg)
    (m : mg "_law_flat" = some (.ref f)) (k : PySem.W.keepIn K (.ref f) = true) (b : Binds K fd ["_law_document_z", "_law_state"] []) : ∀ n, Cal P w K mg base (n + 2) "_law_flat" (spFlat K n)
  | 0 => ⟨_, _, _, ok_law_flat (sp' := fun _ _ _ _ => False) F T ⟨_, _, _, F.ok (sp := fun _ _ _ _ => False) sc_law_flat (fun _ _ _ _ h => h.elim) (fun _ _ _ _ _ _ _ _ _ h => h.elim), m, k, b⟩ (fun j e => by omega), m, k, b⟩
  | n + 1 => ⟨_, _, _, ok_law_flat F T (cal_flat F T m k b n) (fun j e vs H Q E h => by
      obtain rfl : n = j := by omega
      exact h), m, k, b⟩
theorem cal_alike {P : Program} {w : World} {K : PySem.W.Frag} {mg : Str → Option Value} {base : Heap} {f : Addr} {fd : FuncData} (F : Fun K "_law_alike" "_law_alike" s_law_alike f fd) (T : Txt mg)
    (m : mg "_law_alike" = some (.ref f)) (k : PySem.W.keepIn K (.ref f) = true) (b : Binds K fd ["_law_found", "_law_due"] []) : ∀ n, Cal P w K mg base (n + 1) "_law_alike" (spAlike K n)
  | 0 => ⟨_, _, _, ok_law_alike0 F, m, k, b⟩
  | n + 1 => ⟨_, _, _, ok_law_alike1 F T (cal_alike F T m k b n), m, k, b⟩
theorem tab_sizes {K : PySem.W.Frag} {w : World} {aS : Addr} {t1 t2 t3 u1 u2 u3 : Tok} {n : Nat} (h : K.lookup aS = some ⟨.type "dict", none, .dict #[⟨PyData.keyHash w.params "one", .str "one" t1, .int 2 u1⟩, ⟨PyData.keyHash w.params "within", .str "within" t2, .int 3 u2⟩, ⟨PyData.keyHash w.params "ahead", .str "ahead" t3, .int 3 u3⟩] n, #[]⟩) (hs : (aS == sysModules) = false) : KTab K w aS sizesT := by
  refine ⟨_, _, h, ?_, hs, fun z => ?_⟩
  · exact ⟨⟨_, _, rfl, rfl⟩, ⟨_, _, rfl, rfl⟩, ⟨_, _, rfl, rfl⟩, trivial⟩
  · show RelO (sizesT.lookup z) (findBy Value.isStrOf #[_, _, _] z)
    unfold findBy sizesT
    by_cases h1 : z = "one"
    · subst h1
      exact ⟨u1, rfl⟩
    by_cases h2 : z = "within"
    · subst h2
      exact ⟨u2, rfl⟩
    by_cases h3 : z = "ahead"
    · subst h3
      exact ⟨u3, rfl⟩
    have n1 : (z == ("one" : Str)) = false := by simpa using h1
    have n2 : (z == ("within" : Str)) = false := by simpa using h2
    have n3 : (z == ("ahead" : Str)) = false := by simpa using h3
    have m1 : (("one" : Str) == z) = false := by simpa using fun e => h1 (Eq.symm e)
    have m2 : (("within" : Str) == z) = false := by simpa using fun e => h2 (Eq.symm e)
    have m3 : (("ahead" : Str) == z) = false := by simpa using fun e => h3 (Eq.symm e)
    simp [List.lookup, n1, n2, n3, Value.isStrOf, m1, m2, m3, RelO]
theorem all_mk {l : PySem.W.OpenLaw} {w : World} {K : PySem.W.Frag} {h : Heap} {mg : Str → Option Value} {fa f_wall f_is_word f_is_kind f_is_shape f_check_shapes f_stands f_holds f_holds_any f_law_bag f_law_take f_law_of f_law_words f_law_names f_law_sign_text f_law_nested f_law_document f_law_flat f_law_row f_law_span f_law_above f_law_ahead f_law_field f_law_why f_law_alike f_law_shape f_law_holds f_law cA PA : Addr} (X : K.In h) (G : h.Ns mainGlobals mg) (hfa : mg "law" = some (.ref fa))
    {od_wall an_wall od_is_word an_is_word od_is_kind an_is_kind od_is_shape an_is_shape od_check_shapes an_check_shapes od_stands an_stands od_holds an_holds od_holds_any an_holds_any od_law_bag an_law_bag od_law_take an_law_take od_law_of an_law_of od_law_words an_law_words od_law_names an_law_names od_law_sign_text an_law_sign_text od_law_nested an_law_nested od_law_document an_law_document od_law_flat an_law_flat od_law_row an_law_row od_law_span an_law_span od_law_above an_law_above od_law_ahead an_law_ahead od_law_field an_law_field od_law_why an_law_why od_law_alike an_law_alike od_law_shape an_law_shape od_law_holds an_law_holds od_law an_law : Option Addr} {sl_wall sl_is_word sl_is_kind sl_is_shape sl_check_shapes sl_stands sl_holds sl_holds_any sl_law_bag sl_law_take sl_law_of sl_law_words sl_law_names sl_law_sign_text sl_law_nested sl_law_document sl_law_flat sl_law_row sl_law_span sl_law_above sl_law_ahead sl_law_field sl_law_why sl_law_alike sl_law_shape sl_law_holds sl_law : Array (Option Value)} {oc_wall kV_wall dc_wall pm_wall cd_wall ct_wall oc_is_word kV_is_word dc_is_word pm_is_word cd_is_word ct_is_word oc_is_kind kV_is_kind dc_is_kind pm_is_kind cd_is_kind ct_is_kind oc_is_shape kV_is_shape dc_is_shape pm_is_shape cd_is_shape ct_is_shape oc_check_shapes kV_check_shapes dc_check_shapes pm_check_shapes cd_check_shapes ct_check_shapes oc_stands kV_stands dc_stands pm_stands cd_stands ct_stands oc_holds kV_holds dc_holds pm_holds cd_holds ct_holds oc_holds_any kV_holds_any dc_holds_any pm_holds_any cd_holds_any ct_holds_any oc_law_bag kV_law_bag dc_law_bag pm_law_bag cd_law_bag ct_law_bag oc_law_take kV_law_take dc_law_take pm_law_take cd_law_take ct_law_take oc_law_of kV_law_of dc_law_of pm_law_of cd_law_of ct_law_of oc_law_words kV_law_words dc_law_words pm_law_words cd_law_words ct_law_words oc_law_names kV_law_names dc_law_names pm_law_names cd_law_names ct_law_names oc_law_sign_text kV_law_sign_text dc_law_sign_text pm_law_sign_text cd_law_sign_text ct_law_sign_text oc_law_nested kV_law_nested dc_law_nested pm_law_nested cd_law_nested ct_law_nested oc_law_document kV_law_document dc_law_document pm_law_document cd_law_document ct_law_document oc_law_flat kV_law_flat dc_law_flat pm_law_flat cd_law_flat ct_law_flat oc_law_row kV_law_row dc_law_row pm_law_row cd_law_row ct_law_row oc_law_span kV_law_span dc_law_span pm_law_span cd_law_span ct_law_span oc_law_above kV_law_above dc_law_above pm_law_above cd_law_above ct_law_above oc_law_ahead kV_law_ahead dc_law_ahead pm_law_ahead cd_law_ahead ct_law_ahead oc_law_field kV_law_field dc_law_field pm_law_field cd_law_field ct_law_field oc_law_why kV_law_why dc_law_why pm_law_why cd_law_why ct_law_why oc_law_alike kV_law_alike dc_law_alike pm_law_alike cd_law_alike ct_law_alike oc_law_shape kV_law_shape dc_law_shape pm_law_shape cd_law_shape ct_law_shape oc_law_holds kV_law_holds dc_law_holds pm_law_holds cd_law_holds ct_law_holds oc_law kV_law dc_law pm_law ct_law : Value} {t_SMALL t_REST t_MOST_LETTERS : Tok}
    (a_wall : PySem.W.nsIn K mainGlobals "_wall" = some (some (.ref f_wall))) (l_wall : K.lookup f_wall = some ⟨oc_wall, od_wall, .func (PySem.W.fnOf "_wall" "_wall" (defArgs s_wall) (defBody s_wall) (defScope s_wall) .none kV_wall dc_wall pm_wall an_wall cd_wall ct_wall), sl_wall⟩) (c_wall : PySem.W.codeIn K cd_wall "_wall" = true) (k_wall : PySem.W.keepIn K (.ref f_wall) = true)
    (a_is_word : PySem.W.nsIn K mainGlobals "is_word" = some (some (.ref f_is_word))) (l_is_word : K.lookup f_is_word = some ⟨oc_is_word, od_is_word, .func (PySem.W.fnOf "is_word" "is_word" (defArgs s_is_word) (defBody s_is_word) (defScope s_is_word) .none kV_is_word dc_is_word pm_is_word an_is_word cd_is_word ct_is_word), sl_is_word⟩) (c_is_word : PySem.W.codeIn K cd_is_word "is_word" = true) (k_is_word : PySem.W.keepIn K (.ref f_is_word) = true)
    (a_is_kind : PySem.W.nsIn K mainGlobals "is_kind" = some (some (.ref f_is_kind))) (l_is_kind : K.lookup f_is_kind = some ⟨oc_is_kind, od_is_kind, .func (PySem.W.fnOf "is_kind" "is_kind" (defArgs s_is_kind) (defBody s_is_kind) (defScope s_is_kind) .none kV_is_kind dc_is_kind pm_is_kind an_is_kind cd_is_kind ct_is_kind), sl_is_kind⟩) (c_is_kind : PySem.W.codeIn K cd_is_kind "is_kind" = true) (k_is_kind : PySem.W.keepIn K (.ref f_is_kind) = true)
    (a_is_shape : PySem.W.nsIn K mainGlobals "is_shape" = some (some (.ref f_is_shape))) (l_is_shape : K.lookup f_is_shape = some ⟨oc_is_shape, od_is_shape, .func (PySem.W.fnOf "is_shape" "is_shape" (defArgs s_is_shape) (defBody s_is_shape) (defScope s_is_shape) .none kV_is_shape dc_is_shape pm_is_shape an_is_shape cd_is_shape ct_is_shape), sl_is_shape⟩) (c_is_shape : PySem.W.codeIn K cd_is_shape "is_shape" = true) (k_is_shape : PySem.W.keepIn K (.ref f_is_shape) = true)
    (a_check_shapes : PySem.W.nsIn K mainGlobals "check_shapes" = some (some (.ref f_check_shapes))) (l_check_shapes : K.lookup f_check_shapes = some ⟨oc_check_shapes, od_check_shapes, .func (PySem.W.fnOf "check_shapes" "check_shapes" (defArgs s_check_shapes) (defBody s_check_shapes) (defScope s_check_shapes) .none kV_check_shapes dc_check_shapes pm_check_shapes an_check_shapes cd_check_shapes ct_check_shapes), sl_check_shapes⟩) (c_check_shapes : PySem.W.codeIn K cd_check_shapes "check_shapes" = true) (k_check_shapes : PySem.W.keepIn K (.ref f_check_shapes) = true)
    (a_stands : PySem.W.nsIn K mainGlobals "stands" = some (some (.ref f_stands))) (l_stands : K.lookup f_stands = some ⟨oc_stands, od_stands, .func (PySem.W.fnOf "stands" "stands" (defArgs s_stands) (defBody s_stands) (defScope s_stands) .none kV_stands dc_stands pm_stands an_stands cd_stands ct_stands), sl_stands⟩) (c_stands : PySem.W.codeIn K cd_stands "stands" = true) (k_stands : PySem.W.keepIn K (.ref f_stands) = true)
    (a_holds : PySem.W.nsIn K mainGlobals "holds" = some (some (.ref f_holds))) (l_holds : K.lookup f_holds = some ⟨oc_holds, od_holds, .func (PySem.W.fnOf "holds" "holds" (defArgs s_holds) (defBody s_holds) (defScope s_holds) .none kV_holds dc_holds pm_holds an_holds cd_holds ct_holds), sl_holds⟩) (c_holds : PySem.W.codeIn K cd_holds "holds" = true) (k_holds : PySem.W.keepIn K (.ref f_holds) = true)
    (a_holds_any : PySem.W.nsIn K mainGlobals "holds_any" = some (some (.ref f_holds_any))) (l_holds_any : K.lookup f_holds_any = some ⟨oc_holds_any, od_holds_any, .func (PySem.W.fnOf "holds_any" "holds_any" (defArgs s_holds_any) (defBody s_holds_any) (defScope s_holds_any) .none kV_holds_any dc_holds_any pm_holds_any an_holds_any cd_holds_any ct_holds_any), sl_holds_any⟩) (c_holds_any : PySem.W.codeIn K cd_holds_any "holds_any" = true) (k_holds_any : PySem.W.keepIn K (.ref f_holds_any) = true)
    (a_law_bag : PySem.W.nsIn K mainGlobals "_law_bag" = some (some (.ref f_law_bag))) (l_law_bag : K.lookup f_law_bag = some ⟨oc_law_bag, od_law_bag, .func (PySem.W.fnOf "_law_bag" "_law_bag" (defArgs s_law_bag) (defBody s_law_bag) (defScope s_law_bag) .none kV_law_bag dc_law_bag pm_law_bag an_law_bag cd_law_bag ct_law_bag), sl_law_bag⟩) (c_law_bag : PySem.W.codeIn K cd_law_bag "_law_bag" = true) (k_law_bag : PySem.W.keepIn K (.ref f_law_bag) = true)
    (a_law_take : PySem.W.nsIn K mainGlobals "_law_take" = some (some (.ref f_law_take))) (l_law_take : K.lookup f_law_take = some ⟨oc_law_take, od_law_take, .func (PySem.W.fnOf "_law_take" "_law_take" (defArgs s_law_take) (defBody s_law_take) (defScope s_law_take) .none kV_law_take dc_law_take pm_law_take an_law_take cd_law_take ct_law_take), sl_law_take⟩) (c_law_take : PySem.W.codeIn K cd_law_take "_law_take" = true) (k_law_take : PySem.W.keepIn K (.ref f_law_take) = true)
    (a_law_of : PySem.W.nsIn K mainGlobals "_law_of" = some (some (.ref f_law_of))) (l_law_of : K.lookup f_law_of = some ⟨oc_law_of, od_law_of, .func (PySem.W.fnOf "_law_of" "_law_of" (defArgs s_law_of) (defBody s_law_of) (defScope s_law_of) .none kV_law_of dc_law_of pm_law_of an_law_of cd_law_of ct_law_of), sl_law_of⟩) (c_law_of : PySem.W.codeIn K cd_law_of "_law_of" = true) (k_law_of : PySem.W.keepIn K (.ref f_law_of) = true)
    (a_law_words : PySem.W.nsIn K mainGlobals "_law_words" = some (some (.ref f_law_words))) (l_law_words : K.lookup f_law_words = some ⟨oc_law_words, od_law_words, .func (PySem.W.fnOf "_law_words" "_law_words" (defArgs s_law_words) (defBody s_law_words) (defScope s_law_words) .none kV_law_words dc_law_words pm_law_words an_law_words cd_law_words ct_law_words), sl_law_words⟩) (c_law_words : PySem.W.codeIn K cd_law_words "_law_words" = true) (k_law_words : PySem.W.keepIn K (.ref f_law_words) = true)
    (a_law_names : PySem.W.nsIn K mainGlobals "_law_names" = some (some (.ref f_law_names))) (l_law_names : K.lookup f_law_names = some ⟨oc_law_names, od_law_names, .func (PySem.W.fnOf "_law_names" "_law_names" (defArgs s_law_names) (defBody s_law_names) (defScope s_law_names) .none kV_law_names dc_law_names pm_law_names an_law_names cd_law_names ct_law_names), sl_law_names⟩) (c_law_names : PySem.W.codeIn K cd_law_names "_law_names" = true) (k_law_names : PySem.W.keepIn K (.ref f_law_names) = true)
    (a_law_sign_text : PySem.W.nsIn K mainGlobals "_law_sign_text" = some (some (.ref f_law_sign_text))) (l_law_sign_text : K.lookup f_law_sign_text = some ⟨oc_law_sign_text, od_law_sign_text, .func (PySem.W.fnOf "_law_sign_text" "_law_sign_text" (defArgs s_law_sign_text) (defBody s_law_sign_text) (defScope s_law_sign_text) .none kV_law_sign_text dc_law_sign_text pm_law_sign_text an_law_sign_text cd_law_sign_text ct_law_sign_text), sl_law_sign_text⟩) (c_law_sign_text : PySem.W.codeIn K cd_law_sign_text "_law_sign_text" = true) (k_law_sign_text : PySem.W.keepIn K (.ref f_law_sign_text) = true)
    (a_law_nested : PySem.W.nsIn K mainGlobals "_law_nested" = some (some (.ref f_law_nested))) (l_law_nested : K.lookup f_law_nested = some ⟨oc_law_nested, od_law_nested, .func (PySem.W.fnOf "_law_nested" "_law_nested" (defArgs s_law_nested) (defBody s_law_nested) (defScope s_law_nested) .none kV_law_nested dc_law_nested pm_law_nested an_law_nested cd_law_nested ct_law_nested), sl_law_nested⟩) (c_law_nested : PySem.W.codeIn K cd_law_nested "_law_nested" = true) (k_law_nested : PySem.W.keepIn K (.ref f_law_nested) = true)
    (a_law_document : PySem.W.nsIn K mainGlobals "_law_document" = some (some (.ref f_law_document))) (l_law_document : K.lookup f_law_document = some ⟨oc_law_document, od_law_document, .func (PySem.W.fnOf "_law_document" "_law_document" (defArgs s_law_document) (defBody s_law_document) (defScope s_law_document) .none kV_law_document dc_law_document pm_law_document an_law_document cd_law_document ct_law_document), sl_law_document⟩) (c_law_document : PySem.W.codeIn K cd_law_document "_law_document" = true) (k_law_document : PySem.W.keepIn K (.ref f_law_document) = true)
    (a_law_flat : PySem.W.nsIn K mainGlobals "_law_flat" = some (some (.ref f_law_flat))) (l_law_flat : K.lookup f_law_flat = some ⟨oc_law_flat, od_law_flat, .func (PySem.W.fnOf "_law_flat" "_law_flat" (defArgs s_law_flat) (defBody s_law_flat) (defScope s_law_flat) .none kV_law_flat dc_law_flat pm_law_flat an_law_flat cd_law_flat ct_law_flat), sl_law_flat⟩) (c_law_flat : PySem.W.codeIn K cd_law_flat "_law_flat" = true) (k_law_flat : PySem.W.keepIn K (.ref f_law_flat) = true)
    (a_law_row : PySem.W.nsIn K mainGlobals "_law_row" = some (some (.ref f_law_row))) (l_law_row : K.lookup f_law_row = some ⟨oc_law_row, od_law_row, .func (PySem.W.fnOf "_law_row" "_law_row" (defArgs s_law_row) (defBody s_law_row) (defScope s_law_row) .none kV_law_row dc_law_row pm_law_row an_law_row cd_law_row ct_law_row), sl_law_row⟩) (c_law_row : PySem.W.codeIn K cd_law_row "_law_row" = true) (k_law_row : PySem.W.keepIn K (.ref f_law_row) = true)
    (a_law_span : PySem.W.nsIn K mainGlobals "_law_span" = some (some (.ref f_law_span))) (l_law_span : K.lookup f_law_span = some ⟨oc_law_span, od_law_span, .func (PySem.W.fnOf "_law_span" "_law_span" (defArgs s_law_span) (defBody s_law_span) (defScope s_law_span) .none kV_law_span dc_law_span pm_law_span an_law_span cd_law_span ct_law_span), sl_law_span⟩) (c_law_span : PySem.W.codeIn K cd_law_span "_law_span" = true) (k_law_span : PySem.W.keepIn K (.ref f_law_span) = true)
    (a_law_above : PySem.W.nsIn K mainGlobals "_law_above" = some (some (.ref f_law_above))) (l_law_above : K.lookup f_law_above = some ⟨oc_law_above, od_law_above, .func (PySem.W.fnOf "_law_above" "_law_above" (defArgs s_law_above) (defBody s_law_above) (defScope s_law_above) .none kV_law_above dc_law_above pm_law_above an_law_above cd_law_above ct_law_above), sl_law_above⟩) (c_law_above : PySem.W.codeIn K cd_law_above "_law_above" = true) (k_law_above : PySem.W.keepIn K (.ref f_law_above) = true)
    (a_law_ahead : PySem.W.nsIn K mainGlobals "_law_ahead" = some (some (.ref f_law_ahead))) (l_law_ahead : K.lookup f_law_ahead = some ⟨oc_law_ahead, od_law_ahead, .func (PySem.W.fnOf "_law_ahead" "_law_ahead" (defArgs s_law_ahead) (defBody s_law_ahead) (defScope s_law_ahead) .none kV_law_ahead dc_law_ahead pm_law_ahead an_law_ahead cd_law_ahead ct_law_ahead), sl_law_ahead⟩) (c_law_ahead : PySem.W.codeIn K cd_law_ahead "_law_ahead" = true) (k_law_ahead : PySem.W.keepIn K (.ref f_law_ahead) = true)
    (a_law_field : PySem.W.nsIn K mainGlobals "_law_field" = some (some (.ref f_law_field))) (l_law_field : K.lookup f_law_field = some ⟨oc_law_field, od_law_field, .func (PySem.W.fnOf "_law_field" "_law_field" (defArgs s_law_field) (defBody s_law_field) (defScope s_law_field) .none kV_law_field dc_law_field pm_law_field an_law_field cd_law_field ct_law_field), sl_law_field⟩) (c_law_field : PySem.W.codeIn K cd_law_field "_law_field" = true) (k_law_field : PySem.W.keepIn K (.ref f_law_field) = true)
    (a_law_why : PySem.W.nsIn K mainGlobals "_law_why" = some (some (.ref f_law_why))) (l_law_why : K.lookup f_law_why = some ⟨oc_law_why, od_law_why, .func (PySem.W.fnOf "_law_why" "_law_why" (defArgs s_law_why) (defBody s_law_why) (defScope s_law_why) .none kV_law_why dc_law_why pm_law_why an_law_why cd_law_why ct_law_why), sl_law_why⟩) (c_law_why : PySem.W.codeIn K cd_law_why "_law_why" = true) (k_law_why : PySem.W.keepIn K (.ref f_law_why) = true)
    (a_law_alike : PySem.W.nsIn K mainGlobals "_law_alike" = some (some (.ref f_law_alike))) (l_law_alike : K.lookup f_law_alike = some ⟨oc_law_alike, od_law_alike, .func (PySem.W.fnOf "_law_alike" "_law_alike" (defArgs s_law_alike) (defBody s_law_alike) (defScope s_law_alike) .none kV_law_alike dc_law_alike pm_law_alike an_law_alike cd_law_alike ct_law_alike), sl_law_alike⟩) (c_law_alike : PySem.W.codeIn K cd_law_alike "_law_alike" = true) (k_law_alike : PySem.W.keepIn K (.ref f_law_alike) = true)
    (a_law_shape : PySem.W.nsIn K mainGlobals "_law_shape" = some (some (.ref f_law_shape))) (l_law_shape : K.lookup f_law_shape = some ⟨oc_law_shape, od_law_shape, .func (PySem.W.fnOf "_law_shape" "_law_shape" (defArgs s_law_shape) (defBody s_law_shape) (defScope s_law_shape) .none kV_law_shape dc_law_shape pm_law_shape an_law_shape cd_law_shape ct_law_shape), sl_law_shape⟩) (c_law_shape : PySem.W.codeIn K cd_law_shape "_law_shape" = true) (k_law_shape : PySem.W.keepIn K (.ref f_law_shape) = true)
    (a_law_holds : PySem.W.nsIn K mainGlobals "_law_holds" = some (some (.ref f_law_holds))) (l_law_holds : K.lookup f_law_holds = some ⟨oc_law_holds, od_law_holds, .func (PySem.W.fnOf "_law_holds" "_law_holds" (defArgs s_law_holds) (defBody s_law_holds) (defScope s_law_holds) .none kV_law_holds dc_law_holds pm_law_holds an_law_holds cd_law_holds ct_law_holds), sl_law_holds⟩) (c_law_holds : PySem.W.codeIn K cd_law_holds "_law_holds" = true) (k_law_holds : PySem.W.keepIn K (.ref f_law_holds) = true)
    (a_law : PySem.W.nsIn K mainGlobals "law" = some (some (.ref f_law))) (l_law : K.lookup f_law = some ⟨oc_law, od_law, .func (PySem.W.fnOf "law" "law" (defArgs s_law) (defBody s_law) (defScope s_law) .none kV_law dc_law pm_law an_law (.ref cA) ct_law), sl_law⟩) (c_law : PySem.W.codeIn K (.ref cA) "law" = true) (k_law : PySem.W.keepIn K (.ref f_law) = true)
    {occ : Value} {odc : Option Addr} {vsc : Array Value} {slc : Array (Option Value)} (lc_law : K.lookup cA = some ⟨occ, odc, .fields vsc, slc⟩) (eP_law : vsc[11]? = some (.ref PA)) (nt_law : PySem.W.noTabs K = true)
    {w_GroveError : Addr} (aw_GroveError : PySem.W.nsIn K mainGlobals "GroveError" = some (some (.ref w_GroveError))) (ew_GroveError : PySem.W.subIn K (.ref w_GroveError) (.type "BaseException") = some true) (iw_GroveError : PySem.W.isClsIn K w_GroveError = true) (tw_GroveError : PySem.W.typeIn K (.ref w_GroveError) = some (.type "type"))
    {w_Missing : Addr} (aw_Missing : PySem.W.nsIn K mainGlobals "Missing" = some (some (.ref w_Missing))) (ew_Missing : PySem.W.subIn K (.ref w_Missing) (.type "BaseException") = some true) (iw_Missing : PySem.W.isClsIn K w_Missing = true) (tw_Missing : PySem.W.typeIn K (.ref w_Missing) = some (.type "type"))
    {w_NothingLeft : Addr} (aw_NothingLeft : PySem.W.nsIn K mainGlobals "NothingLeft" = some (some (.ref w_NothingLeft))) (ew_NothingLeft : PySem.W.subIn K (.ref w_NothingLeft) (.type "BaseException") = some true) (iw_NothingLeft : PySem.W.isClsIn K w_NothingLeft = true) (tw_NothingLeft : PySem.W.typeIn K (.ref w_NothingLeft) = some (.type "type"))
    {C_BadShape fi_BadShape N_BadShape : Addr} {nm_BadShape q_BadShape : Str} {bs_BadShape bm_BadShape : List Value} {sn_BadShape : List Str} {sub_BadShape : List Value} {ab_BadShape : Bool} {col_BadShape : Option Bool} {dd_BadShape : Option Addr} {k0_BadShape k1_BadShape k2_BadShape k3_BadShape k5_BadShape : Option Value} {oci_BadShape kVi_BadShape dci_BadShape pmi_BadShape cdi_BadShape cti_BadShape : Value} {odi_BadShape ani_BadShape : Option Addr} {sli_BadShape : Array (Option Value)}
    (aC_BadShape : PySem.W.nsIn K mainGlobals "BadShape" = some (some (.ref C_BadShape))) (xL_BadShape : K.lookup C_BadShape = some (excClassObj nm_BadShape q_BadShape C_BadShape N_BadShape bs_BadShape bm_BadShape true sn_BadShape sub_BadShape ab_BadShape col_BadShape dd_BadShape k0_BadShape k1_BadShape k2_BadShape k3_BadShape k5_BadShape "ValueError.__new__")) (hb_BadShape : PySem.HandSPX.refsVE bm_BadShape = true) (sa_BadShape : PySem.W.findIn K (.ref C_BadShape) "__setattr__" = some (some (.builtin "object.__setattr__"))) (ga_BadShape : PySem.W.findIn K (.ref C_BadShape) "__getattribute__" = some (some (.builtin "BaseException.__getattribute__"))) (gg_BadShape : PySem.W.findIn K (.ref C_BadShape) "__getattr__" = some none) (hd_BadShape : PySem.W.hasDictIn K C_BadShape = true) (kC_BadShape : PySem.W.keepIn K (.ref C_BadShape) = true) (eC_BadShape : PySem.W.subIn K (.ref C_BadShape) (.type "BaseException") = some true) (tC_BadShape : PySem.W.typeIn K (.ref C_BadShape) = some (.type "type")) (nc_BadShape : PySem.W.findIn K (.ref C_BadShape) "code" = some none) (nf_BadShape : PySem.W.findIn K (.ref C_BadShape) "at" = some none) (ai_BadShape : PySem.W.findIn K (.ref C_BadShape) "__init__" = some (some (.ref fi_BadShape))) (ti_BadShape : PySem.W.typeIn K (.ref fi_BadShape) = some (.type "function")) (li_BadShape : K.lookup fi_BadShape = some ⟨oci_BadShape, odi_BadShape, .func (PySem.W.fnOf "__init__" "BadShape.__init__" (defArgs s_BadShape_init) (defBody s_BadShape_init) (defScope s_BadShape_init) .none kVi_BadShape dci_BadShape pmi_BadShape ani_BadShape cdi_BadShape cti_BadShape), sli_BadShape⟩) (ci_BadShape : PySem.W.codeIn K cdi_BadShape "BadShape.__init__" = true) (ki_BadShape : PySem.W.keepIn K (.ref fi_BadShape) = true)
    (sw_BadShape_GroveError : PySem.W.subIn K (.ref C_BadShape) (.ref w_GroveError) = some true)
    (sw_BadShape_Missing : PySem.W.subIn K (.ref C_BadShape) (.ref w_Missing) = some false)
    (sw_BadShape_NothingLeft : PySem.W.subIn K (.ref C_BadShape) (.ref w_NothingLeft) = some false)
    {C_Row : Addr} (aC_Row : PySem.W.nsIn K mainGlobals "Row" = some (some (.ref C_Row))) (pg_Row : PySem.W.plainGet K C_Row Str.empty = true) (hd_Row : PySem.W.hasDictIn K C_Row = true) (po_Row : PySem.W.plainOver K C_Row = true) (sa_Row : PySem.W.findIn K (.ref C_Row) "__setattr__" = some (some (.builtin "object.__setattr__"))) (mk_Row : PySem.W.makesIn K C_Row = true) (kc_Row : PySem.W.keepIn K (.ref C_Row) = true)
    (na_Row_marks : PySem.W.findIn K (.ref C_Row) "marks" = some none)
    (na_Row_kind_row : PySem.W.findIn K (.ref C_Row) "kind_row" = some none)
    (na_Row_text_row : PySem.W.findIn K (.ref C_Row) "text_row" = some none)
    (na_Row_origin_row : PySem.W.findIn K (.ref C_Row) "origin_row" = some none)
    (rd_Row : PySem.W.readsIn K C_Row (.type "type") = true) (tg_Row : PySem.W.specialIn K (.ref C_Row) "__getattribute__" = some (some (.builtin "type.__getattribute__")))
    {f_Row_init : Addr} {od_Row_init an_Row_init : Option Addr} {sl_Row_init : Array (Option Value)} {oc_Row_init kV_Row_init dc_Row_init pm_Row_init cd_Row_init ct_Row_init : Value}
    (at_Row_init : PySem.W.findIn K (.ref C_Row) "__init__" = some (some (.ref f_Row_init))) (fi_Row_init : PySem.W.isFn K (.ref f_Row_init) = true)
    (l_Row_init : K.lookup f_Row_init = some ⟨oc_Row_init, od_Row_init, .func (PySem.W.fnOf "__init__" "Row.__init__" (defArgs s_Row___init__) (defBody s_Row___init__) (defScope s_Row___init__) .none kV_Row_init dc_Row_init pm_Row_init an_Row_init cd_Row_init ct_Row_init), sl_Row_init⟩) (c_Row_init : PySem.W.codeIn K cd_Row_init "Row.__init__" = true) (k_Row_init : PySem.W.keepIn K (.ref f_Row_init) = true)
    {f_Row_made_of : Addr} {od_Row_made_of an_Row_made_of : Option Addr} {sl_Row_made_of : Array (Option Value)} {oc_Row_made_of kV_Row_made_of dc_Row_made_of pm_Row_made_of cd_Row_made_of ct_Row_made_of : Value}
    {p_Row_made_of : Addr} {rs_Row_made_of : List Value} (at_Row_made_of : PySem.W.findCls K (.ref C_Row) (.type "type") "made_of" = some (.get (.builtin "classmethod.__get__") (.ref p_Row_made_of) .none (.ref C_Row))) (rc_Row_made_of : PySem.W.recIn K p_Row_made_of "classmethod" = some (.ref f_Row_made_of :: rs_Row_made_of)) (fi_Row_made_of : PySem.W.fnIn K f_Row_made_of = true)
    (l_Row_made_of : K.lookup f_Row_made_of = some ⟨oc_Row_made_of, od_Row_made_of, .func (PySem.W.fnOf "made_of" "Row.made_of" (defArgs s_Row_made_of) (defBody s_Row_made_of) (defScope s_Row_made_of) .none kV_Row_made_of dc_Row_made_of pm_Row_made_of an_Row_made_of cd_Row_made_of ct_Row_made_of), sl_Row_made_of⟩) (c_Row_made_of : PySem.W.codeIn K cd_Row_made_of "Row.made_of" = true) (k_Row_made_of : PySem.W.keepIn K (.ref f_Row_made_of) = true)
    {f_Row_added : Addr} {od_Row_added an_Row_added : Option Addr} {sl_Row_added : Array (Option Value)} {oc_Row_added kV_Row_added dc_Row_added pm_Row_added cd_Row_added ct_Row_added : Value}
    (at_Row_added : PySem.W.findIn K (.ref C_Row) "added" = some (some (.ref f_Row_added))) (fi_Row_added : PySem.W.isFn K (.ref f_Row_added) = true)
    (l_Row_added : K.lookup f_Row_added = some ⟨oc_Row_added, od_Row_added, .func (PySem.W.fnOf "added" "Row.added" (defArgs s_Row_added) (defBody s_Row_added) (defScope s_Row_added) .none kV_Row_added dc_Row_added pm_Row_added an_Row_added cd_Row_added ct_Row_added), sl_Row_added⟩) (c_Row_added : PySem.W.codeIn K cd_Row_added "Row.added" = true) (k_Row_added : PySem.W.keepIn K (.ref f_Row_added) = true)
    {f_Row_spans : Addr} {od_Row_spans an_Row_spans : Option Addr} {sl_Row_spans : Array (Option Value)} {oc_Row_spans kV_Row_spans dc_Row_spans pm_Row_spans cd_Row_spans ct_Row_spans : Value}
    (at_Row_spans : PySem.W.findIn K (.ref C_Row) "spans" = some (some (.ref f_Row_spans))) (fi_Row_spans : PySem.W.isFn K (.ref f_Row_spans) = true)
    (l_Row_spans : K.lookup f_Row_spans = some ⟨oc_Row_spans, od_Row_spans, .func (PySem.W.fnOf "spans" "Row.spans" (defArgs s_Row_spans) (defBody s_Row_spans) (defScope s_Row_spans) .none kV_Row_spans dc_Row_spans pm_Row_spans an_Row_spans cd_Row_spans ct_Row_spans), sl_Row_spans⟩) (c_Row_spans : PySem.W.codeIn K cd_Row_spans "Row.spans" = true) (k_Row_spans : PySem.W.keepIn K (.ref f_Row_spans) = true)
    {f_Row_rub : Addr} {od_Row_rub an_Row_rub : Option Addr} {sl_Row_rub : Array (Option Value)} {oc_Row_rub kV_Row_rub dc_Row_rub pm_Row_rub cd_Row_rub ct_Row_rub : Value}
    (at_Row_rub : PySem.W.findIn K (.ref C_Row) "rub" = some (some (.ref f_Row_rub))) (fi_Row_rub : PySem.W.isFn K (.ref f_Row_rub) = true)
    (l_Row_rub : K.lookup f_Row_rub = some ⟨oc_Row_rub, od_Row_rub, .func (PySem.W.fnOf "rub" "Row.rub" (defArgs s_Row_rub) (defBody s_Row_rub) (defScope s_Row_rub) .none kV_Row_rub dc_Row_rub pm_Row_rub an_Row_rub cd_Row_rub ct_Row_rub), sl_Row_rub⟩) (c_Row_rub : PySem.W.codeIn K cd_Row_rub "Row.rub" = true) (k_Row_rub : PySem.W.keepIn K (.ref f_Row_rub) = true)
    {f_Row_part : Addr} {od_Row_part an_Row_part : Option Addr} {sl_Row_part : Array (Option Value)} {oc_Row_part kV_Row_part dc_Row_part pm_Row_part cd_Row_part ct_Row_part : Value}
    (at_Row_part : PySem.W.findIn K (.ref C_Row) "part" = some (some (.ref f_Row_part))) (fi_Row_part : PySem.W.isFn K (.ref f_Row_part) = true)
    (l_Row_part : K.lookup f_Row_part = some ⟨oc_Row_part, od_Row_part, .func (PySem.W.fnOf "part" "Row.part" (defArgs s_Row_part) (defBody s_Row_part) (defScope s_Row_part) .none kV_Row_part dc_Row_part pm_Row_part an_Row_part cd_Row_part ct_Row_part), sl_Row_part⟩) (c_Row_part : PySem.W.codeIn K cd_Row_part "Row.part" = true) (k_Row_part : PySem.W.keepIn K (.ref f_Row_part) = true)
    {f_Row_cut : Addr} {od_Row_cut an_Row_cut : Option Addr} {sl_Row_cut : Array (Option Value)} {oc_Row_cut kV_Row_cut dc_Row_cut pm_Row_cut cd_Row_cut ct_Row_cut : Value}
    (at_Row_cut : PySem.W.findIn K (.ref C_Row) "cut" = some (some (.ref f_Row_cut))) (fi_Row_cut : PySem.W.isFn K (.ref f_Row_cut) = true)
    (l_Row_cut : K.lookup f_Row_cut = some ⟨oc_Row_cut, od_Row_cut, .func (PySem.W.fnOf "cut" "Row.cut" (defArgs s_Row_cut) (defBody s_Row_cut) (defScope s_Row_cut) .none kV_Row_cut dc_Row_cut pm_Row_cut an_Row_cut cd_Row_cut ct_Row_cut), sl_Row_cut⟩) (c_Row_cut : PySem.W.codeIn K cd_Row_cut "Row.cut" = true) (k_Row_cut : PySem.W.keepIn K (.ref f_Row_cut) = true)
    {f_Row_place : Addr} {od_Row_place an_Row_place : Option Addr} {sl_Row_place : Array (Option Value)} {oc_Row_place kV_Row_place dc_Row_place pm_Row_place cd_Row_place ct_Row_place : Value}
    (at_Row_place : PySem.W.findIn K (.ref C_Row) "place" = some (some (.ref f_Row_place))) (fi_Row_place : PySem.W.isFn K (.ref f_Row_place) = true)
    (l_Row_place : K.lookup f_Row_place = some ⟨oc_Row_place, od_Row_place, .func (PySem.W.fnOf "place" "Row.place" (defArgs s_Row_place) (defBody s_Row_place) (defScope s_Row_place) .none kV_Row_place dc_Row_place pm_Row_place an_Row_place cd_Row_place ct_Row_place), sl_Row_place⟩) (c_Row_place : PySem.W.codeIn K cd_Row_place "Row.place" = true) (k_Row_place : PySem.W.keepIn K (.ref f_Row_place) = true)
    {f_Row_put_in : Addr} {od_Row_put_in an_Row_put_in : Option Addr} {sl_Row_put_in : Array (Option Value)} {oc_Row_put_in kV_Row_put_in dc_Row_put_in pm_Row_put_in cd_Row_put_in ct_Row_put_in : Value}
    (at_Row_put_in : PySem.W.findIn K (.ref C_Row) "put_in" = some (some (.ref f_Row_put_in))) (fi_Row_put_in : PySem.W.isFn K (.ref f_Row_put_in) = true)
    (l_Row_put_in : K.lookup f_Row_put_in = some ⟨oc_Row_put_in, od_Row_put_in, .func (PySem.W.fnOf "put_in" "Row.put_in" (defArgs s_Row_put_in) (defBody s_Row_put_in) (defScope s_Row_put_in) .none kV_Row_put_in dc_Row_put_in pm_Row_put_in an_Row_put_in cd_Row_put_in ct_Row_put_in), sl_Row_put_in⟩) (c_Row_put_in : PySem.W.codeIn K cd_Row_put_in "Row.put_in" = true) (k_Row_put_in : PySem.W.keepIn K (.ref f_Row_put_in) = true)
    {f_Row_doubled : Addr} {od_Row_doubled an_Row_doubled : Option Addr} {sl_Row_doubled : Array (Option Value)} {oc_Row_doubled kV_Row_doubled dc_Row_doubled pm_Row_doubled cd_Row_doubled ct_Row_doubled : Value}
    (at_Row_doubled : PySem.W.findIn K (.ref C_Row) "doubled" = some (some (.ref f_Row_doubled))) (fi_Row_doubled : PySem.W.isFn K (.ref f_Row_doubled) = true)
    (l_Row_doubled : K.lookup f_Row_doubled = some ⟨oc_Row_doubled, od_Row_doubled, .func (PySem.W.fnOf "doubled" "Row.doubled" (defArgs s_Row_doubled) (defBody s_Row_doubled) (defScope s_Row_doubled) .none kV_Row_doubled dc_Row_doubled pm_Row_doubled an_Row_doubled cd_Row_doubled ct_Row_doubled), sl_Row_doubled⟩) (c_Row_doubled : PySem.W.codeIn K cd_Row_doubled "Row.doubled" = true) (k_Row_doubled : PySem.W.keepIn K (.ref f_Row_doubled) = true)
    {aS_SIZES : Addr} {nS_SIZES : Nat} {tk0_SIZES tv0_SIZES tk1_SIZES tv1_SIZES tk2_SIZES tv2_SIZES : Tok}
    (aD_SIZES : PySem.W.nsIn K mainGlobals "SIZES" = some (some (.ref aS_SIZES))) (lD_SIZES : K.lookup aS_SIZES = some ⟨.type "dict", none, .dict #[⟨PyData.keyHash w.params "one", .str "one" tk0_SIZES, .int 2 tv0_SIZES⟩, ⟨PyData.keyHash w.params "within", .str "within" tk1_SIZES, .int 3 tv1_SIZES⟩, ⟨PyData.keyHash w.params "ahead", .str "ahead" tk2_SIZES, .int 3 tv2_SIZES⟩] nS_SIZES, #[]⟩) (sD_SIZES : (aS_SIZES == sysModules) = false)
    (z_len : PySem.W.nsIn K mainGlobals "len" = some none) (z_int : PySem.W.nsIn K mainGlobals "int" = some none) (z_range : PySem.W.nsIn K mainGlobals "range" = some none) (z_isinstance : PySem.W.nsIn K mainGlobals "isinstance" = some none) (z_all : PySem.W.nsIn K mainGlobals "all" = some none) (z_any : PySem.W.nsIn K mainGlobals "any" = some none) (z_list : PySem.W.nsIn K mainGlobals "list" = some none) (z_tuple : PySem.W.nsIn K mainGlobals "tuple" = some none) (z_str : PySem.W.nsIn K mainGlobals "str" = some none) (z_sorted : PySem.W.nsIn K mainGlobals "sorted" = some none) (z_zip : PySem.W.nsIn K mainGlobals "zip" = some none) (z_enumerate : PySem.W.nsIn K mainGlobals "enumerate" = some none) (z_bool : PySem.W.nsIn K mainGlobals "bool" = some none) (z_dict : PySem.W.nsIn K mainGlobals "dict" = some none) (v_SMALL : PySem.W.nsIn K mainGlobals "SMALL" = some (some (.str "abcdefghijklmnopqrstuvwxyz" t_SMALL))) (v_REST : PySem.W.nsIn K mainGlobals "REST" = some (some (.str "rest" t_REST))) (v_MOST_LETTERS : PySem.W.nsIn K mainGlobals "MOST_LETTERS" = some (some (.int 6 t_MOST_LETTERS))) :
    ∃ (fd : FuncData) (c P : Addr), PySem.W.tabIn K "law" = some (c, P) ∧ PySem.W.noTabs K = true ∧ (∀ (s : Shared) (v : Value), BindsTo s fd ⟨[v], []⟩ [("_law_script", v)]) ∧ ∀ base : Heap, K.In base → base.Ns mainGlobals mg → LamX.TabB base mg c P → FnOk l.prog w K mg base CX0 61 fa fd ["_law_script"] (spLaw K P) := by
  have e := hfa.symm.trans (PySem.W.mg_of X G a_law)
  cases e
  have T : Txt mg := ⟨PySem.W.mg_none_of X G z_len, PySem.W.mg_none_of X G z_int, PySem.W.mg_none_of X G z_range, PySem.W.mg_none_of X G z_isinstance, PySem.W.mg_none_of X G z_all, PySem.W.mg_none_of X G z_any, PySem.W.mg_none_of X G z_list, PySem.W.mg_none_of X G z_tuple, PySem.W.mg_none_of X G z_str, PySem.W.mg_none_of X G z_sorted, PySem.W.mg_none_of X G z_zip, PySem.W.mg_none_of X G z_enumerate, PySem.W.mg_none_of X G z_bool, PySem.W.mg_none_of X G z_dict, ⟨_, PySem.W.mg_of X G v_SMALL, _, rfl⟩, ⟨_, PySem.W.mg_of X G v_REST, _, rfl⟩, ⟨_, PySem.W.mg_of X G v_MOST_LETTERS, _, rfl⟩⟩
  have F_wall := fun_mk (st := s_wall) l_wall c_wall k_wall
  have m_wall := PySem.W.mg_of X G a_wall
  have b_wall := F_wall.binds (ps := ["k"]) fun _ _ _ _ _ _ us hl => match us, hl with | [_], _ => rfl
  have F_is_word := fun_mk (st := s_is_word) l_is_word c_is_word k_is_word
  have m_is_word := PySem.W.mg_of X G a_is_word
  have b_is_word := F_is_word.binds (ps := ["value", "most"]) fun _ _ _ _ _ _ us hl => match us, hl with | [_, _], _ => rfl
  have F_is_kind := fun_mk (st := s_is_kind) l_is_kind c_is_kind k_is_kind
  have m_is_kind := PySem.W.mg_of X G a_is_kind
  have b_is_kind := F_is_kind.binds (ps := ["value"]) fun _ _ _ _ _ _ us hl => match us, hl with | [_], _ => rfl
  have F_is_shape := fun_mk (st := s_is_shape) l_is_shape c_is_shape k_is_shape
  have m_is_shape := PySem.W.mg_of X G a_is_shape
  have b_is_shape := F_is_shape.binds (ps := ["value"]) fun _ _ _ _ _ _ us hl => match us, hl with | [_], _ => rfl
  have F_check_shapes := fun_mk (st := s_check_shapes) l_check_shapes c_check_shapes k_check_shapes
  have m_check_shapes := PySem.W.mg_of X G a_check_shapes
  have b_check_shapes := F_check_shapes.binds (ps := ["shapes"]) fun _ _ _ _ _ _ us hl => match us, hl with | [_], _ => rfl
  have F_stands := fun_mk (st := s_stands) l_stands c_stands k_stands
  have m_stands := PySem.W.mg_of X G a_stands
  have b_stands := F_stands.binds (ps := ["word", "one", "other"]) fun _ _ _ _ _ _ us hl => match us, hl with | [_, _, _], _ => rfl
  have F_holds := fun_mk (st := s_holds) l_holds c_holds k_holds
  have m_holds := PySem.W.mg_of X G a_holds
  have b_holds := F_holds.binds (ps := ["document", "shape"]) fun _ _ _ _ _ _ us hl => match us, hl with | [_, _], _ => rfl
  have F_holds_any := fun_mk (st := s_holds_any) l_holds_any c_holds_any k_holds_any
  have m_holds_any := PySem.W.mg_of X G a_holds_any
  have b_holds_any := F_holds_any.binds (ps := ["document", "shapes"]) fun _ _ _ _ _ _ us hl => match us, hl with | [_, _], _ => rfl
  have F_law_bag := fun_mk (st := s_law_bag) l_law_bag c_law_bag k_law_bag
  have m_law_bag := PySem.W.mg_of X G a_law_bag
  have b_law_bag := F_law_bag.binds (ps := ["_law_script"]) fun _ _ _ _ _ _ us hl => match us, hl with | [_], _ => rfl
  have F_law_take := fun_mk (st := s_law_take) l_law_take c_law_take k_law_take
  have m_law_take := PySem.W.mg_of X G a_law_take
  have b_law_take := F_law_take.binds (ps := ["_law_bag_z", "_law_many"]) fun _ _ _ _ _ _ us hl => match us, hl with | [_, _], _ => rfl
  have F_law_of := fun_mk (st := s_law_of) l_law_of c_law_of k_law_of
  have m_law_of := PySem.W.mg_of X G a_law_of
  have b_law_of := F_law_of.binds (ps := ["_law_bag_z", "_law_things"]) fun _ _ _ _ _ _ us hl => match us, hl with | [_, _], _ => rfl
  have F_law_words := fun_mk (st := s_law_words) l_law_words c_law_words k_law_words
  have m_law_words := PySem.W.mg_of X G a_law_words
  have b_law_words := F_law_words.binds (ps := ["_law_bag_z", "_law_many", "_law_most"]) fun _ _ _ _ _ _ us hl => match us, hl with | [_, _, _], _ => rfl
  have F_law_names := fun_mk (st := s_law_names) l_law_names c_law_names k_law_names
  have m_law_names := PySem.W.mg_of X G a_law_names
  have b_law_names := F_law_names.binds (ps := ["_law_bag_z"]) fun _ _ _ _ _ _ us hl => match us, hl with | [_], _ => rfl
  have F_law_sign_text := fun_mk (st := s_law_sign_text) l_law_sign_text c_law_sign_text k_law_sign_text
  have m_law_sign_text := PySem.W.mg_of X G a_law_sign_text
  have b_law_sign_text := F_law_sign_text.binds (ps := ["_law_bag_z", "_law_most"]) fun _ _ _ _ _ _ us hl => match us, hl with | [_, _], _ => rfl
  have F_law_nested := fun_mk (st := s_law_nested) l_law_nested c_law_nested k_law_nested
  have m_law_nested := PySem.W.mg_of X G a_law_nested
  have b_law_nested := F_law_nested.binds (ps := ["_law_state"]) fun _ _ _ _ _ _ us hl => match us, hl with | [_], _ => rfl
  have F_law_document := fun_mk (st := s_law_document) l_law_document c_law_document k_law_document
  have m_law_document := PySem.W.mg_of X G a_law_document
  have b_law_document := F_law_document.binds (ps := ["_law_bag_z", "_law_kinds", "_law_many"]) fun _ _ _ _ _ _ us hl => match us, hl with | [_, _, _], _ => rfl
  have F_law_flat := fun_mk (st := s_law_flat) l_law_flat c_law_flat k_law_flat
  have m_law_flat := PySem.W.mg_of X G a_law_flat
  have b_law_flat := F_law_flat.binds (ps := ["_law_document_z", "_law_state"]) fun _ _ _ _ _ _ us hl => match us, hl with | [_, _], _ => rfl
  have F_law_row := fun_mk (st := s_law_row) l_law_row c_law_row k_law_row
  have m_law_row := PySem.W.mg_of X G a_law_row
  have b_law_row := F_law_row.binds (ps := ["_law_document_z"]) fun _ _ _ _ _ _ us hl => match us, hl with | [_], _ => rfl
  have F_law_span := fun_mk (st := s_law_span) l_law_span c_law_span k_law_span
  have m_law_span := PySem.W.mg_of X G a_law_span
  have b_law_span := F_law_span.binds (ps := ["_law_marks", "_law_number"]) fun _ _ _ _ _ _ us hl => match us, hl with | [_, _], _ => rfl
  have F_law_above := fun_mk (st := s_law_above) l_law_above c_law_above k_law_above
  have m_law_above := PySem.W.mg_of X G a_law_above
  have b_law_above := F_law_above.binds (ps := ["_law_marks", "_law_one", "_law_other"]) fun _ _ _ _ _ _ us hl => match us, hl with | [_, _, _], _ => rfl
  have F_law_ahead := fun_mk (st := s_law_ahead) l_law_ahead c_law_ahead k_law_ahead
  have m_law_ahead := PySem.W.mg_of X G a_law_ahead
  have b_law_ahead := F_law_ahead.binds (ps := ["_law_marks", "_law_one", "_law_other"]) fun _ _ _ _ _ _ us hl => match us, hl with | [_, _, _], _ => rfl
  have F_law_field := fun_mk (st := s_law_field) l_law_field c_law_field k_law_field
  have m_law_field := PySem.W.mg_of X G a_law_field
  have b_law_field := F_law_field.binds (ps := ["_law_e"]) fun _ _ _ _ _ _ us hl => match us, hl with | [_], _ => rfl
  have F_law_why := fun_mk (st := s_law_why) l_law_why c_law_why k_law_why
  have m_law_why := PySem.W.mg_of X G a_law_why
  have b_law_why := F_law_why.binds (ps := ["_law_ask"]) fun _ _ _ _ _ _ us hl => match us, hl with | [_], _ => rfl
  have F_law_alike := fun_mk (st := s_law_alike) l_law_alike c_law_alike k_law_alike
  have m_law_alike := PySem.W.mg_of X G a_law_alike
  have b_law_alike := F_law_alike.binds (ps := ["_law_found", "_law_due"]) fun _ _ _ _ _ _ us hl => match us, hl with | [_, _], _ => rfl
  have F_law_shape := fun_mk (st := s_law_shape) l_law_shape c_law_shape k_law_shape
  have m_law_shape := PySem.W.mg_of X G a_law_shape
  have b_law_shape := F_law_shape.binds (ps := ["_law_bag_z", "_law_kinds"]) fun _ _ _ _ _ _ us hl => match us, hl with | [_, _], _ => rfl
  have F_law_holds := fun_mk (st := s_law_holds) l_law_holds c_law_holds k_law_holds
  have m_law_holds := PySem.W.mg_of X G a_law_holds
  have b_law_holds := F_law_holds.binds (ps := ["_law_document_z", "_law_shape_z"]) fun _ _ _ _ _ _ us hl => match us, hl with | [_, _], _ => rfl
  have F_law := fun_mk (st := s_law) l_law c_law k_law
  have m_law := PySem.W.mg_of X G a_law
  have b_law := F_law.binds (ps := ["_law_script"]) fun _ _ _ _ _ _ us hl => match us, hl with | [_], _ => rfl
  have cls_Row : Cls K C_Row := ⟨pg_Row, hd_Row, po_Row, sa_Row⟩
  have g_Row := PySem.W.mg_of X G aC_Row
  have cr_Row : ClX.CRead K C_Row (.type "type") := ⟨rd_Row, tg_Row⟩
  have F_Row_init := fun_mk (st := s_Row___init__) l_Row_init c_Row_init k_Row_init
  have b_Row_init := F_Row_init.binds (ps := ["self"]) fun _ _ _ _ _ _ us hl => match us, hl with | [_], _ => rfl
  have mk_Row_init : Mk K C_Row f_Row_init := ⟨mk_Row, at_Row_init, fi_Row_init, kc_Row⟩
  have F_Row_made_of := fun_mk (st := s_Row_made_of) l_Row_made_of c_Row_made_of k_Row_made_of
  have b_Row_made_of := F_Row_made_of.binds (ps := ["cls", "document"]) fun _ _ _ _ _ _ us hl => match us, hl with | [_, _], _ => rfl
  have cm_Row_made_of : ClX.CMet K C_Row (.type "type") "made_of" p_Row_made_of f_Row_made_of := ⟨at_Row_made_of, ⟨_, rc_Row_made_of⟩, fi_Row_made_of⟩
  have F_Row_added := fun_mk (st := s_Row_added) l_Row_added c_Row_added k_Row_added
  have b_Row_added := F_Row_added.binds (ps := ["self", "kind", "text", "origin"]) fun _ _ _ _ _ _ us hl => match us, hl with | [_, _, _, _], _ => rfl
  have me_Row_added : Meth K C_Row "added" f_Row_added := ⟨at_Row_added, fi_Row_added, k_Row_added⟩
  have F_Row_spans := fun_mk (st := s_Row_spans) l_Row_spans c_Row_spans k_Row_spans
  have b_Row_spans := F_Row_spans.binds (ps := ["self"]) fun _ _ _ _ _ _ us hl => match us, hl with | [_], _ => rfl
  have me_Row_spans : Meth K C_Row "spans" f_Row_spans := ⟨at_Row_spans, fi_Row_spans, k_Row_spans⟩
  have F_Row_rub := fun_mk (st := s_Row_rub) l_Row_rub c_Row_rub k_Row_rub
  have b_Row_rub := F_Row_rub.binds (ps := ["self", "numbers"]) fun _ _ _ _ _ _ us hl => match us, hl with | [_, _], _ => rfl
  have me_Row_rub : Meth K C_Row "rub" f_Row_rub := ⟨at_Row_rub, fi_Row_rub, k_Row_rub⟩
  have F_Row_part := fun_mk (st := s_Row_part) l_Row_part c_Row_part k_Row_part
  have b_Row_part := F_Row_part.binds (ps := ["self", "number"]) fun _ _ _ _ _ _ us hl => match us, hl with | [_, _], _ => rfl
  have me_Row_part : Meth K C_Row "part" f_Row_part := ⟨at_Row_part, fi_Row_part, k_Row_part⟩
  have F_Row_cut := fun_mk (st := s_Row_cut) l_Row_cut c_Row_cut k_Row_cut
  have b_Row_cut := F_Row_cut.binds (ps := ["self", "number"]) fun _ _ _ _ _ _ us hl => match us, hl with | [_, _], _ => rfl
  have me_Row_cut : Meth K C_Row "cut" f_Row_cut := ⟨at_Row_cut, fi_Row_cut, k_Row_cut⟩
  have F_Row_place := fun_mk (st := s_Row_place) l_Row_place c_Row_place k_Row_place
  have b_Row_place := F_Row_place.binds (ps := ["self", "word", "number"]) fun _ _ _ _ _ _ us hl => match us, hl with | [_, _, _], _ => rfl
  have me_Row_place : Meth K C_Row "place" f_Row_place := ⟨at_Row_place, fi_Row_place, k_Row_place⟩
  have F_Row_put_in := fun_mk (st := s_Row_put_in) l_Row_put_in c_Row_put_in k_Row_put_in
  have b_Row_put_in := F_Row_put_in.binds (ps := ["self", "at", "part"]) fun _ _ _ _ _ _ us hl => match us, hl with | [_, _, _], _ => rfl
  have me_Row_put_in : Meth K C_Row "put_in" f_Row_put_in := ⟨at_Row_put_in, fi_Row_put_in, k_Row_put_in⟩
  have F_Row_doubled := fun_mk (st := s_Row_doubled) l_Row_doubled c_Row_doubled k_Row_doubled
  have b_Row_doubled := F_Row_doubled.binds (ps := ["self", "part"]) fun _ _ _ _ _ _ us hl => match us, hl with | [_, _], _ => rfl
  have me_Row_doubled : Meth K C_Row "doubled" f_Row_doubled := ⟨at_Row_doubled, fi_Row_doubled, k_Row_doubled⟩
  have oex_BadShape : OexC K C_BadShape := ⟨⟨nm_BadShape, q_BadShape, N_BadShape, bs_BadShape, bm_BadShape, sn_BadShape, sub_BadShape, ab_BadShape, col_BadShape, dd_BadShape, k0_BadShape, k1_BadShape, k2_BadShape, k3_BadShape, k5_BadShape, xL_BadShape, hb_BadShape⟩, sa_BadShape, eC_BadShape, tC_BadShape, kC_BadShape⟩
  have xfc_BadShape : XfC K C_BadShape := ⟨ga_BadShape, gg_BadShape, eC_BadShape, hd_BadShape⟩
  have FI_BadShape := fun_mk (st := s_BadShape_init) li_BadShape ci_BadShape ki_BadShape
  have bi_BadShape := FI_BadShape.binds (ps := ["self", "at"]) fun _ _ _ _ _ _ us hl => match us, hl with | [_, _], _ => rfl
  have err_BadShape : ∀ base, ErrC l.prog w K mg base "BadShape" C_BadShape 2 (spIni K "BadShape" "at") := fun base => ⟨oex_BadShape, PySem.W.mg_of X G aC_BadShape, _, _, _, ai_BadShape, ti_BadShape, ok_ini FI_BadShape sc_BadShape_init (fun cdv A outer s H E => pss_cons (ps_ost (pv 0) pe_str) (pss_one (ps_ost (pv 0) (pv 1)))), bi_BadShape⟩
  have exm_BadShape : PySem.W.exmAny K (.ref C_BadShape) [.ref w_GroveError, .ref w_Missing, .ref w_NothingLeft] = some true := exm3 (exm1 ew_GroveError iw_GroveError tw_GroveError sw_BadShape_GroveError) (exm1 ew_Missing iw_Missing tw_Missing sw_BadShape_Missing) (exm1 ew_NothingLeft iw_NothingLeft tw_NothingLeft sw_BadShape_NothingLeft)
  have gw_GroveError := PySem.W.mg_of X G aw_GroveError
  have gw_Missing := PySem.W.mg_of X G aw_Missing
  have gw_NothingLeft := PySem.W.mg_of X G aw_NothingLeft
  refine ⟨PySem.W.fnOf "law" "law" (defArgs s_law) (defBody s_law) (defScope s_law) .none kV_law dc_law pm_law an_law (.ref cA) ct_law, cA, PA, tabIn_mk (o3 := none) a_law l_law rfl lc_law eP_law, nt_law, fun s v => .of_eq rfl, fun base _ _ TB => ?_⟩
  have rw_Row : RowC K mg C_Row := ⟨cls_Row, na_Row_marks, na_Row_kind_row, na_Row_text_row, na_Row_origin_row⟩
  have v_Row : Ob.MakV l.prog w K mg base 1 C_Row (spRowI C_Row) := ⟨_, _, _, mk_Row_init, ok_Row_init F_Row_init rw_Row, b_Row_init⟩
  have c_added : C8.Met l.prog w K mg base 1 C_Row "added" (spAdded C_Row) [] := ⟨_, _, _, [], cls_Row, me_Row_added, ok_Row_added F_Row_added T rw_Row, b_Row_added, .nil⟩
  have c_spans : C8.Met l.prog w K mg base 1 C_Row "spans" (spSpans C_Row) [] := ⟨_, _, _, [], cls_Row, me_Row_spans, ok_Row_spans F_Row_spans T rw_Row, b_Row_spans, .nil⟩
  have c_made : Ob.CalM l.prog w K mg base 3 C_Row "made_of" (spMade C_Row) := ⟨_, _, _, _, cr_Row, cm_Row_made_of, ok_Row_made_of F_Row_made_of T rw_Row v_Row c_added, b_Row_made_of⟩
  have c_bag : Cal l.prog w K mg base 1 "_law_bag" (spBag K) := ⟨_, _, _, ok_law_bag F_law_bag T, m_law_bag, k_law_bag, b_law_bag⟩
  have c_take : Cal l.prog w K mg base 1 "_law_take" spTake := ⟨_, _, _, ok_law_take F_law_take T, m_law_take, k_law_take, b_law_take⟩
  have c_of : Cal l.prog w K mg base 2 "_law_of" (spOf K) := ⟨_, _, _, ok_law_of F_law_of T c_take, m_law_of, k_law_of, b_law_of⟩
  have c_words : Cal l.prog w K mg base 3 "_law_words" spWords := ⟨_, _, _, ok_law_words F_law_words T c_take c_of, m_law_words, k_law_words, b_law_words⟩
  have c_names : Cal l.prog w K mg base 4 "_law_names" spNames := ⟨_, _, _, ok_law_names F_law_names T c_take c_words, m_law_names, k_law_names, b_law_names⟩
  have c_sign_text : Cal l.prog w K mg base 2 "_law_sign_text" spSign := ⟨_, _, _, ok_law_sign_text F_law_sign_text T c_take, m_law_sign_text, k_law_sign_text, b_law_sign_text⟩
  have c_nested : Cal l.prog w K mg base 1 "_law_nested" spNested := ⟨_, _, _, ok_law_nested F_law_nested T, m_law_nested, k_law_nested, b_law_nested⟩
  have c_document : Cal l.prog w K mg base 3 "_law_document" spDocument := ⟨_, _, _, ok_law_document F_law_document T c_take c_of c_sign_text c_nested, m_law_document, k_law_document, b_law_document⟩
  have c_shape : Cal l.prog w K mg base 3 "_law_shape" (spShape K) := ⟨_, _, _, ok_law_shape F_law_shape T c_of, m_law_shape, k_law_shape, b_law_shape⟩
  have c_isw : Cal l.prog w K mg base 1 "is_word" (spWord K) := ⟨_, _, _, ok_is_word F_is_word T, m_is_word, k_is_word, b_is_word⟩
  have c_isk : Cal l.prog w K mg base 2 "is_kind" (spKind K) := ⟨_, _, _, ok_is_kind F_is_kind T c_isw, m_is_kind, k_is_kind, b_is_kind⟩
  have tS : KTab K w aS_SIZES sizesT := tab_sizes lD_SIZES sD_SIZES
  have gS : ∃ u, mg "SIZES" = some u ∧ RelV (.ref aS_SIZES) u := ⟨_, PySem.W.mg_of X G aD_SIZES, rfl⟩
  have c_iss : Cal l.prog w K mg base 3 "is_shape" spIsShape := ⟨_, _, _, ok_is_shape F_is_shape T gS tS c_isk, m_is_shape, k_is_shape, b_is_shape⟩
  have g_chk := ok_check_shapes (base := base) F_check_shapes T c_iss (err_BadShape base) nc_BadShape nf_BadShape
  have c_chk : CalR l.prog w K mg base 4 "check_shapes" (spChkS C_BadShape) := ⟨_, _, _, g_chk, m_check_shapes, k_check_shapes, b_check_shapes⟩
  have q_chk : CalRK l.prog w K mg base 4 "check_shapes" ["shapes"] (fun us ws => us ++ ws) (spChkS C_BadShape) := ⟨_, _, _, _, g_chk, m_check_shapes, k_check_shapes, kb1 F_check_shapes (fun _ _ _ _ _ _ _ => rfl) (fun _ _ _ _ _ _ _ => rfl)⟩
  have c_stands : Cal l.prog w K mg base 1 "stands" spStands := ⟨_, _, _, ok_stands F_stands T, m_stands, k_stands, b_stands⟩
  have g_holds := ok_holds (P := l.prog) (w := w) (base := base) F_holds T rw_Row g_Row c_made c_spans c_stands
  have c_holds : Cal l.prog w K mg base 4 "holds" (spHolds K) := ⟨_, _, _, g_holds, m_holds, k_holds, b_holds⟩
  have q_holds : CalK l.prog w K mg base 4 "holds" ["document", "shape"] kwO (spHolds K) := ⟨_, _, _, _, g_holds, m_holds, k_holds, kb2 F_holds (fun _ _ _ _ _ _ _ _ => rfl)⟩
  have g_any := ok_holds_any (P := l.prog) (w := w) (base := base) F_holds_any T c_holds
  have c_any : Cal l.prog w K mg base 5 "holds_any" (spHoldsAny K) := ⟨_, _, _, g_any, m_holds_any, k_holds_any, b_holds_any⟩
  have q_any : CalK l.prog w K mg base 5 "holds_any" ["document", "shapes"] kwO (spHoldsAny K) := ⟨_, _, _, _, g_any, m_holds_any, k_holds_any, kb2 F_holds_any (fun _ _ _ _ _ _ _ _ => rfl)⟩
  have c_span : Cal l.prog w K mg base 1 "_law_span" spLSpan := ⟨_, _, _, ok_law_span F_law_span T, m_law_span, k_law_span, b_law_span⟩
  have c_above : Cal l.prog w K mg base 2 "_law_above" spLAbove := ⟨_, _, _, ok_law_above F_law_above T c_span, m_law_above, k_law_above, b_law_above⟩
  have c_ahead : Cal l.prog w K mg base 2 "_law_ahead" spLAhead := ⟨_, _, _, ok_law_ahead F_law_ahead T c_span, m_law_ahead, k_law_ahead, b_law_ahead⟩
  have c_row : Cal l.prog w K mg base 34 "_law_row" (spLRow K 31) := ⟨_, _, _, ok_law_row F_law_row T (cal_flat F_law_flat T m_law_flat k_law_flat b_law_flat 31), m_law_row, k_law_row, b_law_row⟩
  have c_lholds : Cal l.prog w K mg base 35 "_law_holds" (spLHolds K) := ⟨_, _, _, ok_law_holds F_law_holds T c_row c_above c_ahead, m_law_holds, k_law_holds, b_law_holds⟩
  have hW : WhyC l.prog w K mg base (.ref w_GroveError) (.ref w_Missing) (.ref w_NothingLeft) := ⟨⟨_, _, F_law_why, m_law_why, k_law_why, b_law_why⟩, gw_GroveError, gw_Missing, gw_NothingLeft, ⟨_, _, ok_law_field F_law_field, m_law_field, k_law_field, b_law_field⟩⟩
  exact ok_law l_law c_law T TB hW exm_BadShape xfc_BadShape nc_BadShape nf_BadShape c_bag c_names c_take c_of c_document c_shape c_lholds (cal_alike F_law_alike T m_law_alike k_law_alike b_law_alike 10) c_holds c_any q_any q_holds c_chk q_chk
theorem walkT {l : PySem.W.OpenLaw} {q : Program} {loose : List Str} {XP : (Str → Option Value) → Heap → Prop} {YP : World → Heap → Prop} {d : DefRec} {K : Params → PySem.W.Frag} (hn : l.most = some 63) (hdf : d.params.defaults = [])
    (hY : ∀ (w : World) (h : Heap), YP w h → (K w.params).In h) (law : d.name = "law") (found : (PyProof.Rows.recsOf q).find? (fun e => e.name == ("law" : Str)) = some d)
    (F : ∀ (w : World) (mg : Str → Option Value) (fa : Addr) (h : Heap), (K w.params).In h → h.Ns mainGlobals mg → mg "law" = some (.ref fa) →
      ∃ (fd : FuncData) (c P : Addr), PySem.W.tabIn (K w.params) "law" = some (c, P) ∧ PySem.W.noTabs (K w.params) = true ∧ (∀ (s : Shared) (u : Value), BindsTo s fd ⟨[u], []⟩ [("_law_script", u)]) ∧
        ∀ base : Heap, (K w.params).In base → base.Ns mainGlobals mg → LamX.TabB base mg c P → FnOk l.prog w (K w.params) mg base CX0 61 fa fd ["_law_script"] (spLaw (K w.params) P)) :
    PySem.W.WalkO q loose XP YP l.row.toRowW d [] (fun f vs => PySem.call f vs) :=
  Rg.walk_tab (n := 63) (k := 61) (x := "_law_script") (sp := fun w => spLaw (K w.params)) hn (by decide) hdf ⟨rfl, by decide, by decide⟩ hY law found F fun w H P a ns hl hP hS => ⟨a, ns, rfl, hS, hl, hP, fun _ => rfl⟩
end Pf
open PySem PySem.W PyProof.Rows
set_option maxRecDepth 100000 in
set_option maxHeartbeats 0 in
theorem PySem.Challenge.cw_rubgrove_k09_shapes_held_holds : PySem.Challenge.rw_rubgrove_k09_shapes_held.Holds := by
  w_on; o_law; k_head; (case hw => w_witness2)
  k_fill
  refine Pf.walkT (l := PySem.Challenge.rw_rubgrove_k09_shapes_held) rfl rfl (fun w h Y => PySem.W.km_in_of Y) rfl rfl ?F
  case F =>
    intro w mg fa h KX G hmg
    refine' Pf.all_mk KX G hmg ?a_wall ?l_wall ?c_wall ?k_wall ?a_is_word ?l_is_word ?c_is_word ?k_is_word ?a_is_kind ?l_is_kind ?c_is_kind ?k_is_kind ?a_is_shape ?l_is_shape ?c_is_shape ?k_is_shape ?a_check_shapes ?l_check_shapes ?c_check_shapes ?k_check_shapes ?a_stands ?l_stands ?c_stands ?k_stands ?a_holds ?l_holds ?c_holds ?k_holds ?a_holds_any ?l_holds_any ?c_holds_any ?k_holds_any ?a_law_bag ?l_law_bag ?c_law_bag ?k_law_bag ?a_law_take ?l_law_take ?c_law_take ?k_law_take ?a_law_of ?l_law_of ?c_law_of ?k_law_of ?a_law_words ?l_law_words ?c_law_words ?k_law_words ?a_law_names ?l_law_names ?c_law_names ?k_law_names ?a_law_sign_text ?l_law_sign_text ?c_law_sign_text ?k_law_sign_text ?a_law_nested ?l_law_nested ?c_law_nested ?k_law_nested ?a_law_document ?l_law_document ?c_law_document ?k_law_document ?a_law_flat ?l_law_flat ?c_law_flat ?k_law_flat ?a_law_row ?l_law_row ?c_law_row ?k_law_row ?a_law_span ?l_law_span ?c_law_span ?k_law_span ?a_law_above ?l_law_above ?c_law_above ?k_law_above ?a_law_ahead ?l_law_ahead ?c_law_ahead ?k_law_ahead ?a_law_field ?l_law_field ?c_law_field ?k_law_field ?a_law_why ?l_law_why ?c_law_why ?k_law_why ?a_law_alike ?l_law_alike ?c_law_alike ?k_law_alike ?a_law_shape ?l_law_shape ?c_law_shape ?k_law_shape ?a_law_holds ?l_law_holds ?c_law_holds ?k_law_holds ?a_law ?l_law ?c_law ?k_law ?lc_law ?eP_law ?nt_law ?aw_GroveError ?ew_GroveError ?iw_GroveError ?tw_GroveError ?aw_Missing ?ew_Missing ?iw_Missing ?tw_Missing ?aw_NothingLeft ?ew_NothingLeft ?iw_NothingLeft ?tw_NothingLeft ?aC_BadShape ?xL_BadShape ?hb_BadShape ?sa_BadShape ?ga_BadShape ?gg_BadShape ?hd_BadShape ?kC_BadShape ?eC_BadShape ?tC_BadShape ?nc_BadShape ?nf_BadShape ?ai_BadShape ?ti_BadShape ?li_BadShape ?ci_BadShape ?ki_BadShape ?sw_BadShape_GroveError ?sw_BadShape_Missing ?sw_BadShape_NothingLeft ?aC_Row ?pg_Row ?hd_Row ?po_Row ?sa_Row ?mk_Row ?kc_Row ?na_Row_marks ?na_Row_kind_row ?na_Row_text_row ?na_Row_origin_row ?rd_Row ?tg_Row ?at_Row_init ?fi_Row_init ?l_Row_init ?c_Row_init ?k_Row_init ?at_Row_made_of ?rc_Row_made_of ?fi_Row_made_of ?l_Row_made_of ?c_Row_made_of ?k_Row_made_of ?at_Row_added ?fi_Row_added ?l_Row_added ?c_Row_added ?k_Row_added ?at_Row_spans ?fi_Row_spans ?l_Row_spans ?c_Row_spans ?k_Row_spans ?at_Row_rub ?fi_Row_rub ?l_Row_rub ?c_Row_rub ?k_Row_rub ?at_Row_part ?fi_Row_part ?l_Row_part ?c_Row_part ?k_Row_part ?at_Row_cut ?fi_Row_cut ?l_Row_cut ?c_Row_cut ?k_Row_cut ?at_Row_place ?fi_Row_place ?l_Row_place ?c_Row_place ?k_Row_place ?at_Row_put_in ?fi_Row_put_in ?l_Row_put_in ?c_Row_put_in ?k_Row_put_in ?at_Row_doubled ?fi_Row_doubled ?l_Row_doubled ?c_Row_doubled ?k_Row_doubled ?aD_SIZES ?lD_SIZES ?sD_SIZES ?z_len ?z_int ?z_range ?z_isinstance ?z_all ?z_any ?z_list ?z_tuple ?z_str ?z_sorted ?z_zip ?z_enumerate ?z_bool ?z_dict ?v_SMALL ?v_REST ?v_MOST_LETTERS
    (case a_wall => k_is)
    (case l_wall => k_is)
    (case c_wall => k_is)
    (case k_wall => k_is)
    (case a_is_word => k_is)
    (case l_is_word => k_is)
    (case c_is_word => k_is)
    (case k_is_word => k_is)
    (case a_is_kind => k_is)
    (case l_is_kind => k_is)
    (case c_is_kind => k_is)
    (case k_is_kind => k_is)
    (case a_is_shape => k_is)
    (case l_is_shape => k_is)
    (case c_is_shape => k_is)
    (case k_is_shape => k_is)
    (case a_check_shapes => k_is)
    (case l_check_shapes => k_is)
    (case c_check_shapes => k_is)
    (case k_check_shapes => k_is)
    (case a_stands => k_is)
    (case l_stands => k_is)
    (case c_stands => k_is)
    (case k_stands => k_is)
    (case a_holds => k_is)
    (case l_holds => k_is)
    (case c_holds => k_is)
    (case k_holds => k_is)
    (case a_holds_any => k_is)
    (case l_holds_any => k_is)
    (case c_holds_any => k_is)
    (case k_holds_any => k_is)
    (case a_law_bag => k_is)
    (case l_law_bag => k_is)
    (case c_law_bag => k_is)
    (case k_law_bag => k_is)
    (case a_law_take => k_is)
    (case l_law_take => k_is)
    (case c_law_take => k_is)
    (case k_law_take => k_is)
    (case a_law_of => k_is)
    (case l_law_of => k_is)
    (case c_law_of => k_is)
    (case k_law_of => k_is)
    (case a_law_words => k_is)
    (case l_law_words => k_is)
    (case c_law_words => k_is)
    (case k_law_words => k_is)
    (case a_law_names => k_is)
    (case l_law_names => k_is)
    (case c_law_names => k_is)
    (case k_law_names => k_is)
    (case a_law_sign_text => k_is)
    (case l_law_sign_text => k_is)
    (case c_law_sign_text => k_is)
    (case k_law_sign_text => k_is)
    (case a_law_nested => k_is)
    (case l_law_nested => k_is)
    (case c_law_nested => k_is)
    (case k_law_nested => k_is)
    (case a_law_document => k_is)
    (case l_law_document => k_is)
    (case c_law_document => k_is)
    (case k_law_document => k_is)
    (case a_law_flat => k_is)
    (case l_law_flat => k_is)
    (case c_law_flat => k_is)
    (case k_law_flat => k_is)
    (case a_law_row => k_is)
    (case l_law_row => k_is)
    (case c_law_row => k_is)
    (case k_law_row => k_is)
    (case a_law_span => k_is)
    (case l_law_span => k_is)
    (case c_law_span => k_is)
    (case k_law_span => k_is)
    (case a_law_above => k_is)
    (case l_law_above => k_is)
    (case c_law_above => k_is)
    (case k_law_above => k_is)
    (case a_law_ahead => k_is)
    (case l_law_ahead => k_is)
    (case c_law_ahead => k_is)
    (case k_law_ahead => k_is)
    (case a_law_field => k_is)
    (case l_law_field => k_is)
    (case c_law_field => k_is)
    (case k_law_field => k_is)
    (case a_law_why => k_is)
    (case l_law_why => k_is)
    (case c_law_why => k_is)
    (case k_law_why => k_is)
    (case a_law_alike => k_is)
    (case l_law_alike => k_is)
    (case c_law_alike => k_is)
    (case k_law_alike => k_is)
    (case a_law_shape => k_is)
    (case l_law_shape => k_is)
    (case c_law_shape => k_is)
    (case k_law_shape => k_is)
    (case a_law_holds => k_is)
    (case l_law_holds => k_is)
    (case c_law_holds => k_is)
    (case k_law_holds => k_is)
    (case a_law => k_is)
    (case l_law => k_is)
    (case c_law => k_is)
    (case k_law => k_is)
    (case lc_law => k_is)
    (case eP_law => exact rfl)
    (case nt_law => exact rfl)
    (case aw_GroveError => k_is)
    (case ew_GroveError => k_is)
    (case iw_GroveError => k_is)
    (case tw_GroveError => k_is)
    (case aw_Missing => k_is)
    (case ew_Missing => k_is)
    (case iw_Missing => k_is)
    (case tw_Missing => k_is)
    (case aw_NothingLeft => k_is)
    (case ew_NothingLeft => k_is)
    (case iw_NothingLeft => k_is)
    (case tw_NothingLeft => k_is)
    (case aC_BadShape => k_is)
    (case xL_BadShape => k_is)
    (case hb_BadShape => decide +kernel)
    (case sa_BadShape => k_is)
    (case ga_BadShape => k_is)
    (case gg_BadShape => k_is)
    (case hd_BadShape => k_is)
    (case kC_BadShape => k_is)
    (case eC_BadShape => k_is)
    (case tC_BadShape => k_is)
    (case nc_BadShape => k_is)
    (case nf_BadShape => k_is)
    (case ai_BadShape => k_is)
    (case ti_BadShape => k_is)
    (case li_BadShape => k_is)
    (case ci_BadShape => k_is)
    (case ki_BadShape => k_is)
    (case sw_BadShape_GroveError => k_is)
    (case sw_BadShape_Missing => k_is)
    (case sw_BadShape_NothingLeft => k_is)
    (case aC_Row => k_is)
    (case pg_Row => k_is)
    (case hd_Row => k_is)
    (case po_Row => k_is)
    (case sa_Row => k_is)
    (case mk_Row => first | k_is | exact rfl | decide +kernel)
    (case kc_Row => k_is)
    (case na_Row_marks => k_is)
    (case na_Row_kind_row => k_is)
    (case na_Row_text_row => k_is)
    (case na_Row_origin_row => k_is)
    (case rd_Row => first | k_is | exact rfl | decide +kernel)
    (case tg_Row => first | k_is | exact rfl | decide +kernel)
    (case at_Row_init => first | k_is | exact rfl | decide +kernel)
    (case fi_Row_init => first | k_is | exact rfl | decide +kernel)
    (case l_Row_init => k_is)
    (case c_Row_init => k_is)
    (case k_Row_init => k_is)
    (case at_Row_made_of => first | k_is | exact rfl | decide +kernel)
    (case rc_Row_made_of => first | k_is | exact rfl | decide +kernel)
    (case fi_Row_made_of => first | k_is | exact rfl | decide +kernel)
    (case l_Row_made_of => k_is)
    (case c_Row_made_of => k_is)
    (case k_Row_made_of => k_is)
    (case at_Row_added => first | k_is | exact rfl | decide +kernel)
    (case fi_Row_added => first | k_is | exact rfl | decide +kernel)
    (case l_Row_added => k_is)
    (case c_Row_added => k_is)
    (case k_Row_added => k_is)
    (case at_Row_spans => first | k_is | exact rfl | decide +kernel)
    (case fi_Row_spans => first | k_is | exact rfl | decide +kernel)
    (case l_Row_spans => k_is)
    (case c_Row_spans => k_is)
    (case k_Row_spans => k_is)
    (case at_Row_rub => first | k_is | exact rfl | decide +kernel)
    (case fi_Row_rub => first | k_is | exact rfl | decide +kernel)
    (case l_Row_rub => k_is)
    (case c_Row_rub => k_is)
    (case k_Row_rub => k_is)
    (case at_Row_part => first | k_is | exact rfl | decide +kernel)
    (case fi_Row_part => first | k_is | exact rfl | decide +kernel)
    (case l_Row_part => k_is)
    (case c_Row_part => k_is)
    (case k_Row_part => k_is)
    (case at_Row_cut => first | k_is | exact rfl | decide +kernel)
    (case fi_Row_cut => first | k_is | exact rfl | decide +kernel)
    (case l_Row_cut => k_is)
    (case c_Row_cut => k_is)
    (case k_Row_cut => k_is)
    (case at_Row_place => first | k_is | exact rfl | decide +kernel)
    (case fi_Row_place => first | k_is | exact rfl | decide +kernel)
    (case l_Row_place => k_is)
    (case c_Row_place => k_is)
    (case k_Row_place => k_is)
    (case at_Row_put_in => first | k_is | exact rfl | decide +kernel)
    (case fi_Row_put_in => first | k_is | exact rfl | decide +kernel)
    (case l_Row_put_in => k_is)
    (case c_Row_put_in => k_is)
    (case k_Row_put_in => k_is)
    (case at_Row_doubled => first | k_is | exact rfl | decide +kernel)
    (case fi_Row_doubled => first | k_is | exact rfl | decide +kernel)
    (case l_Row_doubled => k_is)
    (case c_Row_doubled => k_is)
    (case k_Row_doubled => k_is)
    (case aD_SIZES => k_is)
    (case lD_SIZES => k_is)
    (case sD_SIZES => exact rfl)
    (case z_len => k_is)
    (case z_int => k_is)
    (case z_range => k_is)
    (case z_isinstance => k_is)
    (case z_all => k_is)
    (case z_any => k_is)
    (case z_list => k_is)
    (case z_tuple => k_is)
    (case z_str => k_is)
    (case z_sorted => k_is)
    (case z_zip => k_is)
    (case z_enumerate => k_is)
    (case z_bool => k_is)
    (case z_dict => k_is)
    (case v_SMALL => k_is)
    (case v_REST => k_is)
    (case v_MOST_LETTERS => k_is)


