import PyProof.Rows.All
import Wide.All
import OpenK.AllK
import Wide.FinOn
import HandS.ForMost
import HandS.IsInst
import HandS.Zip
import HandS.TupAny
import HandS.Flow
import HandS.Style
import HandS.Codes
import HandS.Steps
import HandS.Wide
import HandS.Walk
import HandS.Star
import HandS.FStr
import HandS.ExcCtx
import HandS.ExcField
import HandS.HotCalls
import HandS.ExcInit
import HandS.Lambda
import HandS.EndTab
import HandS.WordsExc
import KE.GoesMore
import KE.KDflt
import KE.KUnpackStar
import HandS.ClsMeth
import HandS.GenList
import KE.KNestM
import PyProof.ReprRoads
import PyProof.StrLawsRepr
import PySem.Challenge.RW_rubgrove_k05_documents_marked_and_number
set_option Elab.async false
set_option linter.all false
set_option maxRecDepth 100000
set_option maxHeartbeats 4000000
namespace Rg
open PySem L2

/-! ### calls of own defs -/
structure Cal (P : Program) (w : World) (K : PySem.W.Frag) (mg : Str → Option Value) (base : Heap) (k : Nat) (x : Str) (sp : Sp) : Prop where
  ex : ∃ (f : Addr) (fd : FuncData) (ps : List Str), FnOk P w K mg base CX0 k f fd ps sp ∧ mg x = some (.ref f) ∧ PySem.W.keepIn K (.ref f) = true ∧ Binds K fd ps []
structure CalK (P : Program) (w : World) (K : PySem.W.Frag) (mg : Str → Option Value) (base : Heap) (k : Nat) (x : Str) (ks : List Str) (gV : List V → List V → List V) (sp : Sp) : Prop where
  ex : ∃ (f : Addr) (fd : FuncData) (ps : List Str) (g : List Value → List Value → List Value), FnOk P w K mg base CX0 k f fd ps sp ∧ mg x = some (.ref f) ∧ PySem.W.keepIn K (.ref f) = true ∧ KBinds K fd ps ks g gV
def tCC (sp : Sp) (t : TA) : TE := fun σ H Q => t σ H fun vs H1 => sp vs H1 Q E0
def tCK (sp : Sp) (gV : List V → List V → List V) (t tk : TA) : TE := fun σ H Q => t σ H fun vs H1 => tk σ H1 fun zs H2 => sp (gV vs zs) H2 Q E0
section
variable {X : Cx} {k j : Nat} {x : Str} {sp : Sp} {p pos : Pos} {e : Expr} {es : List Expr} {t tk : TA} {ks : List Str} {gV : List V → List V → List V} {kws : List Keyword}
theorem pe_c (c : Cal X.prog X.w X.K X.mg X.base k x sp) (hr : Room j X.A) (hk : k ≤ j) (hg : Gl X x) (ha : PA X (e :: es) t) (hdb : (x == ("__debug__" : Str)) = false := by decide)
    (he : starEach (e :: es) X.env = (false, eval e X.env) :: starEach es X.env := by rfl) (hpl : (backTo pos (starEach es X.env)).any (·.1) = false := by rfl) : PE X (.Call (.Name x p) (e :: es) [] pos) (tCC sp t) := by
  obtain ⟨f, fd, ps, F, hm, hkp, hb⟩ := c.ex
  refine ⟨fun pins s σ H Q I h => ?_⟩
  refine (pe_call (dvs := []) (ds := []) F (hr.mono hk) hg hm hkp hb .nil pass0 ha hdb he hpl).run pins s σ H Q I ?_
  have e0 : (fun (vs : List V) (H1 : Hp) => sp (vs ++ []) H1 Q E0) = fun vs H1 => sp vs H1 Q E0 := by
    funext vs H1
    rw [List.append_nil]
  show t σ H (fun vs H1 => sp (vs ++ []) H1 Q E0)
  rw [e0]
  exact h
theorem pe_c0 (c : Cal X.prog X.w X.K X.mg X.base k x sp) (hr : Room j X.A) (hk : k ≤ j) (hg : Gl X x) (hdb : (x == ("__debug__" : Str)) = false := by decide) : PE X (.Call (.Name x p) [] [] pos) (tCC sp tNil) := by
  obtain ⟨f, fd, ps, F, hm, hkp, hb⟩ := c.ex
  refine ⟨fun pins s σ H Q I h => ?_⟩
  exact (pe_call0 (dvs := []) (ds := []) F (hr.mono hk) hg hm hkp hb .nil pass0 hdb).run pins s σ H Q I h
theorem pe_cK (c : CalK X.prog X.w X.K X.mg X.base k x ks gV sp) (hr : Room j X.A) (hk : k ≤ j) (hg : Gl X x) (ha : PA X (e :: es) t) (hkw : PK X kws tk) (hall : (backToKw pos (keywordEach kws X.env)).all (·.1.isSome) = true := by rfl) (hks : (backToKw pos (keywordEach kws X.env)).filterMap (·.1) = ks := by rfl)
    (hdb : (x == ("__debug__" : Str)) = false := by decide) (he : starEach (e :: es) X.env = (false, eval e X.env) :: starEach es X.env := by rfl)
    (hpl : ((backTo pos (starEach (e :: es) X.env)).any (·.1) || (backToKw pos (keywordEach kws X.env)).any (·.1.isNone)) = false := by rfl) : PE X (.Call (.Name x p) (e :: es) kws pos) (tCK sp gV t tk) := by
  obtain ⟨f, fd, ps, g, F, hm, hkp, hb⟩ := c.ex
  refine ⟨fun pins s σ H Q I h => ?_⟩
  exact (pe_callK F (hr.mono hk) hg hm hkp hb pass0 ha hkw hall hks hdb he hpl).run pins s σ H Q I h
theorem pe_cK0 (c : CalK X.prog X.w X.K X.mg X.base k x ks gV sp) (hr : Room j X.A) (hk : k ≤ j) (hg : Gl X x) (hkw : PK X kws tk) (hall : (backToKw pos (keywordEach kws X.env)).all (·.1.isSome) = true := by rfl) (hks : (backToKw pos (keywordEach kws X.env)).filterMap (·.1) = ks := by rfl)
    (hdb : (x == ("__debug__" : Str)) = false := by decide)
    (hpl : ((backTo pos (starEach [] X.env)).any (·.1) || (backToKw pos (keywordEach kws X.env)).any (·.1.isNone)) = false := by rfl) : PE X (.Call (.Name x p) [] kws pos) (tCK sp gV tNil tk) := by
  obtain ⟨f, fd, ps, g, F, hm, hkp, hb⟩ := c.ex
  refine ⟨fun pins s σ H Q I h => ?_⟩
  refine wpAny_Call_Name_kw (ld_glob I hg hm ?_ hdb)
  refine PySem.W.callWith_KW0 (h₀ := X.base) I.ok.mod.kin hkp hall ?_ hpl
  refine thn (hkw.run pos pins s σ H _ I h) fun ws s2 ⟨zs, H2, I2, rz, q2⟩ => ⟨I2.kIn, ?_⟩
  rw [hks]
  exact run_fnk (us := []) (vs := []) F (hr.mono hk) hb pass0 I2 .nil rz q2
theorem pe_gc {v : V} (hg : Gl X x) (h : ∃ u, X.mg x = some u ∧ RelV v u) (hd : (x == ("__debug__" : Str)) = false := by decide) : PE X (.Name x pos) (tC v) := by
  obtain ⟨u, hm, r⟩ := h
  exact pe_glob hg hm r hd
end

/-! ### operators for several kinds of values -/
def rMulS : R2 := fun x y H Q => ∃ (z : Str) (n : Int), x = .str z ∧ y = .int n ∧ z.length ≤ 1000 ∧ 0 ≤ n ∧ n ≤ 1000 ∧ Q (.str (Txt.mul z n)) H
theorem mulOk {z : Str} {n : Int} (h1 : z.length ≤ 1000) (h2 : 0 ≤ n) (h3 : n ≤ 1000) : MulOk z n := by
  refine ⟨?_, fun hn _ h => ?_, fun hn _ => ?_⟩
  · rw [decide_eq_false (by omega), decide_eq_false (by omega)]
    rfl
  · have h5 : (z.length : Int) * n ≤ 1000 * 1000 := by
      have a := Int.mul_le_mul (show (z.length : Int) ≤ 1000 by omega) h3 h2 (by omega)
      exact a
    have h6 : (z.length : Int) ≤ (2 ^ 63 - 1) / n := by
      rw [Int.le_ediv_iff_mul_le (by omega)]
      omega
    omega
  · have h5 : z.length * n.toNat ≤ 1000 * 1000 := Nat.mul_le_mul h1 (by omega)
    show decide (z.length * n.toNat > sizeLine) = false
    rw [decide_eq_false (by rw [sizeLine_eq]; omega)]
section
variable {X : Cx} {k : Nat}
theorem op_mulS : OpR X (binaryOp .Mult) rMulS := by
  intro pins s σ H x y v u Q I rx ry h
  obtain ⟨z, n, rfl, rfl, h1, h2, h3, q⟩ := h
  obtain ⟨t, rfl⟩ := rx
  obtain ⟨t', rfl⟩ := ry
  exact SB.mul (mulOk h1 h2 h3) fun t' k => ⟨.str _, H, I.tok _, ⟨_, rfl⟩, q⟩
def rMulX : R2 := fun x y H Q => rI CMul (fun i j => .int (i * j)) x y H Q ∨ rMulS x y H Q
theorem op_mulX : OpR X (binaryOp .Mult) rMulX := OpR.or op_mul op_mulS
def rAddS : R2 := fun x y H Q => ∃ i j, x = .str i ∧ y = .str j ∧ i.length + j.length ≤ sizeLine ∧ Q (.str (i ++ j)) H
def rAddX (K : PySem.W.Frag) : R2 := fun x y H Q => rI0 (fun i j => .int (i + j)) x y H Q ∨ rAddS x y H Q ∨ rCat x y H Q ∨ rCatA K x y H Q
theorem op_addX (K : PySem.W.Frag) (hK : X.K = K := by rfl) : OpR X (binaryOp .Add) (rAddX K) := by subst hK; exact OpR.or op_add (OpR.or op_add_str (OpR.or op_cat op_catA))
def rEqX (K : PySem.W.Frag) : R2 := fun x y H Q => rEq x y H Q ∨ rEqD K x y H Q
theorem op_eqX (K : PySem.W.Frag) (hr : Room k X.A) (hK : X.K = K := by rfl) : OpR X (compareOp .Eq) (rEqX K) := by subst hK; exact OpR.or op_eq (op_eqD hr.units)
def rNeX (K : PySem.W.Frag) : R2 := fun x y H Q => rNe x y H Q ∨ rNeD K x y H Q
theorem op_neX (K : PySem.W.Frag) (hr : Room k X.A) (hK : X.K = K := by rfl) : OpR X (compareOp .NotEq) (rNeX K) := by subst hK; exact OpR.or op_ne (op_neD hr.units)
def rInX (K : PySem.W.Frag) : R2 := fun x y H Q => rInS x y H Q ∨ rIn K false x y H Q
theorem op_inX (K : PySem.W.Frag) (hK : X.K = K := by rfl) : OpR X (compareOp .In) (rInX K) := by subst hK; exact OpR.or op_inS op_in_seq
def rNinX (K : PySem.W.Frag) : R2 := fun x y H Q => rNotInS x y H Q ∨ rIn K true x y H Q
theorem op_ninX (K : PySem.W.Frag) (hK : X.K = K := by rfl) : OpR X (compareOp .NotIn) (rNinX K) := by subst hK; exact OpR.or op_notInS op_notIn_seq
def rSlX (K : PySem.W.Frag) : V → Option Int → Option Int → Hp → VK → Prop := fun x lo hi H Q => rSlL K x lo hi H Q ∨ rSlS x lo hi H Q ∨ rSlA K x lo hi H Q
theorem sl_X (K : PySem.W.Frag) (hK : X.K = K := by rfl) : SlR X (rSlX K) := by subst hK; exact SlR.or sl_list (SlR.or sl_str sl_tupA)
theorem ix_X (K : PySem.W.Frag) (hK : X.K = K := by rfl) : IxR X (rIx K) := by subst hK; exact ix_seq
def rLenX (K : PySem.W.Frag) : List V → Hp → VK → Prop := fun xs H Q => ∃ x n, xs = [x] ∧ LenV K x H n ∧ Q (.int n) H
theorem call_lenX (K : PySem.W.Frag) (hK : X.K = K := by rfl) : CallR X (.builtin "len") (rLenX K) := by subst hK; exact call_len
def rLeStr : R2 := fun x y H Q => ∃ i j, x = .str i ∧ y = .str j ∧ Q (.bl (!decide (j.cps.toList < i.cps.toList))) H
def rLeX : R2 := fun x y H Q => rI0 (fun i j => .bl (decide (i ≤ j))) x y H Q ∨ rLeStr x y H Q
theorem op_leX : OpR X (compareOp .LtE) rLeX := OpR.or op_le op_le_str
def rListOf (K : PySem.W.Frag) : List V → Hp → VK → Prop := fun xs H Q => ∃ p ys, xs = [.ref p] ∧ (SqL K H p ys ∨ SqT K H p ys) ∧ ∀ l, H l = none → Q (.ref l) (upd H l (.lst ys))
theorem cr_list (K : PySem.W.Frag) (hK : X.K = K := by rfl) : CallR X (.type "list") (rListOf K) := by subst hK; exact call_list_of
def rTupOf (K : PySem.W.Frag) : List V → Hp → VK → Prop := fun xs H Q => ∃ p ys, xs = [.ref p] ∧ ((SqL K H p ys ∧ ∀ l, H l = none → Q (.ref l) (upd H l (.tup ys))) ∨ (SqT K H p ys ∧ Q (.ref p) H))
theorem cr_tuple (K : PySem.W.Frag) (hK : X.K = K := by rfl) : CallR X (.type "tuple") (rTupOf K) := by subst hK; exact call_tuple_of
theorem cr_allX (K : PySem.W.Frag) (hc : X.calm = true) (hK : X.K = K := by rfl) : CallR X (.builtin "all") (rAll K) := by subst hK; exact cr_all hc
theorem cr_anyX (K : PySem.W.Frag) (hc : X.calm = true) (hK : X.K = K := by rfl) : CallR X (.builtin "any") (rAny K) := by subst hK; exact cr_any hc
theorem cr_sumX (K : PySem.W.Frag) (hc : X.calm = true) (hK : X.K = K := by rfl) : CallR X (.builtin "sum") (rSum K) := by subst hK; exact cr_sum hc
theorem cr_sortedX (K : PySem.W.Frag) (hK : X.K = K := by rfl) : CallR X (.builtin "sorted") (rSortedS K) := by subst hK; exact cr_sortedS
theorem cr_isi (K : PySem.W.Frag) (hK : X.K = K := by rfl) : CallR X (.builtin "isinstance") (rIsi K) := by subst hK; exact call_isi
theorem cr_isiT (K : PySem.W.Frag) (hK : X.K = K := by rfl) : CallR X (.builtin "isinstance") (rIsiT K) := by subst hK; exact call_isiT
theorem pi_listX (K : PySem.W.Frag) {tg l : Expr} {tl : TE} (hl : PE X l tl) (hK : X.K = K := by rfl) : PI X tg l (iList K tl) := by subst hK; exact pi_list hl
theorem pi_zipX (K : PySem.W.Frag) {tg e : Expr} {ta : TA} (h : PI X tg e (RZ.iZipA X.K ta)) (hK : X.K = K := by rfl) : PI X tg e (RZ.iZipA K ta) := by subst hK; exact h
theorem pi_tupX (K : PySem.W.Frag) {tg l : Expr} {tl : TE} (hl : PE X l tl) (hK : X.K = K := by rfl) : PI X tg l (iTup K tl) := by subst hK; exact pi_tup hl
theorem pg_tupX (K : PySem.W.Frag) {es : List Expr} {kk : Nat} {pos : Pos} {n : Nat} {t : TGs} (h : PG X (.Tuple es kk pos) (gTup X.K n t)) (hK : X.K = K := by rfl) : PG X (.Tuple es kk pos) (gTup K n t) := by subst hK; exact h
theorem pe_bmX (K : PySem.W.Frag) {e : Expr} {T : String} {r : V → List V → Hp → VK → Prop} {to : TE} {t : TA} (h : PE X e (tBM X.K T r to t)) (hK : X.K = K := by rfl) : PE X e (tBM K T r to t) := by subst hK; exact h
theorem pe_bm0X (K : PySem.W.Frag) {e : Expr} {T : String} {r : V → List V → Hp → VK → Prop} {to : TE} (h : PE X e (tBM0 X.K T r to)) (hK : X.K = K := by rfl) : PE X e (tBM0 K T r to) := by subst hK; exact h
theorem pe_fldX (K : PySem.W.Frag) {e : Expr} {f : Str} {ta : TE} (h : PE X e (tFld X.K ta f)) (hK : X.K = K := by rfl) : PE X e (tFld K ta f) := by subst hK; exact h
def rIntX : List V → Hp → VK → Prop := fun xs H Q => (∃ i, xs = [.int i] ∧ Q (.int i) H) ∨ ∃ k, xs = [.bl k] ∧ Q (.int (if k then 1 else 0)) H
theorem cr_int : CallR X (.type "int") rIntX := call_int1
def rIsNn : R2 := fun x y H Q => y = .non ∧ Q (.bl (decide (x = .non))) H
theorem op_isNn : OpR X (compareOp .Is) rIsNn := op_isN
def rNotNn : R2 := fun x y H Q => y = .non ∧ Q (.bl (!decide (x = .non))) H
theorem op_notNn : OpR X (compareOp .IsNot) rNotNn := op_notN
def rJoin (K : PySem.W.Frag) : V → List V → Hp → VK → Prop := fun x xs H Q => ∃ a p, ∃ ys : List Str, x = .str a ∧ xs = [.ref p] ∧ (SqL K H p (ys.map V.str) ∨ SqT K H p (ys.map V.str)) ∧ (ys.map (·.length)).sum + ys.length * a.length ≤ 16777216 ∧ Q (.str (Txt.join a ys)) H
theorem pe_joinX (K : PySem.W.Frag) {o e : Expr} {to te : TE} {apos pos : Pos} (ho : PE X o to) (he : PE X e te) (hK : X.K = K := by rfl) (hs : starEach [e] X.env = [(false, eval e X.env)] := by rfl) (hbase : attributeBase o "join" X.env (eval o X.env) = eval o X.env := by rfl) (hline : (apos.endLine == pos.line) = true := by rfl) :
    PE X (.Call (.Attribute o "join" apos) [e] [] pos) (tM1 (rJoin K) to te) := by subst hK; exact pe_join ho he hs hbase hline
end

/-! ### the readings, a step each -/
section
variable {K : PySem.W.Frag} {σ : St} {H : Hp} {Q : VK} {QT : Bool → Hp → Prop} {QA : List V → Hp → Prop} {QO : Option Int → Hp → Prop} {QS : St → Hp → Prop} {D : Ends}
variable {te ta tb tc : TE} {tt tu : TT} {t u : TS} {aa ab : TA} {g : TG} {gs : TGs} {r r' : R2} {v x y z : V} {i j n m : Int} {b c : Bool} {vs ws : List V} {a p q : Addr} {xs ys : List V} {s1 s2 : Str} {wi : TI} {to tp : TO}
theorem var {k : Nat} (h : σ[k]? = some (some v)) (q : Q v H) : tVar k σ H Q := ⟨v, h, q⟩
theorem cst (q : Q v H) : tC v σ H Q := q
theorem op (q : ta σ H fun x H1 => tb σ H1 fun y H2 => r x y H2 Q) : tOp r ta tb σ H Q := q
theorem un {f : V → Hp → VK → Prop} (q : ta σ H fun x H1 => f x H1 Q) : tUn f ta σ H Q := q
theorem chain (q : ta σ H fun x H1 => tb σ H1 fun y H2 => r x y H2 fun z H3 => ∃ k, z = .bl k ∧ (if k = true then tc σ H3 fun w' H4 => r' y w' H4 Q else Q (.bl false) H3)) : tChain r r' ta tb tc σ H Q := q
theorem exbl {P : Bool → Prop} (q : P b) : ∃ k, V.bl b = .bl k ∧ P k := ⟨b, rfl, q⟩
theorem iI0 {f : Int → Int → V} (q : Q (f i j) H) : rI0 f (.int i) (.int j) H Q := ⟨i, j, rfl, rfl, q⟩
theorem iI {C : Int → Int → Prop} {f : Int → Int → V} (h : C i j) (q : Q (f i j) H) : rI C f (.int i) (.int j) H Q := ⟨i, j, rfl, rfl, h, q⟩
theorem iU {f : Int → V} (q : Q (f i) H) : rU f (.int i) H Q := ⟨i, rfl, q⟩
theorem eqI (q : Q (.bl (decide (i = j))) H) : rEqX K (.int i) (.int j) H Q := .inl ⟨rfl, by rw [show decide (V.int i = V.int j) = decide (i = j) from decide_eq_decide.mpr ⟨V.int.inj, congrArg _⟩]; exact q⟩
theorem neI (q : Q (.bl (!decide (i = j))) H) : rNeX K (.int i) (.int j) H Q := .inl ⟨rfl, by rw [show decide (V.int i = V.int j) = decide (i = j) from decide_eq_decide.mpr ⟨V.int.inj, congrArg _⟩]; exact q⟩
theorem eqStr (q : Q (.bl (decide (s1 = s2))) H) : rEqX K (.str s1) (.str s2) H Q := .inl ⟨rfl, by rw [show decide (V.str s1 = V.str s2) = decide (s1 = s2) from decide_eq_decide.mpr ⟨V.str.inj, congrArg _⟩]; exact q⟩
theorem neStr (q : Q (.bl (!decide (s1 = s2))) H) : rNeX K (.str s1) (.str s2) H Q := .inl ⟨rfl, by rw [show decide (V.str s1 = V.str s2) = decide (s1 = s2) from decide_eq_decide.mpr ⟨V.str.inj, congrArg _⟩]; exact q⟩
theorem eqB (q : Q (.bl (decide (b = c))) H) : rEqX K (.bl b) (.bl c) H Q := .inl ⟨rfl, by rw [show decide (V.bl b = V.bl c) = decide (b = c) from decide_eq_decide.mpr ⟨V.bl.inj, congrArg _⟩]; exact q⟩
theorem neB (q : Q (.bl (!decide (b = c))) H) : rNeX K (.bl b) (.bl c) H Q := .inl ⟨rfl, by rw [show decide (V.bl b = V.bl c) = decide (b = c) from decide_eq_decide.mpr ⟨V.bl.inj, congrArg _⟩]; exact q⟩
theorem cut (Mid : St → Hp → Prop) (q : t { nx := Mid, rt := D.rt, bk := D.bk, ct := D.ct } σ H) (k : ∀ σ' H', Mid σ' H' → u D σ' H') : C8.tCut t u D σ H := ⟨Mid, q, k⟩
theorem iteD {A B : Prop} {p : Prop} [Decidable p] (h1 : p → A) (h2 : ¬ p → B) : if decide p = true then A else B := ite2 (fun h => h1 (of_decide_eq_true h)) (fun h => h2 fun z => h (decide_eq_true z))
theorem iteN {A B : Prop} {p : Prop} [Decidable p] (h1 : ¬ p → A) (h2 : p → B) : if (!decide p) = true then A else B := by
  by_cases h : p
  · rw [decide_eq_true h]
    exact iteF (h2 h)
  · rw [decide_eq_false h]
    exact iteT (h1 h)
theorem eqS (h : scal x y = true) (q : Q (.bl (decide (x = y))) H) : rEqX K x y H Q := .inl ⟨h, q⟩
theorem neS (h : scal x y = true) (q : Q (.bl (!decide (x = y))) H) : rNeX K x y H Q := .inl ⟨h, q⟩
theorem eqDd {d e : PyData} (h1 : Dp K H x d) (h2 : Dp K H y e) (s1 : SeqAt.shaped d = true) (s2 : SeqAt.shaped e = true) (q : Q (.bl (PyData.eqv d e)) H) : rEqX K x y H Q := .inr ⟨d, e, h1, h2, s1, s2, q⟩
theorem neDd {d e : PyData} (h1 : Dp K H x d) (h2 : Dp K H y e) (s1 : SeqAt.shaped d = true) (s2 : SeqAt.shaped e = true) (q : Q (.bl (!PyData.eqv d e)) H) : rNeX K x y H Q := .inr ⟨d, e, h1, h2, s1, s2, q⟩
theorem addI (q : Q (.int (i + j)) H) : rAddX K (.int i) (.int j) H Q := .inl ⟨i, j, rfl, rfl, q⟩
theorem addS (h : s1.length + s2.length ≤ sizeLine) (q : Q (.str (s1 ++ s2)) H) : rAddX K (.str s1) (.str s2) H Q := .inr (.inl ⟨s1, s2, rfl, rfl, h, q⟩)
theorem addL (h1 : H a = some (.lst xs)) (h2 : H p = some (.lst ys)) (h : xs.length + ys.length ≤ sizeLine) (q : ∀ l, H l = none → Q (.ref l) (upd H l (.lst (xs ++ ys)))) : rAddX K (.ref a) (.ref p) H Q := .inr (.inr (.inl ⟨a, p, xs, ys, rfl, rfl, h1, h2, h, q⟩))
theorem mulI (h : CMul i j) (q : Q (.int (i * j)) H) : rMulX (.int i) (.int j) H Q := .inl ⟨i, j, rfl, rfl, h, q⟩
theorem mulS (h1 : s1.length ≤ 1000) (h2 : 0 ≤ n) (h3 : n ≤ 1000) (q : Q (.str (Txt.mul s1 n)) H) : rMulX (.str s1) (.int n) H Q := .inr ⟨s1, n, rfl, rfl, h1, h2, h3, q⟩
theorem leI (q : Q (.bl (decide (i ≤ j))) H) : rLeX (.int i) (.int j) H Q := .inl ⟨i, j, rfl, rfl, q⟩
theorem leS (q : Q (.bl (!decide (s2.cps.toList < s1.cps.toList))) H) : rLeX (.str s1) (.str s2) H Q := .inr ⟨s1, s2, rfl, rfl, q⟩
theorem inS {k : Nat} (q : Q (.bl (decide (k ∈ s2.cps.toList))) H) : rInX K (.str ⟨#[k]⟩) (.str s2) H Q := .inl ⟨k, s2, rfl, rfl, q⟩
theorem ninS {k : Nat} (q : Q (.bl (!decide (k ∈ s2.cps.toList))) H) : rNinX K (.str ⟨#[k]⟩) (.str s2) H Q := .inl ⟨k, s2, rfl, rfl, q⟩
theorem inSeq (h : SqL K H p xs ∨ SqT K H p xs) (h1 : flatV x = true) (h2 : xs.all flatV = true) (q : Q (.bl (inV x xs)) H) : rInX K x (.ref p) H Q := .inr ⟨p, xs, rfl, h, h1, h2, q⟩
theorem ninSeq (h : SqL K H p xs ∨ SqT K H p xs) (h1 : flatV x = true) (h2 : xs.all flatV = true) (q : Q (.bl (!inV x xs)) H) : rNinX K x (.ref p) H Q := .inr ⟨p, xs, rfl, h, h1, h2, q⟩
theorem isN_int (q : Q (.bl false) H) : rIsNn (.int i) .non H Q := ⟨rfl, q⟩
theorem notN_int (q : Q (.bl true) H) : rNotNn (.int i) .non H Q := ⟨rfl, q⟩
theorem isN_str (q : Q (.bl false) H) : rIsNn (.str s1) .non H Q := ⟨rfl, q⟩
theorem notN_str (q : Q (.bl true) H) : rNotNn (.str s1) .non H Q := ⟨rfl, q⟩
theorem isN_bl (q : Q (.bl false) H) : rIsNn (.bl b) .non H Q := ⟨rfl, q⟩
theorem notN_bl (q : Q (.bl true) H) : rNotNn (.bl b) .non H Q := ⟨rfl, q⟩
theorem isN_ref (q : Q (.bl false) H) : rIsNn (.ref a) .non H Q := ⟨rfl, q⟩
theorem notN_ref (q : Q (.bl true) H) : rNotNn (.ref a) .non H Q := ⟨rfl, q⟩
theorem isN_non (q : Q (.bl true) H) : rIsNn .non .non H Q := ⟨rfl, q⟩
theorem notN_non (q : Q (.bl false) H) : rNotNn .non .non H Q := ⟨rfl, q⟩
theorem eqB_truetrue (q : Q (.bl true) H) : rEqX K (.bl true) (.bl true) H Q := .inl ⟨rfl, q⟩
theorem neB_truetrue (q : Q (.bl false) H) : rNeX K (.bl true) (.bl true) H Q := .inl ⟨rfl, q⟩
theorem eqB_truefalse (q : Q (.bl false) H) : rEqX K (.bl true) (.bl false) H Q := .inl ⟨rfl, q⟩
theorem neB_truefalse (q : Q (.bl true) H) : rNeX K (.bl true) (.bl false) H Q := .inl ⟨rfl, q⟩
theorem eqB_falsetrue (q : Q (.bl false) H) : rEqX K (.bl false) (.bl true) H Q := .inl ⟨rfl, q⟩
theorem neB_falsetrue (q : Q (.bl true) H) : rNeX K (.bl false) (.bl true) H Q := .inl ⟨rfl, q⟩
theorem eqB_falsefalse (q : Q (.bl true) H) : rEqX K (.bl false) (.bl false) H Q := .inl ⟨rfl, q⟩
theorem neB_falsefalse (q : Q (.bl false) H) : rNeX K (.bl false) (.bl false) H Q := .inl ⟨rfl, q⟩
theorem isN (q : Q (.bl (decide (x = .non))) H) : rIsNn x .non H Q := ⟨rfl, q⟩
theorem notN (q : Q (.bl (!decide (x = .non))) H) : rNotNn x .non H Q := ⟨rfl, q⟩
theorem ixL (h : SqL K H p xs) (h1 : atI xs i = some v) (q : Q v H) : rIx K (.ref p) (.int i) H Q := .inl ⟨p, xs, i, v, rfl, rfl, h, h1, q⟩
theorem ixT (h : SqT K H p xs) (h1 : atI xs i = some v) (q : Q v H) : rIx K (.ref p) (.int i) H Q := .inr (.inl ⟨p, xs, i, v, rfl, rfl, h, h1, q⟩)
theorem ixS {k : Nat} (h : s1.length ≤ sizeLine) (h1 : atI s1.cps.toList i = some k) (q : Q (.str ⟨#[k]⟩) H) : rIx K (.str s1) (.int i) H Q := .inr (.inr ⟨s1, i, k, rfl, rfl, h, h1, q⟩)
theorem slS {lo hi : Option Int} (h : s1.length ≤ sizeLine) (q : Q (.str (cutS s1 lo hi)) H) : rSlX K (.str s1) lo hi H Q := .inr (.inl ⟨s1, rfl, h, q⟩)
theorem slL {lo hi : Option Int} (h : SqL K H a xs) (q : ∀ l, H l = none → Q (.ref l) (upd H l (.lst (cutV xs lo hi)))) : rSlX K (.ref a) lo hi H Q := .inl ⟨a, xs, rfl, h, q⟩
theorem slT {lo hi : Option Int} (h : SqT K H a xs) (q1 : HT.sIx xs.length 0 lo = 0 ∧ HT.sIx xs.length xs.length hi = xs.length → Q (.ref a) H) (q2 : ¬ (HT.sIx xs.length 0 lo = 0 ∧ HT.sIx xs.length xs.length hi = xs.length) → ∀ l, H l = none → Q (.ref l) (upd H l (.tup (cutV xs lo hi)))) :
    rSlX K (.ref a) lo hi H Q := .inr (.inr ⟨a, xs, rfl, h, q1, q2⟩)
theorem sl {f : V → Option Int → Option Int → Hp → VK → Prop} (q : te σ H fun x H1 => to σ H1 fun l H2 => tp σ H2 fun u H3 => f x l u H3 Q) : tSl f te to tp σ H Q := q
theorem noPart (q : QO none H) : tNoPart σ H QO := q
theorem part (q : te σ H fun x H1 => ∃ i, x = .int i ∧ QO (some i) H1) : tPart te σ H QO := q
theorem exint {P : Int → Prop} (q : P i) : ∃ k, V.int i = .int k ∧ P k := ⟨i, rfl, q⟩
theorem test (q : te σ H fun x H' => ∃ k, x = .bl k ∧ QT k H') : tTest te σ H QT := q
theorem tb_ (q : te σ H fun x H' => ∃ k, x = .bl k ∧ QT k H') : tB te σ H QT := q
theorem tand (q : tt σ H fun c H1 => if c = true then tu σ H1 QT else QT false H1) : tAnd tt tu σ H QT := q
theorem tor (q : tt σ H fun c H1 => if c = true then QT true H1 else tu σ H1 QT) : tOr tt tu σ H QT := q
theorem tnot (q : tt σ H fun c H1 => QT (!c) H1) : tNot tt σ H QT := q
theorem andV (q : ta σ H fun x H1 => ∃ c, x = .bl c ∧ if c = true then tb σ H1 Q else Q (.bl false) H1) : tAndV ta tb σ H Q := q
theorem orV (q : ta σ H fun x H1 => ∃ c, x = .bl c ∧ if c = true then Q (.bl true) H1 else tb σ H1 Q) : tOrV ta tb σ H Q := q
theorem notV (q : ta σ H fun x H1 => ∃ c, x = .bl c ∧ Q (.bl (!c)) H1) : tNotV ta σ H Q := q
theorem ife (q : tt σ H fun c H1 => if c = true then ta σ H1 Q else tb σ H1 Q) : tIf tt ta tb σ H Q := q
theorem seq (q : t { nx := u D, rt := D.rt, bk := D.bk, ct := D.ct } σ H) : tSeq t u D σ H := q
theorem nxt (q : D.nx σ H) : tNext D σ H := q
theorem brk (q : D.bk σ H) : tBreak D σ H := q
theorem cnt (q : D.ct σ H) : tCont D σ H := q
theorem drp (q : te σ H fun _ H1 => D.nx σ H1) : tDrop te D σ H := q
theorem ret (q : te σ H D.rt) : tRet te D σ H := q
theorem retN (q : D.rt .non H) : tRetN D σ H := q
theorem ifS (q : tt σ H fun b H1 => if b = true then t D σ H1 else u D σ H1) : tIfS tt t u D σ H := q
theorem asg (q : te σ H fun x H1 => g x σ H1 D.nx) : tAsg te g D σ H := q
theorem gname {k : Nat} (q : QS (σ.set k (some v)) H) : gName k v σ H QS := q
theorem par {k l : Nat} (q : aa σ H fun vs H1 => ∃ v w, vs = [v, w] ∧ D.nx ((σ.set k (some v)).set l (some w)) H1) : tPar k l aa D σ H := q
theorem expair {P : V → V → Prop} (q : P x y) : ∃ v w, [x, y] = [v, w] ∧ P v w := ⟨x, y, rfl, q⟩
theorem gsub {f : TSet} (q : ta σ H fun o H1 => tb σ H1 fun i H2 => f o i v H2 fun H3 => QS σ H3) : gSub ta tb f v σ H QS := q
theorem setL {k : Nat} {QH : Hp → Prop} (h : H p = some (.lst xs)) (h1 : ixN xs.length i = some k) (q : QH (upd H p (.lst (xs.set k v)))) : rSetL (.ref p) (.int i) v H QH := ⟨p, xs, i, k, rfl, rfl, h, h1, q⟩
theorem gtup {k : Nat} (h : SqT K H a xs) (h1 : xs.length = k) (q : gs xs σ H QS) : gTup K k gs (.ref a) σ H QS := ⟨a, xs, rfl, h, h1, q⟩
theorem gcons (q : g v σ H fun σ' H' => gs vs σ' H' QS) : gCons g gs (v :: vs) σ H QS := ⟨v, vs, rfl, q⟩
theorem gnil (q : QS σ H) : gNil [] σ H QS := ⟨rfl, q⟩
theorem anil (q : QA [] H) : tNil σ H QA := q
theorem acons (q : te σ H fun x H1 => aa σ H1 fun xs H2 => QA (x :: xs) H2) : tCons te aa σ H QA := q
theorem callC {sp : Sp} (q : aa σ H fun vs H1 => sp vs H1 Q E0) : tCC sp aa σ H Q := q
theorem callK {sp : Sp} {gV : List V → List V → List V} (q : aa σ H fun vs H1 => ab σ H1 fun zs H2 => sp (gV vs zs) H2 Q E0) : tCK sp gV aa ab σ H Q := q
theorem callB {f : List V → Hp → VK → Prop} (q : aa σ H fun vs H1 => f vs H1 Q) : tCB f aa σ H Q := q
theorem lenS (h : s1.length ≤ sizeLine) (q : Q (.int s1.length) H) : rLenX K [.str s1] H Q := ⟨.str s1, s1.length, rfl, ⟨h, rfl⟩, q⟩
theorem lenL (h : SqL K H p xs) (q : Q (.int xs.length) H) : rLenX K [.ref p] H Q := ⟨.ref p, xs.length, rfl, .inl ⟨xs, h, rfl⟩, q⟩
theorem lenT (h : SqT K H p xs) (q : Q (.int xs.length) H) : rLenX K [.ref p] H Q := ⟨.ref p, xs.length, rfl, .inr ⟨xs, h, rfl⟩, q⟩
theorem intI (q : Q (.int i) H) : rIntX [.int i] H Q := .inl ⟨i, rfl, q⟩
theorem listL (h : SqL K H p xs) (q : ∀ l, H l = none → Q (.ref l) (upd H l (.lst xs))) : rListOf K [.ref p] H Q := ⟨p, xs, rfl, .inl h, q⟩
theorem listT (h : SqT K H p xs) (q : ∀ l, H l = none → Q (.ref l) (upd H l (.lst xs))) : rListOf K [.ref p] H Q := ⟨p, xs, rfl, .inr h, q⟩
theorem tupL (h : SqL K H p xs) (q : ∀ l, H l = none → Q (.ref l) (upd H l (.tup xs))) : rTupOf K [.ref p] H Q := ⟨p, xs, rfl, .inl ⟨h, q⟩⟩
theorem all_ {bs : List Bool} (h : SqL K H p (bs.map V.bl)) (q : Q (.bl (bs.all id)) H) : rAll K [.ref p] H Q := ⟨p, bs, rfl, h, q⟩
theorem any_ {bs : List Bool} (h : SqL K H p (bs.map V.bl)) (q : Q (.bl (bs.any id)) H) : rAny K [.ref p] H Q := ⟨p, bs, rfl, h, q⟩
theorem isi {T : String} {tv : Value} (h : TyX K H x tv) (h1 : PySem.W.kitOne K tv (.type T) = some b) (q : Q (.bl b) H) : rIsi K [x, .ty T] H Q := ⟨x, .ty T, tv, .type T, b, rfl, .ty T, h, h1, q⟩
theorem isiT {tv : Value} {us : List Value} (hT : H p = some (.tup vs)) (hP : Paired ClsV vs us) (h : TyX K H x tv) (h1 : PySem.W.kitAny K tv us = some b) (q : Q (.bl b) H) : rIsiT K [x, .ref p] H Q := ⟨x, p, vs, tv, us, b, rfl, hT, hP, h, h1, q⟩
theorem lst_ (q : aa σ H fun xs H1 => xs.length ≤ sizeLine ∧ ∀ p, H1 p = none → Q (.ref p) (upd H1 p (.lst xs))) : tLst aa σ H Q := q
theorem tup_ (q : aa σ H fun xs H1 => xs.length ≤ sizeLine ∧ ∀ p, H1 p = none → Q (.ref p) (upd H1 p (.tup xs))) : tTup aa σ H Q := q
theorem m1 {f : V → List V → Hp → VK → Prop} (q : ta σ H fun x H1 => (∃ a, x = .str a) ∧ te σ H1 fun y H2 => f x [y] H2 Q) : tM1 f ta te σ H Q := q
theorem isStr {P : Prop} (q : P) : (∃ a, V.str s1 = .str a) ∧ P := ⟨⟨s1, rfl⟩, q⟩
theorem joinL {zs : List Str} (h : SqL K H p (zs.map V.str)) (h1 : (zs.map (·.length)).sum + zs.length * s1.length ≤ 16777216) (q : Q (.str (Txt.join s1 zs)) H) : rJoin K (.str s1) [.ref p] H Q := ⟨s1, p, zs, rfl, rfl, .inl h, h1, q⟩
theorem for_ (q : wi σ H fun J H1 => ∃ W : Nat → Nat → St → Hp → Prop, (∃ m, W 0 m σ H1) ∧ ∀ i m σ H, W i m σ H →
      (J.stop i H ∧ D.nx σ H) ∨ (J.go i H ∧ ∃ N : St → Hp → Prop, (∀ σ' H', N σ' H' → ∃ m', m' < m ∧ W (i + 1) m' σ' H') ∧ ∀ x H', J.yld i H x H' → g x σ H' fun σ2 H2 => t { nx := N, rt := D.rt, bk := D.nx, ct := N } σ2 H2)) : tFor wi g t D σ H := q
theorem bm {T : String} {f : V → List V → Hp → VK → Prop} (q : ta σ H fun x H1 => tyV K T x H1 ∧ aa σ H1 fun xs H2 => f x xs H2 Q) : tBM K T f ta aa σ H Q := q
theorem bm0 {T : String} {f : V → List V → Hp → VK → Prop} (q : ta σ H fun x H1 => tyV K T x H1 ∧ f x [] H1 Q) : tBM0 K T f ta σ H Q := q
theorem mkNx {A B C : St → Hp → Prop} {R : VK} (h : D = ⟨A, R, B, C⟩) (q : A σ H) : Ends.nx D σ H := by subst h; exact q
theorem mkRt {A B C : St → Hp → Prop} {R : VK} (h : D = ⟨A, R, B, C⟩) (q : R v H) : Ends.rt D v H := by subst h; exact q
theorem mkBk {A B C : St → Hp → Prop} {R : VK} (h : D = ⟨A, R, B, C⟩) (q : B σ H) : Ends.bk D σ H := by subst h; exact q
theorem mkCt {A B C : St → Hp → Prop} {R : VK} (h : D = ⟨A, R, B, C⟩) (q : C σ H) : Ends.ct D σ H := by subst h; exact q
theorem ilist (h : ∃ xs, SqL K H a xs) {R : It → Hp → Prop} (q : R (Itl K a) H) : (fun (x : V) (H1 : Hp) => ∃ a, x = .ref a ∧ (∃ xs, SqL K H1 a xs) ∧ R (Itl K a) H1) (.ref a) H := ⟨a, rfl, h, q⟩
theorem il {R : It → Hp → Prop} (q : te σ H fun x H1 => ∃ a, x = .ref a ∧ (∃ xs, SqL K H1 a xs) ∧ R (Itl K a) H1) : iList K te σ H R := q
theorem exl {R : Addr → Prop} (h : ∃ xs, SqL K H a xs) (q : R a) : ∃ b, V.ref a = .ref b ∧ (∃ xs, SqL K H b xs) ∧ R b := ⟨a, rfl, h, q⟩
theorem ir1 {R : It → Hp → Prop} (q : aa σ H fun vs H1 => ∃ j : Int, vs = [.int j] ∧ -(2 ^ 62) ≤ j ∧ j < 2 ^ 62 ∧ R (Itr 0 j.toNat) H1) : iRng1 aa σ H R := q
theorem exr1 {R : Int → Prop} (h1 : -(2 ^ 62) ≤ i) (h2 : i < 2 ^ 62) (q : R i) : ∃ j : Int, [V.int i] = [.int j] ∧ -(2 ^ 62) ≤ j ∧ j < 2 ^ 62 ∧ R j := ⟨i, rfl, h1, h2, q⟩
theorem is_ {R : It → Hp → Prop} (q : te σ H fun v H1 => ∃ x, v = .str x ∧ R (Its x) H1) : iStr te σ H R := q
theorem exstr {R : Str → Prop} (q : R s1) : ∃ x, V.str s1 = .str x ∧ R x := ⟨s1, rfl, q⟩
end

/-! ### kinds -/
theorem kB_NoneType_str : kitB "NoneType" "str" = some false := by decide +kernel
theorem kB_NoneType_bool : kitB "NoneType" "bool" = some false := by decide +kernel
theorem kB_NoneType_int : kitB "NoneType" "int" = some false := by decide +kernel
theorem kB_NoneType_dict : kitB "NoneType" "dict" = some false := by decide +kernel
theorem kB_NoneType_tuple : kitB "NoneType" "tuple" = some false := by decide +kernel
theorem kB_NoneType_list : kitB "NoneType" "list" = some false := by decide +kernel
theorem kB_bool_str : kitB "bool" "str" = some false := by decide +kernel
theorem kB_bool_bool : kitB "bool" "bool" = some true := by decide +kernel
theorem kB_bool_int : kitB "bool" "int" = some true := by decide +kernel
theorem kB_bool_dict : kitB "bool" "dict" = some false := by decide +kernel
theorem kB_bool_tuple : kitB "bool" "tuple" = some false := by decide +kernel
theorem kB_bool_list : kitB "bool" "list" = some false := by decide +kernel
theorem kB_int_str : kitB "int" "str" = some false := by decide +kernel
theorem kB_int_bool : kitB "int" "bool" = some false := by decide +kernel
theorem kB_int_int : kitB "int" "int" = some true := by decide +kernel
theorem kB_int_dict : kitB "int" "dict" = some false := by decide +kernel
theorem kB_int_tuple : kitB "int" "tuple" = some false := by decide +kernel
theorem kB_int_list : kitB "int" "list" = some false := by decide +kernel
theorem kB_str_str : kitB "str" "str" = some true := by decide +kernel
theorem kB_str_bool : kitB "str" "bool" = some false := by decide +kernel
theorem kB_str_int : kitB "str" "int" = some false := by decide +kernel
theorem kB_str_dict : kitB "str" "dict" = some false := by decide +kernel
theorem kB_str_tuple : kitB "str" "tuple" = some false := by decide +kernel
theorem kB_str_list : kitB "str" "list" = some false := by decide +kernel
theorem kB_list_str : kitB "list" "str" = some false := by decide +kernel
theorem kB_list_bool : kitB "list" "bool" = some false := by decide +kernel
theorem kB_list_int : kitB "list" "int" = some false := by decide +kernel
theorem kB_list_dict : kitB "list" "dict" = some false := by decide +kernel
theorem kB_list_tuple : kitB "list" "tuple" = some false := by decide +kernel
theorem kB_list_list : kitB "list" "list" = some true := by decide +kernel
theorem kB_tuple_str : kitB "tuple" "str" = some false := by decide +kernel
theorem kB_tuple_bool : kitB "tuple" "bool" = some false := by decide +kernel
theorem kB_tuple_int : kitB "tuple" "int" = some false := by decide +kernel
theorem kB_tuple_dict : kitB "tuple" "dict" = some false := by decide +kernel
theorem kB_tuple_tuple : kitB "tuple" "tuple" = some true := by decide +kernel
theorem kB_tuple_list : kitB "tuple" "list" = some false := by decide +kernel
theorem kB_dict_str : kitB "dict" "str" = some false := by decide +kernel
theorem kB_dict_bool : kitB "dict" "bool" = some false := by decide +kernel
theorem kB_dict_int : kitB "dict" "int" = some false := by decide +kernel
theorem kB_dict_dict : kitB "dict" "dict" = some true := by decide +kernel
theorem kB_dict_tuple : kitB "dict" "tuple" = some false := by decide +kernel
theorem kB_dict_list : kitB "dict" "list" = some false := by decide +kernel
theorem kitAny2 {K : PySem.W.Frag} {a b c : String} {r s : Bool} (h1 : kitB a b = some r) (h2 : kitB a c = some s) : PySem.W.kitAny K (.type a) [.type b, .type c] = some (r || s) := by
  refine kitAny_cons (kit_ty h1) (fun e => ?_) (fun e => ?_)
  · refine kitAny_cons (kit_ty h2) (fun e2 => ?_) (fun e2 => ?_)
    · rw [e, e2]
      rfl
    · rw [e, e2]
      rfl
  · rw [e]
    rfl
theorem cls2 (b c : String) : Paired ClsV [V.ty b, V.ty c] [.type b, .type c] := .cons (.ty b) (.cons (.ty c) .nil)
theorem tyx_L {K : PySem.W.Frag} {H : Hp} {a : Addr} {xs : List V} (h : SqL K H a xs) : TyX K H (.ref a) (.type "list") := by
  rcases h with (h | ⟨o, h⟩) | ⟨o, its, n, h, c, _⟩
  · exact .base (.lst h)
  · exact .base (.frz h)
  · exact .kList h c
theorem tyx_T {K : PySem.W.Frag} {H : Hp} {a : Addr} {xs : List V} (h : SqT K H a xs) : TyX K H (.ref a) (.type "tuple") := by
  rcases h with (h | ⟨o, h⟩) | ⟨o, its, n, h, c, _⟩
  · exact .base (.tup h)
  · exact .fTuple h
  · exact .kTuple h c
/-- zip over two tuples -/
theorem walk_zipT {K : PySem.W.Frag} {a b : Addr} {xs ys : List V} {n : Nat} (hn : n = min xs.length ys.length) : Walk (RZ.ItzT K a b) n (fun H => SqT K H a xs ∧ SqT K H b ys) (YPair (fun i => xs[i]?) (fun i => ys[i]?)) := by
  subst hn
  refine ⟨fun i H hi g => ?_, fun H g => ⟨xs, ys, g.1, g.2, by omega⟩, fun i H x H' hi g y => ?_⟩
  · have h1 : i < xs.length := by omega
    have h2 : i < ys.length := by omega
    exact ⟨xs, ys, xs[i], ys[i], g.1, g.2, List.getElem?_eq_getElem h1, List.getElem?_eq_getElem h2⟩
  · obtain ⟨T, x1, y1, e1, n1, e2, f1, f2⟩ := y
    exact ⟨T, x1, y1, e1, n1, e2, f1 xs g.1, f2 ys g.2⟩

/-! ### heaps -/
theorem same_upd {H : Hp} {p : Addr} {o : HO} (h : H p = none) : Same H (upd H p o) := fun b x e => by
  rw [upd_ne (ne_of_none e h)]
  exact e
/-- all that was tracked but what stands at b is as it was -/
def But (b : Addr) (H H' : Hp) : Prop := ∀ c o, H c = some o → c ≠ b → H' c = some o
theorem But.refl (b : Addr) (H : Hp) : But b H H := fun _ _ h _ => h
theorem But.trans {b : Addr} {H H1 H2 : Hp} (a : But b H H1) (c : But b H1 H2) : But b H H2 := fun d o h n => c d o (a d o h n) n
theorem But.of_same {b : Addr} {H H' : Hp} (s : Same H H') : But b H H' := fun c o h _ => s c o h
theorem But.upd {b : Addr} {H : Hp} {o : HO} : But b H (upd H b o) := fun c x h n => by rw [upd_ne n]; exact h
theorem But.new {b p : Addr} {H : Hp} {o : HO} (h : H p = none) : But b H (L2.upd H p o) := But.of_same (same_upd h)
theorem But.mutNew {b p : Addr} {H H' : Hp} {o : HO} (h : But b H H') (n : H p = none) : But b H (L2.upd H' p o) := fun c x e nc => by
  rw [upd_ne (ne_of_none e n)]
  exact h c x e nc
theorem But.free {b p : Addr} {H H' : Hp} (s : But b H H') (hb : ∃ o, H' b = some o) (n : H' p = none) : H p = none := by
  cases e : H p with
  | none => rfl
  | some o =>
    by_cases h : p = b
    · obtain ⟨u, hu⟩ := hb
      rw [h, hu] at n
      cases n
    · rw [s p o e h] at n
      cases n
theorem SqL.but {K : PySem.W.Frag} {b a : Addr} {H H' : Hp} {xs : List V} (s : But b H H') (n : a ≠ b) (h : SqL K H a xs) : SqL K H' a xs := by
  rcases h with (h | ⟨o, h⟩) | h
  · exact .inl (.inl (s _ _ h n))
  · exact .inl (.inr ⟨o, s _ _ h n⟩)
  · exact .inr h
theorem Same.seqT {K : PySem.W.Frag} {H H' : Hp} {a : Addr} {xs : List V} (e : Same H H') (h : SqT K H a xs) : SqT K H' a xs := by
  rcases h with (h | ⟨o, h⟩) | h
  · exact .inl (.inl (e _ _ h))
  · exact .inl (.inr ⟨o, e _ _ h⟩)
  · exact .inr h
theorem lc {σ : St} {H : Hp} {Q : VK} {wi : TI} {g : TG} {tt : TT} {te : TE} {vs : List Nat}
    (q : wi σ H fun J H1 => ∀ D, H1 D = none → ∃ W : Nat → Nat → Hp → Prop, (∃ m, W 0 m (upd H1 D (.lst []))) ∧ ∀ i m H, W i m H →
  (J.stop i H ∧ Q (.ref D) H) ∨ (J.go i H ∧ ∃ Nx : Hp → Prop, (∀ H', Nx H' → ∃ m', m' < m ∧ W (i + 1) m' H') ∧ ∀ x H', J.yld i H x H' → g x (wipe σ vs) H' fun σ2 H2 => wipe σ2 vs = wipe σ vs ∧ tt σ2 H2 fun b H3 =>
    if b = true then te σ2 H3 fun y H4 => ∃ acc, H4 D = some (.lst acc) ∧ acc.length < sizeLine ∧ Nx (upd H4 D (.lst (acc ++ [y]))) else Nx H3)) : tLc wi g tt te vs σ H Q := q
theorem disp {σ : St} {H : Hp} {Q : VK} {trs : List (TE × TE)} (q : ∀ p, H p = none → tPairs trs σ (upd H p (.dK [])) fun ps H2 => H2 p = some (.dK []) ∧ ∃ kvs : List (Key × V), ps = kvs.map (fun kv => (kV kv.1, kv.2)) ∧ kvs.length ≤ 15 ∧ Q (.ref p) (upd H2 p (.dK (mergeK [] kvs)))) : tDisp trs σ H Q := q
theorem pnil {σ : St} {H : Hp} {k : List (V × V) → Hp → Prop} (q : k [] H) : tPairs [] σ H k := q
theorem pcons {σ : St} {H : Hp} {k : List (V × V) → Hp → Prop} {tk tv : TE} {r : List (TE × TE)} (q : tk σ H fun x H1 => tv σ H1 fun y H2 => tPairs r σ H2 fun ps H3 => k ((x, y) :: ps) H3) : tPairs ((tk, tv) :: r) σ H k := q
theorem dget2 {σ : St} {H : Hp} {Q : VK} {td ty tx : TE} (q : td σ H fun x H1 => ∃ a, x = .ref a ∧ IsD H1 a ∧ ty σ H1 fun y H2 => tx σ H2 fun z H3 => ∃ o, DGet H3 a y o ∧ Q (o.getD z) H3) : tDGet2 td ty tx σ H Q := q
theorem iz {K : PySem.W.Frag} {σ : St} {H : Hp} {aa : TA} {R : It → Hp → Prop} (q : aa σ H fun vs H1 => ∃ a b xs ys, vs = [.ref a, .ref b] ∧ ((SqL K H1 a xs ∧ SqL K H1 b ys ∧ R (Itz K a b) H1) ∨ (SqT K H1 a xs ∧ SqT K H1 b ys ∧ R (RZ.ItzT K a b) H1))) : RZ.iZipA K aa σ H R := q
theorem tyes {σ : St} {H : Hp} {QT : Bool → Hp → Prop} (q : QT true H) : tYes σ H QT := q
theorem cxK {CX : CXT} {P : Program} {w : World} {K : PySem.W.Frag} {mg : Str → Option Value} {base : Heap} {N : List Str} {qual : Str} {sc : Scope} {f : Addr} {cd : Value} {A : Around} {outer : List Env} {s : Shared} {H : Hp} {E : XK} :
    (cxOf CX P w K mg base N qual sc f cd A outer s H E).nox.K = K := rfl
theorem cxKx {CX : CXT} {P : Program} {w : World} {K : PySem.W.Frag} {mg : Str → Option Value} {base : Heap} {N : List Str} {qual : Str} {sc : Scope} {f : Addr} {cd : Value} {A : Around} {outer : List Env} {s : Shared} {H : Hp} {E : XK} :
    (cxOf CX P w K mg base N qual sc f cd A outer s H E).K = K := rfl
theorem map_at {α : Type} {g : α → V} {l : List α} {i : Nat} {y : V} (h : (l.map g)[i]? = some y) : ∃ u, l[i]? = some u ∧ y = g u := by
  rw [List.getElem?_map] at h
  cases e : l[i]? with
  | none =>
    rw [e] at h
    cases h
  | some u =>
    rw [e] at h
    exact ⟨u, rfl, (Option.some.inj h).symm⟩
theorem cut_map (ns : List Int) (lo hi : Option Int) : ∃ ms : List Int, cutV (ns.map V.int) lo hi = ms.map V.int ∧ ms.length ≤ ns.length := by
  refine ⟨(ns.drop (HT.sIx (ns.map V.int).length 0 lo)).take (HT.sIx (ns.map V.int).length (ns.map V.int).length hi - HT.sIx (ns.map V.int).length 0 lo), ?_, ?_⟩
  · unfold cutV
    rw [List.map_take, List.map_drop]
  · rw [List.length_take, List.length_drop]
    omega
theorem un0 {H : Hp} {a b : Addr} {o : HO} (e : upd H a o b = none) : H b = none := by
  by_cases h : b = a
  · rw [h, upd_same] at e
    cases e
  · rw [upd_ne h] at e
    exact e
theorem upd2 {H : Hp} {a b : Addr} {o x : HO} (h : b ≠ a) (e : H b = some x) : upd H a o b = some x := by
  rw [upd_ne h]
  exact e
/-! ### texts -/
theorem cut_to (l : List Nat) {k : Int} (h : 0 ≤ k) : cutS (SX.S l) none (some k) = SX.S (l.take k.toNat) := by
  rw [C8.cutS_slice]
  exact SX.slice_to h
theorem cut_from (l : List Nat) {k : Int} (h : 0 ≤ k) : cutS (SX.S l) (some k) none = SX.S (l.drop k.toNat) := by
  rw [C8.cutS_slice]
  exact SX.slice_from h
theorem join_signs : ∀ cs : List Nat, TL.joinL [] (cs.map fun c => [c]) = cs
  | [] => rfl
  | [c] => rfl
  | c :: d :: r => by
    have ih := join_signs (d :: r)
    show [c] ++ ([] ++ TL.joinL [] ((d :: r).map fun c => [c])) = c :: d :: r
    rw [ih]
    rfl
theorem join_sg (cs : List Nat) : Txt.join (SX.S []) (cs.map fun c => (⟨#[c]⟩ : Str)) = SX.S cs := by
  have e : (cs.map fun c => (⟨#[c]⟩ : Str)) = (cs.map fun c => [c]).map SX.S := by
    rw [List.map_map]
    rfl
  rw [e, SX.join_S, join_signs]
theorem S_len0 : (SX.S []).length = 0 := rfl
theorem empty_S : Str.ofString "" = SX.S [] := by decide +kernel
theorem len_sg : ∀ cs : List Nat, ((cs.map fun c => (⟨#[c]⟩ : Str)).map (·.length)).sum = cs.length
  | [] => rfl
  | c :: r => by
    rw [List.map_cons, List.map_cons, List.sum_cons, len_sg r, List.length_cons]
    show 1 + r.length = r.length + 1
    omega
/-! ### [p(sign) for sign in text] -/
theorem lc_signs {l : List Nat} {p : Nat → Bool} {k : Nat} {te : TE} {vs : List Nat} {σ : St} {H1 : Hp} {D : Addr} {Qd : Hp → Prop}
    (hte : ∀ (c : Nat) (H' : Hp) (Q' : VK), c ∈ l → Q' (.bl (p c)) H' → te ((wipe σ vs).set k (some (.str ⟨#[c]⟩))) H' Q') (hw : ∀ v, wipe ((wipe σ vs).set k v) vs = wipe σ vs) (hl : l.length ≤ 100000)
    (hd : Qd (upd H1 D (.lst ((l.map p).map V.bl)))) :
    ∃ W : Nat → Nat → Hp → Prop, (∃ m, W 0 m (upd H1 D (.lst []))) ∧ ∀ i m H, W i m H →
      ((Its (SX.S l)).stop i H ∧ Qd H) ∨ ((Its (SX.S l)).go i H ∧ ∃ Nx : Hp → Prop, (∀ H', Nx H' → ∃ m', m' < m ∧ W (i + 1) m' H') ∧ ∀ x H', (Its (SX.S l)).yld i H x H' → gName k x (wipe σ vs) H' fun σ2 H2 => wipe σ2 vs = wipe σ vs ∧ tYes σ2 H2 fun b H3 =>
        if b = true then te σ2 H3 fun y H4 => ∃ acc, H4 D = some (.lst acc) ∧ acc.length < sizeLine ∧ Nx (upd H4 D (.lst (acc ++ [y]))) else Nx H3) := by
  have hz : (SX.S l).cps.size = l.length := by simp [SX.S]
  refine lc_it (walk_str (z := SX.S l)) (fun i H' => H' = upd H1 D (.lst (((l.take i).map p).map V.bl))) rfl (fun _ _ _ _ => trivial) ?_ ?_
  · rintro i x H H' hi rfl ⟨rfl, c, hc, rfl⟩
    have hc2 : l[i]? = some c := by
      have e : (SX.S l).cps[i]? = l[i]? := by simp [SX.S]
      rw [← e]
      exact hc
    have hm : c ∈ l := List.mem_of_getElem? hc2
    refine ⟨hw _, ?_⟩
    with_reducible refine Rg.tyes ?_
    with_reducible refine iteT ?_
    refine hte c _ _ hm ⟨_, upd_same, ?_, ?_⟩
    · rw [List.length_map, List.length_map, List.length_take, sizeLine_eq]
      omega
    · rw [upd_upd, List.take_add_one, hc2, List.map_append, List.map_append]
      rfl
  · rintro H rfl
    rw [hz, List.take_length]
    exact hd
theorem sgn_lt (a b : Nat) : decide (([a] : List Nat) < [b]) = decide (a < b) := by
  refine decide_eq_decide.mpr ⟨fun h => ?_, fun h => ?_⟩
  · cases h with
    | rel h => exact h
    | cons h => cases h
  · exact List.Lex.rel h
theorem sg_eq (a b : Nat) : decide ((⟨#[a]⟩ : Str) = ⟨#[b]⟩) = decide (a = b) := by
  refine decide_eq_decide.mpr ⟨fun h => ?_, fun h => by rw [h]⟩
  have e : ([a] : List Nat) = [b] := congrArg (fun x : Str => x.cps.toList) h
  injection e
theorem str_S (z : Str) : z = SX.S z.cps.toList := (SX.S_tl z).symm
theorem fold_rep (c : Nat) : ∀ (k : Nat) (acc : Array Nat), ((List.replicate k #[c]).foldl (· ++ ·) acc).toList = acc.toList ++ List.replicate k c
  | 0, acc => by simp
  | k + 1, acc => by
    rw [List.replicate_succ, List.foldl_cons, fold_rep c k, List.replicate_succ]
    simp
theorem mul_S (c : Nat) {n : Int} (h : 0 ≤ n) : Txt.mul (SX.S [c]) n = SX.S (List.replicate n.toNat c) := by
  unfold Txt.mul
  by_cases h1 : n < 1
  · rw [if_pos h1]
    have e : n = 0 := by omega
    subst e
    rfl
  · rw [if_neg h1]
    by_cases h2 : n = 1
    · subst h2
      rfl
    · rw [if_neg (by
        have : (SX.S [c]).length = 1 := rfl
        rw [this]
        simp [h2])]
      refine TL.ext_tl ?_
      have e := fold_rep c n.toNat #[]
      exact e
end Rg

set_option Elab.async false
set_option linter.all false
set_option maxRecDepth 100000
set_option maxHeartbeats 4000000
/-! ### t[::-1] of a tuple -/
namespace Rv
open PySem PyProof.Rows
section
variable {pr : Program} {wd : World} {B : Around} {Er : Value → Shared → Prop} {z : Shared}
theorem back_places (n : Nat) : Builtin.Slice.slicePlaces ((n : Int) - 1) (-1) (-1) = n := by
  simp only [Builtin.Slice.slicePlaces, show ¬ ((-1 : Int) > 0) by omega, show (-(-1 : Int)) = 1 by omega, Int.ediv_one, if_false]
  split <;> omega
theorem back_pick (l : List Value) : ∀ k, k ≤ l.length → ((List.range k).filterMap fun (m : Nat) => l.toArray[((l.length : Int) - 1 + (m : Int) * (-1)).toNat]?) = l.reverse.take k
  | 0, _ => by simp
  | k + 1, hk => by
    have hl : ((l.length : Int) - 1 + (k : Int) * (-1)).toNat = l.length - 1 - k := by omega
    have e : l.reverse[k]? = l.toArray[l.length - 1 - k]? := by
      rw [List.getElem?_reverse (by omega)]
      simp
    rw [List.range_succ, List.filterMap_append, back_pick l k (by omega), List.take_add_one, e, List.filterMap_cons, hl]
    cases l.toArray[l.length - 1 - k]? <;> rfl
theorem its_fields {sl : Addr} {u v x : Value} {Q : Value × Value × Value → Shared → Prop} (hs : z.heap.IsSliceOf sl u v x) (h : Q (u, v, x) z) : wpAny (model pr wd) B (Builtin.Slice.sliceFields (.ref sl)) Q Er z := by
  obtain ⟨o, g, _, e⟩ := hs
  exact wpAny_bind (wpAny_field g e (x := u) rfl (wpAny_bind (wpAny_field g e (x := v) rfl (wpAny_bind (wpAny_field g e (x := x) rfl (wpAny_pure h))))))
theorem back_applied {sl : Addr} {vk : Value} {n : Nat} {Q : Int × Int × Nat → Shared → Prop} (hs : z.heap.IsSliceOf sl .none .none vk) (pk : IsPart vk (some (-1))) (h : Q ((n : Int) - 1, -1, n) z) :
    wpAny (model pr wd) B (Builtin.Slice.sliceApplied (.ref sl) (pure (n : Int))) Q Er z := by
  have fin : wpAny (model pr wd) B (pure ((n : Int) - 1, (-1 : Int), Builtin.Slice.slicePlaces ((n : Int) - 1) (-1) (-1))) Q Er z := by
    rw [back_places]
    exact wpAny_pure h
  have parts : wpAny (model pr wd) B (Builtin.Slice.slicePartIndex vk) (fun c s' => c = some (-1) ∧ s' = z) Er z := HT.slicePart_ pk ⟨rfl, rfl⟩
  refine wpAny_bind (its_fields hs (wpAny_bind (wpAny_mono parts (fun c s' hc => ?_) fun _ _ e => e)))
  obtain ⟨rfl, rfl⟩ := hc
  exact wpAny_bind (slicePart_none (wpAny_bind (slicePart_none (wpAny_bind (wpAny_pure fin)))))
/-- what tuple.__getitem__ answers -/
theorem back_body {t sl : Addr} {l : List Value} {vk : Value} {R : Fin → Shared → Prop} (ht : IsTup z.heap t l.toArray) (hs : z.heap.IsSliceOf sl .none .none vk) (pk : IsPart vk (some (-1))) (hl : l.length ≤ sizeLine)
    (h : R (.done (.ret (.ref z.heap.objs.size))) { z with heap := z.heap.push { cls := .type "tuple", data := .seq l.reverse.toArray } }) : wpAny (model pr wd) B (Builtin.«tuple.__getitem__» ⟨[.ref t, .ref sl], []⟩) R Er z := by
  have hT : z.TypeIs (.ref sl) "slice" := hs.elim fun o k => ⟨o, k.1, k.2.1⟩
  have size : sizeOk (.seq l.reverse.toArray) := show l.reverse.toArray.size ≤ sizeLine by simpa using hl
  have pick : ((List.range l.toArray.size).filterMap fun (k : Nat) => l.toArray[((l.toArray.size : Int) - 1 + (k : Int) * (-1)).toNat]?).toArray = l.reverse.toArray := by
    rw [List.size_toArray, back_pick l l.length (Nat.le_refl _), List.take_of_length_le (Nat.le_of_eq List.length_reverse)]
  have step : (((l.toArray.size : Int) - 1 == 0 && (-1 : Int) == 1 && l.toArray.size == l.toArray.size) : Bool) = false := by
    rw [show ((-1 : Int) == 1) = false from rfl, Bool.and_false, Bool.false_and]
  refine wpAny_bind (m := Builtin.Tuple.tupleItemsOf (.ref t)) (tupleItemsOf_ ht (wpAny_bind (wpAny_typeOf hT ?_)))
  rw [if_pos (show (Value.type "slice" == Value.type "slice") = true from rfl)]
  refine wpAny_bind (back_applied (n := l.toArray.size) hs pk ?_)
  show wpAny (model pr wd) B (if ((l.toArray.size : Int) - 1 == 0 && (-1 : Int) == 1 && l.toArray.size == l.toArray.size) = true then _ else _) R Er z
  rw [step, if_neg Bool.false_ne_true, pick]
  first
    | exact wpAny_bind (m := Builtin.Tuple.tupleExact l.reverse.toArray) (wpAny_newObj_type (wpAny_pure h) size)
    | exact wpAny_bind (m := Builtin.Tuple.tupleExact l.reverse.toArray) (wpAny_newObj_type (wpAny_bind (wpAny_pure (wpAny_pure h))) size)
    | exact wpAny_bind (wpAny_bind (m := Builtin.Tuple.tupleExact l.reverse.toArray) (wpAny_newObj_type (wpAny_pure (wpAny_pure h)) size))
    | exact wpAny_bind (wpAny_bind (m := Builtin.Tuple.tupleExact l.reverse.toArray) (wpAny_newObj_type (wpAny_pure h) size))
theorem back_item {t sl : Addr} {l : List Value} {vk : Value} {Q : Value → Shared → Prop} (ht : IsTup z.heap t l.toArray) (hs : z.heap.IsSliceOf sl .none .none vk) (pk : IsPart vk (some (-1))) (hl : l.length ≤ sizeLine)
    (h : Q (.ref z.heap.objs.size) { z with heap := z.heap.push { cls := .type "tuple", data := .seq l.reverse.toArray } }) : wpAny (model pr wd) B (getItem (.ref t) (.ref sl)) Q Er z := by
  have road : wpAny (model pr wd) B (call (.builtin "tuple.__getitem__") [.ref t, .ref sl]) Q Er z := wpAny_call_entry PyProof.Rows.slot_tuple_getitem ht.typeIs entry_tuple_getitem (back_body ht hs pk hl ⟨_, rfl, h⟩) (args_tuple_getitem _ _)
  have found : wpAny (model pr wd) B (callSpecial? (.ref t) "__getitem__" [.ref sl]) (fun o s' => ∃ v, o = some v ∧ Q v s') Er z := wpAny_callSpecial?_slot ht.typeIs PyProof.Rows.slot_tuple_getitem (wpAny_mono road (fun v s' q => ⟨v, rfl, q⟩) fun _ _ e => e)
  unfold getItem
  first
    | refine wpAny_holding (wpAny_bind (wpAny_pure (wpAny_bind (wpAny_sequenceKey ht.typeIs (by decide) (wpAny_bind (wpAny_mono found (fun o s' q => ?_) fun _ _ e => e))))))
    | refine wpAny_bind (wpAny_pure (wpAny_bind (wpAny_sequenceKey ht.typeIs (by decide) (wpAny_bind (wpAny_mono found (fun o s' q => ?_) fun _ _ e => e)))))
    | refine wpAny_holding (wpAny_bind (wpAny_sequenceKey ht.typeIs (by decide) (wpAny_bind (wpAny_mono found (fun o s' q => ?_) fun _ _ e => e))))
    | refine wpAny_bind (wpAny_sequenceKey ht.typeIs (by decide) (wpAny_bind (wpAny_mono found (fun o s' q => ?_) fun _ _ e => e)))
  obtain ⟨v, rfl, q⟩ := q
  first
    | exact wpAny_pure q
    | exact wpAny_bind (wpAny_pure q)
end
end Rv
namespace Rg
open PySem L2 PySem.Spec PyProof.Rows
def tRevT (K : PySem.W.Frag) (te : TE) : TE := fun σ H Q => te σ H fun x H1 => ∃ a xs, x = .ref a ∧ SqT K H1 a xs ∧ ∀ p, H1 p = none → Q (.ref p) (upd H1 p (.tup xs.reverse))
section
variable {X : Cx}
theorem pe_revLX (K : PySem.W.Frag) {e : Expr} {te : TE} {k : Nat} {p1 p2 p3 pos : Pos} (he : PE X e te) (hK : X.K = K := by rfl) : PE X (.Subscript e (.Slice none none (some (.UnaryOp .USub (.Constant (.int 1) k p1) p2)) p3) pos) (tRevL K te) := by
  subst hK
  exact pe_revL he
/-- the slice object of «::-1» -/
theorem sl_back {pins : List (Addr × Obj)} {z : Shared} {σ : L2.St} {H : Hp} {R : Value → Shared → Prop} {k : Nat} {p1 p2 p3 : Pos} (I : Inv X pins σ H z)
    (h : ∀ vk z1, Inv X pins σ H z1 → IsPart vk (some (-1)) → R (.ref z1.heap.objs.size) { z1 with heap := z1.heap.push { cls := .type "slice", data := .fields #[.none, .none, vk] } }) :
    wpAny (model X.prog X.w) X.A (eval (.Slice none none (some (.UnaryOp .USub (.Constant (.int 1) k p1) p2)) p3) X.env) R X.xe z := by
  have st : PO X (some (.UnaryOp .USub (.Constant (.int 1) k p1) p2)) (tPart (tUn (rU fun i => .int (-i)) (tC (.int 1)))) := po_some (pe_un un_neg pe_int)
  have go := st.run pins z σ H (fun o H' => o = some (-1) ∧ H' = H) I ⟨1, rfl, -1, rfl, rfl, rfl⟩
  refine wpAny_Slice ?_
  rw [evalPart_none]
  refine wpAny_pure (wpAny_pure (thn go fun vk z1 hv => ?_))
  obtain ⟨o, H1, J, pk, eo, eh⟩ := hv
  subst eo eh
  exact h vk z1 J pk
theorem pe_revT (K : PySem.W.Frag) {e : Expr} {te : TE} {k : Nat} {p1 p2 p3 pos : Pos} (he : PE X e te) (hK : X.K = K := by rfl) : PE X (.Subscript e (.Slice none none (some (.UnaryOp .USub (.Constant (.int 1) k p1) p2)) p3) pos) (tRevT K te) := by
  subst hK
  constructor
  intro pins z σ H Q I hq
  refine Subscript_ (thn (he.run pins z σ H _ I hq) fun v z1 hv => ?_)
  obtain ⟨y, H1, J, ry, a, xs, rfl, hx, q⟩ := hv
  cases ry
  refine sl_back J fun vk z2 J2 pk => ?_
  have J3 : Inv X pins σ H1 { z2 with heap := z2.heap.push { cls := .type "slice", data := .fields #[.none, .none, vk] } } := J2.kept (t' := z2.toks) fun _ _ g => Heap.get?_push_of_some _ g
  obtain ⟨its, r, ht, hz⟩ := J3.tuple hx
  have hn : its.length ≤ sizeLine := r.length ▸ hz
  have made : ObjOk X.prog X.w (upd H1 (z2.heap.push { cls := .type "slice", data := .fields #[.none, .none, vk] }).objs.size (.tup xs.reverse)) ((z2.heap.push { cls := .type "slice", data := .fields #[.none, .none, vk] }).push { cls := .type "tuple", data := .seq its.reverse.toArray }) (z2.heap.push { cls := .type "slice", data := .fields #[.none, .none, vk] }).objs.size (.tup xs.reverse) :=
    ⟨by rw [List.length_reverse]; exact hz, _, r.reverse, IsTup.new _ _⟩
  have J4 := J3.laid (t' := z2.toks) (o := .tup xs.reverse) (fun _ _ g => Heap.get?_push_of_some _ g) (Nat.le_refl _) made
  exact tail_any (ops := [.ref a, .ref z2.heap.objs.size]) ht.typeIs (PyProof.Rows.slot_tuple_getitem.lookup) (Rv.back_item ht (Heap.IsSliceOf.new _ _ _ vk) pk hn ⟨.ref _, _, J4, rfl, q _ (J3.hok.fresh (Nat.le_refl _))⟩) (by with_unfolding_all rfl)
theorem revL {K : PySem.W.Frag} {te : TE} {σ : L2.St} {H : Hp} {Q : VK} (q : te σ H fun x H1 => ∃ a xs, x = .ref a ∧ SqL K H1 a xs ∧ ∀ p, H1 p = none → Q (.ref p) (upd H1 p (.lst xs.reverse))) : tRevL K te σ H Q := q
theorem revT {K : PySem.W.Frag} {te : TE} {σ : L2.St} {H : Hp} {Q : VK} (q : te σ H fun x H1 => ∃ a xs, x = .ref a ∧ SqT K H1 a xs ∧ ∀ p, H1 p = none → Q (.ref p) (upd H1 p (.tup xs.reverse))) : tRevT K te σ H Q := q
/-- x += y: ints, texts, lists -/
def ipX : TIp := fun x y H Q => (∃ i j, x = .int i ∧ y = .int j ∧ Q (.int (i + j)) H) ∨ (∃ i j, x = .str i ∧ y = .str j ∧ i.length + j.length ≤ sizeLine ∧ Q (.str (i ++ j)) H) ∨ rExt2 x y H Q
theorem ip_X : PIp X .Add ipX := by
  intro pins s σ H x y v u Q I r1 r2 h
  rcases h with h | h | h
  · exact ip_add pins s σ H x y v u Q I r1 r2 h
  · exact iop_add_str pins s σ H x y v u Q I r1 r2 h
  · exact iop_ext pins s σ H x y v u Q I r1 r2 h
theorem aug {i : Nat} {te : TE} {D : Ends} {σ : L2.St} {H : Hp} {x : V} (h : σ[i]? = some (some x)) (q : te σ H fun y H1 => ipX x y H1 fun z H2 => D.nx (σ.set i (some z)) H2) : tAug i te ipX D σ H := ⟨x, h, q⟩
theorem ipI2 {i j : Int} {H : Hp} {Q : VK} (q : Q (.int (i + j)) H) : ipX (.int i) (.int j) H Q := .inl ⟨i, j, rfl, rfl, q⟩
theorem ipS2 {i j : Str} {H : Hp} {Q : VK} (h : i.length + j.length ≤ sizeLine) (q : Q (.str (i ++ j)) H) : ipX (.str i) (.str j) H Q := .inr (.inl ⟨i, j, rfl, rfl, h, q⟩)
theorem ipL2 {l b : Addr} {xs zs : List V} {H : Hp} {Q : VK} (h : H l = some (.lst xs)) (h2 : H b = some (.lst zs)) (h3 : xs.length + zs.length ≤ sizeLine) (q : Q (.ref l) (upd H l (.lst (xs ++ zs)))) : ipX (.ref l) (.ref b) H Q := .inr (.inr ⟨l, b, xs, zs, rfl, rfl, h, h2, h3, q⟩)
theorem pa_starX (K : PySem.W.Frag) {e : Expr} {es : List Expr} {te : TE} {t : TA} {p : Pos} (he : PE X e te) (hr : PA X es t) (hK : X.K = K := by rfl) (hs : starEach (.Starred e p :: es) X.env = (true, eval e X.env) :: starEach es X.env := by rfl) : PA X (.Starred e p :: es) (StX.tStar K te t) := by
  subst hK
  exact StX.pa_star he hr hs
theorem star {K : PySem.W.Frag} {te : TE} {t : TA} {σ : L2.St} {H : Hp} {Q : List V → Hp → Prop} (q : te σ H fun x H1 => ∃ p xs, x = V.ref p ∧ (SqT K H1 p xs ∨ SqL K H1 p xs) ∧ t σ H1 fun ys H2 => Q (xs ++ ys) H2) : StX.tStar K te t σ H Q := q
theorem iT {K : PySem.W.Frag} {tl : TE} {σ : L2.St} {H : Hp} {R : It → Hp → Prop} (q : tl σ H fun x H1 => ∃ a, x = .ref a ∧ (∃ xs, SqT K H1 a xs) ∧ R (Itt K a) H1) : iTup K tl σ H R := q
theorem toV {v : V} {H : Hp} {Q : VK} {g : VK → Prop} (h : Q v H) (k : ∀ Q' : VK, Q' v H → g Q') : g Q := k Q h
theorem toH {v : V} {H : Hp} {Q : VK} {g : VK → Prop} (h : ∀ H', Same H H' → Q v H') (k : ∀ Q' : VK, (∀ H', Same H H' → Q' v H') → g Q') : g Q := k Q h
theorem S_emp (l : List Nat) : decide (SX.S l = Str.ofString "") = decide (l = []) := by
  rw [empty_S]
  refine decide_eq_decide.mpr ⟨fun h => ?_, fun h => by rw [h]⟩
  have e : (SX.S l).cps.toList = (SX.S []).cps.toList := by rw [h]
  simpa [SX.S] using e
theorem jc {t : TE} {ts : List TE} {acc : Str} {σ : L2.St} {H : Hp} {Q : Str → Hp → Prop} (q : t σ H fun x H1 => ∃ y : Str, x = .str y ∧ (acc ++ y).length ≤ sizeLine ∧ tJs ts (acc ++ y) σ H1 Q) : tJs (t :: ts) acc σ H Q := q
theorem jn {acc : Str} {σ : L2.St} {H : Hp} {Q : Str → Hp → Prop} (q : Q acc H) : tJs [] acc σ H Q := q
theorem jX {ts : List TE} {σ : L2.St} {H : Hp} {Q : VK} (q : tJs ts Str.empty σ H fun out H1 => Q (.str out) H1) : (fun (σ : L2.St) (H : Hp) (Q : VK) => tJs ts Str.empty σ H fun out H1 => Q (.str out) H1) σ H Q := q
theorem fm {te : TE} {σ : L2.St} {H : Hp} {Q : VK} (q : te σ H fun x H1 => (∃ y : Str, x = .str y ∧ y.length ≤ sizeLine ∧ Q (.str y) H1) ∨ ∃ i : Int, x = .int i ∧ i.natAbs.log2 < 1920 ∧ Q (.str (toString i)) H1) : tFmt te σ H Q := q
theorem cut_m1 (xs : List V) : cutV xs none (some (-1)) = xs.dropLast := by
  unfold cutV
  rw [List.dropLast_eq_take]
  show ((xs.drop 0).take (HT.sIx xs.length xs.length (some (-1)) - 0)) = _
  rw [List.drop_zero, Nat.sub_zero]
  congr 1
  unfold HT.sIx
  simp
  omega
theorem iteNt {A B : Prop} (h : B) : if (!true) = true then A else B := iteF h
theorem iteNf {A B : Prop} (h : A) : if (!false) = true then A else B := iteT h
theorem par3 {i j l : Nat} {aa : TA} {D : Ends} {σ : L2.St} {H : Hp} (q : aa σ H fun vs H1 => ∃ u v w, vs = [u, v, w] ∧ D.nx (((σ.set i (some u)).set j (some v)).set l (some w)) H1) : tPar3 i j l aa D σ H := q
theorem extrip {u v w : V} {R : V → V → V → Prop} (q : R u v w) : ∃ a b c, [u, v, w] = [a, b, c] ∧ R a b c := ⟨u, v, w, rfl, q⟩
theorem app {l : Addr} {xs : List V} {y : V} {H : Hp} {Q : VK} (h : H l = some (.lst xs)) (hz : xs.length < sizeLine) (q : Q .non (upd H l (.lst (xs ++ [y])))) : rAppend (.ref l) [y] H Q := ⟨l, xs, y, rfl, rfl, h, hz, q⟩
theorem popL {l : Addr} {xs : List V} {y : V} {H : Hp} {Q : VK} (h : H l = some (.lst (xs ++ [y]))) (q : Q y (upd H l (.lst xs))) : rPop (.ref l) [] H Q := by
  refine ⟨l, _, y, rfl, rfl, h, by simp, ?_⟩
  rw [List.dropLast_concat]
  exact q
theorem tyvL {K : PySem.W.Frag} {l : Addr} {xs : List V} {H : Hp} (h : H l = some (.lst xs)) : tyV K "list" (.ref l) H := .inl ⟨rfl, _, SqL.of h⟩
theorem same_mut {H H' : Hp} {x : Addr} {o : HO} (s : Same H H') (n : H x = none) : Same H (L2.upd H' x o) := fun c u e => by
  rw [upd_ne (ne_of_none e n)]
  exact s c u e
theorem atI_last {xs : List V} {y : V} : atI (xs ++ [y]) (-1) = some y := by
  have e : (xs ++ [y]).length = xs.length + 1 := by simp
  have h : ixN (xs.length + 1) (-1) = some xs.length := by
    unfold ixN
    simp
    try omega
  unfold atI
  rw [e, h]
  simp
end
end Rg

set_option Elab.async false
set_option linter.all false
set_option maxRecDepth 100000
set_option maxHeartbeats 4000000
/-! ### defs that an except suite calls with its exception -/
namespace Rg
open PySem PySem.Spec PyProof.Rows L2 HotX
/-- a promise that may speak of the handled exception: its address, class, dict -/
abbrev SpE := Addr → Value → Option Addr → Sp
structure FnE (P : Program) (w : World) (K : PySem.W.Frag) (mg : Str → Option Value) (base : Heap) (CX : CXT) (k : Nat) (f : Addr) (fd : FuncData) (ps : List Str) (sp : SpE) : Prop where
  many : ∀ {a : Addr} {c : Value} {d : Option Addr} {vs : List V} {H : Hp} {Q : VK} {E : XK}, sp a c d vs H Q E → vs.length = ps.length
  goes : ∀ {A : Around} {outer : List Env} {z : Shared} {H : Hp} {args : Args} {us : List Value} {vs : List V} {Q : VK} {E : XK} {p : Addr × Obj} {c : Value} {d : Option Addr},
    Zc c d p.2 → (∃ ws, p.2.data = .fields ws) → L2H.RoomH k A → L2H.PinOk outer H z p → Env0 P w K mg base A outer z H → BindsTo z fd args (ps.zip us) → Vals vs us → sp p.1 c d vs H Q E → codeAny (model P w) A (.call (.ref f) args) (CR CX outer P w H z Q E) z
section
variable {CX : CXT} {P : Program} {w : World} {K : PySem.W.Frag} {mg : Str → Option Value} {base : Heap} {k : Nat} {f : Addr}
/-- THE RULE for such a def: its body, run with the exception pinned -/
theorem FnE.of {x qual : Str} {params : Arguments} {body : List Stmt} {scope : Scope} {dV kV doc pm cdv ct oc : Value} {an od : Option Addr} {osl : Array (Option Value)} {N ps : List Str} {sp : SpE}
    (known : K.lookup f = some ⟨oc, od, .func (PySem.W.fnOf x qual params body scope dV kV doc pm an cdv ct), osl⟩) (code : PySem.W.codeIn K cdv qual = true) (S : FnScope N ps scope)
    (many : ∀ {a : Addr} {c : Value} {d : Option Addr} {vs : List V} {H : Hp} {Q : VK} {E : XK}, sp a c d vs H Q E → vs.length = ps.length)
    (runs : ∀ {A : Around} {outer : List Env} {z : Shared} {H : Hp} {vs : List V} {Q : VK} {E : XK} {p : Addr × Obj} {c : Value} {d : Option Addr}, Zc c d p.2 → (∃ ws, p.2.data = .fields ws) → L2H.RoomH k (A.deeper (envOfC qual scope z.heap.objs.size f cdv)) → sp p.1 c d vs H Q E →
      ∃ t, PSs (L2H.cxH CX P w K mg base N qual scope f cdv A outer z H E p) body t ∧ t { nx := fun _ H' => Q .non H', rt := Q } (L2.start N vs) H) :
    FnE P w K mg base CX (k + 1) f (PySem.W.fnOf x qual params body scope dV kV doc pm an cdv ct) ps sp where
  many := many
  goes := by
    intro A outer z H args us vs Q E p c d hz data room pin e0 binds rel promise
    have kept : ∀ b o, base.get? b = some o → z.heap.get? b = some o := fun b o g => (e0.bs b o g).1
    have inZ : K.In z.heap := e0.mod.kin.keeps kept
    have plain : ∀ y ∈ ps.zip us, scope.names.lookup y.1 = some .local ∨ (scope.names.lookup y.1 = some .cell ∧ ((cellsFrom (z.heap.objs.size + 1) scope.names []).lookup y.1).isSome = true) := by
      rintro ⟨n, u⟩ hy
      exact (S.par n (List.of_mem_zip hy).1).imp id fun c => ⟨c, PySem.W.cellsFrom_some _ _ _ (.inl c)⟩
    refine codeAny_call_function room.depth (inZ _ _ known) rfl S.co S.gen rfl (PySem.W.codeRec_of inZ code) (binds _ _ _ _ (wpAny_newFunctionEnv_cells S.kind plain fun env he z1 begun => ?_))
    cases he
    obtain ⟨t, ht, now⟩ := runs hz data (room.deeper _) promise
    have I := L2H.inv_startH (CX := CX) (E := E) (cd := cdv) S pin e0 (many promise) rel begun
    refine ⟨(e0.mod.nolimit.keeps kept).keeps begun.toInCall.keep, codeAny_func (wpAny_mono (ht.run [] z1 _ H _ I now) (fun way z2 done => ?_) fun _ _ out => out)⟩
    cases way with
    | ret u => exact done.elim fun v h => h.elim fun _ h => h.elim fun H2 h => ⟨v, H2, h.1.os, h.1.bare, h.1.base, h.1.hok, h.2.1, h.2.2⟩
    | next => exact done.elim fun _ h => h.elim fun H2 h => ⟨.non, H2, h.1.os, h.1.bare, h.1.base, h.1.hok, rfl, h.2⟩
    | brk => exact (done.elim fun _ h => h.elim fun _ h => h.2 : False).elim
    | cont => exact (done.elim fun _ h => h.elim fun _ h => h.2 : False).elim
end
section
variable {X : Cx} {CX : CXT} {k : Nat} {f : Addr} {fd : FuncData} {ps : List Str} {sp : SpE} {E : L2.St → XK} {x : Str} {pn pos : Pos} {e : Expr} {es : List Expr} {t : TA} {p : Addr × Obj} {c : Value} {d : Option Addr}
def tCE (sp : SpE) (a : Addr) (c : Value) (d : Option Addr) (E : L2.St → XK) (t : TA) : TE := fun σ H Q => t σ H fun vs H1 => sp a c d vs H1 Q (E σ)
/-- g(e, ..) where p's exception is handled -/
theorem pe_callE (F : FnE X.prog X.w X.K X.mg X.base CX k f fd ps sp) (room : L2H.RoomH k X.A) (hz : Zc c d p.2) (data : ∃ ws, p.2.data = .fields ws) (here : p ∈ X.pn) (hg : Gl X x) (hm : X.mg x = some (.ref f)) (hk : PySem.W.keepIn X.K (.ref f) = true) (hb : Binds X.K fd ps []) (out : ∀ σ, PassesAt CX X σ (E σ))
    (ha : PA X (e :: es) t) (nod : (x == ("__debug__" : Str)) = false := by decide) (each : starEach (e :: es) X.env = (false, eval e X.env) :: starEach es X.env := by rfl) (nostar : (backTo pos (starEach es X.env)).any (·.1) = false := by rfl) :
    PE X (.Call (.Name x pn) (e :: es) [] pos) (tCE sp p.1 c d E t) := by
  constructor
  intro pins z σ H Q I h
  have args := ha.run pos pins z σ H _ I h
  refine wpAny_Call_Name_kw (ld_glob I hg hm (PySem.W.callWith_K (h₀ := X.base) I.ok.mod.kin hk (thn args fun us z1 got => ?_) each nostar) nod)
  obtain ⟨vs, H1, J, rel, promise⟩ := got
  have lens : us.length = ps.length := rel.length ▸ F.many promise
  have bind : BindsTo z1 fd ⟨us, []⟩ (ps.zip us) := by
    have b := hb z1 us J.kIn (by rw [List.append_nil, lens])
    rwa [List.append_nil] at b
  obtain ⟨g1, g2, g3, g4, g5⟩ := J.pin p (List.mem_append_left _ here)
  have pin : L2H.PinOk X.stack H1 z1 p := ⟨g1, g2, fun m => (List.mem_cons.mp (J.stkSub p.1 m)).elim g3 g4, g5⟩
  refine ⟨J.kIn, wpAny_call (codeAny_mono (F.goes hz data room pin J.env0 bind rel promise) fun way z2 done => ?_)⟩
  match way, done with
  | .error er, done => exact out σ pins H1 z1 er z2 J done
  | .ok (.ret u), done => exact J.after done
/-- e.f, e the pinned exception -/
def tXfE (K : PySem.W.Frag) (a : Addr) (cls : Value) (d : Option Addr) (f : Str) (te : TE) : TE := fun σ H Q => te σ H fun x H1 => x = .ref a ∧ ∃ (C dd : Addr) (fs : List (Str × V)) (v : V), cls = .ref C ∧ d = some dd ∧ XfC K C ∧ PySem.W.findIn K (.ref C) f = some none ∧ H1 dd = some (.xd fs) ∧ fs.lookup f = some v ∧ Q v H1
theorem pe_xfE {te : TE} {n : Str} (hz : Zc c d p.2) (data : ∃ vs, p.2.data = .fields vs) (here : p ∈ X.pn) (he : PE X e te) (plain : attributeBase e n X.env (eval e X.env) = eval e X.env := by rfl) : PE X (.Attribute e n pos) (tXfE X.K p.1 c d n te) := by
  constructor
  intro pins z σ H Q I h
  refine attr_of plain (thn (he.run pins z σ H _ I h) fun u z1 got => ?_)
  obtain ⟨y, H1, J, ry, rfl, C, dd, fs, v, rfl, rfl, T, none_, hd, hv, q⟩ := got
  cases (show u = Value.ref p.1 from ry)
  have stands := (J.pin p (List.mem_append_left _ here)).1
  obtain ⟨m, ns, rel⟩ := (show ObjOk X.prog X.w H1 z1.heap dd (.xd fs) from J.hok dd _ hd)
  obtain ⟨od, ho, look⟩ := lookIn_ns ns
  obtain ⟨u, hu, ru⟩ := RelO.some_of (v := v) (o := m n) (hv ▸ rel n)
  obtain ⟨vs, hvs⟩ := data
  have inst : PySem.W.InstAt z1.heap p.1 p.2 C (some od) := ⟨stands, hz.1, (by unfold PySem.W.notCls; rw [hvs] <;> rfl), (by rw [hz.2]; exact ho)⟩
  exact HandSPX.exc_get J.kIn inst T.ga T.gg T.exC (PySem.W.findObj_own T.hdC none_ rfl (by rw [look, hu])) (handed_of ru) ⟨v, H1, J.tok _, ru, q⟩
end
end Rg
namespace Rg
open PySem L2
theorem op_eqU {X : Cx} (K : PySem.W.Frag) (hu : X.A.units + 64 < cLine) (hK : X.K = K := by rfl) : OpR X (compareOp .Eq) (rEqX K) := by
  subst hK
  exact OpR.or op_eq (op_eqD hu)
theorem xfI {K : PySem.W.Frag} {C dd a : Addr} {fs : List (Str × V)} {f : Str} {v : V} {σ : L2.St} {H : Hp} {Q : VK} {i : Nat} (hT : XfC K C) (hn : PySem.W.findIn K (.ref C) f = some none) (hd : H dd = some (.xd fs)) (hl : fs.lookup f = some v) (hs : σ[i]? = some (some (.ref a))) (q : Q v H) :
    tXfE K a (.ref C) (some dd) f (tVar i) σ H Q := ⟨_, hs, rfl, C, dd, fs, v, rfl, rfl, hT, hn, hd, hl, q⟩
end Rg
/-! ### try: .. except (x, y, z) as n: .. -/
namespace Rg
open PySem PySem.Spec PyProof.Rows L2
theorem flies_on {B h h2 : Heap} {l : List Env} {a : Addr} {Z : Obj → Prop} (kept : ∀ b o, h.get? b = some o → h2.get? b = some o) : HandSPX.FlyingZ B l a Z h → HandSPX.FlyingZ B l a Z h2
  | ⟨st, nb, fr, oe, vs, T, oT, ts, g, z, dt, r⟩ => ⟨fun b o e => kept b o (st b o e), nb, fr.of_keeps fun b o e _ => ⟨o, kept b o e, rfl⟩, oe, vs, T, oT, ts, kept _ _ g, z, dt, r.1, r.2.1, r.2.2.1, kept _ _ r.2.2.2.1, r.2.2.2.2⟩
/-- what such a clause wishes of an exception that flies out of the body; slot i is n's -/
def wAs3 (K : PySem.W.Frag) (c1 c2 c3 : Value) (i : Nat) (ts : Addr → Value → Option Addr → TS) (out : WX) (D : Ends) : WX := fun cls d σ H => ∃ b, PySem.W.exmAny K cls [c1, c2, c3] = some b ∧
  (b = false → out cls d σ H) ∧ (b = true → i < σ.length → ∀ a, H a = none → ts a cls d { nx := fun σ2 H2 => D.nx (σ2.set i none) H2, rt := D.rt, bk := fun σ2 H2 => D.bk (σ2.set i none) H2, ct := fun σ2 H2 => D.ct (σ2.set i none) H2 } (σ.set i (some (.ref a))) H)
section
variable {X : Cx} {x1 x2 x3 n : Str} {c1 c2 c3 : Value} {i kt : Nat} {b₀ : Stmt} {body suite : List Stmt} {q1 q2 q3 qt qh pos : Pos} {tb : WX → TS} {ts : Addr → Value → Option Addr → TS} {out : WX}
theorem ld_name {pins : List (Addr × Obj)} {z : Shared} {σ : L2.St} {H : Hp} {x : Str} {c : Value} {np : Pos} {Q Er : Value → Shared → Prop} (I : Inv X pins σ H z) (N : Names X x c) (h : Q c z) : wpAny (model X.prog X.w) X.A (eval (.Name x np) X.env) Q Er z :=
  N.2.2.elim (fun m => ld_glob I N.1 m h N.2.1) fun m => ld_blt I N.1 m.1 m.2.1 h m.2.2 N.2.1
/-- the clause's own tuple -/
theorem ld_three {pins : List (Addr × Obj)} {z : Shared} {σ : L2.St} {H : Hp} {Q Er : Value → Shared → Prop} (I : Inv X pins σ H z) (N1 : Names X x1 c1) (N2 : Names X x2 c2) (N3 : Names X x3 c3)
    (h : Q (.ref z.heap.objs.size) { z with heap := z.heap.push { cls := .type "tuple", data := .seq [c1, c2, c3].toArray } }) : wpAny (model X.prog X.w) X.A (eval (.Tuple [.Name x1 q1, .Name x2 q2, .Name x3 q3] kt qt) X.env) Q Er z := by
  have three : ([c1, c2, c3] : List Value).length ≤ sizeLine := by
    rw [sizeLine_eq]
    show 3 ≤ 16777216
    decide
  exact wpAny_Tuple_spliced (Calls.spliced_cons (ld_name I N1 (Calls.spliced_cons (ld_name I N2 (Calls.spliced_cons (ld_name I N3 (Calls.spliced_nil ⟨three, h⟩)))))))
/-- the suite has run: its name is unbound -/
theorem suite_done {pins : List (Addr × Obj)} {a : Addr} {oe : Obj} {D : Ends} {way : Flow} {z : Shared} (ok : X.Ok) (hN : X.N.Nodup) (hi : X.N[i]? = some n) (hln : X.env.kindOf n = some .local)
    (h : SP (X.suite a ((a, oe) :: (X.pn ++ pins))) [] { nx := fun σ2 H2 => D.nx (σ2.set i none) H2, rt := D.rt, bk := fun σ2 H2 => D.bk (σ2.set i none) H2, ct := fun σ2 H2 => D.ct (σ2.set i none) H2 } way z) :
    wpAny (model X.prog X.w) X.A (do bindName X.env n .none; unbindBehindTheSuite X.env n qh) (fun _ z2 => SP X pins D way z2) X.xe z := by
  have gone : ∀ {σ2 : L2.St} {H2 : Hp} {R : Shared → Prop}, Inv (X.suite a ((a, oe) :: (X.pn ++ pins))) [] σ2 H2 z → (∀ z2, Inv X pins (σ2.set i none) H2 z2 → R z2) → wpAny (model X.prog X.w) X.A (do bindName X.env n .none; unbindBehindTheSuite X.env n qh) (fun _ z2 => R z2) X.xe z :=
    fun J r => gone_ok (J.unsuite ok) hN hi hln r
  match way, h with
  | .ret _, ⟨v, _, _, J, r, q⟩ => exact gone J fun _ J2 => ⟨v, _, _, J2, r, q⟩
  | .next, ⟨_, _, J, q⟩ => exact gone J fun _ J2 => ⟨_, _, J2, q⟩
  | .brk, ⟨_, _, J, q⟩ => exact gone J fun _ J2 => ⟨_, _, J2, q⟩
  | .cont, ⟨_, _, J, q⟩ => exact gone J fun _ J2 => ⟨_, _, J2, q⟩
theorem ps_try_as3 (frames : X.stack = X.env :: X.outer) (lives : X.env.frame = some X.env.locals) (hN : X.N.Nodup) (hi : X.N[i]? = some n) (hln : X.env.kindOf n = some .local) (N1 : Names X x1 c1) (N2 : Names X x2 c2) (N3 : Names X x3 c3) (tk : Takes X out)
    (runs : ∀ (W : WX) (pn : List (Addr × Obj)) (xe : Value → Shared → Prop), Takes (X.tr pn xe) W → PassesOwn (model X.prog X.w) X.A X.env xe → PSs (X.tr pn xe) body (tb W))
    (held : ∀ (a : Addr) (oe : Obj) (cls : Value) (d : Option Addr) (pn : List (Addr × Obj)), Zc cls d oe → (∃ vs, oe.data = .fields vs) → PSs (X.suite a ((a, oe) :: pn)) (b₀ :: suite) (ts a cls d)) :
    PS X (.Try body [.ExceptHandler (some (.Tuple [.Name x1 q1, .Name x2 q2, .Name x3 q3] kt qt)) (some n) (b₀ :: suite) qh] [] [] pos) (fun D σ H => tb (wAs3 X.K c1 c2 c3 i ts out D) D σ H) := by
  constructor
  intro pins z σ H D I h
  have ok := I.ok
  have ours : X.A.frames = some (X.env :: X.outer) := frames ▸ ok.frames
  have takes : Takes (X.tr (X.pn ++ pins) fun e z1 => wpAny (model X.prog X.w) X.A (noteFrame e X.env) (fun _ z2 => wpAny (model X.prog X.w) X.A (setFlight e none) (fun _ z3 =>
      wpAny (model X.prog X.w) X.A (handleBy e X.env [.ExceptHandler (some (.Tuple [.Name x1 q1, .Name x2 q2, .Name x3 q3] kt qt)) (some n) (b₀ :: suite) qh]) (SP X pins D) X.xe z3) X.xe z2) X.xe z1) (wAs3 X.K c1 c2 c3 i ts out D) := by
    rintro _ z1 ⟨a, B, z0, pins0, σ1, H1, cls, d, rfl, J0, base_, slots, sky, na, os, bare, b, hb, no, yes⟩
    have J : Inv X pins σ1 H1 z0 := J0.ofTry ok
    rw [← show X.stack = X.env :: X.outer from frames] at ours
    refine Sky.land Zc.steady (frames ▸ ours) lives (frames ▸ sky) fun h2 flies up2 => ?_
    have J2 : Inv X pins σ1 H1 { z1 with heap := h2 } := J.landed base_ flies.1 (slots.trans up2) os bare
    have apart : ∀ {hh : Heap}, HandSPX.FlyingZ B (X.env :: X.outer) a (Zc cls d) hh → a ∉ frs (X.env :: X.outer) := fun fl m => by
      obtain ⟨oe, vs, g, _, dt⟩ := fl.there
      obtain ⟨_, o, g2, no_⟩ := fl.2.2.1.mem m
      cases g.symm.trans g2
      exact no_ vs dt
    have nL : a ≠ X.env.locals := fun e => apart flies (List.mem_filterMap.mpr ⟨X.env, List.mem_cons_self, lives.trans (congrArg some e.symm)⟩)
    have nF : a ∉ X.fs := fun m => by
      obtain ⟨e, he, q⟩ := List.mem_filterMap.mp m
      exact apart flies (List.mem_filterMap.mpr ⟨e, List.mem_cons_of_mem _ he, q⟩)
    obtain ⟨oe, vs, stands, hz, dt⟩ := flies.there
    -- the clause's test
    have push : ∀ b o, h2.get? b = some o → (h2.push { cls := .type "tuple", data := .seq [c1, c2, c3].toArray }).get? b = some o := fun _ _ g => Heap.get?_push_of_some _ g
    have flies3 := flies_on push flies
    have up3 := slots.trans (up2.trans (Heap.UpToSlots.of_keeps push))
    have J3 : Inv X pins σ1 H1 { z1 with heap := h2.push { cls := .type "tuple", data := .seq [c1, c2, c3].toArray } } := J.landed base_ flies3.1 up3 os bare
    have kind : PySem.W.Looks (model X.prog X.w) (h2.push { cls := .type "tuple", data := .seq [c1, c2, c3].toArray }) (typeOf (.ref a)) cls := fun _ _ _ _ k q => wpAny_typeOf_ref (k _ _ (push _ _ stands)) (by rw [hz.1]; exact q)
    have asked := PySem.W.exm_tup3 (M := model X.prog X.w) J3.kIn kind (Heap.get?_push_size h2 rfl) hb
    refine wpAny_handleBy_cons (codeAny_handlers_test ?_) (fun q => by cases q)
    refine ld_three (X := X.suite a ((a, oe) :: (X.pn ++ pins))) (J2.suite stands dt na nL nF) N1 N2 N3 ?_
    refine asked.here ?_
    cases b with
    | false =>
      show wpAny _ X.A (handleBy (.ref a) X.env []) _ _ _
      refine wpAny_handleBy_nil ?_
      have on : wpAny (model X.prog X.w) X.A (setFlight (.ref a) X.env.frame) (fun _ z4 => wpAny (model X.prog X.w) X.A (throw (.ref a) : Sem Flow) (SP X pins D) X.xe z4) X.xe { z1 with heap := h2.push { cls := .type "tuple", data := .seq [c1, c2, c3].toArray } } := by
        rw [lives]
        exact HandSPX.setFlight_upZ flies3 fun h4 hh4 up4 => wpAny_throw (tk _ _ ⟨a, B, z0, pins, σ1, H1, cls, d, rfl, J, base_, up3.trans up4, .inr (.inr (frames ▸ hh4)), na, os, bare, no rfl⟩)
      obtain ⟨_, _, _, o5, v5, T, _, _, g5, _, d5, f5, _⟩ := id flies3
      unfold PySem.passOn
      refine wpAny_bind (wpAny_field g5 d5 f5 ?_)
      rw [if_neg (show ¬ ((Value.ref T == Value.none) = true) from fun q => by cases q)]
      first
        | exact wpAny_bind on
        | exact wpAny_bind (wpAny_pure (wpAny_bind on))
    | true =>
      refine codeAny_handlers_suite_as (HandSPX.lands_againZ flies3 fun h4 flies4 up4 => ?_)
      obtain ⟨o4, v4, g4, z4, d4⟩ := flies4.there
      have J4 : Inv X pins σ1 H1 { z1 with heap := h4 } := J.landed base_ flies4.1 (up3.trans up4) os bare
      refine store_ok (X := X.suite a ((a, o4) :: (X.pn ++ pins))) (v := .ref a) (J4.suite g4 d4 na nL nF) hN hi (.inl hln) rfl (fun z5 J5 => ?_) (.inr hln)
      exact wpAny_mono ((held a o4 cls d (X.pn ++ pins) z4 ⟨_, d4⟩).run [] z5 _ H1 _ J5 (yes rfl (by rw [J4.len]; exact (List.getElem?_eq_some_iff.mp hi).1) a na)) (fun way z6 done => suite_done ok hN hi hln done) fun _ _ never => never.elim
  refine wpAny_Try_except (wpAny_mono ((runs _ _ _ takes PassesOwn.looking).run [] z σ H D (I.toTry _) h) (fun way z1 done => ?_) fun _ _ e => e)
  match way, done with
  | .next, ⟨_, _, J, q⟩ => exact wpAny_execs_nil ⟨_, _, J.ofTry ok, q⟩
  | .ret _, ⟨v, _, _, J, r, q⟩ => exact ⟨v, _, _, J.ofTry ok, r, q⟩
  | .brk, ⟨_, _, J, q⟩ => exact ⟨_, _, J.ofTry ok, q⟩
  | .cont, ⟨_, _, J, q⟩ => exact ⟨_, _, J.ofTry ok, q⟩
end
end Rg

set_option Elab.async false
set_option linter.all false
set_option maxRecDepth 100000
set_option maxHeartbeats 4000000
/-! ### for i, x in enumerate(a tuple) -/
namespace EnT
open PySem PySem.Spec PyProof.Rows L2
abbrev itO (t : Addr) : Obj := { cls := .type "tuple_iterator", data := .fields #[.ref t, .int 0 0] }
abbrev enO (j : Addr) : Obj := { cls := .type "enumerate", data := .fields #[.none, .bool false, .ref j, rawInt 0, .none, .none] }
abbrev enH (h : Heap) (t : Addr) : Heap := (h.push (itO t)).push (enO h.objs.size)
theorem born (t : Addr) (items : Array Value) :
    Meets (Builtin.«enumerate.__new__» ⟨[.type "enumerate", .ref t], []⟩) (fun _ R z => z.heap.IsTuple t items ∧ R (.ok (.ret (.ref (z.heap.push (itO t)).objs.size))) { z with heap := enH z.heap t }) := by
  refine .of_wp fun prog w A R z hz => ?_
  obtain ⟨hh, gg, dd, tt, oo⟩ := z
  have below := sub_enumerate
  have begun : ∀ {A1 : Around} {E1 Q1 : Value → Shared → Prop}, Q1 (.ref hh.objs.size) ⟨hh.push (itO t), gg, dd, tt, oo⟩ → wpAny (model prog w) A1 (pyIter (.ref t)) Q1 E1 ⟨hh, gg, dd, tt, oo⟩ :=
    fun q1 => wpAny_pyIter_tuple (s := ⟨hh, gg, dd, tt, oo⟩) hz.1 q1
  wp_walk using begun
  refine wpAny_stack_any fun below_ => wpAny_pure ?_
  split
  · rename_i c _ _ _ _ _
    cases (c == Value.type "enumerate") <;> (wp_walk using begun) <;> exact ⟨_, rfl, hz.2⟩
  · wp_walk using begun
    exact ⟨_, rfl, hz.2⟩
theorem makes {prog : Program} {w : World} {B : Around} {Er : Value → Shared → Prop} {z : Shared} {t : Addr} {items : Array Value} {Q : Value → Shared → Prop} (ht : z.heap.IsTuple t items)
    (q : IsEnum (enH z.heap t) (z.heap.objs.size + 1) z.heap.objs.size 0 .none → (enH z.heap t).IsTupleIter z.heap.objs.size t 0 → (∀ b o, z.heap.get? b = some o → (enH z.heap t).get? b = some o) → Q (.ref (z.heap.objs.size + 1)) { z with heap := enH z.heap t }) :
    wpAny (model prog w) B (call (.type "enumerate") [.ref t]) Q Er z := by
  have size1 : (z.heap.push (itO t)).objs.size = z.heap.objs.size + 1 := Heap.size_push ..
  have isE : IsEnum (enH z.heap t) (z.heap.objs.size + 1) z.heap.objs.size 0 .none := by
    have e := Heap.get?_push_size (z.heap.push (itO t)) (o := enO z.heap.objs.size) rfl
    rw [size1] at e
    exact e
  refine callType_new F.called_enumerate (by decide) (F.typeCall_enumerate_1 _) (F.newCall_enumerate_1 _) (fun ob => F.args_object_init_2 ob _) F.entry_enumerate_new (born t items) ⟨ht, ?_⟩
  show _ ∧ _
  rw [size1]
  exact ⟨⟨_, isE, rfl⟩, q isE ⟨_, Heap.get?_push_of_some _ (Heap.get?_push_size _ rfl), rfl, rfl⟩ fun b o g => Heap.get?_push_of_some _ (Heap.get?_push_of_some _ g)⟩
/-- what such a walk gives: new pairs -/
def Iet (K : PySem.W.Frag) (a : Addr) : It where
  go := fun i H => ∃ (xs : List V) (x : V), SqT K H a xs ∧ xs[i]? = some x
  yld := fun i H v H' => ∃ T x, v = .ref T ∧ H T = none ∧ H' = upd H T (.tup [.int (i : Nat), x]) ∧ ∀ xs, SqT K H a xs → xs[i]? = some x
  stop := fun i H => ∃ xs : List V, SqT K H a xs ∧ xs.length ≤ i
theorem apart {h : Heap} {a e it : Addr} {items : Array Value} {i : Nat} {j : Int} {old : Value} (ht : h.IsTuple a items) (hi : h.IsTupleIter it a i) (he : IsEnum h e it j old) : a ≠ it ∧ e ≠ a := by
  obtain ⟨o, g, c, n, d⟩ := ht
  refine ⟨fun z => ?_, fun z => ?_⟩
  · obtain ⟨o2, g2, c2, d2⟩ := hi
    rw [← z, g] at g2
    obtain rfl := Option.some.inj g2
    rw [d] at d2
    cases d2
  · have g2 : h.get? e = _ := he
    rw [z, g] at g2
    obtain rfl := Option.some.inj g2
    cases d
theorem turns {P : Program} {w : World} {K : PySem.W.Frag} {elts : List Expr} {kk : Nat} {tp : Pos} (a e it : Addr) :
    Turn P w K (.Tuple elts kk tp) (Iet K a) [e, it] e (fun i h => (∃ old, IsEnum h e it ((i : Nat) : Int) old) ∧ h.IsTupleIter it a i ∧ e ≠ it) where
  mem := List.mem_cons_self
  obj := fun i h st b hb => by
    obtain ⟨⟨old, he⟩, ⟨o, g, _, d⟩, _⟩ := st
    rcases List.mem_cons.mp hb with rfl | hb
    · exact ⟨_, he, fun v z => nomatch z⟩
    · rw [List.mem_singleton.mp hb]
      refine ⟨o, g, fun v z => ?_⟩
      rw [d] at z
      cases z
  keep := fun i h h' st kp => by
    obtain ⟨⟨old, he⟩, hi, ne⟩ := st
    exact ⟨⟨old, kp e List.mem_cons_self _ he⟩, hi.at fun o g => kp it (by simp) o g, ne⟩
  item := by
    intro X eP eW eK calm i pins z σ H Er I free st more
    subst eP eW eK
    obtain ⟨⟨old, he⟩, hi, ne⟩ := st
    obtain ⟨xs, x, seq, hx⟩ := more
    obtain ⟨its, rel, tup, _⟩ := I.tuple seq
    obtain ⟨u, hu, ru⟩ := rel.get hx
    have ht : z.heap.IsTuple a its.toArray := tup
    obtain ⟨n1, n2⟩ := apart ht hi he
    have lt : i < its.toArray.size := by
      obtain ⟨lt, _⟩ := List.getElem?_eq_some_iff.mp hu
      simpa using lt
    have le : e < z.heap.objs.size := Heap.lt_size he
    have li : it < z.heap.objs.size := by
      obtain ⟨_, g, _⟩ := hi
      exact Heap.lt_size g
    refine wpAny_pyNext_enum_itemD (Draws.tuple (prog := X.prog) (w := X.w) (A := X.A.in1) (I.ok.hd calm) it a n1 its.toArray) he ⟨hi, ht⟩ lt ne (by simp [ne, n2]) fun v h1 tk1 hv out hi1 mk _ kp => ?_
    obtain rfl : u = v := Option.some.inj ((by simpa using hu : its.toArray[i]? = some u).symm.trans hv)
    refine ⟨_, rfl, wpAny_letOwnedTupleGo_enum (s := { z with heap := h1, toks := tk1 + 1 }) out fun h2 isE same => ?_⟩
    have mk2 := (same.2 z.heap.objs.size (Nat.ne_of_gt le)).trans mk
    have ok2 : ObjOk X.prog X.w (upd H z.heap.objs.size (.tup [.int (i : Nat), x])) h2 z.heap.objs.size (.tup [.int (i : Nat), x]) := ⟨(by decide : 2 ≤ sizeLine), [.int i tk1, u], .cons ⟨_, rfl⟩ (.cons ru .nil), ⟨_, mk2, rfl, _, rfl⟩⟩
    have J := I.turnedNew (t' := tk1 + 1) (ch := [e, it]) (h' := h2) (fun b o nb g => (same.2 b fun c => nb (c ▸ List.mem_cons_self)).trans (kp b o (fun c => nb (c ▸ List.mem_cons_self)) (fun c => nb (by simp [c])) g)) free (Nat.le_refl _) ok2
    refine ⟨_, _, J, show RelV (.ref z.heap.objs.size) _ from rfl, ⟨_, x, rfl, I.hok.fresh (Nat.le_refl _), rfl, fun ys hy => (I.tuple_inj hy seq) ▸ hx⟩, ⟨⟨u, ?_⟩, hi1.1.at fun o g => (same.2 it ne.symm).trans g, ne⟩, fun b hb => ?_⟩
    · rw [show ((i + 1 : Nat) : Int) = (i : Int) + 1 from Int.natCast_succ i]
      exact isE
    · have lb : b < z.heap.objs.size := (List.mem_cons.mp hb).elim (fun c => c ▸ le) fun hb => List.mem_singleton.mp hb ▸ li
      rw [upd_ne (Nat.ne_of_lt lb)]
      exact (free b hb).1
  done := by
    intro X eP eW eK calm i pins z σ H Er I free st over
    subst eP eW eK
    obtain ⟨⟨old, he⟩, hi, ne⟩ := st
    obtain ⟨xs, seq, hx⟩ := over
    obtain ⟨its, rel, tup, _⟩ := I.tuple seq
    have ht : z.heap.IsTuple a its.toArray := tup
    obtain ⟨n1, n2⟩ := apart ht hi he
    have len := rel.length
    obtain ⟨f0, f1, f2, f3, f4, f5⟩ := free it (by simp)
    have big : its.toArray[i]? = none := by
      simp only [List.getElem?_toArray, List.getElem?_eq_none_iff]
      omega
    have ends : ∀ (z2 : Shared) (Q2 : Value → Shared → Prop) (E2 : Value → Shared → Prop), z2.heap.IsTupleIter it a i ∧ z2.heap.IsTuple a its.toArray → (∀ h' e2, Heap.ExtBut it z2.heap h' → (∃ o, h'.get? e2 = some o ∧ o.cls = .type "StopIteration") → E2 (.ref e2) { z2 with heap := h' }) →
        wpAny (model X.prog X.w) X.A.in1 (Builtin.SmallTypes.nextOf (.ref it)) Q2 E2 z2 := fun z2 Q2 E2 st2 hE => wpAny_nextOf_tuple_end (I.ok.hd calm) st2.1 st2.2 big hE
    refine wpAny_pyNext_enum_endD (n := i) (P := fun _ _ => True) (St := fun j h => j = i ∧ h.IsTupleIter it a i ∧ h.IsTuple a its.toArray) (fp := [it, a]) ⟨?_, ?_, ?_, ?_⟩ he ⟨rfl, hi, ht⟩ fun h' same => ⟨rfl, I.turned (t' := z.toks) (fun b o nb g => same b o nb g) f0 f1 f3 f4 f5⟩
    · exact fun j h st2 => st2.2.1.elim fun o g => ⟨o, g.1⟩
    · exact fun j h h' st2 kp => ⟨st2.1, st2.2.1.at fun o g => kp it (by simp) o g, st2.2.2.at fun o g => kp a (by simp) o g⟩
    · exact fun j z2 Q2 E2 lt st2 _ => absurd lt (by rw [st2.1]; exact Nat.lt_irrefl _)
    · exact fun z2 Q2 E2 st2 hE => ends z2 Q2 E2 st2.2 hE
  self := fun A i z Q E st h => st.1.elim fun _ he => wpAny_pyIter_enum he h
end EnT
namespace Rg
open PySem L2 PySem.Spec PyProof.Rows
/-- enumerate of a list or of a tuple -/
def iEnX (K : PySem.W.Frag) (ta : TA) : TI := fun σ H R => ta σ H fun vs H1 => ∃ a xs, vs = [.ref a] ∧ ((SqL K H1 a xs ∧ R (Ite K a) H1) ∨ (SqT K H1 a xs ∧ R (EnT.Iet K a) H1))
theorem pi_enX {X : Cx} (K : PySem.W.Frag) {e : Expr} {ta : TA} {p pos tp : Pos} {elts : List Expr} {kk : Nat} (hg : Gl X "enumerate") (hm : X.mg "enumerate" = none) (ha : PA X [e] ta) (hK : X.K = K := by rfl) (hs : starEach [e] X.env = [(false, eval e X.env)] := by rfl) :
    PI X (.Tuple elts kk tp) (.Call (.Name "enumerate" p) [e] [] pos) (iEnX K ta) := by
  subst hK
  have old := fun (ta' : TA) (ha' : PA X [e] ta') => pi_enum (p := p) (pos := pos) (tpos := tp) (elts := elts) (kk := kk) hg hm ha' hs
  constructor
  intro pins z σ H R I h
  refine Call_ (ld_blt I hg hm boot_enumerate (PyProof.Rows.callWith_type1 (thn (ha.run pos pins z σ H _ I h) fun us z1 got => ?_) hs rfl))
  obtain ⟨vs, H1, I1, rel, a, xs, rfl, q⟩ := got
  match us, rel with
  | [_], .cons r .nil =>
  cases r
  rcases q with ⟨seq, q⟩ | ⟨seq, q⟩
  · obtain ⟨its, rv, lst, _⟩ := I1.list seq
    refine call_enumerate_list lst.isList fun h' isE isI size kp => wpAny_pyIter_enum isE ?_
    have J : Inv X pins σ H1 { z1 with heap := h' } := I1.kept (t' := z1.toks) kp
    refine ⟨_, _, _, _, H1, rfl, J, turn_enum a (z1.heap.objs.size + 1) z1.heap.objs.size, ⟨⟨.none, isE⟩, isI, Nat.succ_ne_self _⟩, fun b hb => ?_, q⟩
    have big : z1.heap.objs.size ≤ b := (List.mem_cons.mp hb).elim (fun c => c ▸ Nat.le_succ _) fun hb => List.mem_singleton.mp hb ▸ Nat.le_refl _
    exact I1.fpOk big (I1.hok.fresh big)
  · obtain ⟨its, rv, tup, _⟩ := I1.tuple seq
    refine EnT.makes (items := its.toArray) (show z1.heap.IsTuple a its.toArray from tup) fun isE isI kp => wpAny_pyIter_enum isE ?_
    have J : Inv X pins σ H1 { z1 with heap := EnT.enH z1.heap a } := I1.kept (t' := z1.toks) kp
    refine ⟨_, _, _, _, H1, rfl, J, EnT.turns a (z1.heap.objs.size + 1) z1.heap.objs.size, ⟨⟨.none, isE⟩, isI, Nat.succ_ne_self _⟩, fun b hb => ?_, q⟩
    have big : z1.heap.objs.size ≤ b := (List.mem_cons.mp hb).elim (fun c => c ▸ Nat.le_succ _) fun hb => List.mem_singleton.mp hb ▸ Nat.le_refl _
    exact I1.fpOk big (I1.hok.fresh big)
theorem walk_enT {K : PySem.W.Frag} {a : Addr} {xs : List V} : Walk (EnT.Iet K a) xs.length (fun H => SqT K H a xs) (YPair (fun i => some (.int (i : Nat))) (fun i => xs[i]?)) where
  goes := fun i H hi g => ⟨xs, xs[i], g, List.getElem?_eq_getElem hi⟩
  stops := fun H g => ⟨xs, g, Nat.le_refl _⟩
  yields := fun i H v H' hi g y => by
    obtain ⟨T, x, e1, e2, e3, e4⟩ := y
    exact ⟨T, .int (i : Nat), x, e1, e2, e3, rfl, e4 xs g⟩
theorem ie {K : PySem.W.Frag} {σ : L2.St} {H : Hp} {aa : TA} {R : It → Hp → Prop} (q : aa σ H fun vs H1 => ∃ a xs, vs = [.ref a] ∧ ((SqL K H1 a xs ∧ R (Ite K a) H1) ∨ (SqT K H1 a xs ∧ R (EnT.Iet K a) H1))) : iEnX K aa σ H R := q
/-! ### defs that may raise -/
structure CalR (P : Program) (w : World) (K : PySem.W.Frag) (mg : Str → Option Value) (base : Heap) (k : Nat) (x : Str) (sp : Sp) : Prop where
  ex : ∃ (f : Addr) (fd : FuncData) (ps : List Str), FnOk P w K mg base (L2.CX P w) k f fd ps sp ∧ mg x = some (.ref f) ∧ PySem.W.keepIn K (.ref f) = true ∧ Binds K fd ps []
structure CalRK (P : Program) (w : World) (K : PySem.W.Frag) (mg : Str → Option Value) (base : Heap) (k : Nat) (x : Str) (ks : List Str) (gV : List V → List V → List V) (sp : Sp) : Prop where
  ex : ∃ (f : Addr) (fd : FuncData) (ps : List Str) (g : List Value → List Value → List Value), FnOk P w K mg base (L2.CX P w) k f fd ps sp ∧ mg x = some (.ref f) ∧ PySem.W.keepIn K (.ref f) = true ∧ KBinds K fd ps ks g gV
def tCR (sp : Sp) (W : WX) (t : TA) : TE := fun σ H Q => t σ H fun vs H1 => sp vs H1 Q fun cls d H2 => W cls d σ H2
def tCRK (sp : Sp) (gV : List V → List V → List V) (E : XK) (tk : TA) : TE := fun σ H Q => tk σ H fun zs H1 => sp (gV [] zs) H1 Q E
section
variable {X : Cx} {k j : Nat} {x : Str} {sp : Sp} {p pos : Pos} {e : Expr} {es : List Expr} {t tk : TA} {ks : List Str} {gV : List V → List V → List V} {kws : List Keyword} {W : WX} {E : XK}
theorem pe_cR (tk : Takes X W) (c : CalR X.prog X.w X.K X.mg X.base k x sp) (hr : Room j X.A) (hk : k ≤ j) (hg : Gl X x) (ha : PA X (e :: es) t) (hdb : (x == ("__debug__" : Str)) = false := by decide)
    (he : starEach (e :: es) X.env = (false, eval e X.env) :: starEach es X.env := by rfl) (hpl : (backTo pos (starEach es X.env)).any (·.1) = false := by rfl) : PE X (.Call (.Name x p) (e :: es) [] pos) (tCR sp W t) := by
  obtain ⟨f, fd, ps, F, hm, hkp, hb⟩ := c.ex
  exact pe_callS (E := WE W) F (hr.mono hk) hg hm hkp hb (fun σ => passAt tk σ) ha hdb he hpl
theorem pe_cRK (hx : Passes (L2.CX X.prog X.w) X E) (c : CalRK X.prog X.w X.K X.mg X.base k x ks gV sp) (hr : Room j X.A) (hk : k ≤ j) (hg : Gl X x) (hkw : PK X kws tk) (hall : (backToKw pos (keywordEach kws X.env)).all (·.1.isSome) = true := by rfl) (hks : (backToKw pos (keywordEach kws X.env)).filterMap (·.1) = ks := by rfl)
    (hdb : (x == ("__debug__" : Str)) = false := by decide)
    (hpl : ((backTo pos (starEach [] X.env)).any (·.1) || (backToKw pos (keywordEach kws X.env)).any (·.1.isNone)) = false := by rfl) : PE X (.Call (.Name x p) [] kws pos) (tCRK sp gV E tk) := by
  obtain ⟨f, fd, ps, g, F, hm, hkp, hb⟩ := c.ex
  constructor
  intro pins z σ H Q I h
  refine wpAny_Call_Name_kw (ld_glob I hg hm ?_ hdb)
  refine PySem.W.callWith_KW0 (h₀ := X.base) I.ok.mod.kin hkp hall ?_ hpl
  refine thn (hkw.run pos pins z σ H _ I h) fun ws z2 got => ?_
  obtain ⟨zs, H2, I2, rz, q2⟩ := got
  refine ⟨I2.kIn, ?_⟩
  rw [hks]
  exact run_fnk (us := []) (vs := []) F (hr.mono hk) hb hx I2 .nil rz q2
end
/-! ### raise C(..), C an own class over ValueError with its own __init__ -/
/-- what is known of such a class -/
structure ErrC (P : Program) (w : World) (K : PySem.W.Frag) (mg : Str → Option Value) (base : Heap) (x : Str) (C : Addr) (n : Nat) (sp : Sp) : Prop where
  T : OexC K C
  gC : mg x = some (.ref C)
  i : ∃ (fI : Addr) (fd : FuncData) (ps : List Str), PySem.W.findIn K (.ref C) "__init__" = some (some (.ref fI)) ∧ PySem.W.typeIn K (.ref fI) = some (.type "function") ∧ FnOk P w K mg base CX0 1 fI fd ps sp ∧ Binds K fd ps []
theorem pass00 {X : Cx} : Passes CX0 X (fun _ _ _ => False) := fun _ _ _ _ _ _ _ h => h.elim
def tRaise (C : Addr) (sp : Sp) (E : XK) (ta : TA) : TS := fun _ σ H => tMkO C sp [] ta σ H E
section
variable {X : Cx} {x : Str} {C : Addr} {n j : Nat} {sp : Sp} {p pos pos2 : Pos} {e : Expr} {es : List Expr} {ta : TA} {E : XK}
theorem ps_rz (hc : X.calm = true) (tk : Takes X fun cls d _ H => E cls d H) (c : ErrC X.prog X.w X.K X.mg X.base x C n sp) (hr : Room j X.A) (hj : 2 ≤ j) (hg : Gl X x) (ha : PA X (e :: es) ta)
    (hdb : (x == ("__debug__" : Str)) = false := by decide) (he : starEach (e :: es) X.env = (false, eval e X.env) :: starEach es X.env := by rfl) (hpl : (backTo pos (starEach es X.env)).any (·.1) = false := by rfl) :
    PS X (.Raise (some (.Call (.Name x p) (e :: es) [] pos)) none pos2) (tRaise C sp E ta) := by
  obtain ⟨fI, fd, ps, iC, tI, F, hb⟩ := c.i
  exact ps_raise hc tk (pmk_oex (dvs := []) (ds := []) c.T iC tI F (hr.mono hj) hb .nil pass00 hg c.gC ha hdb he hpl)
end
theorem rz {C : Addr} {sp : Sp} {E : XK} {ta : TA} {D : Ends} {σ : L2.St} {H : Hp} (q : ta σ H fun vs H1 => vs.length ≤ 1000 ∧ ∀ a, H1 a = none → sp (.ref a :: vs) (upd H1 a (exo a C none))
    (fun v H2 => v = .non ∧ ∃ (d : Addr) (fs : List (Str × V)), H2 a = some (exo a C (some d)) ∧ H2 d = some (exd d fs) ∧ H1 d = none ∧ E (.ref C) (some d) (upd (del H2 a) d (.xd fs))) (fun _ _ _ => False)) : tRaise C sp E ta D σ H := by
  show ta σ H _
  simp only [List.append_nil]
  exact q
/-- __init__(self, v): self.code = code; self.f = v -/
def spIni (K : PySem.W.Frag) (code fld : Str) : Sp := fun vs H Q _ => ∃ (a C : Addr) (v : V), vs = [.ref a, v] ∧ OexC K C ∧ PySem.W.findIn K (.ref C) "code" = some none ∧ PySem.W.findIn K (.ref C) fld = some none ∧ H a = some (exo a C none) ∧
  ∀ d H', H d = none → d ≠ a → H' a = some (exo a C (some d)) → H' d = some (exd d [(fld, v), (("code" : Str), V.str code)]) → (∀ b o, H b = some o → b ≠ a → H' b = some o) → Q .non H'
theorem ost {K : PySem.W.Frag} {f : Str} {to te : TE} {D : Ends} {σ : L2.St} {H : Hp} (q : te σ H fun y H1 => to σ H1 fun x H2 => ∃ a C : Addr, x = .ref a ∧ OexC K C ∧ PySem.W.findIn K (.ref C) f = some none ∧
  ((H2 a = some (exo a C none) ∧ ∀ dx, H2 dx = none → dx ≠ a → D.nx σ (upd (upd H2 dx (exd dx [(f, y)])) a (exo a C (some dx)))) ∨
    ∃ (dx : Addr) (fs : List (Str × V)), H2 a = some (exo a C (some dx)) ∧ H2 dx = some (exd dx fs) ∧ fs.length ≤ 900 ∧ D.nx σ (upd H2 dx (exd dx ((f, y) :: fs))))) : tOst K f to te D σ H := q
section
variable {P : Program} {w : World} {K : PySem.W.Frag} {mg : Str → Option Value} {base : Heap}
theorem ok_ini {qual code fld : Str} {st : Stmt} {f : Addr} {fd : FuncData} (F : Fun K "__init__" qual st f fd) (S : FnScope ["self", fld] ["self", fld] (defScope st))
    (hb : ∀ (cdv : Value) (A : Around) (outer : List Env) (s : Shared) (H : Hp) (E : XK), PSs (cxOf CX0 P w K mg base ["self", fld] qual (defScope st) f cdv A outer s H E).nox (defBody st) (tSeq (tOst K "code" (tVar 0) (tC (.str code))) (tOst K fld (tVar 0) (tVar 1)))) :
    FnOk P w K mg base CX0 1 f fd ["self", fld] (spIni K code fld) := by
  refine F.ok S (fun vs H Q E h => ?_) (fun cdv A outer s H vs Q E hr h => ?_)
  · obtain ⟨a, C, v, rfl, _⟩ := h
    rfl
  · obtain ⟨a, C, v, rfl, T, n1, n2, ha, q⟩ := h
    refine ⟨_, hb cdv A outer s H E, ?_⟩
    refine ⟨.ref a, rfl, a, C, rfl, T, n1, .inl ⟨ha, fun dx nd ne => ?_⟩⟩
    refine ⟨v, rfl, .ref a, rfl, a, C, rfl, T, n2, .inr ⟨dx, [(("code" : Str), V.str code)], upd_same, ?_, Nat.le_of_ble_eq_true rfl, ?_⟩⟩
    · rw [upd_ne ne, upd_same]
    · refine q dx _ nd ne ?_ upd_same fun b o hbo nba => ?_
      · rw [upd_ne ne.symm, upd_same]
      · rw [upd_ne (ne_of_none hbo nd), upd_ne nba, upd_ne (ne_of_none hbo nd)]
        exact hbo
end
end Rg
/-! ### the end where the law makes lambdas: its table of code objects -/
namespace Rg
open PySem PySem.Spec PyProof.Rows L2
theorem tabIn_mk {K : PySem.W.Frag} {x : Str} {f c P : Addr} {o1 o2 o3 : Option Addr} {v1 v2 : Value} {fd : FuncData} {vs : Array Value} {s1 s2 : Array (Option Value)} (a : PySem.W.nsIn K mainGlobals x = some (some (.ref f))) (l : K.lookup f = some ⟨v1, o1, .func fd, s1⟩) (hc : fd.code = .ref c)
    (lc : K.lookup c = some ⟨v2, o2, .fields vs, s2⟩) (e : vs[11]? = some (.ref P)) : PySem.W.tabIn K x = some (c, P) := by
  unfold PySem.W.tabIn
  simp only [a, l, hc, lc, e]
theorem noTab {K : PySem.W.Frag} {h : Heap} {P : Addr} {ps : Array Value} (X : K.In h) (nt : PySem.W.noTabs K = true) (hP : h.get? P = some { cls := .none, data := .fields ps }) : K.lookup P = none := by
  cases e : K.lookup P with
  | none => rfl
  | some o =>
    have e2 := X P o e
    rw [hP] at e2
    obtain rfl := Option.some.inj e2
    exact absurd (List.all_eq_true.mp nt _ (PySem.W.mem_of_lookupK e)) Bool.false_ne_true
theorem walk_tab {l : PySem.W.OpenLaw} {n k : Nat} {q : Program} {loose : List Str} {XP : (Str → Option Value) → Heap → Prop} {YP : World → Heap → Prop} {d : DefRec} {K : Params → PySem.W.Frag} {x : Str} {sp : World → Addr → Sp}
    (hn : l.most = some n) (hn2 : n ≤ sizeLine) (hdf : d.params.defaults = []) (room : Room k callerA) (hY : ∀ (w : World) (h : Heap), YP w h → (K w.params).In h) (law : d.name = "law") (found : (recsOf q).find? (fun e => e.name == ("law" : Str)) = some d)
    (F : ∀ (w : World) (mg : Str → Option Value) (fa : Addr) (h : Heap), (K w.params).In h → h.Ns mainGlobals mg → mg "law" = some (.ref fa) →
      ∃ (fd : FuncData) (c P : Addr), PySem.W.tabIn (K w.params) "law" = some (c, P) ∧ PySem.W.noTabs (K w.params) = true ∧ (∀ (s : Shared) (u : Value), BindsTo s fd ⟨[u], []⟩ [(x, u)]) ∧
        ∀ base : Heap, (K w.params).In base → base.Ns mainGlobals mg → LamX.TabB base mg c P → FnOk l.prog w (K w.params) mg base CX0 k fa fd [x] (sp w P))
    (S : ∀ (w : World) (H : Hp) (P a : Addr) (ns : List Int), ns.length ≤ n → H P = some (.tbl #[]) → SqL (K w.params) H a (ns.map V.int) → sp w P [.ref a] H (fun v _ => v = .bl true) fun _ _ _ => False) :
    PySem.W.WalkO q loose XP YP l.row.toRowW d [] (fun f vs => PySem.call f vs) := by
  refine Att.attach_callB hn hdf fun w z0 z mg mb fa o pm cd doc a vs ns ground Y ho hd hcd hmg hobj hints hlen hbits hg => ?_
  have KX := hY w _ Y
  rw [law] at hmg
  obtain ⟨fd, c, P, tab, nt, bind, prom⟩ := F w mg fa _ KX ground.T.g hmg
  obtain ⟨code, obj⟩ := PySem.W.tab_of ground.T KX found tab
  exact LamX.law_callTs (cs := [(c, P)]) KX ground.T.g ground.T.b ground.T.builtins ground.T.nolimit hg (fun p hp => List.mem_singleton.mp hp ▸ obj) (fun p hp => List.mem_singleton.mp hp ▸ noTab KX nt obj) (fun p hp => List.mem_singleton.mp hp ▸ code) ground.T.bmain hobj hints
    (Nat.le_trans hlen hn2) room (fun base h1 h2 h3 => prom base h1 h2 (h3 (c, P) (List.mem_singleton.mpr rfl))) bind (fun H hH hS => S w H P a ns hlen (hH (c, P) (List.mem_singleton.mpr rfl)) hS) fun _ _ _ z => z
/-! which clause an error meets -/
theorem exm1 {K : PySem.W.Frag} {cls : Value} {c : Addr} {b : Bool} (h1 : PySem.W.subIn K (.ref c) (.type "BaseException") = some true) (h2 : PySem.W.isClsIn K c = true) (h3 : PySem.W.typeIn K (.ref c) = some (.type "type")) (h4 : PySem.W.subIn K cls (.ref c) = some b) :
    PySem.W.exmOne K cls (.ref c) = some b := by
  have e1 : (PySem.W.subIn K (.ref c) (.type "BaseException") == some true) = true := by rw [h1]; rfl
  have e2 : ((PySem.W.clsIn K c).isSome && PySem.W.typeIn K (.ref c) == some (.type "type")) = true := by
    rw [show (PySem.W.clsIn K c).isSome = true from h2, h3]
    rfl
  unfold PySem.W.exmOne
  rw [if_pos e1]
  show (if _ = true then _ else _) = _
  rw [if_pos e2]
  exact h4
theorem exm3 {K : PySem.W.Frag} {cls c1 c2 c3 : Value} {b1 b2 b3 : Bool} (h1 : PySem.W.exmOne K cls c1 = some b1) (h2 : PySem.W.exmOne K cls c2 = some b2) (h3 : PySem.W.exmOne K cls c3 = some b3) : PySem.W.exmAny K cls [c1, c2, c3] = some (b1 || (b2 || (b3 || false))) := by
  simp only [PySem.W.exmAny, h1, h2, h3]
theorem Tabs.but {T : List (Addr × Str)} {H H' : Hp} {b : Addr} {l : List V} (t : LamX.Tabs T H) (s : But b H H') (hb : H b = some (.lst l)) : LamX.Tabs T H' := by
  intro p hp
  obtain ⟨ps, h1, h2, h3⟩ := t p hp
  refine ⟨ps, s _ _ h1 (fun z => by rw [z, hb] at h1; cases h1), h2, fun pos cv hc => ?_⟩
  obtain ⟨c, e1, e2⟩ := h3 pos cv hc
  refine ⟨c, e1, s _ _ e2 fun z => ?_⟩
  rw [z, hb] at e2
  have e3 : HO.ext _ = HO.lst l := (Option.some.inj e2).symm
  cases e3
end Rg
namespace Rg
open PySem L2
theorem addT {K : PySem.W.Frag} {a p : Addr} {xs ys : List V} {H : Hp} {Q : VK} (h1 : H a = some (.tup xs)) (h2 : H p = some (.tup ys)) (h : xs.length + ys.length ≤ sizeLine) (q : ∀ r H', Same H H' → H' r = some (.tup (xs ++ ys)) → Q (.ref r) H') : rAddX K (.ref a) (.ref p) H Q := by
  refine .inr (.inr (.inr ⟨a, p, xs, ys, rfl, rfl, SqT.of h1, SqT.of h2, h, fun e => ?_, fun _ e => ?_, fun _ _ r n => q r _ (same_upd n) upd_same⟩))
  · exact q p H (Same.refl H) (by rw [e]; exact h2)
  · exact q a H (Same.refl H) (by rw [e, List.append_nil]; exact h1)
theorem cut_all {xs : List V} {lo hi : Option Int} (h : HT.sIx xs.length 0 lo = 0 ∧ HT.sIx xs.length xs.length hi = xs.length) : cutV xs lo hi = xs := by
  unfold cutV
  rw [h.1, h.2, List.drop_zero, Nat.sub_zero, List.take_length]
theorem slTX {K : PySem.W.Frag} {a : Addr} {xs : List V} {lo hi : Option Int} {H : Hp} {Q : VK} (h : H a = some (.tup xs)) (q : ∀ r H', Same H H' → H' r = some (.tup (cutV xs lo hi)) → Q (.ref r) H') : rSlX K (.ref a) lo hi H Q :=
  slT (SqT.of h) (fun e => q a H (Same.refl H) (by rw [cut_all e]; exact h)) fun _ r n => q r _ (same_upd n) upd_same
theorem cutV_take {xs : List V} {i : Nat} (h : i ≤ xs.length) : cutV xs none (some (i : Int)) = xs.take i := by
  unfold cutV
  show ((xs.drop 0).take (HT.sIx xs.length xs.length (some (i : Int)) - 0)) = _
  rw [List.drop_zero, Nat.sub_zero]
  congr 1
  unfold HT.sIx
  simp
  rw [if_neg (show ¬ ((i : Int) < 0) by omega)]
  omega
theorem cutV_drop {xs : List V} {i : Nat} (h : i ≤ xs.length) : cutV xs (some (i : Int)) none = xs.drop i := by
  unfold cutV
  have e : HT.sIx xs.length 0 (some (i : Int)) = i := by
    unfold HT.sIx
    simp
    rw [if_neg (show ¬ ((i : Int) < 0) by omega)]
    omega
  show ((xs.drop (HT.sIx xs.length 0 (some (i : Int)))).take (xs.length - HT.sIx xs.length 0 (some (i : Int)))) = _
  rw [e]
  exact List.take_of_length_le (by rw [List.length_drop]; exact Nat.le_refl _)
end Rg
namespace Rg
open PySem L2
theorem crR {sp : Sp} {W : WX} {t : TA} {σ : L2.St} {H : Hp} {Q : VK} (q : t σ H fun vs H1 => sp vs H1 Q fun cls d H2 => W cls d σ H2) : tCR sp W t σ H Q := q
theorem crK {sp : Sp} {gV : List V → List V → List V} {E : XK} {tk : TA} {σ : L2.St} {H : Hp} {Q : VK} (q : tk σ H fun zs H1 => sp (gV [] zs) H1 Q E) : tCRK sp gV E tk σ H Q := q
end Rg

set_option Elab.async false
set_option linter.all false
set_option maxRecDepth 100000
set_option maxHeartbeats 4000000
/-! ### lambdas as values: lists of lambda: e and lambda x=i: e, handed to a def that calls them -/
namespace LamV
open PySem PySem.Spec PyProof.Rows L2 LamX
/-- a lambda value: its text, the closure, its code object, the tuple of its defaults -/
structure LK where
  qual : Str
  params : Arguments
  body : Expr
  scope : Scope
  clo : List (Str × Addr)
  code : Addr
  dflt : Option Addr
/-- the value of its defaults -/
def dvOf : Option Addr → Value
  | none => .none
  | some t => .ref t
def LamO (f : Addr) (F : LK) : HO := .ext fun h => ∃ doc pm ctv : Value, h.get? f = some (PySem.W.kdv_obj "<lambda>" F.qual F.params (.expr F.body) F.scope F.clo (dvOf F.dflt) doc pm F.code ctv)
theorem lamO_ok {P : Program} {w : World} {H : Hp} {h : Heap} {f : Addr} {F : LK} {doc pm ctv : Value} (g : h.get? f = some (PySem.W.kdv_obj "<lambda>" F.qual F.params (.expr F.body) F.scope F.clo (dvOf F.dflt) doc pm F.code ctv)) : ObjOk P w H h f (LamO f F) :=
  ⟨⟨doc, pm, ctv, g⟩, ⟨_, g⟩, fun _ _ ⟨doc, pm, ctv, g⟩ k => ⟨doc, pm, ctv, k _ g⟩⟩
theorem lamO_tbl {f : Addr} {F : LK} (ps : Array Value) : LamO f F ≠ .tbl ps := fun z => by
  unfold LamO at z
  cases z
/-- the names of a lambda: captured ones, globals, and parameters that no slot of the maker bears -/
structure LamN (N : List Str) (sc scope : Scope) (ps : List Str) : Prop where
  kind : scope.kind = .function
  co : scope.isCoroutine = false
  gen : scope.isGenerator = false
  cell : ∀ y ∈ scope.names, y.2 ≠ .cell
  own : ∀ y ∈ scope.names, y.2 = .local → y.1 ∉ N
  free : ∀ y ∈ scope.names, y.2 = .free → sc.names.lookup y.1 = some .cell ∨ sc.names.lookup y.1 = some .free
  par : ∀ p ∈ ps, scope.names.lookup p = some .local
def lamNB (N : List Str) (sc scope : Scope) (ps : List Str) : Bool :=
  decide (scope.kind = .function) && (!scope.isCoroutine && (!scope.isGenerator && (scope.names.all (fun y => !decide (y.2 = .cell) && ((!decide (y.2 = .local) || !decide (y.1 ∈ N)) && (!decide (y.2 = .free) || (decide (sc.names.lookup y.1 = some .cell) || decide (sc.names.lookup y.1 = some .free))))) &&
    ps.all fun p => decide (scope.names.lookup p = some .local))))
theorem lamN_by {N : List Str} {sc scope : Scope} {ps : List Str} (h : lamNB N sc scope ps = true) : LamN N sc scope ps := by
  unfold lamNB at h
  simp only [Bool.and_eq_true, Bool.or_eq_true, Bool.not_eq_true', decide_eq_true_eq, decide_eq_false_iff_not, List.all_eq_true] at h
  obtain ⟨h1, h2, h3, h4, h5⟩ := h
  exact ⟨h1, h2, h3, fun y m => (h4 y m).1, fun y m e => (h4 y m).2.1.resolve_left fun z => z e, fun y m e => (h4 y m).2.2.resolve_left fun z => z e, h5⟩
section
variable {X : Cx} {pins : List (Addr × Obj)} {σ : L2.St} {H HZ : Hp} {s s1 : Shared}
theorem LamN.has {scope : Scope} {ps : List Str} (L : LamN X.N X.env.scope scope ps) (ok : X.Ok) (y : Str × NameKind) (m : y ∈ scope.names) (e : y.2 = .free) : ∃ c, X.env.cells.lookup y.1 = some c :=
  (L.free y m e).elim (fun k => ok.has _ (.inl k)) fun k => ok.has _ (.inr k)
/-- the tail of the making: the function's object -/
theorem tail_ok {T : List (Addr × Str)} {c P : Addr} {params : Arguments} {body : Expr} {scope : Scope} {pos : Pos} {E : Value → Shared → Prop} {Q : Value → Shared → Prop} {d : Option Addr} (I : Inv X pins σ H s) (TB : TabB X.base X.mg c P) (hcode : X.env.code = .ref c)
    (mem : (P, X.env.qual ++ "<lambda>") ∈ T) (one : ∀ p ∈ T, p.1 = P → p.2 = X.env.qual ++ "<lambda>") (hT : Tabs T H) (free : ∀ y ∈ scope.names, y.2 = .free → ∃ c, X.env.cells.lookup y.1 = some c)
    (h : ∀ (f c' : Addr) (H1 : Hp) (z : Shared), Inv X pins σ H1 z → ExtN H H1 → Tabs T H1 → H f = none → H1 c' = some (CodeO c' (X.env.qual ++ "<lambda>")) → H1 f = some (LamO f ⟨X.env.qual ++ "<lambda>", params, body, scope, cloFrom X.env.cells scope.names [], c', d⟩) → Q (.ref f) z) :
    wpAny (model X.prog X.w) X.A (makeTail "<lambda>" (X.env.qual ++ "<lambda>") params (.expr body) scope X.env (dvOf d) .none none pos pos.line) Q E s := by
  obtain ⟨ps, hP, trip, all⟩ := hT _ mem
  have bP : s.heap.BuiltinsAt X.mg P := TB.bm.keeps I.bk
  have tabP : s.heap.get? P = some { cls := .none, data := .fields ps } := I.hok P _ hP
  cases found : codeAmong pos ps.toList with
  | none =>
    refine PySem.W.kdv_makeTail (mg := X.mg) (c := c) (P := P) (ps := ps) (closure_ok free) I.ok.glob (I.mod.glob.keeps I.bk) hcode (TB.code.keeps I.bk) tabP trip found TB.gP bP fun c' ctv doc h' tk same big less rec_ grown => ?_
    obtain ⟨c2, oc, vs, t, e2, goc, dat, nam⟩ := rec_
    cases e2
    have fresh : H c' = none := I.hok.fresh big
    have sizes : s.heap.objs.size ≤ h'.objs.size := Nat.le_trans big (Nat.le_of_lt less)
    have J := inv_table (t' := tk) (q := X.env.qual ++ "<lambda>") (more := #[rawInt pos.line, rawInt pos.col, .ref c']) (h' := h') I hP (fun b o nb g => same b o nb g) grown big ⟨oc, vs, t, goc, dat, nam⟩
    have nPc : P ≠ c' := ne_of_none hP fresh
    have grow : ExtN H (upd (upd H P (.tbl (ps ++ #[rawInt pos.line, rawInt pos.col, .ref c']))) c' (CodeO c' (X.env.qual ++ "<lambda>"))) := fun b o g notab => by
      rw [upd_ne (ne_of_none g fresh), upd_ne fun z => notab ps (Option.some.inj (g.symm.trans (by rw [z]; exact hP)))]
      exact g
    have atC : upd (upd H P (.tbl (ps ++ #[rawInt pos.line, rawInt pos.col, .ref c']))) c' (CodeO c' (X.env.qual ++ "<lambda>")) c' = some (CodeO c' (X.env.qual ++ "<lambda>")) := upd_same
    have atP : upd (upd H P (.tbl (ps ++ #[rawInt pos.line, rawInt pos.col, .ref c']))) c' (CodeO c' (X.env.qual ++ "<lambda>")) P = some (.tbl (ps ++ #[rawInt pos.line, rawInt pos.col, .ref c'])) := by
      rw [upd_ne nPc, upd_same]
    have others : ∀ b, b ≠ P → b ≠ c' → upd (upd H P (.tbl (ps ++ #[rawInt pos.line, rawInt pos.col, .ref c']))) c' (CodeO c' (X.env.qual ++ "<lambda>")) b = H b := fun b n1 n2 => by rw [upd_ne n2, upd_ne n1]
    have freeF : H h'.objs.size = none := I.hok.fresh sizes
    have freeF2 := J.hok.fresh (Nat.le_refl h'.objs.size)
    generalize upd (upd H P (.tbl (ps ++ #[rawInt pos.line, rawInt pos.col, .ref c']))) c' (CodeO c' (X.env.qual ++ "<lambda>")) = H1 at J grow atC atP others freeF2
    have gF : (h'.push (PySem.W.kdv_obj "<lambda>" (X.env.qual ++ "<lambda>") params (.expr body) scope (cloFrom X.env.cells scope.names []) (dvOf d) doc ((X.mg "__name__").getD .none) c' ctv)).get? h'.objs.size = some _ := Heap.get?_push_size _ rfl
    have J2 := J.laid (t' := tk) (a := h'.objs.size) (o := LamO h'.objs.size ⟨X.env.qual ++ "<lambda>", params, body, scope, cloFrom X.env.cells scope.names [], c', d⟩) (fun b o g => Heap.get?_push_of_some _ g) (Nat.le_refl _) (lamO_ok gF)
    have sm := Rg.same_upd (o := LamO h'.objs.size ⟨X.env.qual ++ "<lambda>", params, body, scope, cloFrom X.env.cells scope.names [], c', d⟩) freeF2
    refine h h'.objs.size c' _ _ J2 (grow.trans (ExtN.of sm)) (fun p hp => ?_) freeF (sm _ _ atC) upd_same
    by_cases hb : p.1 = P
    · rw [one p hp hb, hb]
      refine TabS.ext ⟨_, atP, ?_, fun p' cv hc => ?_⟩ sm
      · rw [show (ps ++ #[rawInt pos.line, rawInt pos.col, Value.ref c']).toList = ps.toList ++ [rawInt pos.line, rawInt pos.col, .ref c'] by simp]
        exact PySem.TriplesOk_snoc _ _ _ _ trip
      · rw [show (ps ++ #[rawInt pos.line, rawInt pos.col, Value.ref c']).toList = ps.toList ++ [rawInt pos.line, rawInt pos.col, .ref c'] by simp] at hc
        rcases among_app _ trip hc with z | z
        · obtain ⟨c0, e1, e2⟩ := all p' cv z
          exact ⟨c0, e1, grow _ _ e2 codeO_ne⟩
        · exact ⟨c', z, atC⟩
    · obtain ⟨ps', a1, a2, a3⟩ := hT p hp
      refine TabS.ext ⟨ps', by rw [others _ hb (ne_of_none a1 fresh)]; exact a1, a2, fun p' cv hc => ?_⟩ sm
      obtain ⟨c0, e1, e2⟩ := a3 p' cv hc
      exact ⟨c0, e1, grow _ _ e2 codeO_ne⟩
  | some cv =>
    obtain ⟨c', rfl, atC⟩ := all pos cv found
    refine PySem.W.kdv_makeTailHit (mg := X.mg) (c := c) (P := P) (ps := ps) (closure_ok free) I.ok.glob (I.mod.glob.keeps I.bk) hcode (TB.code.keeps I.bk) tabP trip found bP fun ctv doc h' tk same sizes => ?_
    have J : Inv X pins σ H { s with heap := h', toks := tk } := I.kept same
    have freeF := J.hok.fresh (Nat.le_refl h'.objs.size)
    have gF : (h'.push (PySem.W.kdv_obj "<lambda>" (X.env.qual ++ "<lambda>") params (.expr body) scope (cloFrom X.env.cells scope.names []) (dvOf d) doc ((X.mg "__name__").getD .none) c' ctv)).get? h'.objs.size = some _ := Heap.get?_push_size _ rfl
    have J2 := J.laid (t' := tk) (a := h'.objs.size) (o := LamO h'.objs.size ⟨X.env.qual ++ "<lambda>", params, body, scope, cloFrom X.env.cells scope.names [], c', d⟩) (fun b o g => Heap.get?_push_of_some _ g) (Nat.le_refl _) (lamO_ok gF)
    have sm := Rg.same_upd (o := LamO h'.objs.size ⟨X.env.qual ++ "<lambda>", params, body, scope, cloFrom X.env.cells scope.names [], c', d⟩) freeF
    exact h h'.objs.size c' _ _ J2 (ExtN.of sm) (hT.ext sm) freeF (sm _ _ atC) upd_same
end
section
variable {X : Cx} {pins : List (Addr × Obj)} {σ : L2.St} {H HZ : Hp} {s s1 : Shared}
/-- the lambda's frame is laid: its body's context -/
theorem begun {A : Around} {outer : List Env} {E : XK} {scope : Scope} {ps : List Str} {f c' : Addr} {g : Heap} {tk : Nat} {m : Str → Option Value} (I : Inv X pins σ H s) (L : LamN X.N X.env.scope scope ps) (e0 : Env0 X.prog X.w X.K X.mg X.base A outer s1 HZ) (calm : A.handled = none)
    (since : Un (frs X.stack) [] H HZ s.heap s1.heap) (frame : g.Ns s1.heap.objs.size m) (kept : ∀ b o, s1.heap.get? b = some o → g.get? b = some o) : Inv (lamCx X A outer s1 HZ E scope f c') [] σ HZ { s1 with heap := g, toks := tk } := by
  have back : ∀ {y : Str} {c : Addr}, (cloFrom X.env.cells scope.names []).lookup y = some c → X.env.cells.lookup y = some c := by
    intro y c e
    rcases cloFrom_mem (PySem.mem_of_lookup e) with z | ⟨z1, z2⟩
    · cases z
    · obtain ⟨c1, e1⟩ := L.has I.ok _ z1 rfl
      have e1 : X.env.cells.lookup y = some c1 := e1
      rw [e1] at z2
      rw [show c = c1 from z2]
      exact e1
  have forth : ∀ {y : Str}, scope.names.lookup y = some .free → ∃ c, (cloFrom X.env.cells scope.names []).lookup y = some c := fun {y} e => mem_lookup (cloFrom_has (cells := X.env.cells) (acc := []) (show (y, NameKind.free) ∈ scope.names from PySem.mem_of_lookup e))
  have cells : ∀ {c : Addr} {v : Option Value}, H c = none → s.heap.IsCell c v → g.IsCell c v := by
    rintro c v n ⟨o, g1, d1⟩
    obtain ⟨sl, g2⟩ := since.any g1 n List.not_mem_nil
    exact ⟨_, kept _ _ g2, d1⟩
  have noEx : ∀ b : Addr, b ∉ (lamCx X A outer s1 HZ E scope f c').ex := fun b z => List.not_mem_nil (show b ∈ ([] : List Addr) from z)
  exact {
    ok := {
      mod := e0.mod
      kind := L.kind
      glob := rfl
      blt := rfl
      above := Nat.le_refl _
      inj := fun x y c e1 e2 => I.ok.inj x y c (back e1) (back e2)
      has := fun x hx => by
        have hx : scope.names.lookup x = some .cell ∨ scope.names.lookup x = some .free := hx
        exact hx.elim (fun z => absurd rfl (L.cell _ (PySem.mem_of_lookup z))) forth
      cab := fun _ _ z _ => by cases (show false = true from z)
      hd := fun _ => calm
      frames := Around.frames_deeper e0.frames
      stk := .inr ⟨rfl, rfl⟩
      exf := fun b z => absurd z (noEx b)
      bs := e0.bs
      bsz := e0.bsz
      noex := fun b _ _ => noEx b
      exfs := fun b z => absurd z (noEx b)
      funs := e0.funs
      frf := e0.frf }
    os := rfl
    bare := e0.bare
    base := Un.kept kept
    loc := ⟨m, frame, fun i y v e1 e2 vis => by
      have vis : Vis scope y := vis
      have inN : y ∈ X.N := List.mem_of_getElem? e1
      rcases vis with z | z | z
      · exact absurd inN (L.own _ (PySem.mem_of_lookup z) rfl)
      · exact absurd rfl (L.cell _ (PySem.mem_of_lookup z))
      · obtain ⟨m0, _, look⟩ := I.loc
        have up := L.free _ (PySem.mem_of_lookup z) rfl
        obtain ⟨u, ru, at_⟩ := look i y v e1 e2 (up.elim (fun k => .inr (.inl k)) fun k => .inr (.inr k))
        obtain ⟨c2, e3⟩ := forth z
        refine ⟨u, ru, .inr ⟨.inr z, c2, e3, ?_⟩⟩
        have e4 := back e3
        rcases at_ with ⟨k, _⟩ | ⟨_, c3, e5, cell⟩
        · have k : X.env.scope.names.lookup y = some .local := k
          rcases up with k2 | k2 <;> rw [show X.env.scope.names.lookup y = _ from k2] at k <;> cases k
        · rw [e4] at e5
          cases e5
          exact cells (I.freeC y _ e4) cell⟩
    cell := fun y c e => by
      obtain ⟨v, cell⟩ := I.cell y c (back e)
      exact ⟨v, cells (I.freeC y c (back e)) cell⟩
    free := e0.hok.fresh (Nat.le_refl _)
    freeC := fun y c e => by
      obtain ⟨v, o, g1, _⟩ := I.cell y c (back e)
      exact since.free c o g1 (I.freeC y c (back e)) List.not_mem_nil
    pin := fun q hq => absurd (show q ∈ ([] : List (Addr × Obj)) ++ [] from hq) (by simp)
    hok := e0.hok.kept kept
    len := I.len }
/-- the function data of a lambda value -/
def fdOf (F : LK) (doc pm ctv : Value) : FuncData := PySem.W.kdv_fn "<lambda>" F.qual F.params (.expr F.body) F.scope F.clo (dvOf F.dflt) doc pm (.ref F.code) ctv
/-- how its arguments bind when nothing is passed -/
def BindL (F : LK) (HD : Hp → Prop) : Prop := ∀ (X : Cx) (pins : List (Addr × Obj)) (σ : L2.St) (H : Hp) (s : Shared) (doc pm ctv : Value), Inv X pins σ H s → HD H →
  ∃ binds : List (Str × Value), (∀ y ∈ binds, F.scope.names.lookup y.1 = some .local) ∧ BindsTo s (fdOf F doc pm ctv) ⟨[], []⟩ binds
theorem bindL0 {F : LK} (h : ∀ doc pm ctv : Value, bindArgs (fdOf F doc pm ctv) ⟨[], []⟩ = pure []) : BindL F fun _ => True :=
  fun _ _ _ _ _ doc pm ctv _ _ => ⟨[], fun y m => (absurd m List.not_mem_nil), BindsTo.of_eq (h doc pm ctv)⟩
theorem bindL1 {F : LK} {t : Addr} {i : Int} {x : Str} {k : Option (Array Value) → Sem (List (Str × Value))} (ht : F.dflt = some t) (loc : F.scope.names.lookup x = some .local)
    (h1 : ∀ doc pm ctv : Value, bindArgs (fdOf F doc pm ctv) ⟨[], []⟩ = seqItems? (fdOf F doc pm ctv).defaults >>= k) (h2 : ∀ v : Value, k (some [v].toArray) = pure [(x, v)]) : BindL F fun H => H t = some (.tup [.int i]) := by
  intro X pins σ H s doc pm ctv I hD
  obtain ⟨its, rel, tup, _⟩ := I.tuple (SqT.of hD)
  obtain ⟨v, rfl⟩ : ∃ v, its = [v] := by
    have len := rel.length
    match its, len with
    | [v], _ => exact ⟨v, rfl⟩
  obtain ⟨o, g, _, n, d⟩ := tup
  have hd : (fdOf F doc pm ctv).defaults = .ref t := by
    show dvOf F.dflt = _
    rw [ht]
    rfl
  exact ⟨[(x, v)], fun y m => (by rw [List.mem_singleton.mp m]; exact loc), BindsTo.of_defaults hd g d (h1 doc pm ctv) (h2 v)⟩
/-- x(), in the def that got the lambda value -/
theorem pe_actV {CXg : CXT} {Eg : XK} {Ng : List Str} {qg : Str} {sg : Scope} {g f : Addr} {cdg : Value} {F : LK} {HD : Hp → Prop} {ps : List Str} {k i : Nat} {a : Str} {pn : List (Addr × Obj)} {xe : Value → Shared → Prop} {W : WX} {E : XK} {tb : TE} {p1 p2 : Pos}
    (I : Inv X pins σ H s) (L : LamN X.N X.env.scope F.scope ps) (hq : F.qual = X.env.qual ++ "<lambda>") (hclo : F.clo = cloFrom X.env.cells F.scope.names []) (bind : BindL F HD)
    (tk : Takes ((cxOf CXg X.prog X.w X.K X.mg X.base Ng qg sg g cdg X.A X.stack s H Eg).tr pn xe) W) (out : ∀ cls d σ' H', E cls d H' → W cls d σ' H') (room : Room (k + 1) (X.A.deeper (envOfC qg sg s.heap.objs.size g cdg)))
    (body : ∀ (A : Around) (outer : List Env) (s : Shared) (H : Hp), Room k (A.deeper (lamEnv X F.scope s.heap.objs.size f F.code)) → PE (lamCx X A outer s H E F.scope f F.code) F.body tb)
    (hN : Ng[i]? = some a) (hv : Vis sg a) (hd : (a == ("__debug__" : Str)) = false := by decide) (hcd : (a == ("__classdict__" : Str)) = false := by decide) :
    PE ((cxOf CXg X.prog X.w X.K X.mg X.base Ng qg sg g cdg X.A X.stack s H Eg).tr pn xe) (.Call (.Name a p1) [] [] p2)
      (fun σZ HZ Q => σZ[i]? = some (some (.ref f)) ∧ HZ F.code = some (CodeO F.code F.qual) ∧ HZ f = some (LamO f F) ∧ HD HZ ∧ tb σ HZ Q) := by
  constructor
  intro pinsZ sZ σZ HZ Q IZ h
  obtain ⟨slot, code, lam, dflt, promise⟩ := h
  have name := (pe_var (pos := p1) (i := i) hN hv hd hcd).run pinsZ sZ σZ HZ (fun v H1 => v = .ref f ∧ H1 = HZ) IZ ⟨.ref f, slot, rfl, rfl⟩
  refine wpAny_Call_Name_kw (thn name fun u z got => ?_)
  obtain ⟨v, H1, J, ru, rfl, rfl⟩ := got
  obtain rfl : u = Value.ref f := ru
  have fobj : ObjOk X.prog X.w H1 z.heap f (LamO f F) := J.hok f _ lam
  obtain ⟨⟨doc, pm, ctv, gf⟩, _, _⟩ := fobj
  have cobj : ObjOk X.prog X.w H1 z.heap F.code (CodeO F.code F.qual) := J.hok F.code _ code
  obtain ⟨⟨oc, vs, tq, gc, dc, vc⟩, _, _⟩ := cobj
  obtain ⟨binds, loc, bound⟩ := bind _ _ _ _ _ doc pm ctv J dflt
  refine PySem.W.callWith_F0 ⟨_, _, _, _, gf⟩ ?_
  have since : Un (frs X.stack) [] H H1 s.heap z.heap := J.base
  have runs : codeAny (model X.prog X.w) (X.A.deeper (envOfC qg sg s.heap.objs.size g cdg)) (.call (.ref f) ⟨[], []⟩) (CR (L2.CX X.prog X.w) (envOfC qg sg s.heap.objs.size g cdg :: X.stack) X.prog X.w H1 z Q E) z := by
    refine PySem.W.kla_callFunE room.depth gf rfl L.co L.gen rfl ⟨F.code, oc, vs, tq, rfl, gc, dc, vc⟩ (bound _ _ _ _ ?_)
    refine wpAny_newFunctionEnv L.cell loc (fun h1 frame same => ⟨J.nolimit.fresh _ same, ?_⟩) L.kind
    have kept : ∀ b o, z.heap.get? b = some o → h1.get? b = some o := fun b o e => same.extBut b o (Nat.ne_of_lt (Heap.lt_size e)) (Heap.get?_push_of_some _ e)
    have JL := begun (E := E) (f := f) (c' := F.code) (tk := z.toks + binds.length) I L J.env0 room.hd since frame kept
    rw [hclo, hq]
    refine PySem.W.kla_codeExpr (wpAny_mono ((body _ _ z H1 (room.deeper _)).run [] _ _ H1 Q JL promise) (fun v2 z2 got => ?_) fun _ _ no => no)
    obtain ⟨w2, H2, J2, rv, q⟩ := got
    exact ⟨w2, H2, J2.os, J2.bare, J2.base, J2.hok, rv, q⟩
  have passes : Passes (L2.CX X.prog X.w) ((cxOf CXg X.prog X.w X.K X.mg X.base Ng qg sg g cdg X.A X.stack s H Eg).tr pn xe) E := passes_call tk out
  refine wpAny_call (codeAny_mono runs fun r z2 done => ?_)
  match r, done with
  | .error er, done => exact passes pinsZ σZ H1 z er z2 J done
  | .ok (.ret u2), done => exact J.after done
end
/-! ### lambda: e and lambda x=i: e as values -/
def tLam0 (T : List (Addr × Str)) (q : Str) (mk : Addr → Option Addr → LK) : TE := fun _ H Q => Tabs T H ∧ ∀ (f c' : Addr) (H1 : Hp), ExtN H H1 → Tabs T H1 → H f = none → H1 c' = some (CodeO c' q) → H1 f = some (LamO f (mk c' none)) → Q (.ref f) H1
def tLamD (T : List (Addr × Str)) (q : Str) (mk : Addr → Option Addr → LK) (i : Int) : TE := fun _ H Q => Tabs T H ∧ ∀ (f c' t : Addr) (H1 : Hp), ExtN H H1 → Tabs T H1 → H f = none → H1 c' = some (CodeO c' q) → H1 t = some (.tup [.int i]) → H1 f = some (LamO f (mk c' (some t))) → Q (.ref f) H1
section
variable {X : Cx} {T : List (Addr × Str)} {c P : Addr} {params : Arguments} {body : Expr} {scope : Scope} {pos : Pos} {ps : List Str}
theorem pe_lam0 (TB : TabB X.base X.mg c P) (hcode : X.env.code = .ref c) (mem : (P, X.env.qual ++ "<lambda>") ∈ T) (one : ∀ p ∈ T, p.1 = P → p.2 = X.env.qual ++ "<lambda>") (L : LamN X.N X.env.scope scope ps) (hdef : defaultsOf params X.env = ([], [])) :
    PE X (.Lambda params body scope pos) (tLam0 T (X.env.qual ++ "<lambda>") fun c' d => ⟨X.env.qual ++ "<lambda>", params, body, scope, cloFrom X.env.cells scope.names [], c', d⟩) := by
  constructor
  intro pins z σ H Q I h
  obtain ⟨hT, h⟩ := h
  refine PySem.W.kla_eval hdef ?_
  rw [makeFunction_eq]
  simp only [List.zip_nil_right, List.filterMap_nil, List.isEmpty_nil, if_true, pure_bind]
  exact tail_ok (d := none) I TB hcode mem one hT (L.has I.ok) fun f c' H1 z1 J grow T1 nf hc hf => ⟨.ref f, H1, J, rfl, h f c' H1 grow T1 nf hc hf⟩
theorem pe_lamD {e : Expr} {i : Int} (TB : TabB X.base X.mg c P) (hcode : X.env.code = .ref c) (mem : (P, X.env.qual ++ "<lambda>") ∈ T) (one : ∀ p ∈ T, p.1 = P → p.2 = X.env.qual ++ "<lambda>") (L : LamN X.N X.env.scope scope ps) (hdl : params.defaults = [e]) (hk0 : params.kw_defaults = []) (he : PE X e (tC (.int i))) :
    PE X (.Lambda params body scope pos) (tLamD T (X.env.qual ++ "<lambda>") (fun c' d => ⟨X.env.qual ++ "<lambda>", params, body, scope, cloFrom X.env.cells scope.names [], c', d⟩) i) := by
  constructor
  intro pins z σ H Q I h
  obtain ⟨hT, h⟩ := h
  refine PySem.W.kdv_lam (by rw [hdl]; rfl) hk0 ?_
  rw [hdl]
  refine PySem.W.kdv_all1 (thn (he.run pins z σ H (fun v H1 => v = .int i ∧ H1 = H) I ⟨rfl, rfl⟩) fun u z1 got => ?_)
  obtain ⟨v, H1, J, ru, rfl, rfl⟩ := got
  refine PySem.W.kdv_all0 ?_
  rw [makeFunction_eq]
  simp only [List.zip_nil_right, List.filterMap_nil, List.isEmpty_nil, if_true, pure_bind, List.isEmpty_cons, Bool.false_eq_true, if_false]
  refine wpAny_bind (wpAny_newTextTuple ?_)
  have new : H1 z1.heap.objs.size = none := J.hok.fresh (Nat.le_refl _)
  have J2 := J.laid (t' := z1.toks) (a := z1.heap.objs.size) (o := .tup [V.int i]) (h' := z1.heap.push (PySem.W.kdv_tup [u])) (fun b o g => Heap.get?_push_of_some _ g) (Nat.le_refl _)
    ⟨(by decide : 1 ≤ sizeLine), [u], .cons ru .nil, ⟨_, Heap.get?_push_size _ rfl, rfl, _, rfl⟩⟩
  have sm := Rg.same_upd (o := .tup [V.int i]) new
  refine tail_ok (d := some z1.heap.objs.size) J2 TB hcode mem one (hT.ext sm) (L.has I.ok) fun f c' H2 z2 J3 grow T1 nf hc hf => ⟨.ref f, H2, J3, rfl, h f c' z1.heap.objs.size H2 ((ExtN.of sm).trans grow) T1 (Rg.un0 nf) hc (grow _ _ upd_same fun ps z => by cases z) hf⟩
end
end LamV
/-! ### a written dict of the module's top: d.get(k, x) -/
namespace Rg
open PySem PySem.Spec PyProof.Rows L2
def KTab (K : PySem.W.Frag) (w : World) (a : Addr) (kvs : List (Str × V)) : Prop :=
  ∃ es n, K.lookup a = some ⟨.type "dict", none, .dict es n, #[]⟩ ∧ PySem.W.KeysLit w.params es.toList ∧ (a == sysModules) = false ∧ ∀ z, RelO (kvs.lookup z) (findBy Value.isStrOf es z)
def tKGet (K : PySem.W.Frag) (w : World) (to te tf : TE) : TE := fun σ H Q => to σ H fun x H1 => ∃ a kvs, x = .ref a ∧ KTab K w a kvs ∧ te σ H1 fun y H2 => tf σ H2 fun z H3 => ∃ s, y = .str s ∧ Q ((kvs.lookup s).getD z) H3
theorem relO_getD {o : Option V} {o' : Option Value} {d : V} {r : Value} (h : RelO o o') (hd : RelV d r) : RelV (o.getD d) (o'.getD r) := by
  cases o <;> cases o'
  · exact hd
  · exact h.elim
  · exact h.elim
  · exact h
theorem pe_kget2 {X : Cx} (K : PySem.W.Frag) (w : World) {o e f : Expr} {to te tf : TE} {apos cpos : Pos} (ho : PE X o to) (he : PE X e te) (hf : PE X f tf) (m : M2 X o "get" apos e f cpos) (hK : X.K = K := by rfl) (hw : X.w = w := by rfl) : PE X (.Call (.Attribute o "get" apos) [e, f] [] cpos) (tKGet K w to te tf) := by
  subst hK hw
  constructor
  intro pins z σ H Q I h
  refine wpAny_Call_method m.base m.few m.line PySem.F.plainAttrs_dict PySem.F.slot_dict_get PySem.F.type_dict_get (thn (ho.run pins z σ H _ I h) fun u z1 got => ?_)
  obtain ⟨x, H1, I1, rx, a, kvs, rfl, ⟨es, n, hl, lit, low, rel⟩, q1⟩ := got
  obtain rfl : u = Value.ref a := rx
  have map1 := PySem.W.mapOf_K (prog := X.prog) (w := X.w) I1.kIn hl lit
  refine ⟨map1.typeIs, fun b eb => ?_, ?_⟩
  · cases eb
    exact ⟨_, I1.kIn _ _ hl, rfl⟩
  rw [m.trees]
  refine Calls.callWith_builtin rfl (Calls.evalArgs_plain (Calls.spliced_cons (thn (he.run pins z1 σ H1 _ I1 q1) fun kv z2 got2 => Calls.spliced_cons ?_)))
  obtain ⟨y, H2, I2, ry, q2⟩ := got2
  refine thn (hf.run pins z2 σ H2 _ I2 q2) fun fv z3 got3 => Calls.spliced_nil ?_
  obtain ⟨d, H3, I3, rd, s, rfl, q3⟩ := got3
  obtain ⟨tk, rfl⟩ := (show ∃ tk, kv = Value.str s tk from ry)
  have map3 := PySem.W.mapOf_K (prog := X.prog) (w := X.w) I3.kIn hl lit
  exact call_meetsIn PySem.F.slot_dict_get map3.typeIs PySem.F.entry_dict_get (PySem.F.args_dict_get_3 _ _ _) (meets_dict_get_default (strKind X.prog X.w) a (strKind_is X.prog X.w s tk) low fv) ⟨_, map3, _, H3, I3.tok _, relO_getD (rel s) rd, q3⟩
theorem kget {K : PySem.W.Frag} {w : World} {to te tf : TE} {σ : L2.St} {H : Hp} {Q : VK} (q : to σ H fun x H1 => ∃ a kvs, x = .ref a ∧ KTab K w a kvs ∧ te σ H1 fun y H2 => tf σ H2 fun z H3 => ∃ s, y = .str s ∧ Q ((kvs.lookup s).getD z) H3) : tKGet K w to te tf σ H Q := q
end Rg

set_option Elab.async false
set_option linter.all false
set_option maxRecDepth 100000
set_option maxHeartbeats 4000000
/-! a, *b = ..: a tuple or a list taken apart with a star -/
namespace St6
open PySem PySem.Spec PyProof.Rows L2
section
variable {P : Program} {w : World} {Ar : Around} {Ee : Value → Shared → Prop} {u : Shared}
/-- what the star leaves in the middle, and behind it -/
def midS (xs : List V) (n i : Nat) : List V := (xs.drop i).take (xs.length + 1 - n)
def endS (xs : List V) (n i : Nat) : List V := (xs.drop i).drop (xs.length + 1 - n)
theorem behind {Qx : List Value → Shared → Prop} {g : Shared} {front some_ rest : List Value} (hz : some_.length ≤ 16384)
    (q : ∀ t', Qx (front ++ [.ref g.heap.objs.size] ++ rest) { g with heap := g.heap.push { cls := .type "list", data := .seq some_.toArray }, toks := t' }) :
    wpAny (model P w) Ar (newList some_ >>= fun l => pure (front ++ [l] ++ rest)) Qx Ee g :=
  wpAny_bind (wpAny_newList (wpAny_pure (q _)) (by rw [sizeLine_eq]; omega))
theorem starTup {p : Addr} {vs : Array Value} {n i : Nat} {Qx : List Value → Shared → Prop} (hp : IsTup u.heap p vs) (calm : Ar.handled = none) (hi : i < n) (hn : n ≤ vs.size + 1) (hz : vs.size ≤ 16384)
    (q : ∀ (g : Heap) (t' : Nat), (∀ b o, u.heap.get? b = some o → g.get? b = some o) →
      Qx (vs.toList.take i ++ [.ref g.objs.size] ++ (vs.toList.drop i).drop (vs.size + 1 - n)) { u with heap := g.push { cls := .type "list", data := .seq ((vs.toList.drop i).take (vs.size + 1 - n)).toArray }, toks := t' }) :
    wpAny (model P w) Ar (unpackItems (.ref p) n (some i)) Qx Ee u := by
  have below : p < u.heap.objs.size := (fun ⟨_, e, _⟩ => Heap.lt_size e) hp
  have differ : p ≠ u.heap.objs.size := Nat.ne_of_lt below
  have lenTake : (vs.toList.take i).length = i := by
    rw [List.length_take, Array.length_toList]
    omega
  have lenDrop : (vs.toList.drop i).length = vs.size - i := by rw [List.length_drop, Array.length_toList]
  unfold unpackItems notIterableAtAll
  refine wpAny_bind (wpAny_bind (wpAny_specialOf hp.typeIs slot_tuple_iter.lookup (wpAny_pure ?_)))
  show wpAny _ _ (if false = true then _ else _) _ _ _
  rw [if_neg (by decide)]
  refine wpAny_bind (wpAny_holding (iter_tuple hp (wpAny_bind (wpAny_holding (draw_tuple differ i 0 _ _ ⟨_, Heap.get?_push_size _ rfl, rfl, rfl⟩ (hp.push _) (by omega) fun g1 it1 but1 => ?_)))))
  have hp1 : IsTup g1 p vs := (hp.push _).extBut but1.extBut differ
  rw [Nat.zero_add] at it1
  rw [List.drop_zero, if_neg (fun z => absurd z (by rw [lenTake]; exact Nat.lt_irrefl i))]
  have itLt : u.heap.objs.size < g1.objs.size := (fun ⟨_, e, _⟩ => Heap.lt_size e) it1
  have pLt : p < g1.objs.size := (fun ⟨_, e, _⟩ => Heap.lt_size e) hp1
  refine wpAny_bind (wpAny_holding (PySem.W.kun_collect (s := { u with heap := g1 }) (T := "tuple_iterator") (.inr (.inr (.inr rfl))) (Walks.tuple (A := Ar.in1) calm u.heap.objs.size p differ vs) (fun _ _ st => st.1.typeIs) (k := i) (by omega) ⟨it1, hp1⟩ itLt pLt (fun g2 t2 keep => ?_) (by rw [sizeLine_eq]; omega)))
  have stay : ∀ b o, u.heap.get? b = some o → g2.get? b = some o := fun b o e => by
    have lt := Heap.lt_size e
    exact keep b o (Nat.ne_of_lt lt) (but1.extBut b o (Nat.ne_of_lt lt) (Heap.get?_push_of_some _ e))
  have cut : (vs.toList.drop i).length - (n - 1 - i) = vs.size + 1 - n := by rw [lenDrop]; omega
  refine (if_neg (show ¬ (vs.toList.drop i).length < n - 1 - i by rw [lenDrop]; omega) : (if (vs.toList.drop i).length < n - 1 - i then _ else _) = _) ▸ ?_
  refine behind (some_ := (vs.toList.drop i).take ((vs.toList.drop i).length - (n - 1 - i))) (rest := (vs.toList.drop i).drop ((vs.toList.drop i).length - (n - 1 - i))) (by rw [List.length_take, lenDrop]; omega) fun t' => ?_
  rw [cut]
  exact q g2 t' stay
theorem starLst {p : Addr} {vs : Array Value} {n i : Nat} {Qx : List Value → Shared → Prop} (hp : u.heap.IsList p vs) (calm : Ar.handled = none) (hi : i < n) (hn : n ≤ vs.size + 1) (hz : vs.size ≤ 16384)
    (q : ∀ (g : Heap) (t' : Nat), (∀ b o, u.heap.get? b = some o → g.get? b = some o) →
      Qx (vs.toList.take i ++ [.ref g.objs.size] ++ (vs.toList.drop i).drop (vs.size + 1 - n)) { u with heap := g.push { cls := .type "list", data := .seq ((vs.toList.drop i).take (vs.size + 1 - n)).toArray }, toks := t' }) :
    wpAny (model P w) Ar (unpackItems (.ref p) n (some i)) Qx Ee u := by
  have below : p < u.heap.objs.size := (fun ⟨_, e, _⟩ => Heap.lt_size e) hp
  have differ : p ≠ u.heap.objs.size := Nat.ne_of_lt below
  have lenTake : (vs.toList.take i).length = i := by
    rw [List.length_take, Array.length_toList]
    omega
  have lenDrop : (vs.toList.drop i).length = vs.size - i := by rw [List.length_drop, Array.length_toList]
  unfold unpackItems notIterableAtAll
  refine wpAny_bind (wpAny_bind (wpAny_specialOf hp.typeIs slot_list_iter.lookup (wpAny_pure ?_)))
  show wpAny _ _ (if false = true then _ else _) _ _ _
  rw [if_neg (by decide)]
  refine wpAny_bind (wpAny_holding (wpAny_pyIter_list hp (wpAny_bind (wpAny_holding (PySem.W.kun_draw differ i 0 _ _ ⟨_, Heap.get?_push_size _ rfl, rfl, rfl⟩ (hp.push _) (by omega) fun g1 it1 but1 => ?_)))))
  have hp1 : g1.IsList p vs := (hp.push _).extBut but1.extBut differ
  rw [Nat.zero_add] at it1
  rw [List.drop_zero, if_neg (fun z => absurd z (by rw [lenTake]; exact Nat.lt_irrefl i))]
  have itLt : u.heap.objs.size < g1.objs.size := (fun ⟨_, e, _⟩ => Heap.lt_size e) it1
  have pLt : p < g1.objs.size := (fun ⟨_, e, _⟩ => Heap.lt_size e) hp1
  refine wpAny_bind (wpAny_holding (PySem.W.kun_collect (s := { u with heap := g1 }) (T := "list_iterator") (.inr (.inr (.inl rfl))) (Walks.list (A := Ar.in1) calm u.heap.objs.size p differ vs) (fun _ _ st => st.1.typeIs) (k := i) (by omega) ⟨it1, hp1⟩ itLt pLt (fun g2 t2 keep => ?_) (by rw [sizeLine_eq]; omega)))
  have stay : ∀ b o, u.heap.get? b = some o → g2.get? b = some o := fun b o e => by
    have lt := Heap.lt_size e
    exact keep b o (Nat.ne_of_lt lt) (but1.extBut b o (Nat.ne_of_lt lt) (Heap.get?_push_of_some _ e))
  have cut : (vs.toList.drop i).length - (n - 1 - i) = vs.size + 1 - n := by rw [lenDrop]; omega
  refine (if_neg (show ¬ (vs.toList.drop i).length < n - 1 - i by rw [lenDrop]; omega) : (if (vs.toList.drop i).length < n - 1 - i then _ else _) = _) ▸ ?_
  refine behind (some_ := (vs.toList.drop i).take ((vs.toList.drop i).length - (n - 1 - i))) (rest := (vs.toList.drop i).drop ((vs.toList.drop i).length - (n - 1 - i))) (by rw [List.length_take, lenDrop]; omega) fun t' => ?_
  rw [cut]
  exact q g2 t' stay
end
/-! the targets -/
/-- (a, *b, c) = a tuple or a list: n targets, the star at i -/
def gTupS (K : PySem.W.Frag) (n i : Nat) (t : TGs) : TG := fun v σ H Q => ∃ a xs, v = .ref a ∧ (SqT K H a xs ∨ SqL K H a xs) ∧ n ≤ xs.length + 1 ∧ xs.length ≤ 16384 ∧
  ∀ D, H D = none → t (xs.take i ++ [.ref D] ++ endS xs n i) σ (upd H D (.lst (midS xs n i))) Q
theorem pgs_consS {X : Cx} {e : Expr} {sp : Pos} {es : List Expr} {t : TG} {v : TGs} (h1 : PG X e t) (h2 : PGs X es v)
    (hs : (assignEach (.Starred e sp :: es) X.env).map (·.2) = assign e X.env :: (assignEach es X.env).map (·.2) := by rfl) : PGs X (.Starred e sp :: es) (gCons t v) := by
  refine ⟨fun pins s σ H vs us Q I r h => ?_⟩
  obtain ⟨x, xr, rfl, h⟩ := h
  cases r with
  | cons r rr =>
    rw [hs]
    refine assignInOrder_cons (thn (h1.run pins s σ H _ _ _ I r h) fun _ s1 ⟨σ1, H1, I1, q1⟩ => ?_)
    exact h2.run pins s1 σ1 H1 _ _ Q I1 rr q1
theorem Vals.take {vs : List V} {us : List Value} (r : Vals vs us) : ∀ k, Vals (vs.take k) (us.take k) := by
  induction r with
  | nil => intro k; rw [List.take_nil, List.take_nil]; exact .nil
  | cons h _ ih =>
    intro k
    cases k with
    | zero => exact .nil
    | succ k => exact .cons h (ih k)
theorem Vals.drop {vs : List V} {us : List Value} (r : Vals vs us) : ∀ k, Vals (vs.drop k) (us.drop k) := by
  induction r with
  | nil => intro k; rw [List.drop_nil, List.drop_nil]; exact .nil
  | cons h r ih =>
    intro k
    cases k with
    | zero => exact .cons h r
    | succ k => exact ih k
theorem pg_tupS {X : Cx} {es : List Expr} {k : Nat} {pos : Pos} {t : TGs} {n i : Nat} (hc : X.calm = true) (h : PGs X es t) (hi : i < n)
    (hn : (assignEach es X.env).length = n := by rfl) (hst : (assignEach es X.env).findIdx? (·.1) = some i := by rfl) : PG X (.Tuple es k pos) (gTupS X.K n i t) := by
  refine ⟨fun pins s σ H v u Q I r hw => ?_⟩
  obtain ⟨a, xs, rfl, hq, hl, hz, hw⟩ := hw
  cases r
  have go : ∀ (its : List Value), Vals xs its → ∀ (g : Heap) (t' : Nat), (∀ b o, s.heap.get? b = some o → g.get? b = some o) →
      wpAny (model X.prog X.w) X.A (assignInOrder ((assignEach es X.env).map (·.2)) (its.take i ++ [.ref g.objs.size] ++ (its.drop i).drop (xs.length + 1 - n))) (fun _ s' => ∃ σ' H', Inv X pins σ' H' s' ∧ Q σ' H') X.xe
        { s with heap := g.push { cls := .type "list", data := .seq ((its.drop i).take (xs.length + 1 - n)).toArray }, toks := t' } := fun its rv g t' kp => by
    have I1 : Inv X pins σ H { s with heap := g, toks := t' } := I.kept (t' := t') kp
    have rm : Vals (midS xs n i) ((its.drop i).take (xs.length + 1 - n)) := Vals.take (Vals.drop rv i) _
    have ml : (midS xs n i).length ≤ sizeLine := by
      unfold midS
      rw [List.length_take, sizeLine_eq]
      omega
    have I2 : Inv X pins σ (upd H g.objs.size (.lst (midS xs n i))) { s with heap := g.push { cls := .type "list", data := .seq ((its.drop i).take (xs.length + 1 - n)).toArray }, toks := t' } :=
      I1.laid (t' := t') (fun b o e => Heap.get?_push_of_some _ e) (Nat.le_refl _) ⟨ml, _, 0, rm, Heap.get?_push_size _ rfl⟩
    exact h.run pins _ σ _ _ _ Q I2 (((Vals.take rv i).append (.cons (show RelV (.ref g.objs.size) (.ref g.objs.size) from rfl) .nil)).append (Vals.drop (Vals.drop rv i) _)) (hw _ (I1.hok.fresh (Nat.le_refl _)))
  show wpAny _ _ (assign (.Tuple es k pos) X.env (.ref a)) _ _ _
  rw [assign_Tuple]
  refine wpAny_bind (wpAny_standAt ?_)
  unfold unpack
  rw [hn, hst]
  rcases hq with hq | hq
  · obtain ⟨its, rv, ht, _⟩ := I.tuple hq
    have e := rv.length
    refine wpAny_bind (wpAny_holding (starTup ht (I.ok.hd hc) hi (by simpa [← e] using hl) (by simpa [← e] using hz) fun g t' kp => ?_))
    have := go its rv g t' kp
    simpa [e] using this
  · obtain ⟨its, rv, ht, _⟩ := I.list hq
    have e := rv.length
    refine wpAny_bind (wpAny_holding (starLst (vs := its.toArray) ht.isList (I.ok.hd hc) hi (by simpa [← e] using hl) (by simpa [← e] using hz) fun g t' kp => ?_))
    have := go its rv g t' kp
    simpa [e] using this
theorem pg_tupSX (K : PySem.W.Frag) {X : Cx} {es : List Expr} {k : Nat} {pos : Pos} {n i : Nat} {t : TGs} (h : PG X (.Tuple es k pos) (gTupS X.K n i t)) (hK : X.K = K := by rfl) : PG X (.Tuple es k pos) (gTupS K n i t) := by subst hK; exact h
end St6

set_option Elab.async false
set_option linter.all false
set_option maxRecDepth 100000
set_option maxHeartbeats 4000000
/-! own classes: objects made through a local name, classmethods, fields, methods -/
namespace Ob
open PySem L2
/-- a class, made by a local name that holds it -/
structure MakV (P : Program) (w : World) (K : PySem.W.Frag) (mg : Str → Option Value) (base : Heap) (k : Nat) (C : Addr) (sp : Sp) : Prop where
  ex : ∃ (f : Addr) (fd : FuncData) (ps : List Str), Mk K C f ∧ FnOk P w K mg base CX0 k f fd ps sp ∧ Binds K fd ps []
def tMakV (i : Nat) (C : Addr) (sp : Sp) : TE := fun σ H Q => σ[i]? = some (some (.ref C)) ∧ ∀ x dx, H x = none → H dx = none → dx ≠ x →
  sp [.ref x] (upd (upd H dx (.own x)) x (.ins C dx [])) (fun v H2 => v = .non ∧ Q (.ref x) H2) E0
section
variable {X : Cx} {k j : Nat} {C : Addr} {x m : Str} {sp : Sp} {p pos apos : Pos} {e o : Expr} {es : List Expr} {ta : TE} {t : TA}
theorem pe_mkv {i : Nat} (c : MakV X.prog X.w X.K X.mg X.base k C sp) (hr : Room j X.A) (hk : k + 1 ≤ j) (hN : X.N[i]? = some x) (hv : Vis X.env.scope x)
    (hd : (x == ("__debug__" : Str)) = false := by decide) (hcd : (x == ("__classdict__" : Str)) = false := by decide) : PE X (.Call (.Name x p) [] [] pos) (tMakV i C sp) := by
  obtain ⟨f, fd, ps, M, F, b⟩ := c.ex
  refine ⟨fun pins s σ H Q I h => ?_⟩
  obtain ⟨hs, h⟩ := h
  refine wpAny_Call_Name_kw (thn ((pe_var (pos := p) hN hv hd hcd).run pins s σ H (fun v H1 => v = .ref C ∧ H1 = H) I ⟨.ref C, hs, rfl, rfl⟩) fun u s1 ⟨v, H1, I1, r1, q1⟩ => ?_)
  obtain ⟨rfl, rfl⟩ := q1
  cases r1
  exact PySem.W.callWith_K0 I1.kIn M.kp (run_make (us := []) (dvs := []) (ds := []) M F (hr.mono hk) b .nil pass0 I1 .nil h)
/-- C.m(..), m a classmethod of the class that the module's name x holds -/
structure CalM (P : Program) (w : World) (K : PySem.W.Frag) (mg : Str → Option Value) (base : Heap) (k : Nat) (C : Addr) (m : Str) (sp : Sp) : Prop where
  ex : ∃ (p g : Addr) (fd : FuncData) (ps : List Str), ClX.CRead K C (.type "type") ∧ ClX.CMet K C (.type "type") m p g ∧ FnOk P w K mg base CX0 k g fd ps sp ∧ Binds K fd ps []
theorem pe_cm {pl : Sem Bool} (he : PE X o ta) (c : CalM X.prog X.w X.K X.mg X.base k C m sp) (hr : Room j X.A) (hk : k ≤ j) (ha : PA X (e :: es) t)
    (hst : starEach (e :: es) X.env = (false, eval e X.env) :: starEach es X.env := by rfl) (hpl : (backTo pos (starEach es X.env)).any (·.1) = false := by rfl)
    (ht : eval (.Call (.Attribute o m apos) (e :: es) [] pos) X.env = (do
      let ov ← eval o X.env
      standAt apos.atName
      let (f, first) ← holding [ov] (getMethod ov m pl)
      callWith pos f first (backTo pos (starEach (e :: es) X.env)) (backToKw pos (keywordEach [] X.env))) := by rfl) :
    PE X (.Call (.Attribute o m apos) (e :: es) [] pos) (ClX.tCMeth C sp E0 ta t) := by
  obtain ⟨p, g, fd, ps, r, cm, F, b⟩ := c.ex
  exact ClX.pe_cmeth (pl := pl) he r cm ((F.raw b .nil).imp fun vs H Q E h => by rw [List.append_nil]; exact h) (hr.mono hk) pass0 ha hst hpl ht
end
/-! the readings, a step each -/
section
variable {K : PySem.W.Frag} {σ : L2.St} {H : Hp} {Q : VK} {D : Ends} {ta tv : TE} {t : TA} {f m : Str} {v : V} {a C dx : Addr} {fs : List (Str × V)} {sp : Sp} {dvs : List V} {E : XK}
theorem fld (q : ta σ H fun x H1 => ∃ a C dx fs v, x = .ref a ∧ H1 a = some (.ins C dx fs) ∧ Cls K C ∧ NoAttr K C f ∧ fs.lookup f = some v ∧ Q v H1) : tFld K ta f σ H Q := q
theorem exfld {R : V → Prop} (h : H a = some (.ins C dx fs)) (c : Cls K C) (n : NoAttr K C f) (l : fs.lookup f = some v) (q : R v) :
    ∃ a' C dx fs v, V.ref a = .ref a' ∧ H a' = some (.ins C dx fs) ∧ Cls K C ∧ NoAttr K C f ∧ fs.lookup f = some v ∧ R v := ⟨a, C, dx, fs, v, rfl, h, c, n, l, q⟩
theorem sfld (q : tv σ H fun y H1 => ta σ H1 fun x H2 => ∃ a C dx fs, x = .ref a ∧ H2 a = some (.ins C dx fs) ∧ Cls K C ∧ NoAttr K C f ∧ fs.length < 1000 ∧ D.nx σ (upd H2 a (.ins C dx (putF f y fs)))) : sFld K ta tv f D σ H := q
theorem exsfld {R : Addr → Addr → Addr → List (Str × V) → Prop} (h : H a = some (.ins C dx fs)) (c : Cls K C) (n : NoAttr K C f) (l : fs.length < 1000) (q : R a C dx fs) :
    ∃ a' C dx fs, V.ref a = .ref a' ∧ H a' = some (.ins C dx fs) ∧ Cls K C ∧ NoAttr K C f ∧ fs.length < 1000 ∧ R a' C dx fs := ⟨a, C, dx, fs, rfl, h, c, n, l, q⟩
theorem meth (q : ta σ H fun x H1 => ∃ a dx fs, x = .ref a ∧ H1 a = some (.ins C dx fs) ∧ fs.lookup m = none ∧ t σ H1 fun vs H2 => sp (x :: (vs ++ dvs)) H2 Q E) : tMeth C m sp dvs E ta t σ H Q := q
theorem exmeth {R : Prop} (h : H a = some (.ins C dx fs)) (l : fs.lookup m = none) (q : R) : ∃ a' dx fs, V.ref a = .ref a' ∧ H a' = some (.ins C dx fs) ∧ fs.lookup m = none ∧ R := ⟨a, dx, fs, rfl, h, l, q⟩
theorem mkv {i : Nat} (h : σ[i]? = some (some (.ref C))) (q : ∀ x dx, H x = none → H dx = none → dx ≠ x → sp [.ref x] (upd (upd H dx (.own x)) x (.ins C dx [])) (fun v H2 => v = .non ∧ Q (.ref x) H2) E0) : tMakV i C sp σ H Q := ⟨h, q⟩
theorem cmeth (q : ta σ H fun x H1 => x = .ref C ∧ t σ H1 fun vs H2 => sp (.ref C :: vs) H2 Q E) : ClX.tCMeth C sp E ta t σ H Q := q
theorem excm {R : Prop} (q : R) : V.ref C = .ref C ∧ R := ⟨rfl, q⟩
theorem gstar {n i : Nat} {gs : TGs} {QS : L2.St → Hp → Prop} {xs : List V} (h : SqT K H a xs ∨ SqL K H a xs) (hn : n ≤ xs.length + 1) (hz : xs.length ≤ 16384) (q : ∀ D, H D = none → gs (xs.take i ++ [.ref D] ++ St6.endS xs n i) σ (upd H D (.lst (St6.midS xs n i))) QS) : St6.gTupS K n i gs (.ref a) σ H QS :=
  ⟨a, xs, rfl, h, hn, hz, q⟩
theorem lockE {te : TE} {d : Addr} {u : HO} (h : H d = some u) (mu : Mut (some u)) (q : ∀ od, te σ (upd H d (.frz od u)) fun v H' => H' d = some (.frz od u) ∧ Q v (upd H' d u)) : tLockE te σ H Q := ⟨d, u, h, mu, q⟩
end
section
variable {σ : L2.St} {H : Hp} {Q : VK} {D : Ends} {td ty tv : TE}
theorem din (q : ty σ H fun y H1 => td σ H1 fun x H2 => ∃ a o, x = .ref a ∧ DGet H2 a y o ∧ Q (.bl o.isSome) H2) : tDIn ty td σ H Q := q
theorem dnin (q : ty σ H fun y H1 => td σ H1 fun x H2 => ∃ a o, x = .ref a ∧ DGet H2 a y o ∧ Q (.bl (!o.isSome)) H2) : tDNotIn ty td σ H Q := q
theorem dget (q : td σ H fun x H1 => ty σ H1 fun y H2 => ∃ a v, x = .ref a ∧ DGet H2 a y (some v) ∧ Q v H2) : tDGet td ty σ H Q := q
theorem dput (q : tv σ H fun v H1 => td σ H1 fun x H2 => ty σ H2 fun y H3 => ∃ a H4, x = .ref a ∧ DPut H3 a y v H4 ∧ D.nx σ H4) : sDPut td ty tv D σ H := q
theorem dnew (q : ∀ p, H p = none → Q (.ref p) (upd H p (.dK []))) : tDNewK σ H Q := q
theorem exdin {a : Addr} {y : V} {o : Option V} {R : Option V → Prop} (g : DGet H a y o) (q : R o) : ∃ a' o, V.ref a = .ref a' ∧ DGet H a' y o ∧ R o := ⟨a, o, rfl, g, q⟩
theorem exdget {a : Addr} {y v : V} {R : V → Prop} (g : DGet H a y (some v)) (q : R v) : ∃ a' v, V.ref a = .ref a' ∧ DGet H a' y (some v) ∧ R v := ⟨a, v, rfl, g, q⟩
theorem getK {d : Addr} {kvs : List (Key × V)} (n : Int) (h : H d = some (.dK kvs)) : DGet H d (.int n) (valV kvs (Sum.inl n)) := DGet.k (k := Sum.inl n) h
theorem getKv {d : Addr} {kvs : List (Key × V)} {n : Int} {v : V} (h : H d = some (.dK kvs)) (e : valV kvs (Sum.inl n) = some v) : DGet H d (.int n) (some v) := by
  rw [← e]
  exact getK n h
theorem getFv {d : Addr} {o : Obj} {kvs : List (Key × V)} {n : Int} {v : V} (h : H d = some (.frz o (.dK kvs))) (e : valV kvs (Sum.inl n) = some v) : DGet H d (.int n) (some v) := .inl ⟨kvs, Sum.inl n, .inr ⟨o, h⟩, rfl, e.symm⟩
theorem exdput {a : Addr} {y v : V} {H4 : Hp} {R : Hp → Prop} (g : DPut H a y v H4) (q : R H4) : ∃ a' H4, V.ref a = .ref a' ∧ DPut H a' y v H4 ∧ R H4 := ⟨a, H4, rfl, g, q⟩
end
section
variable {σ : L2.St} {H : Hp} {Q : VK} {wi wi1 : TI} {g g1 : TG} {tt tt1 : TT} {te : TE} {vs vs1 : List Nat}
theorem lc2 (q : wi σ H fun J H1 => ∀ D, H1 D = none → ∃ W : Nat → Nat → Hp → Prop, (∃ m, W 0 m (upd H1 D (.lst []))) ∧ ∀ i m H, W i m H →
  (J.stop i H ∧ Q (.ref D) H) ∨ (J.go i H ∧ ∃ Nx : Hp → Prop, (∀ H', Nx H' → ∃ m', m' < m ∧ W (i + 1) m' H') ∧ ∀ x H', J.yld i H x H' → g x (wipe σ vs) H' fun σ2 H2 => wipe σ2 vs = wipe σ vs ∧ tt σ2 H2 fun b H3 =>
    if b = true then wi1 σ2 H3 fun J1 H4 => ∃ W1 : Nat → Nat → Hp → Prop, (∃ m, W1 0 m H4) ∧ ∀ j k H, W1 j k H →
      (J1.stop j H ∧ Nx H) ∨ (J1.go j H ∧ ∃ Nx1 : Hp → Prop, (∀ H', Nx1 H' → ∃ k', k' < k ∧ W1 (j + 1) k' H') ∧ ∀ x H', J1.yld j H x H' → g1 x (wipe σ2 vs1) H' fun σ3 H5 => wipe σ3 vs1 = wipe σ2 vs1 ∧ tt1 σ3 H5 fun b H6 =>
        if b = true then te σ3 H6 fun y H7 => ∃ acc, H7 D = some (.lst acc) ∧ acc.length < sizeLine ∧ Nx1 (upd H7 D (.lst (acc ++ [y]))) else Nx1 H6)
    else Nx H3)) : tLc2 wi g tt wi1 g1 tt1 te vs vs1 σ H Q := q
/-- the outer loop of two, by an invariant -/
theorem out_it {J : It} {n : Nat} {G : Hp → Prop} {Y : Nat → Hp → V → Hp → Prop} (w : Walk J n G Y) {H1 : Hp} {D : Addr} {Qd : Hp → Prop} {B : V → Hp → (Hp → Prop) → Prop} (Pv : Nat → Hp → Prop) (h0 : Pv 0 (upd H1 D (.lst []))) (hG : ∀ i H, i ≤ n → Pv i H → G H)
    (hs : ∀ i x H H', i < n → Pv i H → Y i H x H' → B x H' (Pv (i + 1))) (hd : ∀ H, Pv n H → Qd H) :
    ∃ W : Nat → Nat → Hp → Prop, (∃ m, W 0 m (upd H1 D (.lst []))) ∧ ∀ i m H, W i m H → (J.stop i H ∧ Qd H) ∨ (J.go i H ∧ ∃ Nx : Hp → Prop, (∀ H', Nx H' → ∃ m', m' < m ∧ W (i + 1) m' H') ∧ ∀ x H', J.yld i H x H' → B x H' Nx) := by
  refine ⟨fun i m H => m = n - i ∧ i ≤ n ∧ Pv i H, ⟨n, by simp, Nat.zero_le _, h0⟩, ?_⟩
  rintro i m H ⟨rfl, hi, p⟩
  have c := hG i H hi p
  rcases Nat.lt_or_ge i n with lt | ge
  · exact .inr ⟨w.goes i H lt c, Pv (i + 1), fun H' p' => ⟨n - (i + 1), by omega, rfl, lt, p'⟩, fun x H' y => hs i x H H' lt p (w.yields i H x H' lt c y)⟩
  · obtain rfl : i = n := Nat.le_antisymm hi ge
    exact .inl ⟨w.stops H c, hd H p⟩
/-- the inner loop of two -/
theorem in_it {J : It} {n : Nat} {G : Hp → Prop} {Y : Nat → Hp → V → Hp → Prop} (w : Walk J n G Y) {H1 : Hp} {Qd : Hp → Prop} {B : V → Hp → (Hp → Prop) → Prop} (Pv : Nat → Hp → Prop) (h0 : Pv 0 H1) (hG : ∀ i H, i ≤ n → Pv i H → G H)
    (hs : ∀ i x H H', i < n → Pv i H → Y i H x H' → B x H' (Pv (i + 1))) (hd : ∀ H, Pv n H → Qd H) :
    ∃ W : Nat → Nat → Hp → Prop, (∃ m, W 0 m H1) ∧ ∀ i m H, W i m H → (J.stop i H ∧ Qd H) ∨ (J.go i H ∧ ∃ Nx : Hp → Prop, (∀ H', Nx H' → ∃ m', m' < m ∧ W (i + 1) m' H') ∧ ∀ x H', J.yld i H x H' → B x H' Nx) := by
  refine ⟨fun i m H => m = n - i ∧ i ≤ n ∧ Pv i H, ⟨n, by simp, Nat.zero_le _, h0⟩, ?_⟩
  rintro i m H ⟨rfl, hi, p⟩
  have c := hG i H hi p
  rcases Nat.lt_or_ge i n with lt | ge
  · exact .inr ⟨w.goes i H lt c, Pv (i + 1), fun H' p' => ⟨n - (i + 1), by omega, rfl, lt, p'⟩, fun x H' y => hs i x H H' lt p (w.yields i H x H' lt c y)⟩
  · obtain rfl : i = n := Nat.le_antisymm hi ge
    exact .inl ⟨w.stops H c, hd H p⟩
end
theorem mt_indexX (K : PySem.W.Frag) {X : Cx} (hK : X.K = K := by rfl) : MtR X "list.index" (rIndex K) := by subst hK; exact mt_index
theorem idxI {K : PySem.W.Frag} {H : Hp} {Q : VK} {a : Addr} {ms : List Int} {n : Int} (h : SqL K H a (ms.map V.int)) (hn : n ∈ ms) (q : Q (.int (ms.idxOf n : Nat)) H) : rIndex K (.ref a) [.int n] H Q := by
  have lt := List.idxOf_lt_length_iff.mpr hn
  refine ⟨a, ms.map V.int, .int n, ms.idxOf n, .int n, rfl, rfl, h, rfl, ?_, ?_, ?_, ?_, q⟩
  · rw [List.all_map]
    exact List.all_eq_true.mpr fun x _ => rfl
  · rw [List.getElem?_map, List.getElem?_eq_getElem lt, List.getElem_idxOf]
    rfl
  · show (n == n) = true
    simp
  · intro m z hm hz
    rw [List.getElem?_map] at hz
    obtain ⟨x, hx, rfl⟩ := Option.map_eq_some_iff.mp hz
    obtain ⟨hl, e⟩ := List.getElem?_eq_some_iff.mp hx
    have := List.not_of_lt_findIdx (p := (· == n)) (xs := ms) hm
    rw [e] at this
    show (x == n) = false
    simpa using this
theorem lookHead {f : Str} {v : V} {r : List (Str × V)} : List.lookup f ((f, v) :: r) = some v := by simp [List.lookup]
theorem lookTail {f g : Str} {v : V} {r : List (Str × V)} {o : Option V} (h : (f == g) = false) (l : List.lookup f r = o) : List.lookup f ((g, v) :: r) = o := by simpa [List.lookup, h] using l
theorem lookNil {f : Str} : List.lookup f ([] : List (Str × V)) = none := rfl
theorem putHead {f : Str} {v w : V} {r : List (Str × V)} : putF f w ((f, v) :: r) = (f, w) :: r := by simp [putF]
theorem putTail {f g : Str} {v w : V} {r r' : List (Str × V)} (h : (g == f) = false) (l : putF f w r = r') : putF f w ((g, v) :: r) = (g, v) :: r' := by
  have : ¬ g = f := by simpa using h
  simp [putF, this, l]
theorem putNil {f : Str} {w : V} : putF f w [] = [(f, w)] := rfl
end Ob

set_option Elab.async false
set_option linter.all false
set_option maxRecDepth 100000
set_option maxHeartbeats 4000000
/-! defs with a star parameter, called by their names -/
namespace Ob
open PySem PySem.Spec PyProof.Rows L2
/-- a def with a star parameter: its promise speaks of all arguments in a row -/
structure CalS (P : Program) (w : World) (K : PySem.W.Frag) (mg : Str → Option Value) (base : Heap) (k : Nat) (x : Str) (sp : Sp) : Prop where
  ex : ∃ f : Addr, FnR P w K mg base CX0 k f sp ∧ mg x = some (.ref f) ∧ PySem.W.keepIn K (.ref f) = true
section
variable {X : Cx} {k j : Nat} {x : Str} {sp : Sp} {p pos : Pos} {e : Expr} {es : List Expr} {t : TA}
theorem pe_cs (c : CalS X.prog X.w X.K X.mg X.base k x sp) (hr : Room j X.A) (hk : k ≤ j) (hg : Gl X x) (ha : PA X (e :: es) t) (hdb : (x == ("__debug__" : Str)) = false := by decide)
    (he : starEach (e :: es) X.env = (false, eval e X.env) :: starEach es X.env := by rfl) (hpl : (backTo pos (starEach es X.env)).any (·.1) = false := by rfl) : PE X (.Call (.Name x p) (e :: es) [] pos) (Rg.tCC sp t) := by
  obtain ⟨f, F, hm, hkp⟩ := c.ex
  refine ⟨fun pins s σ H Q I h => ?_⟩
  refine wpAny_Call_Name_kw (ld_glob I hg hm ?_ hdb)
  refine PySem.W.callWith_K (h₀ := X.base) I.ok.mod.kin hkp (thn (ha.run pos pins s σ H _ I h) fun us s1 ⟨vs, H1, I1, r, q⟩ => ⟨I1.kIn, ?_⟩) he hpl
  exact wpAny_call (run_fnR F (hr.mono hk) pass0 I1 r q)
end
end Ob

set_option Elab.async false
set_option linter.all false
set_option maxRecDepth 100000
set_option maxHeartbeats 4000000
/-! generators whose consumer is a loop or a comprehension: while one sleeps, what stands at ws may change (begun) -/
namespace Gx
open PySem PySem.Spec PyProof.Rows L2 GenW
/-- a nap: what stands at ws may change, all else is kept -/
structure Nap (ws : List (Addr × Obj)) (s s' : Shared) : Prop where
  os : s'.os = s.os
  bare : AllBare s'.gens
  keep : ∀ b o, (∀ p ∈ ws, p.1 ≠ b) → s.heap.get? b = some o → s'.heap.get? b = some o
/-- the consumer's objects: younger than the generator's call, none of its frame's -/
def Off (X : Cx) (ws : List (Addr × Obj)) : Prop := ∀ p ∈ ws, X.s_0.heap.objs.size ≤ p.1 ∧ p.1 ≠ X.env.locals ∧ (∀ x c, X.env.cells.lookup x = some c → c ≠ p.1) ∧ ∀ q ∈ X.pn, q.1 ≠ p.1
/-- the consumer's objects as they stand in s' -/
def Stand (ws ws' : List (Addr × Obj)) (s' : Shared) : Prop := ws'.map (·.1) = ws.map (·.1) ∧ ∀ p ∈ ws', s'.heap.get? p.1 = some p.2 ∧ ∀ v, p.2.data ≠ .cell v
/-- woken again: the generator's own things stand as they stood -/
theorem woken {X : Cx} {ws ws' ip : List (Addr × Obj)} {σ : L2.St} {H : Hp} {s s' : Shared} (hA : Off X ws) (hip : ∀ p ∈ ws, ∀ q ∈ ip, q.1 ≠ p.1) (I : Inv X (ws ++ ip) σ H s) (z : Nap ws s s') (st : Stand ws ws' s') : Inv X (ws' ++ ip) σ H s' := by
  have pinW : ∀ p ∈ ws, H p.1 = none ∧ p.1 ≠ X.env.locals ∧ p.1 ∉ X.fs := fun p hp => by
    obtain ⟨_, h2, h3, h4, _⟩ := I.pin p (List.mem_append_right _ (List.mem_append_left _ hp))
    exact ⟨h2, h3, h4⟩
  have I0 : Inv X ip σ H s := I.pins_of fun p hp => I.pin p (List.mem_append_right _ (List.mem_append_right _ hp))
  obtain ⟨z1, z2, z3⟩ := z
  obtain ⟨hh, g, d, t, o⟩ := s'
  have ho : o = s.os := z1
  subst ho
  have nc : ∀ b, b ∉ ws.map (·.1) → ∀ p ∈ ws, p.1 ≠ b := fun b hb p hp e => hb (List.mem_map.mpr ⟨p, hp, e⟩)
  have nt : ∀ b u, H b = some u → ∀ p ∈ ws, p.1 ≠ b := fun b u q p hp e => by
    have := (pinW p hp).1
    rw [e, q] at this
    cases this
  have J : Inv X ip σ H { s with heap := hh, gens := g, drawn := d, toks := t } := by
    refine I0.step (g' := g) (t' := t) (d' := d) (ch := ws.map (·.1)) (fun b hb => ?_)
      (fun b ob _ _ hc q _ => z3 b ob (nc b hc) q) (fun b ob _ _ hc q _ => ⟨ob.slots, z3 b ob (nc b hc) q⟩) (fun _ _ _ _ n => n) (fun b ob hc q => ⟨ob, z3 b ob (nc b hc) q⟩)
      (fun _ _ q => q) (fun _ _ _ q => q) (fun b ps q => ⟨#[], by rw [q]; simp⟩) (fun m hm => ?_) (fun b u q => ?_) z2
    · obtain ⟨p, hp, rfl⟩ := List.mem_map.mp hb
      obtain ⟨a1, a2, a3, a4⟩ := hA p hp
      refine ⟨.inr a1, a2, a3, fun q hq => ?_⟩
      rcases List.mem_append.mp hq with hq | hq
      · exact a4 q hq
      · exact hip p hp q hq
    · obtain ⟨ob, es, ep, ho, r⟩ := hm
      exact ⟨ob, es, ep, z3 _ ob (fun p hp => (pinW p hp).2.1) ho, r⟩
    · refine (I0.hok b u q).stay (fun c v hc y => z3 c v ?_ y) (fun _ y => y) fun _ _ y => y
      rcases hc with y | y
      · rw [y]
        exact nt b u q
      · exact nt c _ y
  refine J.pins_of fun p hp => ?_
  rcases List.mem_append.mp hp with hp | hp
  · obtain ⟨e1, e2⟩ := st.2 p hp
    have hm : p.1 ∈ ws.map (·.1) := by
      rw [← st.1]
      exact List.mem_map_of_mem hp
    obtain ⟨q, hq, eq⟩ := List.mem_map.mp hm
    have eq : q.1 = p.1 := eq
    obtain ⟨b1, b2, b3⟩ := pinW q hq
    rw [eq] at b1 b2 b3
    exact ⟨e1, b1, b2, b3, e2⟩
  · exact J.pin p (List.mem_append_right _ hp)
/-- ws is what stood at the addresses ads when the generator was woken -/
structure At (ads : List Addr) (ws : List (Addr × Obj)) (s₀ : Shared) : Prop where
  adr : ws.map (·.1) = ads
  st : ∀ p ∈ ws, s₀.heap.get? p.1 = some p.2
/-- what is told of an item that goes out: what went before it, the item, the heap -/
abbrev TIt := List V → V → Hp → Prop
def Hand (X : Cx) (ads : List Addr) (Yp : TIt) : Protocol := fun n s₀ v s kap =>
  ∃ (ys : List V) (x : V) (ws ip : List (Addr × Obj)) (σ : L2.St) (H : Hp), n + 1 + ys.length = sizeLine ∧ RelV x v ∧ Yp ys x H ∧ At ads ws s₀ ∧ Inv X (ws ++ ip) σ H s ∧ ∀ s' ws', Nap ws s s' → Stand ws ws' s' → kap (.send .none) s'
/-- the end of its code -/
def Fin (X : Cx) (ads : List Addr) (Q : List V → VK) (F : Value → Shared → Prop) : GenEnd := fun n s₀ r s => match r with
  | .ok (.ret u) => ∃ (ys : List V) (v : V) (ws ip : List (Addr × Obj)) (σ : L2.St) (H : Hp), n + ys.length = sizeLine ∧ At ads ws s₀ ∧ Inv X (ws ++ ip) σ H s ∧ RelV v u ∧ Q ys v H
  | .ok _ => False
  | .error e => F e s
def Out (X : Cx) (ads : List Addr) (ip : List (Addr × Obj)) (D : GEnds) (ys : List V) (f : Flow) (s₀ s : Shared) : Prop := ∃ ws, At ads ws s₀ ∧ match f with
  | .next => ∃ σ H, Inv X (ws ++ ip) σ H s ∧ D.nx ys σ H
  | .brk => ∃ σ H, Inv X (ws ++ ip) σ H s ∧ D.bk ys σ H
  | .cont => ∃ σ H, Inv X (ws ++ ip) σ H s ∧ D.ct ys σ H
  | .ret u => ∃ v σ H, Inv X (ws ++ ip) σ H s ∧ RelV v u ∧ D.rt ys v H
/-- where the code stands -/
structure Stn (X : Cx) (ads : List Addr) (ip : List (Addr × Obj)) (A : Around) (c : Code) (fs : List Frame) (gd : Bool → Bool) : Prop where
  off : ∀ ws : List (Addr × Obj), ws.map (·.1) = ads → Off X ws
  own : ∀ a ∈ ads, ∀ q ∈ ip, q.1 ≠ a
  over : A.over c fs = X.A
  split : splitAtGen fs = none
  guard : fs.any Frame.guarded = false
  gd : gd false = false
/-- what comes behind -/
structure Then (X : Cx) (Yp : TIt) (ads : List Addr) (ip : List (Addr × Obj)) (A : Around) (R : GenEnd) (c : Code) (fs : List Frame) (K : Flow → Sem PySem.Fin) (J : Value → Sem PySem.Fin) (D : GEnds) : Prop where
  ok : ∀ (n : Nat) (ys : List V) (s₀ s : Shared) (f : Flow), n + ys.length = sizeLine → Out X ads ip D ys f s₀ s → Seg (model X.prog X.w) A R (Hand X ads Yp) n s₀ c (K f) fs s
  exc : ∀ (n : Nat) (s₀ : Shared) (e : Value) (s : Shared), X.xe e s → Seg (model X.prog X.w) A R (Hand X ads Yp) n s₀ c (J e) fs s
structure GT (X : Cx) (Yp : TIt) (st : Stmt) (t : TGn) : Prop where
  run : ∀ (A : Around) (ads : List Addr) (ws ip : List (Addr × Obj)) (R : GenEnd) (n : Nat) (ys : List V) (s₀ : Shared) (c : Code) (fs : List Frame) (K : Flow → Sem PySem.Fin) (J : Value → Sem PySem.Fin) (gd : Bool → Bool) (lv : List Value → List Value) (s : Shared) (σ : L2.St) (H : Hp) (D : GEnds),
    Stn X ads ip A c fs gd → n + ys.length = sizeLine → Then X Yp ads ip A R c fs K J D → At ads ws s₀ → Inv X (ws ++ ip) σ H s → t D ys σ H →
    Seg (model X.prog X.w) A R (Hand X ads Yp) n s₀ c ((exec st X.env).wrap K J gd lv) fs s
structure GTs (X : Cx) (Yp : TIt) (st : List Stmt) (t : TGn) : Prop where
  run : ∀ (A : Around) (ads : List Addr) (ws ip : List (Addr × Obj)) (R : GenEnd) (n : Nat) (ys : List V) (s₀ : Shared) (c : Code) (fs : List Frame) (K : Flow → Sem PySem.Fin) (J : Value → Sem PySem.Fin) (gd : Bool → Bool) (lv : List Value → List Value) (s : Shared) (σ : L2.St) (H : Hp) (D : GEnds),
    Stn X ads ip A c fs gd → n + ys.length = sizeLine → Then X Yp ads ip A R c fs K J D → At ads ws s₀ → Inv X (ws ++ ip) σ H s → t D ys σ H →
    Seg (model X.prog X.w) A R (Hand X ads Yp) n s₀ c ((execs st X.env).wrap K J gd lv) fs s
section
variable {X : Cx} {Yp : TIt} {st : Stmt} {rest : List Stmt} {t u : TGn} {ts : TS}
theorem out_of {ads : List Addr} {ws ip : List (Addr × Obj)} {s₀ s : Shared} {D : GEnds} {ys : List V} {f : Flow} (a : At ads ws s₀) (h : SP X (ws ++ ip) (D.at ys) f s) : Out X ads ip D ys f s₀ s := by
  refine ⟨ws, a, ?_⟩
  cases f <;> exact h
/-- a statement that hands nothing out -/
theorem gt_ps (h : PS X st ts) : GT X Yp st (tPlain ts) := by
  refine ⟨fun A ads ws ip R n ys s₀ c fs K J gd lv s σ H D g hn k a I ht => seg_wrap ?_⟩
  rw [g.over]
  exact wpAny_mono (h.run _ s σ H (D.at ys) I ht) (fun f s' hs => k.ok n ys s₀ s' f hn (out_of a hs)) fun x s' hx => k.exc n s₀ x s' hx
theorem gt_nil : GTs X Yp [] tG0 := ⟨fun A ads ws ip R n ys s₀ c fs K J gd lv s σ H D g hn k a I ht => seg_execs_nil (k.ok n ys s₀ s .next hn ⟨ws, a, σ, H, I, ht⟩)⟩
theorem gt_cons (h1 : GT X Yp st t) (h2 : GTs X Yp rest u) : GTs X Yp (st :: rest) (tGThen t u) := by
  refine ⟨fun A ads ws ip R n ys s₀ c fs K J gd lv s σ H D g hn k a I ht => seg_execs_cons ?_⟩
  refine h1.run A ads ws ip R n ys s₀ c fs _ J gd lv s σ H { D with nx := fun ys' σ' H' => u D ys' σ' H' } g hn ⟨fun n' ys' s₀' s' f hn' ⟨ws', a', hs⟩ => ?_, k.exc⟩ a I ht
  cases f with
  | next =>
    obtain ⟨σ', H', I', q⟩ := hs
    exact h2.run A ads ws' ip R n' ys' s₀' c fs K J gd lv s' σ' H' D g hn' k a' I' q
  | brk => exact k.ok n' ys' s₀' s' .brk hn' ⟨ws', a', hs⟩
  | cont => exact k.ok n' ys' s₀' s' .cont hn' ⟨ws', a', hs⟩
  | ret v => exact k.ok n' ys' s₀' s' (.ret v) hn' ⟨ws', a', hs⟩
/-- yield e -/
def tHand (Yp : TIt) (te : TE) : TGn := fun D ys σ H => ys.length < sizeLine ∧ te σ H fun x H1 => Yp ys x H1 ∧ D.nx (ys ++ [x]) σ H1
theorem gt_yield {e : Expr} {yp pos : Pos} {te : TE} (he : PE X e te) (hco : X.env.scope.isCoroutine = false := by rfl) (hi : interactive X.env = false := by rfl) : GT X Yp (.Expr (.Yield (some e) yp) pos) (tHand Yp te) := by
  refine ⟨fun A ads ws ip R n ys s₀ c fs K J gd lv s σ H D g hn k a I ht => ?_⟩
  obtain ⟨hlt, ht⟩ := ht
  obtain ⟨m, rfl⟩ : ∃ m, n = m + 1 := ⟨n - 1, by omega⟩
  refine seg_Expr_Yield g.split g.gd g.guard ?_ hco hi
  rw [g.over]
  refine wpAny_mono (he.run _ s σ H _ I ht) (fun v s' hv => ?_) fun x s' hx => k.exc _ s₀ x s' hx
  obtain ⟨x, H1, I1, rv, yp, q⟩ := hv
  intro kap hk
  refine ⟨ys, x, ws, ip, σ, H1, hn, rv, yp, a, I1, fun s'' ws' z st => hk .none s'' ?_⟩
  have hown : ∀ p ∈ ws, ∀ q ∈ ip, q.1 ≠ p.1 := fun p hp q hq => g.own p.1 (by rw [← a.adr]; exact List.mem_map_of_mem hp) q hq
  refine k.ok m (ys ++ [x]) s'' s'' .next ?_ ⟨ws', ⟨st.1.trans a.adr, fun p hp => (st.2 p hp).1⟩, σ, H1, woken (g.off ws a.adr) hown I1 z st, q⟩
  rw [List.length_append, List.length_singleton]
  omega
/-- the code of a loop over the frame that it came from -/
theorem Stn.loop {ads : List Addr} {ip : List (Addr × Obj)} {A : Around} {c c' : Code} {fs : List Frame} {gd : Bool → Bool} {k : Result → Sem PySem.Fin} {l kp : List Value} {p : Pos} (g : Stn X ads ip A c fs gd) (hw : c'.weight = 0) (hu : c'.cUnits = 0) : Stn X ads ip A c' (.ret k none (gd false) l c p kp :: fs) id where
  off := g.off
  own := g.own
  over := (over_loop hw hu).trans g.over
  split := by
    show (splitAtGen fs).map _ = none
    rw [g.split]
    rfl
  guard := by
    show (gd false || fs.any Frame.guarded) = false
    rw [g.gd, g.guard]
    rfl
  gd := rfl
theorem came_out {ads : List Addr} {ip : List (Addr × Obj)} {A : Around} {R : GenEnd} {c : Code} {fs : List Frame} {K : Flow → Sem PySem.Fin} {J : Value → Sem PySem.Fin} {gd : Bool → Bool} {lv : List Value → List Value} {D : GEnds} {n : Nat} {s₀ s : Shared} {e : Value}
    (g : Stn X ads ip A c fs gd) (k : Then X Yp ads ip A R c fs K J D) (h : cameBackBy (model X.prog X.w) X.A X.env X.xe e s) :
    Seg (model X.prog X.w) A R (Hand X ads Yp) n s₀ c (((Sem.raise e : Sem Flow).onRaise (cameBack X.env)).wrap K J gd lv) fs s := by
  show Seg _ _ _ _ _ _ _ (((cameBack X.env e).bind fun _ => (Sem.raise e : Sem Flow)).wrap K J gd lv) _ _
  rw [Sem.bind_eq_wrap, Sem.wrap_wrap]
  refine seg_wrap ?_
  rw [g.over]
  exact wpAny_mono h (fun _ s' hx => k.exc n s₀ e s' hx) fun x s' hx => k.exc n s₀ x s' hx
/-- while test: body -/
theorem gt_while {test : Expr} {body : List Stmt} {pos : Pos} {tc : TT} {tb : TGn} (hp : PassesOwn (model X.prog X.w) X.A X.env X.xe) (hc : PT X test tc) (hb : GTs X Yp body tb) : GT X Yp (.While test body [] pos) (tGWhile tc tb) := by
  refine ⟨fun A ads ws ip R n ys s₀ c fs K J gd lv s σ H D g hn k a I ht => ?_⟩
  obtain ⟨W, ⟨m0, w0⟩, turn⟩ := ht
  refine seg_While fun p => ?_
  have gl := fun (kk : Result → Sem PySem.Fin) => g.loop (k := kk) (c' := .whileLoop test body [] X.env) (l := lv []) (kp := []) (p := p) rfl rfl
  suffices all : ∀ (m n : Nat) (ys : List V) (ws : List (Addr × Obj)) (s₀ s : Shared) (σ : L2.St) (H : Hp), n + ys.length = sizeLine → W m ys σ H → At ads ws s₀ → Inv X (ws ++ ip) σ H s →
      Seg (model X.prog X.w) A R (Hand X ads Yp) n s₀ (.whileLoop test body [] X.env) ((model X.prog X.w).den (.whileLoop test body [] X.env))
        (.ret (fun r => ((match r with | .ok f => (.pure f : Sem Flow) | .error e => .raise e).onRaise (cameBack X.env)).wrap K J gd lv) none (gd false) (lv []) c p [] :: fs) s from all m0 n ys ws s₀ s σ H hn w0 a I
  intro m
  induction m using Nat.strongRecOn with
  | ind m ih =>
    intro n ys ws s₀ s σ H hn w a I
    have bad : ∀ (n : Nat) (s₀ : Shared) (x : Value) (s' : Shared), X.xe x s' → Seg (model X.prog X.w) A R (Hand X ads Yp) n s₀ (.whileLoop test body [] X.env)
        ((do noteFrame x X.env; theTreesLotGoes x : Sem Unit).wrap (fun _ => .raise x) .raise id id)
        (.ret (fun r => ((match r with | .ok f => (.pure f : Sem Flow) | .error e => .raise e).onRaise (cameBack X.env)).wrap K J gd lv) none (gd false) (lv []) c p [] :: fs) s' := fun n s₀ x s' hx => by
      refine seg_wrap ?_
      rw [(gl _).over]
      refine wpAny_bind (wpAny_mono (hp x s' hx) (fun _ s'' hcb => wpAny_theTreesLotGoes ?_) fun y s'' hcb => ?_)
      · exact seg_leaf (.error x) (came_out g k hcb)
      · exact seg_leaf (.error y) (came_out g k hcb)
    refine seg_whileLoop ?_
    rw [(gl _).over]
    refine wpAny_mono (hc.run _ s σ H _ I (turn m ys σ H w)) (fun b s' hb' => ?_) fun x s' hx => bad n s₀ x s' hx
    obtain ⟨H2, I2, q2⟩ := hb'
    cases b with
    | false =>
      rw [if_neg Bool.false_ne_true]
      exact seg_execs_nil (seg_leaf (.ok .next) (k.ok n ys s₀ s' .next hn ⟨ws, a, σ, H2, I2, q2⟩))
    | true =>
      obtain ⟨N, hN, q2⟩ := q2
      rw [if_pos rfl]
      refine hb.run A ads ws ip R n ys s₀ _ _ _ _ id id s' σ H2 { D with nx := N, ct := N, bk := D.nx } (gl _) hn ⟨fun n' ys' s₀' s3 f hn' ⟨ws', a', hs⟩ => ?_, fun n' s₀' x s3 hx => bad n' s₀' x s3 hx⟩ a I2 q2
      have again : (∃ σ' H', Inv X (ws' ++ ip) σ' H' s3 ∧ N ys' σ' H') → Seg (model X.prog X.w) A R (Hand X ads Yp) n' s₀' (.whileLoop test body [] X.env) ((model X.prog X.w).den (.whileLoop test body [] X.env))
          (.ret (fun r => ((match r with | .ok f => (.pure f : Sem Flow) | .error e => .raise e).onRaise (cameBack X.env)).wrap K J gd lv) none (gd false) (lv []) c p [] :: fs) s3 := fun ⟨σ', H', I', nx⟩ => by
        obtain ⟨m', hm, w'⟩ := hN ys' σ' H' nx
        exact ih m' hm n' ys' ws' s₀' s3 σ' H' hn' w' a' I'
      cases f with
      | next => exact seg_again rfl (again hs)
      | cont => exact seg_again rfl (again hs)
      | brk => exact seg_leaf (.ok .next) (k.ok n' ys' s₀' s3 .next hn' ⟨ws', a', hs⟩)
      | ret v => exact seg_leaf (.ok (.ret v)) (k.ok n' ys' s₀' s3 (.ret v) hn' ⟨ws', a', hs⟩)
end
end Gx

set_option Elab.async false
set_option linter.all false
set_option maxRecDepth 100000
set_option maxHeartbeats 4000000
/-! a generator def's promise to any consumer, and the comprehension that counts its pairs -/
namespace Gx
open PySem PySem.Spec PyProof.Rows L2 GenW
/-- arguments, heap; what is told of each item and of the end -/
abbrev SpX := List V → Hp → TIt → (List V → Hp → Prop) → Prop
/-- an item goes out: no frame is named -/
def Give (P : Program) (w : World) (sc : Shared) (ads : List Addr) (a : Addr) (g : Nat) (Yp : TIt) : Protocol := fun n s₀ v s kap =>
  s.os = sc.os ∧ AllBare s.gens ∧ s.heap.NoLimit ∧ s.heap.IsGen a g ∧ ∃ (ys : List V) (x : V) (ws : List (Addr × Obj)) (H : Hp),
    (n + 1 + ys.length = sizeLine ∧ RelV x v ∧ Yp ys x H ∧ HOk P w H s.heap) ∧ At ads ws s₀ ∧ (∀ p ∈ ws, s.heap.get? p.1 = some p.2 ∧ H p.1 = none) ∧ ∀ s' ws', Nap ws s s' → Stand ws ws' s' → kap (.send .none) s'
/-- its end -/
def Over (P : Program) (w : World) (outer : List Env) (H0 : Hp) (sc : Shared) (ads : List Addr) (Q : List V → Hp → Prop) : Nat → Shared → Shared → Prop := fun n s₀ s =>
  ∃ (ys : List V) (ws : List (Addr × Obj)) (H : Hp), (n + ys.length = sizeLine ∧ s.os = sc.os ∧ AllBare s.gens ∧ Q ys H) ∧ At ads ws s₀ ∧ (∀ p ∈ ws, s.heap.get? p.1 = some p.2 ∧ H p.1 = none) ∧ Un (frs outer) [] H0 H sc.heap s.heap ∧ HOk P w H s.heap
def Ende (P : Program) (w : World) (outer : List Env) (H0 : Hp) (sc : Shared) (ads : List Addr) (Q : List V → Hp → Prop) : GenEnd := fun n s₀ r s =>
  ((r = .ok (.ret .none) ∨ r = .ok .next) ∧ Over P w outer H0 sc ads Q n s₀ s) ∨ ∃ e, r = .error e ∧ False
/-- what stands ready for the waking -/
structure Ready (s' s2 : Shared) (ads : List Addr) (ws : List (Addr × Obj)) : Prop where
  adr : ws.map (·.1) = ads
  at' : ∀ p ∈ ws, s'.heap.objs.size ≤ p.1 ∧ s2.heap.get? p.1 = some p.2 ∧ ∀ v, p.2.data ≠ .cell v
  keep : ∀ b o, s'.heap.get? b = some o → s2.heap.get? b = some o
  os : s2.os = s'.os
  bare : AllBare s2.gens
/-- what the call of a generator def gives -/
def Made (P : Program) (w : World) (k : Nat) (outer : List Env) (H : Hp) (s : Shared) (Yp : TIt) (Q : List V → Hp → Prop) (u : Value) (s' : Shared) : Prop :=
  ∃ (a : Addr) (g : Nat) (c : Code), (u = .ref a ∧ s.heap.objs.size ≤ a ∧ a < s'.heap.objs.size) ∧ (s'.heap.IsGen a g ∧ s'.gens[g]? = some (.fresh c)) ∧ (s'.os = s.os ∧ AllBare s'.gens ∧ s'.heap.NoLimit ∧ ∀ b o, s.heap.get? b = some o → s'.heap.get? b = some o) ∧
    ∀ (A : Around) (ads : List Addr) (ws : List (Addr × Obj)) (s2 : Shared), Room k A → A.frames = some outer → Ready s' s2 ads ws →
      Seg (model P w) A (Ende P w outer H s ads Q) (Give P w s ads a g Yp) sizeLine s2 c ((model P w).den c) [] s2
structure GFx (P : Program) (w : World) (K : PySem.W.Frag) (mg : Str → Option Value) (base : Heap) (k : Nat) (f : Addr) (fd : FuncData) (ps : List Str) (sp : SpX) : Prop where
  len : ∀ vs H Yp Q, sp vs H Yp Q → vs.length = ps.length
  run : ∀ (A : Around) (outer : List Env) (s : Shared) (H : Hp) (args : Args) (us : List Value) (vs : List V) (Yp : TIt) (Q : List V → Hp → Prop), Room k A → Env0 P w K mg base A outer s H → BindsTo s fd args (ps.zip us) → Vals vs us → sp vs H Yp Q →
    codeAny (model P w) A (.call (.ref f) args) (fun r s' => ∃ u, r = .ok (.ret u) ∧ Made P w k outer H s Yp Q u s') s
/-- no exception -/
abbrev XK0 : XK := fun _ _ _ => False
theorem cx_no {P : Program} {w : World} {outer : List Env} {H : Hp} {s s' : Shared} {e : Value} (h : CX P w outer H s XK0 e s') : False := by
  obtain ⟨_, _, _, _, _, _, _, _, _, _, _, _, z⟩ := h
  exact z
section
variable {P : Program} {w : World} {K : PySem.W.Frag} {mg : Str → Option Value} {base : Heap} {N ps : List Str} {qual : Str} {scope : Scope} {f : Addr} {cd : Value} {k k' : Nat} {sp : SpX} {body : List Stmt}
/-- the first waking: s the state of the call, s1 behind the frame's laying, s' behind the object's -/
theorem first_wake {A A₀ : Around} {outer : List Env} {s s1 s' s2 : Shared} {H : Hp} {us : List Value} {vs : List V} {Yp : TIt} {Q : List V → Hp → Prop} {go : Obj} {g : Nat} {ads : List Addr} {ws : List (Addr × Obj)} (S : GScope N ps scope)
    (hrA : Room k' A) (hrD : Room k (A.deeper (envOfC qual scope s.heap.objs.size f cd))) (hfr : A.frames = some outer) (e0 : Env0 P w K mg base A₀ outer s H) (hl : vs.length = ps.length) (rv : Vals vs us)
    (x : InCallC s s.heap.objs.size (bindL (envOfC qual scope s.heap.objs.size f cd).kindOf (ps.zip us) fun _ => none) (cellsFrom (s.heap.objs.size + 1) scope.names []) (bindC (envOfC qual scope s.heap.objs.size f cd).kindOf (ps.zip us) fun _ => none) s1)
    (hgen : ∀ h : Heap, h.get? s1.heap.objs.size = some go → h.IsGen s1.heap.objs.size g) (hgd : ∀ v, go.data ≠ .cell v) (hsz : s'.heap.objs.size = s1.heap.objs.size + 1) (hgo : s'.heap.get? s1.heap.objs.size = some go) (hk : ∀ b o, s1.heap.get? b = some o → s'.heap.get? b = some o)
    (os1 : s1.os = s.os) (os' : s'.os = s.os) (hsp : sp vs H Yp Q)
    (hbody : ∀ (A : Around) (outer : List Env) (s : Shared) (H : Hp) (vs : List V) (Yp : TIt) (Q : List V → Hp → Prop) (pn : List (Addr × Obj)), Room k (A.deeper (envOfC qual scope s.heap.objs.size f cd)) → sp vs H Yp Q →
      ∃ t, GTs (gcxOf P w K mg base N qual scope f cd A outer s H XK0 pn) Yp body t ∧ t { nx := fun ys _ H' => Q ys H', rt := fun ys v H' => v = .non ∧ Q ys H' } [] (start N vs) H)
    (rd : Ready s' s2 ads ws) :
    Seg (model P w) A (Ende P w outer H s ads Q) (Give P w s ads s1.heap.objs.size g Yp) sizeLine s2 (.func body (envOfC qual scope s.heap.objs.size f cd)) ((model P w).den (.func body (envOfC qual scope s.heap.objs.size f cd))) [] s2 := by
  have e1 : Env0 P w K mg base A outer s H := ⟨hfr, e0.mod, e0.bs, e0.bsz, e0.funs, e0.frf, e0.hok, e0.bare⟩
  generalize hgn : (s1.heap.objs.size, go) = pg
  obtain ⟨t, ht, hq⟩ := hbody A outer s H vs Yp Q [pg] hrD hsp
  have J1 := inv_startG (qual := qual) (f := f) (cd := cd) (E := XK0) S hrA.hd e1 hl rv x
  have kp : ∀ b o, s1.heap.get? b = some o → s2.heap.get? b = some o := fun b o q => rd.keep b o (hk b o q)
  have J2 : Inv (gcxOf P w K mg base N qual scope f cd A outer s H XK0 []) [] (start N vs) H s2 := J1.call' (ch := []) ((rd.os.trans os').trans os1.symm) (Un.kept kp) (J1.hok.kept kp) rd.bare fun b hb => absurd hb (List.not_mem_nil)
  have young : ∀ b, s1.heap.objs.size ≤ b → (H b = none ∧ b ≠ s.heap.objs.size ∧ b ∉ frs outer) ∧ s.heap.objs.size ≤ b ∧ ∀ y c, (cellsFrom (s.heap.objs.size + 1) scope.names []).lookup y = some c → c ≠ b := fun b hb => by
    have lt1 : s.heap.objs.size < s1.heap.objs.size := x.toInCall.ns.lt
    refine ⟨⟨J1.hok.fresh hb, by omega, J1.nofs hb⟩, by omega, fun y c q e => ?_⟩
    obtain ⟨v, ob, ho, _⟩ := J1.cell y c q
    have z := Heap.lt_size ho
    rw [e] at z
    exact Nat.lt_irrefl _ (Nat.lt_of_lt_of_le z hb)
  have at0 : ∀ p ∈ ws, s1.heap.objs.size < p.1 := fun p hp => by
    have := (rd.at' p hp).1
    omega
  have J3 : Inv (gcxOf P w K mg base N qual scope f cd A outer s H XK0 [pg]) (ws ++ []) (start N vs) H s2 := J2.pinnedG fun p hp => by
    rcases List.mem_append.mp hp with hp | hp
    · obtain rfl := List.mem_singleton.mp hp
      subst hgn
      obtain ⟨⟨a1, a2, a3⟩, _⟩ := young s1.heap.objs.size (Nat.le_refl _)
      exact ⟨rd.keep _ _ hgo, a1, a2, a3, hgd⟩
    · rw [List.append_nil] at hp
      obtain ⟨⟨a1, a2, a3⟩, _⟩ := young p.1 (Nat.le_of_lt (at0 p hp))
      exact ⟨(rd.at' p hp).2.1, a1, a2, a3, (rd.at' p hp).2.2⟩
  have genAt : ∀ {pins : List (Addr × Obj)} {σ' : L2.St} {H' : Hp} {s3 : Shared}, Inv (gcxOf P w K mg base N qual scope f cd A outer s H XK0 [pg]) pins σ' H' s3 → s3.heap.IsGen s1.heap.objs.size g := fun {pins σ' H' s3} I => by
    have := (I.pin pg (List.mem_append_left _ (List.mem_singleton.mpr rfl))).1
    subst hgn
    exact hgen _ this
  refine seg_func ?_
  refine seg_imp (R := Fin (gcxOf P w K mg base N qual scope f cd A outer s H XK0 [pg]) ads (fun ys v H' => v = .non ∧ Q ys H') fun _ _ => False) (Y := Hand (gcxOf P w K mg base N qual scope f cd A outer s H XK0 [pg]) ads Yp) ?_ ?_ sizeLine ?_
  · intro n s₀ r s3 h
    rcases r with e | fl
    · exact h.elim
    · cases fl with
      | next => exact h.elim
      | brk => exact h.elim
      | cont => exact h.elim
      | ret u =>
        obtain ⟨ys, v, ws', ip, σ', H', hn, ha, I, rvu, rfl, hQ⟩ := h
        obtain rfl : u = Value.none := rvu
        refine .inl ⟨.inl rfl, ys, ws', H', ⟨hn, I.os, I.bare, hQ⟩, ha, fun p hp => ?_, I.base, I.hok⟩
        obtain ⟨z1, z2, _⟩ := I.pin p (List.mem_append_right _ (List.mem_append_left _ hp))
        exact ⟨z1, z2⟩
  · intro n s₀ v s3 kap kap' hkk h
    obtain ⟨ys, y, ws', ip, σ', H', hn, r1, yp, ha, I, go'⟩ := h
    exact ⟨I.os, I.bare, I.nolimit, genAt I, ys, y, ws', H', ⟨hn, r1, yp, I.hok⟩, ha, fun p hp => ⟨(I.pin p (List.mem_append_right _ (List.mem_append_left _ hp))).1, (I.pin p (List.mem_append_right _ (List.mem_append_left _ hp))).2.1⟩, fun s4 ws4 z st => hkk _ _ (go' s4 ws4 z st)⟩
  · refine ht.run A ads ws [] _ sizeLine [] s2 _ [] _ _ id id s2 (start N vs) H _ ⟨fun ws' hw p hp => ?_, fun a ha q hq => absurd hq List.not_mem_nil, over_func, rfl, rfl, rfl⟩ rfl ⟨fun n ys s₀ s3 fl hn ho => ?_, fun n s₀ e s3 hx => ?_⟩ ⟨rd.adr, fun p hp => (rd.at' p hp).2.1⟩ J3 hq
    · have hm : p.1 ∈ ws.map (·.1) := by
        rw [rd.adr, ← hw]
        exact List.mem_map_of_mem hp
      obtain ⟨q, hq1, hq2⟩ := List.mem_map.mp hm
      have hlt := at0 q hq1
      have hq2 : q.1 = p.1 := hq2
      rw [hq2] at hlt
      obtain ⟨⟨_, a2, _⟩, a4, a5⟩ := young p.1 (Nat.le_of_lt hlt)
      refine ⟨a4, a2, a5, fun q' hq' => ?_⟩
      obtain rfl := List.mem_singleton.mp hq'
      subst hgn
      exact Nat.ne_of_lt hlt
    · obtain ⟨ws', ha, ho⟩ := ho
      cases fl with
      | next =>
        obtain ⟨σ', H', I, hQ⟩ := ho
        exact seg_end (.ok (.ret .none)) ⟨ys, .non, ws', [], σ', H', hn, ha, I, rfl, rfl, hQ⟩
      | brk => exact ho.elim fun _ z => z.elim fun _ z => z.2.elim
      | cont => exact ho.elim fun _ z => z.elim fun _ z => z.2.elim
      | ret u =>
        obtain ⟨v, σ', H', I, r1, ev, hQ⟩ := ho
        exact seg_end (.ok (.ret u)) ⟨ys, v, ws', [], σ', H', hn, ha, I, r1, ev, hQ⟩
    · refine seg_wrap ?_
      rw [over_func]
      have hx : wpAny (model P w) (A.deeper (envOfC qual scope s.heap.objs.size f cd)) (leaving (envOfC qual scope s.heap.objs.size f cd) e) (fun _ s'' => CX P w outer H s XK0 e s'' ∧ ∀ p ∈ [pg], s''.heap.get? p.1 = some p.2) (fun _ _ => False) s3 := hx
      exact wpAny_mono hx (fun _ _ q => (cx_no q.1).elim) fun _ _ q => q.elim
end
/-- a generator def's promise, by its body -/
theorem gfx_of {P : Program} {w : World} {K : PySem.W.Frag} {mg : Str → Option Value} {base : Heap} {k : Nat} {f : Addr} {name qual : Str} {params : Arguments} {body : List Stmt} {scope : Scope} {dV kV doc pm cdv ct oc : Value} {an od : Option Addr} {osl : Array (Option Value)} {N ps : List Str} {sp : SpX}
    (lk : K.lookup f = some ⟨oc, od, .func (PySem.W.fnOf name qual params body scope dV kV doc pm an cdv ct), osl⟩) (hcd : PySem.W.codeIn K cdv qual = true) (S : GScope N ps scope) (len : ∀ vs H Yp Q, sp vs H Yp Q → vs.length = ps.length)
    (hbody : ∀ (A : Around) (outer : List Env) (s : Shared) (H : Hp) (vs : List V) (Yp : TIt) (Q : List V → Hp → Prop) (pn : List (Addr × Obj)), Room k (A.deeper (envOfC qual scope s.heap.objs.size f cdv)) → sp vs H Yp Q →
      ∃ t, GTs (gcxOf P w K mg base N qual scope f cdv A outer s H XK0 pn) Yp body t ∧ t { nx := fun ys _ H' => Q ys H', rt := fun ys v H' => v = .non ∧ Q ys H' } [] (start N vs) H) :
    GFx P w K mg base (k + 1) f (PySem.W.fnOf name qual params body scope dV kV doc pm an cdv ct) ps sp := by
  refine ⟨len, fun A outer s H args us vs Yp Q hr e0 hb rv hsp => ?_⟩
  have hl := len _ _ _ _ hsp
  have kin : K.In s.heap := e0.mod.kin.keeps fun b o q => (e0.bs b o q).1
  have nol : s.heap.NoLimit := e0.mod.nolimit.keeps fun b o q => (e0.bs b o q).1
  refine codeAny_call_generator hr.depth (kin _ _ lk) rfl S.co S.gen rfl (PySem.W.codeRec_of kin hcd) (hb _ _ _ _ ?_)
  refine wpAny_newFunctionEnv_cells S.kind (fun y hy => ?_) fun env he s1 x => ?_
  · rcases S.par y.1 (List.of_mem_zip (show (y.1, y.2) ∈ ps.zip us from hy)).1 with q | q
    · exact .inl q
    · exact .inr ⟨q, PySem.W.cellsFrom_some _ _ _ (.inl q)⟩
  · subst he
    obtain ⟨h1, tk, es1, hk1⟩ := x.done
    have os1 : s1.os = s.os := by rw [es1]
    have g1 : s1.gens = s.gens := by rw [es1]
    have kp := x.toInCall.keep
    have nol1 : s1.heap.NoLimit := nol.keeps kp
    have fin : ∀ (go : Obj) (nm qn : Value) (tk2 : Nat), go.cls = .type "generator" → go.data = .fields #[.int s1.gens.size 0, nm, qn] → go.slots = #[] → (∀ h : Heap, (h.push go).get? h.objs.size = some go) →
        Made P w (k + 1) outer H s Yp Q (.ref s1.heap.objs.size) { s1 with gens := s1.gens.push (.fresh (.func body (envOfC qual scope s.heap.objs.size f cdv))), toks := tk2, heap := s1.heap.push go } := by
      intro go nm qn tk2 c1 c2 c3 c4
      have hgen : ∀ h : Heap, h.get? s1.heap.objs.size = some go → h.IsGen s1.heap.objs.size s1.gens.size := fun h q => ⟨go, nm, qn, q, c1, c2, c3⟩
      have pk : ∀ b o, s1.heap.get? b = some o → (s1.heap.push go).get? b = some o := fun b o q => Heap.get?_push_of_some _ q
      have szp : (s1.heap.push go).objs.size = s1.heap.objs.size + 1 := Heap.size_push ..
      refine ⟨s1.heap.objs.size, s1.gens.size, _, ⟨rfl, Nat.le_of_lt x.toInCall.ns.lt, by show _ < (s1.heap.push go).objs.size; omega⟩, ⟨hgen _ (c4 _), Array.getElem?_push_size ..⟩, ⟨os1, .push (by rw [g1]; exact e0.bare) rfl, nol1.keeps pk, fun b o q => pk b o (kp b o q)⟩, ?_⟩
      intro A' ads ws s2 hr' hfr rd
      exact first_wake (s' := { s1 with gens := s1.gens.push (.fresh (.func body (envOfC qual scope s.heap.objs.size f cdv))), toks := tk2, heap := s1.heap.push go }) S hr' (hr'.deeper _) hfr e0 hl rv x hgen (fun v q => by rw [c2] at q; cases q) szp (c4 _) pk os1 os1 hsp hbody rd
    exact ⟨nol1, ⟨_, rfl, fin _ _ _ _ rfl rfl rfl fun h => Heap.get?_push_size _ rfl⟩⟩
end Gx

set_option Elab.async false
set_option linter.all false
set_option maxRecDepth 100000
set_option maxHeartbeats 4000000
/-! [e for a, b in g(..)]: a comprehension over a generator def's call, e told by the item's number -/
namespace Gx
open PySem PySem.Spec PyProof.Rows L2 GenW
abbrev TMk := L2.St → Hp → TIt → (List V → Hp → Prop) → Prop
/-- an expression that gives a generator that has not begun -/
structure PM (X : Cx) (k : Nat) (e : Expr) (tg : TMk) : Prop where
  run : ∀ (pins : List (Addr × Obj)) (s : Shared) (σ : L2.St) (H : Hp) (Yp : TIt) (Qe : List V → Hp → Prop), Inv X pins σ H s → tg σ H Yp Qe →
    wpAny (model X.prog X.w) X.A (eval e X.env) (fun u s' => ∃ H1 sc, Inv X pins σ H1 sc ∧ Made X.prog X.w k X.stack H1 sc Yp Qe u s') X.xe s
def tMk (sp : SpX) (t : TA) : TMk := fun σ H Yp Qe => t σ H fun vs H1 => sp vs H1 Yp Qe
/-- f(e, ..) -/
theorem pm_call {X : Cx} {k : Nat} {f : Addr} {fd : FuncData} {ps : List Str} {sp : SpX} {x : Str} {p pos' : Pos} {e : Expr} {es : List Expr} {t : TA} (F : GFx X.prog X.w X.K X.mg X.base k f fd ps sp) (hr : Room k X.A) (hg : Gl X x) (hm : X.mg x = some (.ref f)) (hk : PySem.W.keepIn X.K (.ref f) = true)
    (hb : Binds X.K fd ps []) (ha : PA X (e :: es) t) (hdb : (x == ("__debug__" : Str)) = false := by decide) (he : starEach (e :: es) X.env = (false, eval e X.env) :: starEach es X.env := by rfl) (hpl : (backTo pos' (starEach es X.env)).any (·.1) = false := by rfl) :
    PM X k (.Call (.Name x p) (e :: es) [] pos') (tMk sp t) := by
  refine ⟨fun pins s σ H Yp Qe I h => wpAny_Call_Name_kw (ld_glob I hg hm ?_ hdb)⟩
  refine PySem.W.callWith_K (h₀ := X.base) I.ok.mod.kin hk (thn (ha.run pos' pins s σ H _ I h) fun us s1 ⟨vs, H1, I1, r, q⟩ => ⟨I1.kIn, wpAny_call (codeAny_mono (F.run X.A X.stack s1 H1 ⟨us, []⟩ us vs Yp Qe hr I1.env0 ?_ r q) ?_)⟩) he hpl
  · have hl : us.length = ps.length := by rw [← r.length]; exact F.len _ _ _ _ q
    simpa using hb s1 us I1.kIn (by simpa using hl)
  · rintro r1 s2 ⟨u, rfl, hM⟩
    exact ⟨H1, s1, I1, hM⟩
/-- a generator def known by its name -/
structure CalG (P : Program) (w : World) (K : PySem.W.Frag) (mg : Str → Option Value) (base : Heap) (k : Nat) (x : Str) (sp : SpX) : Prop where
  ex : ∃ (f : Addr) (fd : FuncData) (ps : List Str), GFx P w K mg base k f fd ps sp ∧ mg x = some (.ref f) ∧ PySem.W.keepIn K (.ref f) = true ∧ Binds K fd ps []
theorem pm_c {X : Cx} {k j : Nat} {sp : SpX} {x : Str} {p pos' : Pos} {e : Expr} {es : List Expr} {t : TA} (c : CalG X.prog X.w X.K X.mg X.base k x sp) (hr : Room j X.A) (hk : k ≤ j) (hg : Gl X x) (ha : PA X (e :: es) t) (hdb : (x == ("__debug__" : Str)) = false := by decide)
    (he : starEach (e :: es) X.env = (false, eval e X.env) :: starEach es X.env := by rfl) (hpl : (backTo pos' (starEach es X.env)).any (·.1) = false := by rfl) : PM X k (.Call (.Name x p) (e :: es) [] pos') (tMk sp t) := by
  obtain ⟨f, fd, ps, F, hm, hkp, hb⟩ := c.ex
  exact pm_call F (hr.mono hk) hg hm hkp hb ha hdb he hpl
theorem owned_gen {prog : Program} {w : World} {A : Around} {E : Value → Shared → Prop} {s : Shared} {elts : List Expr} {x1 : Nat} {pos : Pos} {a : Addr} {g : Nat} {v : Value} {Q : Unit → Shared → Prop} (hg : s.heap.IsGen a g) (hQ : Q () s) :
    wpAny (model prog w) A (letOwnedTupleGo (.Tuple elts x1 pos) (.ref a) v) Q E s := by
  obtain ⟨o, nm, qn, ho, hc, hd, _⟩ := hg
  unfold letOwnedTupleGo
  cases v with
  | ref b =>
    refine wpAny_bind (wpAny_load ho ?_)
    rw [hc, hd]
    dsimp only
    rw [if_neg (by intro z; revert z; simp)]
    exact wpAny_pure hQ
  | _ => exact wpAny_pure hQ
/-- a pair for its two names -/
theorem two_names {prog : Program} {w : World} {A : Around} {E : Value → Shared → Prop} {s : Shared} {env : Env} {n1 n2 : Str} {p1 p2 pos : Pos} {x1 : Nat} {t L : Addr} {u1 u2 : Value} {m : Str → Option Value} {Q : Unit → Shared → Prop} (hh : A.handled = none) (hL : env.locals = L)
    (k0 : env.scope.kind = .function) (k1 : env.kindOf n1 = some .local) (k2 : env.kindOf n2 = some .local) (hn : s.heap.Ns L m) (ht : IsTup s.heap t #[u1, u2])
    (hne : n1 ≠ n2) (h : ∀ h' tk m', h'.Ns L m' → m' n1 = some u1 → m' n2 = some u2 → (∀ b o, b ≠ L → s.heap.get? b = some o → h'.get? b = some o) → Q () { s with heap := h', toks := tk }) :
    wpAny (model prog w) A (assign (.Tuple [.Name n1 p1, .Name n2 p2] x1 pos) env (.ref t)) Q E s := by
  subst hL
  have hp : (env.scope.kind == .class || (env.scope.kind == .module && env.locals != env.globals)) = false := by rw [k0]; rfl
  refine assign_Tuple_tuple hh ht rfl rfl fun h1 x1 => ?_
  have n1' : h1.Ns env.locals m := hn.keeps fun b o q => x1 b o (Nat.ne_of_lt (Heap.lt_size q)) q
  refine assignInOrder_cons (wpAny_assign_Name (wpAny_storeName_local (s := { s with heap := h1 }) k1 n1' (fun h2 n2' sb2 => ?_) hp))
  refine assignInOrder_cons (wpAny_assign_Name (wpAny_storeName_local (s := { s with heap := h2, toks := s.toks + 1 }) k2 n2' (fun h3 n3' sb3 => ?_) hp))
  refine assignInOrder_nil (h h3 _ _ n3' (by rw [if_neg hne, if_pos rfl]) (if_pos rfl) fun b o hb q => ?_)
  exact (sb3.2 b hb).trans ((sb2.2 b hb).trans (x1 b o (Nat.ne_of_lt (Heap.lt_size q)) q))
/-- what is put into the list, by the pair's two values -/
structure EltX (n1 n2 : Str) (elt : Expr) (el : V → V → Hp → V → Prop) : Prop where
  run : ∀ {P : Program} {w : World} {A : Around} {E : Value → Shared → Prop} {env : Env} {s s1 : Shared} {L : Addr} {m : Str → Option Value} {w1 w2 : Value} {u1 u2 y : V} {H : Hp} {Q : Value → Shared → Prop}, env.scope.kind = .function → env.kindOf n1 = some .local → env.kindOf n2 = some .local → env.locals = L → s.heap.Ns L m → m n1 = some w1 → m n2 = some w2 →
    RelV u1 w1 → RelV u2 w2 → HOk P w H s1.heap → H L = none → (∀ b o, b ≠ L → s1.heap.get? b = some o → s.heap.get? b = some o) → el u1 u2 H y → (∀ v tk, RelV y v → Q v { s with toks := tk }) → wpAny (model P w) A (eval elt env) Q E s
theorem elt_one {n1 n2 : Str} {j1 : Nat} {cp : Pos} {i : Int} : EltX n1 n2 (.Constant (.int i) j1 cp) fun _ _ _ y => y = .int i := ⟨by
  intro P w A E env s s1 L m w1 w2 u1 u2 y H Q _ _ _ _ _ _ _ _ _ _ _ _ e h
  subst e
  exact wpAny_Constant_int (h _ _ ⟨_, rfl⟩)⟩
/-- the second value's item with a written index -/
theorem elt_item {n1 n2 : Str} {p2 cp ps : Pos} {j1 k : Nat} (hdb : (n2 == ("__debug__" : Str)) = false := by decide) : EltX n1 n2 (.Subscript (.Name n2 p2) (.Constant (.int k) j1 cp) ps) fun _ u2 H y => ∃ q xs, u2 = .ref q ∧ H q = some (.tup xs) ∧ xs[k]? = some y := ⟨by
  intro P w A E env s s1 L m w1 w2 u1 u2 y H Q k0 _ k2 hL hn _ hm2 _ r2 hok hHL hkeep e h
  obtain ⟨q, xs, rfl, hq, hy⟩ := e
  obtain rfl : w2 = Value.ref q := r2
  obtain ⟨hz, its, vits, o, ho, tup⟩ := hok q _ hq
  have hqL : q ≠ L := fun z => by rw [z, hHL] at hq; cases hq
  have ht : IsTup s.heap q its.toArray := ⟨o, hkeep q o hqL ho, tup⟩
  obtain ⟨u, hu, ru⟩ := vits.get hy
  have hlt : k < xs.length := (List.getElem?_eq_some_iff.mp hy).1
  have hl := vits.length
  have h63 := line63
  subst hL
  refine Subscript_Constant (wpAny_Name (wpAny_loadName_local k0 k2 hn hm2 (wpAny_Constant_int ?_)) hdb)
  refine ⟨"tuple", _, slot_tuple_getitem.lookup, ht.typeIs (s := { s with toks := s.toks + 1 }), getItem_tuple (s := { s with toks := s.toks + 1 }) (j := k) ht (by omega) (by omega) ?_ (by simpa using hu) (h u _ ru)⟩
  have e : its.toArray.size = xs.length := by rw [List.size_toArray, hl]
  rw [e]
  unfold seqIndex?
  simp
  omega⟩
/-- the value: the items' parts in order -/
def tEach (tg : TMk) (el : V → V → Hp → V → Prop) : TE := fun σ H Q => ∃ Yp Qe, ∃ oy : Nat → V, tg σ H Yp Qe ∧ (∀ ys x H', Yp ys x H' → ∃ p u1 u2, x = .ref p ∧ H' p = some (.tup [u1, u2]) ∧ el u1 u2 H' (oy ys.length)) ∧ ∀ ys H', Qe ys H' → ∀ p, H' p = none → Q (.ref p) (upd H' p (.lst ((List.range ys.length).map oy)))
section
variable {X : Cx} {k : Nat} {iter : Expr} {tg : TMk} {n1 n2 : Str} {p1 p2 tp cp pos : Pos} {scope : Scope} {x1 : Nat} {elt : Expr} {el : V → V → Hp → V → Prop}
/-- the loop stands between two items: D the list, L the block's names -/
structure Between (P : Program) (w : World) (A1 : Around) (R : GenEnd) (Y : Protocol) (a D L : Addr) (g : Nat) (oy : Nat → V) (m : Nat) (s : Shared) : Prop where
  gen : s.heap.IsGen a g
  lim : s.heap.NoLimit
  ns : ∃ mm, s.heap.Ns L mm
  lst : ∃ (acc : Array Value) (c : Nat), s.heap.get? D = some (lstObj acc c) ∧ acc.size + m = sizeLine ∧ Vals ((List.range acc.size).map oy) acc.toList
  goes : ∃ gs, s.gens[g]? = some gs ∧ gs.Goes (model P w) A1 R Y m (.send .none) (s.setGen g .running)
theorem ones_loop {outer : List Env} {H0 : Hp} {sc s : Shared} {ce : Env} {a D L : Addr} {g m : Nat} {oy : Nat → V} {Yp : TIt} {Qe : List V → Hp → Prop} {P : Program} {w : World} {A : Around} {R : Result → Shared → Prop}
    (hh : A.handled = none) (hd : A.depth < recursionLimit) (hDL : D ≠ L) (ha : a ≠ D ∧ a ≠ L) (hst : cStatics ≠ D ∧ cStatics ≠ L) (cL : ce.locals = L) (k0 : ce.scope.kind = .function) (k1 : ce.kindOf n1 = some .local) (k2 : ce.kindOf n2 = some .local) (hne : n1 ≠ n2) (he : EltX n1 n2 elt el)
    (hpair : ∀ ys x H', Yp ys x H' → ∃ p u1 u2, x = .ref p ∧ H' p = some (.tup [u1, u2]) ∧ el u1 u2 H' (oy ys.length))
    (hend : ∀ (ys : List V) (H' : Hp) (s' : Shared) (acc : Array Value) (c : Nat) mm, s'.heap.Ns L mm → s'.heap.get? D = some (lstObj acc c) → Vals ((List.range ys.length).map oy) acc.toList → ys.length ≤ sizeLine → s'.os = sc.os → AllBare s'.gens → Un (frs outer) [] H0 H' sc.heap s'.heap → HOk P w H' s'.heap →
      H' D = none → H' L = none → Qe ys H' → R (.ok .next) s')
    (hB : Between P w A.in1 (Ende P w outer H0 sc [D, L] Qe) (Give P w sc [D, L] a g Yp) a D L g oy m s) :
    codeAny (model P w) A (.compLoop (.ListComp elt [⟨.Tuple [.Name n1 p1, .Name n2 p2] x1 tp, iter, [], 0⟩] scope pos) 0 (.ref a) (.ref D) ce) R s := by
  refine compLoop_any (Between P w A.in1 (Ende P w outer H0 sc [D, L] Qe) (Give P w sc [D, L] a g Yp) a D L g oy) (fun m s B => ?_) m hB
  obtain ⟨b1, b2, ⟨mm, b3⟩, ⟨acc, c, b4, b5, b6⟩, gs, b7, b8⟩ := B
  have hgl : g < s.gens.size := (Array.getElem?_eq_some_iff.mp b7).1
  have at0 : ∀ {ws : List (Addr × Obj)}, At [D, L] ws (s.setGen g .running) → At [D, L] ws s := fun h => ⟨h.adr, h.st⟩
  have stands : ∀ {ws : List (Addr × Obj)} {b : Addr} {o : Obj} {s1 : Shared}, At [D, L] ws s → (∀ p ∈ ws, s1.heap.get? p.1 = some p.2) → b ∈ [D, L] → s.heap.get? b = some o → s1.heap.get? b = some o := fun {ws b o s1} h hs hb q => by
    rw [← h.adr] at hb
    obtain ⟨p, hp, rfl⟩ := List.mem_map.mp hb
    have := h.st p hp
    rw [q] at this
    cases this
    exact hs p hp
  refine wpAny_gsz (n := g + 1) hgl (next_genG (F := Over P w outer H0 sc [D, L] Qe) (Er := fun _ _ => False) hh b2 hd b1 b7 b8 (fun v s1 gs' hbare hv => ?_) (fun s1 hp h' hk => ?_) fun e s1 z => z.elim)
  · intro hsz
    obtain ⟨os1, g1, lim1, gen1, ys, x, ws, H', ⟨hn, rv, yp, hok⟩, hat, hws, hk⟩ := hv
    have hat := at0 hat
    obtain ⟨p, u1, u2, rfl, hpt, hel⟩ := hpair ys x H' yp
    have hno : H' L = none := by
      have : L ∈ ws.map (·.1) := by rw [hat.adr]; simp
      obtain ⟨q', hq', e'⟩ := List.mem_map.mp this
      have z := (hws q' hq').2
      rw [e'] at z
      exact z
    have hws' : ∀ p ∈ ws, s1.heap.get? p.1 = some p.2 := fun p hp => (hws p hp).1
    obtain rfl : v = Value.ref p := rv
    obtain ⟨_, its, vits, tup⟩ := hok p _ hpt
    obtain ⟨w1, w2, rfl⟩ : ∃ w1 w2, its = [w1, w2] := by
      have := vits.length
      match its, this with
      | [w1, w2], _ => exact ⟨w1, w2, rfl⟩
    have hD1 : s1.heap.get? D = some (lstObj acc c) := stands hat hws' (by simp) b4
    have hL1 : s1.heap.Ns L mm := by
      obtain ⟨o, es, ep, q1, q2⟩ := b3
      exact ⟨o, es, ep, stands hat hws' (by simp) q1, q2⟩
    refine owned_gen (s := s1.setGen g gs') gen1 ?_
    refine two_names (s := s1.setGen g gs') hh cL k0 k1 k2 hL1 tup hne fun h2 tk0 m2 ns2 mn1 mn2 kp2 => ?_
    refine wpAny_tests_nil ?_
    rw [if_pos rfl]
    obtain ⟨w1', hw1', rw1⟩ := vits.get (i := 0) (show [u1, u2][0]? = some u1 from rfl)
    obtain ⟨w2', hw2', rw2⟩ := vits.get (i := 1) (show [u1, u2][1]? = some u2 from rfl)
    cases hw1'
    cases hw2'
    refine he.run (s1 := s1) k0 k1 k2 cL ns2 mn1 mn2 rw1 rw2 hok hno kp2 hel fun vy tk rvy => ?_
    have hD2 : h2.get? D = some (lstObj acc c) := kp2 D _ hDL hD1
    refine append_at (hsz := by show acc.size ≤ sizeLine; omega) hD2 fun h3 sb3 hD3 => ?_
    have kp3 : ∀ b o, b ≠ D → b ≠ L → s1.heap.get? b = some o → h3.get? b = some o := fun b o hb hb' q => (sb3.2 b hb).trans (kp2 b o hb' q)
    have ns3 : h3.Ns L m2 := ns2.sameBut sb3 (Ne.symm hDL)
    have hg1 : g < s1.gens.size := by
      have : (s1.setGen g gs').gens.size = s1.gens.size := setGen_size ..
      have z : g + 1 ≤ (s1.setGen g gs').gens.size := hsz
      omega
    obtain ⟨oL, esL, epL, oL1, oL2, oL3⟩ := id ns3
    have key := hk ({ s1.setGen g gs' with heap := h3, toks := tk }.setGen g .running) [(D, lstObj (acc.push vy) (c + 1)), (L, oL)]
      ⟨os1.symm ▸ os1 ▸ rfl, allBare_setGen (s := { s1.setGen g gs' with heap := h3, toks := tk }) (allBare_setGen g1 hbare) rfl, fun b o hb q => ?_⟩ ⟨by rw [hat.adr]; rfl, fun q hq => ?_⟩
    · cases m with
      | zero => exact key.elim
      | succ m =>
        refine ⟨m, Nat.lt_succ_self m, ⟨?_, ?_, ⟨m2, ns3⟩, ⟨acc.push vy, c + 1, hD3, ?_, ?_⟩, gs', setGen_at hg1, key⟩⟩
        · obtain ⟨o, nm, qn, q1, q2⟩ := gen1
          exact ⟨o, nm, qn, kp3 a o ha.1 ha.2 q1, q2⟩
        · obtain ⟨mc, hns, hnn⟩ := lim1
          exact ⟨mc, hns.at' fun o q => kp3 _ o hst.1 hst.2 q, hnn⟩
        · rw [Array.size_push]
          omega
        · rw [Array.size_push, Array.toList_push, List.range_succ, List.map_append]
          have ej : acc.size = ys.length := by omega
          refine b6.append (.cons ?_ .nil)
          rw [ej]
          exact rvy
    · refine kp3 b o (fun e => ?_) (fun e => ?_) q
      · have : D ∈ ws.map (·.1) := by rw [hat.adr]; simp
        obtain ⟨q', hq', e'⟩ := List.mem_map.mp this
        exact hb q' hq' (e'.trans e.symm)
      · have : L ∈ ws.map (·.1) := by rw [hat.adr]; simp
        obtain ⟨q', hq', e'⟩ := List.mem_map.mp this
        exact hb q' hq' (e'.trans e.symm)
    · rcases List.mem_cons.mp hq with hq | hq
      · rw [hq]
        exact ⟨hD3, fun v e => by cases e⟩
      · rw [List.mem_singleton.mp hq]
        exact ⟨oL1, fun v e => by rw [oL2] at e; cases e⟩
  · intro hsz
    obtain ⟨ys, ws, H', ⟨hn, os1, g1, hQ⟩, hat, hws, un, hok⟩ := hp
    have hat := at0 hat
    have hno : ∀ b ∈ [D, L], H' b = none := fun b hb => by
      rw [← hat.adr] at hb
      obtain ⟨q, hq, rfl⟩ := List.mem_map.mp hb
      exact (hws q hq).2
    have hD1 : s1.heap.get? D = some (lstObj acc c) := stands hat (fun p hp => (hws p hp).1) (by simp) b4
    have hL1 : s1.heap.Ns L mm := by
      obtain ⟨o, es, ep, q1, q2⟩ := b3
      exact ⟨o, es, ep, stands hat (fun p hp => (hws p hp).1) (by simp) q1, q2⟩
    have hl : acc.size = ys.length := by omega
    refine hend ys H' { s1.setGen g .finished with heap := h' } acc c mm (hL1.keeps hk) (hk _ _ hD1) (by rw [← hl]; exact b6) (by omega) os1 (allBare_setGen g1 rfl) (un.trans (Un.kept hk)) (hok.kept hk) (hno D (by simp)) (hno L (by simp)) hQ
theorem pe_each {j : Nat} (hc : X.calm = true) (hi : PM X k iter tg) (hj : Room j X.A) (hkj : k + 1 ≤ j) (k0 : scope.kind = .function) (hu : ∀ y ∈ scope.names, scope.names.lookup y.1 = some y.2 ∧ y.2 ≠ .free) (h1 : scope.names.lookup n1 = some .local) (h2 : scope.names.lookup n2 = some .local) (hne : n1 ≠ n2) (he : EltX n1 n2 elt el)
    (hs : ∀ x, foldedSetIterable iter X.env x = pure x := by intro _; rfl) :
    PE X (.ListComp elt [⟨.Tuple [.Name n1 p1, .Name n2 p2] x1 tp, iter, [], 0⟩] scope pos) (tEach tg el) := by
  refine ⟨fun pins s σ H Q I h => ?_⟩
  have hr : Room (k + 1) X.A := hj.mono hkj
  obtain ⟨Yp, Qe, oy, htg, hpair, hfin⟩ := h
  rw [eval_ListComp]
  refine wpAny_comprehension_free (use := none) rfl hs (closure_ok fun y hy e => absurd e (hu y hy).2) k0 (fun y hy e => by rw [(hu y hy).1, e]) (thn (hi.run pins s σ H Yp Qe I htg) fun u s1 ⟨H1, sc, I1, a, g, c, ⟨e1, a1, a2⟩, ⟨g1, g2⟩, ⟨os1, ab1, lim1, kp1⟩, wake⟩ => ?_)
  subst e1
  refine wpAny_pyIter_gen g1 ?_
  refine wpAny_newObj_type (newEnv_comp ?_) (by show 0 ≤ sizeLine; decide)
  generalize hD : s1.heap.objs.size = D
  generalize hs3 : ({ s1 with heap := s1.heap.push { cls := .type "list", data := .seq ([] : List Value).toArray } } : Shared) = s3
  have h3 : s3.heap = s1.heap.push { cls := .type "list", data := .seq ([] : List Value).toArray } := by rw [← hs3]
  have sz3 : s3.heap.objs.size = D + 1 := by rw [h3, Heap.size_push, hD]
  show codeAny _ _ (.compStart (.ListComp elt [⟨.Tuple [.Name n1 p1, .Name n2 p2] x1 tp, iter, [], 0⟩] scope pos) 0 (.ref a) (.ref D) (compEnvC scope (cellsFrom (s3.heap.objs.size + 1) scope.names (cloFrom X.env.cells scope.names [])) s3.heap.objs.size X.env)) (compPost (model X.prog X.w) X.A X.xe none (EP X pins σ Q) (.ref D) s3.heap.objs.size) { s3 with heap := pushCells (s3.heap.push { cls := .type "dict", data := .dict #[] }) scope.names }
  generalize hce : compEnvC scope (cellsFrom (s3.heap.objs.size + 1) scope.names (cloFrom X.env.cells scope.names [])) s3.heap.objs.size X.env = ce
  rw [sz3]
  generalize hs4 : ({ s3 with heap := pushCells (s3.heap.push { cls := .type "dict", data := .dict #[] }) scope.names } : Shared) = s4
  have kp13 : ∀ b o, s1.heap.get? b = some o → s3.heap.get? b = some o := fun b o q => by rw [h3]; exact Heap.get?_push_of_some _ q
  have kp34 : ∀ b o, s3.heap.get? b = some o → s4.heap.get? b = some o := fun b o q => by rw [← hs4]; exact pushCells_keeps _ _ _ _ (Heap.get?_push_of_some _ q)
  have hDo : s4.heap.get? D = some (lstObj #[] 0) := kp34 _ _ (by rw [h3, ← hD]; exact Heap.get?_push_size _ rfl)
  have hL : s4.heap.Ns (D + 1) fun _ => none := by
    rw [← hs4, ← sz3]
    exact Heap.Ns.keeps (Heap.Ns.new ..) fun b o e => pushCells_keeps _ _ _ _ e
  have gens4 : s4.gens = s1.gens := by rw [← hs4, ← hs3]
  have os4 : s4.os = s1.os := by rw [← hs4, ← hs3]
  have aD : a < D := by rw [← hD]; exact a2
  have scD : sc.heap.objs.size ≤ D := Nat.le_trans a1 (Nat.le_of_lt aD)
  have stD : cStatics < D := by
    obtain ⟨_, hn, _⟩ := lim1
    rw [← hD]
    exact hn.lt
  have hfl : Room k X.A.in1 := by
    refine ⟨hr.hd, ?_, ?_⟩
    · have := hr.dp
      show X.A.depth + 3 * k + 5 < _
      omega
    · have := hr.un
      show X.A.units + 1 + 16 * k + 200 < _
      omega
  obtain ⟨oL, esL, epL, oL1, oL2, _⟩ := id hL
  have cL : ce.locals = D + 1 := by rw [← hce, ← sz3]; rfl
  have kk : ∀ {n : Str}, scope.names.lookup n = some .local → ce.kindOf n = some .local := fun {n} q => by
    rw [← hce]
    exact lookup_relS_keep (by decide) q
  have k00 : ce.scope.kind = .function := by rw [← hce]; exact k0
  have loop : codeAny (model X.prog X.w) X.A (.compLoop (.ListComp elt [⟨.Tuple [.Name n1 p1, .Name n2 p2] x1 tp, iter, [], 0⟩] scope pos) 0 (.ref a) (.ref D) ce) (compPost (model X.prog X.w) X.A X.xe none (EP X pins σ Q) (.ref D) (D + 1)) s4 := by
    refine ones_loop (oy := oy) (outer := X.stack) (H0 := H1) (sc := sc) (g := g) (m := sizeLine) (L := D + 1) (Qe := Qe) (I.ok.hd hc) hr.depth (Nat.ne_of_lt (Nat.lt_succ_self D)) ⟨Nat.ne_of_lt aD, Nat.ne_of_lt (Nat.lt_succ_of_lt aD)⟩ ⟨Nat.ne_of_lt stD, Nat.ne_of_lt (Nat.lt_succ_of_lt stD)⟩ cL k00 (kk h1) (kk h2) hne he hpair ?_ ⟨g1.keeps fun b o q => kp34 b o (kp13 b o q), lim1.keeps fun b o q => kp34 b o (kp13 b o q), ⟨_, hL⟩, ⟨#[], 0, hDo, by simp, .nil⟩, .fresh c, by rw [gens4]; exact g2, rfl, ?_⟩
    · intro ys H' s' acc cc mm ns' hD' hv hle os' ab' un hok nD nL hQ
      refine ⟨mm, ns', fun h5 sb5 => ?_⟩
      have J : Inv X pins σ (upd H' D (.lst ((List.range ys.length).map oy))) s' := I1.drained scD (by rw [List.length_map, List.length_range]; exact hle) hD' hv .nil os' ab' un hok nD
      have nL' : (upd H' D (.lst ((List.range ys.length).map oy))) (D + 1) = none := by rw [upd_ne (Nat.ne_of_gt (Nat.lt_succ_self D))]; exact nL
      obtain ⟨f0, f1, f2, f3, f4, f5⟩ := I1.fpOk (b := D + 1) (H' := upd H' D (.lst ((List.range ys.length).map oy))) (Nat.le_succ_of_le scD) nL'
      exact ⟨.ref D, _, J.turned (t' := s'.toks) (fun b o hb q => (sb5.2 b hb).trans q) f0 f1 f3 f4 f5, rfl, hfin ys H' hQ D nD⟩
    · refine wake X.A.in1 [D, D + 1] [(D, lstObj #[] 0), (D + 1, oL)] (s4.setGen g .running) hfl I.ok.frames ⟨rfl, fun p hp => ?_, fun b o q => kp34 b o (kp13 b o q), os4, allBare_setGen (by rw [gens4]; exact ab1) rfl⟩
      rcases List.mem_cons.mp hp with hp | hp
      · rw [hp]
        exact ⟨Nat.le_of_eq hD, hDo, fun v e => by cases e⟩
      · rw [List.mem_singleton.mp hp]
        exact ⟨Nat.le_succ_of_le (Nat.le_of_eq hD), oL1, fun v e => by rw [oL2] at e; cases e⟩
  exact codeAny_compStart_list loop (wpAny_pyIter_gen (g1.keeps fun b o q => kp34 b o (kp13 b o q)) loop)
end
/-! readings of a generator's body, opened by hand -/
theorem o_then {t u : TGn} {D : GEnds} {ys : List V} {σ : L2.St} {H : Hp} (h : t { D with nx := fun ys' σ' H' => u D ys' σ' H' } ys σ H) : tGThen t u D ys σ H := h
theorem o_plain {t : TS} {D : GEnds} {ys : List V} {σ : L2.St} {H : Hp} (h : t { nx := D.nx ys, rt := D.rt ys, bk := D.bk ys, ct := D.ct ys } σ H) : tPlain t D ys σ H := h
theorem o_end {D : GEnds} {ys : List V} {σ : L2.St} {H : Hp} (h : D.nx ys σ H) : tG0 D ys σ H := h
end Gx

set_option Elab.async false
set_option linter.all false
set_option maxRecDepth 100000
set_option maxHeartbeats 4000000
namespace Rg
open PySem L2
/-- the end with the code table of a method's lambda -/
theorem walk_tabM {l : PySem.W.OpenLaw} {n k : Nat} {q : Program} {loose : List Str} {XP : (Str → Option Value) → Heap → Prop} {YP : World → Heap → Prop} {d : DefRec} {K : Params → PySem.W.Frag} {ts : List Addr} {x : Str} {sp : World → Addr → Sp}
    (hn : l.most = some n) (hn2 : n ≤ sizeLine) (hdf : d.params.defaults = []) (room : Room k callerA) (hY : ∀ (w : World) (h : Heap), YP w h → (K w.params).In h) (hT : ∀ (w : World) (h : Heap), YP w h → ∀ P ∈ ts, h.get? P = some (PySem.W.tabObj #[]))
    (F : ∀ (w : World) (mg : Str → Option Value) (fa : Addr) (h : Heap), (K w.params).In h → h.Ns mainGlobals mg → mg d.name = some (.ref fa) →
      ∃ (fd : FuncData) (c P : Addr), PySem.W.codeHdIn (K w.params) c P = true ∧ P ∈ ts ∧ PySem.W.noTabs (K w.params) = true ∧ (∀ (s : Shared) (u : Value), BindsTo s fd ⟨[u], []⟩ [(x, u)]) ∧
        ∀ base : Heap, (K w.params).In base → base.Ns mainGlobals mg → LamX.TabB base mg c P → FnOk l.prog w (K w.params) mg base CX0 k fa fd [x] (sp w P))
    (S : ∀ (w : World) (H : Hp) (P a : Addr) (ns : List Int), ns.length ≤ n → H P = some (.tbl #[]) → SqL (K w.params) H a (ns.map V.int) → sp w P [.ref a] H (fun v _ => v = .bl true) fun _ _ _ => False) :
    PySem.W.WalkO q loose XP YP l.row.toRowW d [] (fun f vs => PySem.call f vs) := by
  refine Att.attach_callB hn hdf fun w z0 z mg mb fa o pm cd doc a vs ns ground Y ho hd hcd hmg hobj hints hlen hbits hg => ?_
  have KX := hY w _ Y
  obtain ⟨fd, c, P, hc, hP, nt, bind, prom⟩ := F w mg fa _ KX ground.T.g hmg
  have obj := hT w _ Y P hP
  have code := PySem.W.codeHd_of_K KX hc
  exact LamX.law_callTs (cs := [(c, P)]) KX ground.T.g ground.T.b ground.T.builtins ground.T.nolimit hg (fun p hp => List.mem_singleton.mp hp ▸ obj) (fun p hp => List.mem_singleton.mp hp ▸ noTab KX nt obj) (fun p hp => List.mem_singleton.mp hp ▸ code) ground.T.bmain hobj hints
    (Nat.le_trans hlen hn2) room (fun base h1 h2 h3 => prom base h1 h2 (h3 (c, P) (List.mem_singleton.mpr rfl))) bind (fun H hH hS => S w H P a ns hlen (hH (c, P) (List.mem_singleton.mpr rfl)) hS) fun _ _ _ z => z
end Rg

set_option Elab.async false
set_option linter.all false
set_option maxRecDepth 100000
set_option maxHeartbeats 4000000
namespace Rg
open PySem PySem.Spec PyProof.Rows L2
/-! ### a def that is promised only where nothing is being shown (no repr under way), and the end for it -/
/-- the promise at states with no guard -/
def FnG (P : Program) (w : World) (K : PySem.W.Frag) (mg : Str → Option Value) (base : Heap) (k : Nat) (f : Addr) (fd : FuncData) (ps : List Str) (sp : Sp) : Prop :=
  ∀ (A : Around) (fr : List Env) (s : Shared) (H : Hp) (ar : Args) (us : List Value) (vs : List V) (Q : VK) (E : XK),
    A.guards = some [] → Room k A → Env0 P w K mg base A fr s H → BindsTo s fd ar (ps.zip us) → Vals vs us → sp vs H Q E → codeAny (model P w) A (.call (.ref f) ar) (CR CX0 fr P w H s Q E) s
theorem FnG.imp {P : Program} {w : World} {K : PySem.W.Frag} {mg : Str → Option Value} {base : Heap} {k : Nat} {f : Addr} {fd : FuncData} {ps : List Str} {sp sp' : Sp} (F : FnG P w K mg base k f fd ps sp) (h : ∀ vs H Q E, sp' vs H Q E → sp vs H Q E) :
    FnG P w K mg base k f fd ps sp' := fun A fr s H ar us vs Q E g r e b v q => F A fr s H ar us vs Q E g r e b v (h _ _ _ _ q)
section
variable {P : Program} {w : World} {K : PySem.W.Frag} {mg : Str → Option Value} {base : Heap}
theorem okG {x qual : Str} {st : Stmt} {f : Addr} {fd : FuncData} {N ps : List Str} {k : Nat} {sp : Sp} (F : Fun K x qual st f fd) (S : FnScope N ps (defScope st)) (len : ∀ vs H Q E, sp vs H Q E → vs.length = ps.length)
    (body : ∀ (cdv : Value) (A : Around) (outer : List Env) (s : Shared) (H : Hp) (vs : List V) (Q : VK) (E : XK), A.guards = some [] → Room k (A.deeper (envOfC qual (defScope st) s.heap.objs.size f cdv)) → sp vs H Q E →
      ∃ t, PSs (cxOf CX0 P w K mg base N qual (defScope st) f cdv A outer s H E).nox (defBody st) t ∧ t { nx := fun _ H' => Q .non H', rt := Q } (start N vs) H) : FnG P w K mg base (k + 1) f fd ps sp := by
  obtain ⟨oc, od, kV, doc, pm, an, cdv, ct, osl, rfl, lk, hcd⟩ := F.ex
  intro A fr s H ar us vs Q E hg hr e0 hb hv hq
  have here : ∀ b o, base.get? b = some o → s.heap.get? b = some o := fun b o e => (e0.bs b o e).1
  have KX := e0.mod.kin.keeps here
  have hk : ∀ y ∈ ps.zip us, (defScope st).names.lookup y.1 = some .local ∨ ((defScope st).names.lookup y.1 = some .cell ∧ ((cellsFrom (s.heap.objs.size + 1) (defScope st).names []).lookup y.1).isSome = true) := by
    intro y hy
    obtain ⟨n, v⟩ := y
    have z := S.par n (List.of_mem_zip hy).1
    exact z.imp id fun q => ⟨q, PySem.W.cellsFrom_some _ _ _ (.inl q)⟩
  obtain ⟨t, ht, q⟩ := body cdv A fr s H vs Q E hg (hr.deeper _) hq
  refine codeAny_call_function hr.depth (KX _ _ lk) rfl S.co S.gen rfl (PySem.W.codeRec_of KX hcd) (hb _ _ _ _ (wpAny_newFunctionEnv_cells S.kind hk fun env he s1 x => ?_))
  subst he
  have I := inv_start (CX := CX0) (E := E) (cd := cdv) (qual := qual) S hr.hd e0 (len _ _ _ _ hq) hv x
  refine ⟨(e0.mod.nolimit.keeps here).keeps x.toInCall.keep, codeAny_func (wpAny_mono (ht.nox.run [] s1 (start N vs) H _ I q) (fun fl s' z => ?_) fun _ _ z => z)⟩
  cases fl with
  | ret u =>
    obtain ⟨v, σ', H', J, rv, q'⟩ := z
    exact ⟨v, H', J.os, J.bare, J.base, J.hok, rv, q'⟩
  | next =>
    obtain ⟨σ', H', J, q'⟩ := z
    exact ⟨.non, H', J.os, J.bare, J.base, J.hok, rfl, q'⟩
  | brk => exact z.elim fun _ z => z.elim fun _ z => z.2.elim
  | cont => exact z.elim fun _ z => z.elim fun _ z => z.2.elim
end
/-- what is tracked when the law begins: the table, and the script where the head's part does not hold it -/
def beg (P a : Addr) (own : Prop) [Decidable own] (o : Obj) (xs : List V) : Hp := fun b => if b = P then some (.tbl #[]) else if b = a ∧ own then some (.frz o (.lst xs)) else none
theorem beg_P {P a : Addr} {own : Prop} [Decidable own] {o : Obj} {xs : List V} : beg P a own o xs P = some (.tbl #[]) := if_pos rfl
theorem beg_a {P a : Addr} {own : Prop} [Decidable own] {o : Obj} {xs : List V} (n : a ≠ P) (h : own) : beg P a own o xs a = some (.frz o (.lst xs)) := (if_neg n).trans (if_pos ⟨rfl, h⟩)
theorem beg_some {P a b : Addr} {own : Prop} [Decidable own] {o : Obj} {xs : List V} {u : HO} (h : beg P a own o xs b = some u) : (b = P ∧ u = .tbl #[]) ∨ (b = a ∧ own ∧ u = .frz o (.lst xs)) := by
  unfold beg at h
  split at h
  · exact .inl ⟨by assumption, (Option.some.inj h).symm⟩
  · split at h
    · rename_i z
      exact .inr ⟨z.1, z.2, (Option.some.inj h).symm⟩
    · cases h
theorem callG {P : Program} {w : World} {K : PySem.W.Frag} {mg mb : Str → Option Value} {k : Nat} {fa a c pT : Addr} {fd : FuncData} {x : Str} {sp : Sp} {s : Shared} {vs : List Value} {ns : List Int}
    (KX : K.In s.heap) (gl : s.heap.Ns mainGlobals mg) (hb : s.heap.Ns builtinsNs mb) (hbb : ∀ x : Str, x ≠ "__name__" → mb x = bootBuiltins x) (hlim : s.heap.NoLimit) (hg : s.gens = #[])
    (hT : s.heap.get? pT = some (PySem.W.tabObj #[])) (nT : K.lookup pT = none) (C : PySem.W.CodeHd s.heap c pT)
    (hbm : ∃ (bm : Addr) (ob : Obj), mg "__builtins__" = some (.ref bm) ∧ bm ≠ builtinsNs ∧ s.heap.get? bm = some ob ∧ ob.cls = .type "module" ∧ ob.dict = some builtinsNs ∧ ob.data = .plain)
    (ha : s.heap.get? a = some { cls := .type "list", data := .seq vs.toArray }) (hi : IntsAre vs ns) (hl : ns.length ≤ sizeLine) (hr : Room k callerA)
    (F : ∀ base : Heap, K.In base → base.Ns mainGlobals mg → LamX.TabB base mg c pT → FnG P w K mg base k fa fd [x] sp) (bind : ∀ (s : Shared) (u : Value), BindsTo s fd ⟨[u], []⟩ [(x, u)])
    (S : ∀ H : Hp, H pT = some (.tbl #[]) → SqL K H a (ns.map V.int) → sp [.ref a] H (fun v _ => v = .bl true) fun _ _ _ => False) :
    codeAny (model P w) callerA (.call (.ref fa) ⟨[.ref a], []⟩) (fun r s' => r = .ok (.ret (.bool true)) ∧ OldK s.heap s'.heap ∧ s'.os = s.os ∧ AllBare s'.gens) s := by
  have rv := vals_ints hi
  have naP : a ≠ pT := fun z => by
    rw [z, hT] at ha
    cases ha
  have decO : Decidable (K.lookup a = none) := Classical.propDecidable _
  obtain ⟨H, hH⟩ : ∃ H, H = beg pT a (K.lookup a = none) { cls := .type "list", data := .seq vs.toArray } (ns.map V.int) := ⟨_, rfl⟩
  have lenM : (ns.map V.int).length ≤ sizeLine := by rw [List.length_map]; exact hl
  have hP : H pT = some (.tbl #[]) := by rw [hH]; exact beg_P
  have seq : SqL K H a (ns.map V.int) := by
    cases e : K.lookup a with
    | none => exact .inl (.inr ⟨_, by rw [hH]; exact beg_a naP e⟩)
    | some o =>
      have z := KX a o e
      rw [ha] at z
      cases z
      refine .inr ⟨_, vs.toArray, _, e, rfl, rfl, rfl, ?_, by simpa using rv⟩
      rw [List.size_toArray, hi.length]
      exact hl
  have ok : HOk P w H s.heap := by
    intro b u e
    rw [hH] at e
    rcases beg_some e with ⟨rfl, rfl⟩ | ⟨rfl, _, rfl⟩
    · exact hT
    · exact ⟨ha, lenM, vs, _, rv, ha⟩
  -- an object of another make is not tracked
  have off : ∀ {b : Addr} {o : Obj}, s.heap.get? b = some o → (∀ xs n, o.data ≠ .seq xs n) → o ≠ PySem.W.tabObj #[] → H b = none := fun {b o} e h1 h2 => by
    cases q : H b with
    | none => rfl
    | some u =>
      rw [hH] at q
      rcases beg_some q with ⟨rfl, _⟩ | ⟨rfl, _, _⟩
      · exact (h2 (Option.some.inj (e.symm.trans hT))).elim
      · rw [ha] at e
        obtain rfl := Option.some.inj e
        exact (h1 _ _ rfl).elim
  have offD : ∀ {b : Addr} {o : Obj} {es : Array DictEntry} {n : Nat}, s.heap.get? b = some o → o.data = .dict es n → H b = none := fun e d => off e (fun _ _ z => by rw [d] at z; cases z) fun z => by rw [z] at d; cases d
  have up : ∀ {b : Addr} {o : Obj}, s.heap.get? b = some o → H b = none → (hidT s.heap H).get? b = some o := fun e n => hidT_get e n
  have nsUp : ∀ {b : Addr} {m : Str → Option Value}, s.heap.Ns b m → (hidT s.heap H).Ns b m := fun ⟨o, es, n, e, d, r⟩ => ⟨o, es, n, up e (offD e d), d, r⟩
  have kin : K.In (hidT s.heap H) := fun b o e => up (KX b o e) (by
    cases q : H b with
    | none => rfl
    | some u =>
      rw [hH] at q
      rcases beg_some q with ⟨rfl, _⟩ | ⟨rfl, z, _⟩
      · rw [nT] at e
        cases e
      · rw [z] at e
        cases e)
  have mod : L2.Mod K mg (hidT s.heap H) := ⟨kin, nsUp gl, ⟨mb, nsUp hb, hbb⟩, hlim.elim fun m z => ⟨m, nsUp z.1, z.2⟩⟩
  have tab : LamX.TabB (hidT s.heap H) mg c pT := by
    refine ⟨?_, ?_, ?_⟩
    · obtain ⟨o, us, file, tf, flags, tg, inF, text, tt, e1, r1, r2, r3⟩ := C
      refine ⟨o, us, file, tf, flags, tg, inF, text, tt, up e1 (off e1 (fun _ _ z => by rw [r2] at z; cases z) fun z => ?_), r1, r2, r3⟩
      rw [z] at r1
      cases r1
    · obtain ⟨bm, ob, b1, b2, b3, b4, b5, b6⟩ := hbm
      refine ⟨bm, ob, b1, b2, fun z => ?_, fun z => ?_, up b3 (off b3 (fun _ _ z => by rw [b6] at z; cases z) fun z => by rw [z] at b6; cases b6), b4, b5, b6⟩
      · obtain ⟨o, es, n, e, d, _⟩ := gl
        rw [← z, b3] at e
        obtain rfl := Option.some.inj e
        rw [b6] at d
        cases d
      · rw [z, hT] at b3
        obtain rfl := Option.some.inj b3
        cases b6
    · intro z
      obtain ⟨o, es, n, e, d, _⟩ := gl
      rw [z, hT] at e
      obtain rfl := Option.some.inj e
      cases d
  have e0 : Env0 P w K mg (hidT s.heap H) callerA [] s H := ⟨rfl, mod, fun _ _ e => of_hidT e, Nat.le_of_eq (hidT_size _ _), trivial, fun b z => (List.not_mem_nil (show b ∈ ([] : List Addr) from z)).elim, ok, .of_eq hg⟩
  refine codeAny_mono (F _ kin (nsUp gl) tab callerA [] s H ⟨[.ref a], []⟩ [.ref a] [.ref a] _ _ rfl hr e0 (bind s (.ref a)) (.cons rfl .nil) (S H hP seq)) fun r s' h => ?_
  match r, h with
  | .error e, h => exact (show False from h).elim
  | .ok .next, h => exact (show False from h).elim
  | .ok .brk, h => exact (show False from h).elim
  | .ok .cont, h => exact (show False from h).elim
  | .ok (.ret u), ⟨v, H', os, bare, un, ok', r', q⟩ =>
    obtain rfl : v = .bl true := q
    obtain rfl : u = Value.bool true := r'
    obtain ⟨more, hm⟩ := un.tbls pT #[] hP
    have hm' : s'.heap.get? pT = some (PySem.W.tabObj more) := by
      have z : s'.heap.get? pT = some (PySem.W.tabObj (#[] ++ more)) := ok' pT _ hm
      rw [Array.empty_append] at z
      exact z
    have kept : ∀ b o, b ≠ pT → s.heap.get? b = some o → s'.heap.get? b = some o := fun b o n e => by
      cases q : H b with
      | none => exact un.keep b o e q (by intro z; exact (List.not_mem_nil (show b ∈ ([] : List Addr) from z)).elim) (by simp)
      | some u =>
        have q' := q
        rw [hH] at q'
        rcases beg_some q' with ⟨z, _⟩ | ⟨rfl, _, rfl⟩
        · exact (n z).elim
        · have z := (ok' _ _ (un.frzs _ _ _ q)).1
          rw [ha] at e
          obtain rfl := Option.some.inj e
          exact z
    refine ⟨rfl, ⟨fun b o e => ?_, fun b o e => ?_⟩, os, bare⟩
    · by_cases n : b = pT
      · subst n
        rw [hT] at e
        obtain rfl := Option.some.inj e
        exact .inr (.inl ⟨(C.tab hT).isCodeTable, rfl, #[], more, rfl, by rw [Array.empty_append]; exact hm'⟩)
      · exact .inl (kept b o n e)
    · by_cases n : b = pT
      · exact ⟨_, n ▸ hm'⟩
      · exact ⟨o, kept b o n e⟩
/-- the end with the code table of a method's lambda, for a law that shows values -/
theorem walk_tabG {l : PySem.W.OpenLaw} {n k : Nat} {q : Program} {loose : List Str} {XP : (Str → Option Value) → Heap → Prop} {YP : World → Heap → Prop} {d : DefRec} {K : Params → PySem.W.Frag} {ts : List Addr} {x : Str} {sp : World → Addr → Sp}
    (hn : l.most = some n) (hn2 : n ≤ sizeLine) (hdf : d.params.defaults = []) (room : Room k callerA) (hY : ∀ (w : World) (h : Heap), YP w h → (K w.params).In h) (hT : ∀ (w : World) (h : Heap), YP w h → ∀ P ∈ ts, h.get? P = some (PySem.W.tabObj #[]))
    (F : ∀ (w : World) (mg : Str → Option Value) (fa : Addr) (h : Heap), (K w.params).In h → h.Ns mainGlobals mg → mg d.name = some (.ref fa) →
      ∃ (fd : FuncData) (c P : Addr), PySem.W.codeHdIn (K w.params) c P = true ∧ P ∈ ts ∧ PySem.W.noTabs (K w.params) = true ∧ (∀ (s : Shared) (u : Value), BindsTo s fd ⟨[u], []⟩ [(x, u)]) ∧
        ∀ base : Heap, (K w.params).In base → base.Ns mainGlobals mg → LamX.TabB base mg c P → FnG l.prog w (K w.params) mg base k fa fd [x] (sp w P))
    (S : ∀ (w : World) (H : Hp) (P a : Addr) (ns : List Int), ns.length ≤ n → H P = some (.tbl #[]) → SqL (K w.params) H a (ns.map V.int) → sp w P [.ref a] H (fun v _ => v = .bl true) fun _ _ _ => False) :
    PySem.W.WalkO q loose XP YP l.row.toRowW d [] (fun f vs => PySem.call f vs) := by
  refine Att.attach_callB hn hdf fun w z0 z mg mb fa o pm cd doc a vs ns ground Y _ _ _ hmg hobj hints hlen _ hg => ?_
  have KX := hY w _ Y
  obtain ⟨fd, c, P, hc, hP, nt, bind, prom⟩ := F w mg fa _ KX ground.T.g hmg
  have obj := hT w _ Y P hP
  exact callG KX ground.T.g ground.T.b ground.T.builtins ground.T.nolimit hg obj (noTab KX nt obj) (PySem.W.codeHd_of_K KX hc) ground.T.bmain hobj hints (Nat.le_trans hlen hn2) room prom bind (fun H hH hS => S w H P a ns hlen hH hS)
end Rg

set_option Elab.async false
set_option linter.all false
set_option maxRecDepth 100000
set_option maxHeartbeats 4000000
namespace Rg
open PySem PySem.Spec PyProof.Rows L2
/-! ### repr of plain data, where no repr is under way -/
def rRepr (K : PySem.W.Frag) : List V → Hp → VK → Prop := fun xs H Q => ∃ a d, xs = [.ref a] ∧ Dp K H (.ref a) d ∧ d.showable = true ∧ d.hasDict = false ∧ d.depth ≤ 60 ∧ d.shown.length ≤ sizeLine ∧ Q (.str d.shown) H
theorem cr_repr {X : Cx} {k : Nat} (K : PySem.W.Frag) (g : X.A.guards = some []) (hr : Room k X.A) (hK : X.K = K := by rfl) : CallR X (.builtin "repr") (rRepr K) := by
  subst hK
  intro pins s σ H xs us Q I r h
  obtain ⟨a, d, rfl, hd, h1, h2, h3, h4, q⟩ := h
  obtain ⟨as, R⟩ := Dp.reads I d _ (.ref a) hd rfl
  cases r with
  | cons r rest =>
    cases rest
    rename_i u0
    obtain rfl : u0 = Value.ref a := r
    refine PySem.repr_of_reads' R h1 (PyData.noDict_hsm h2) g (by have := hr.units; omega) (fun _ _ e => e) (fun h' u tk hk => ?_) h4
    exact ⟨.str d.shown, H, I.kept (t' := tk) hk, ⟨u, rfl⟩, q⟩
theorem repr_ {K : PySem.W.Frag} {H : Hp} {Q : VK} {a : Addr} {d : PyData} (hd : Dp K H (.ref a) d) (h1 : d.showable = true) (h2 : d.hasDict = false) (h3 : d.depth ≤ 60) (h4 : d.shown.length ≤ sizeLine) (q : Q (.str d.shown) H) : rRepr K [.ref a] H Q :=
  ⟨a, d, rfl, hd, h1, h2, h3, h4, q⟩
theorem tup_len (ts : List Str) : (tupleText ts).length ≤ piled ts + 2 := by
  unfold tupleText
  rw [strLen_append, strLen_append]
  have e1 : ((("(" : String) : Str)).length = 1 := rfl
  have e3 : (((if ts.length == 1 then ",)" else ")" : String) : Str)).length ≤ 2 := by split <;> decide
  rw [e1]
  cases ts with
  | nil => decide
  | cons x r =>
    have := join_length_add (x :: r) (by simp)
    omega
end Rg

set_option Elab.async false
set_option linter.all false
set_option maxRecDepth 100000
set_option maxHeartbeats 4000000
namespace Rg
open PySem PySem.Spec PyProof.Rows L2
/-! ### the end for a law that shows values and holds no table -/
def bgn (a : Addr) (own : Prop) [Decidable own] (o : Obj) (xs : List V) : Hp := fun b => if b = a ∧ own then some (.frz o (.lst xs)) else none
theorem bgn_some {a b : Addr} {own : Prop} [Decidable own] {o : Obj} {xs : List V} {u : HO} (h : bgn a own o xs b = some u) : b = a ∧ own ∧ u = .frz o (.lst xs) := by
  unfold bgn at h
  split at h
  · rename_i z
    exact ⟨z.1, z.2, (Option.some.inj h).symm⟩
  · cases h
theorem callG0 {P : Program} {w : World} {K : PySem.W.Frag} {mg mb : Str → Option Value} {k : Nat} {fa a : Addr} {fd : FuncData} {x : Str} {sp : Sp} {s : Shared} {vs : List Value} {ns : List Int}
    (KX : K.In s.heap) (gl : s.heap.Ns mainGlobals mg) (hb : s.heap.Ns builtinsNs mb) (hbb : ∀ x : Str, x ≠ "__name__" → mb x = bootBuiltins x) (hlim : s.heap.NoLimit) (hg : s.gens = #[])
    (ha : s.heap.get? a = some { cls := .type "list", data := .seq vs.toArray }) (hi : IntsAre vs ns) (hl : ns.length ≤ sizeLine) (hr : Room k callerA)
    (F : ∀ base : Heap, K.In base → base.Ns mainGlobals mg → FnG P w K mg base k fa fd [x] sp) (bind : ∀ (s : Shared) (u : Value), BindsTo s fd ⟨[u], []⟩ [(x, u)])
    (S : ∀ H : Hp, SqL K H a (ns.map V.int) → sp [.ref a] H (fun v _ => v = .bl true) fun _ _ _ => False) :
    codeAny (model P w) callerA (.call (.ref fa) ⟨[.ref a], []⟩) (fun r s' => r = .ok (.ret (.bool true)) ∧ OldK s.heap s'.heap ∧ s'.os = s.os ∧ AllBare s'.gens) s := by
  have rv := vals_ints hi
  have decO : Decidable (K.lookup a = none) := Classical.propDecidable _
  obtain ⟨H, hH⟩ : ∃ H, H = bgn a (K.lookup a = none) { cls := .type "list", data := .seq vs.toArray } (ns.map V.int) := ⟨_, rfl⟩
  have lenM : (ns.map V.int).length ≤ sizeLine := by rw [List.length_map]; exact hl
  have seq : SqL K H a (ns.map V.int) := by
    cases e : K.lookup a with
    | none => exact .inl (.inr ⟨_, by rw [hH]; exact if_pos ⟨rfl, e⟩⟩)
    | some o =>
      have z := KX a o e
      rw [ha] at z
      cases z
      refine .inr ⟨_, vs.toArray, _, e, rfl, rfl, rfl, ?_, by simpa using rv⟩
      rw [List.size_toArray, hi.length]
      exact hl
  have ok : HOk P w H s.heap := by
    intro b u e
    rw [hH] at e
    obtain ⟨rfl, _, rfl⟩ := bgn_some e
    exact ⟨ha, lenM, vs, _, rv, ha⟩
  have off : ∀ {b : Addr} {o : Obj}, s.heap.get? b = some o → (∀ xs n, o.data ≠ .seq xs n) → H b = none := fun {b o} e h1 => by
    cases q : H b with
    | none => rfl
    | some u =>
      rw [hH] at q
      obtain ⟨rfl, _, _⟩ := bgn_some q
      rw [ha] at e
      obtain rfl := Option.some.inj e
      exact (h1 _ _ rfl).elim
  have offD : ∀ {b : Addr} {o : Obj} {es : Array DictEntry} {n : Nat}, s.heap.get? b = some o → o.data = .dict es n → H b = none := fun e d => off e fun _ _ z => by rw [d] at z; cases z
  have up : ∀ {b : Addr} {o : Obj}, s.heap.get? b = some o → H b = none → (hidT s.heap H).get? b = some o := fun e n => hidT_get e n
  have nsUp : ∀ {b : Addr} {m : Str → Option Value}, s.heap.Ns b m → (hidT s.heap H).Ns b m := fun ⟨o, es, n, e, d, r⟩ => ⟨o, es, n, up e (offD e d), d, r⟩
  have kin : K.In (hidT s.heap H) := fun b o e => up (KX b o e) (by
    cases q : H b with
    | none => rfl
    | some u =>
      rw [hH] at q
      obtain ⟨rfl, z, _⟩ := bgn_some q
      rw [z] at e
      cases e)
  have mod : L2.Mod K mg (hidT s.heap H) := ⟨kin, nsUp gl, ⟨mb, nsUp hb, hbb⟩, hlim.elim fun m z => ⟨m, nsUp z.1, z.2⟩⟩
  have e0 : Env0 P w K mg (hidT s.heap H) callerA [] s H := ⟨rfl, mod, fun _ _ e => of_hidT e, Nat.le_of_eq (hidT_size _ _), trivial, fun b z => (List.not_mem_nil (show b ∈ ([] : List Addr) from z)).elim, ok, .of_eq hg⟩
  refine codeAny_mono (F _ kin (nsUp gl) callerA [] s H ⟨[.ref a], []⟩ [.ref a] [.ref a] _ _ rfl hr e0 (bind s (.ref a)) (.cons rfl .nil) (S H seq)) fun r s' h => ?_
  match r, h with
  | .error e, h => exact (show False from h).elim
  | .ok .next, h => exact (show False from h).elim
  | .ok .brk, h => exact (show False from h).elim
  | .ok .cont, h => exact (show False from h).elim
  | .ok (.ret u), ⟨v, H', os, bare, un, ok', r', q⟩ =>
    obtain rfl : v = .bl true := q
    obtain rfl : u = Value.bool true := r'
    have kept : ∀ b o, s.heap.get? b = some o → s'.heap.get? b = some o := fun b o e => by
      cases q : H b with
      | none => exact un.keep b o e q (by intro z; exact (List.not_mem_nil (show b ∈ ([] : List Addr) from z)).elim) (by simp)
      | some u =>
        have q' := q
        rw [hH] at q'
        obtain ⟨rfl, _, rfl⟩ := bgn_some q'
        have z := (ok' _ _ (un.frzs _ _ _ q)).1
        rw [ha] at e
        obtain rfl := Option.some.inj e
        exact z
    exact ⟨rfl, ⟨fun b o e => .inl (kept b o e), fun b o e => ⟨o, kept b o e⟩⟩, os, bare⟩
theorem walk_G0 {l : PySem.W.OpenLaw} {n k : Nat} {q : Program} {loose : List Str} {XP : (Str → Option Value) → Heap → Prop} {YP : World → Heap → Prop} {d : DefRec} {K : Params → PySem.W.Frag} {x : Str} {sp : World → Sp}
    (hn : l.most = some n) (hn2 : n ≤ sizeLine) (hdf : d.params.defaults = []) (room : Room k callerA) (hY : ∀ (w : World) (h : Heap), YP w h → (K w.params).In h)
    (F : ∀ (w : World) (mg : Str → Option Value) (fa : Addr) (h : Heap), (K w.params).In h → h.Ns mainGlobals mg → mg d.name = some (.ref fa) →
      ∃ fd : FuncData, (∀ (s : Shared) (u : Value), BindsTo s fd ⟨[u], []⟩ [(x, u)]) ∧ ∀ base : Heap, (K w.params).In base → base.Ns mainGlobals mg → FnG l.prog w (K w.params) mg base k fa fd [x] (sp w))
    (S : ∀ (w : World) (H : Hp) (a : Addr) (ns : List Int), ns.length ≤ n → SqL (K w.params) H a (ns.map V.int) → sp w [.ref a] H (fun v _ => v = .bl true) fun _ _ _ => False) :
    PySem.W.WalkO q loose XP YP l.row.toRowW d [] (fun f vs => PySem.call f vs) := by
  refine Att.attach_callB hn hdf fun w z0 z mg mb fa o pm cd doc a vs ns ground Y _ _ _ hmg hobj hints hlen _ hg => ?_
  have KX := hY w _ Y
  obtain ⟨fd, bind, prom⟩ := F w mg fa _ KX ground.T.g hmg
  exact callG0 KX ground.T.g ground.T.b ground.T.builtins ground.T.nolimit hg hobj hints (Nat.le_trans hlen hn2) room prom bind (fun H hS => S w H a ns hlen hS)
end Rg


namespace Pf
open PySem L2 Rg
local macro_rules | `(tactic| k_extra "hp") => `(tactic| first
  | assumption
  | exact SqL.of (by assumption) | exact SqT.of (by assumption) | exact SqL.of upd_same | exact SqT.of upd_same
  | exact upd_same
  | exact Or.inl (SqL.of (by assumption)) | exact Or.inl (SqL.of upd_same) | exact Or.inl (by assumption) | exact Or.inr (by assumption)
  | exact Or.inr (SqT.of (by assumption)) | exact Or.inr (SqT.of upd_same))
local macro_rules | `(tactic| k_extra "sz") => `(tactic| first | assumption | exact Nat.le_of_ble_eq_true rfl | (simp only [sizeLine_eq]; omega) | (rw [sizeLine_eq]; decide) | omega | decide)
local macro_rules | `(tactic| k_extra "ar") => `(tactic| first | assumption | omega | decide | (exact ⟨by omega, by omega⟩) | (exact Or.inl ⟨by omega, by omega⟩) | (exact Or.inr ⟨by omega, by omega⟩))
local macro_rules | `(tactic| k_extra "ty") => `(tactic| first | assumption | exact .base (.str _) | exact .base (.int _) | exact .base (.bl _) | exact .base .non | exact tyx_L (by assumption) | exact tyx_T (by assumption) | exact .base (.tup (by assumption)) | exact .base (.lst (by assumption)) | exact .base (.tup upd_same) | exact .base (.lst upd_same))
local macro_rules | `(tactic| k_extra "kb") => `(tactic| first | exact kit_ty kB_NoneType_str | exact kit_ty kB_NoneType_bool | exact kit_ty kB_NoneType_int | exact kit_ty kB_NoneType_dict | exact kit_ty kB_NoneType_tuple | exact kit_ty kB_NoneType_list | exact kit_ty kB_bool_str | exact kit_ty kB_bool_bool | exact kit_ty kB_bool_int | exact kit_ty kB_bool_dict | exact kit_ty kB_bool_tuple | exact kit_ty kB_bool_list | exact kit_ty kB_int_str | exact kit_ty kB_int_bool | exact kit_ty kB_int_int | exact kit_ty kB_int_dict | exact kit_ty kB_int_tuple | exact kit_ty kB_int_list | exact kit_ty kB_str_str | exact kit_ty kB_str_bool | exact kit_ty kB_str_int | exact kit_ty kB_str_dict | exact kit_ty kB_str_tuple | exact kit_ty kB_str_list | exact kit_ty kB_list_str | exact kit_ty kB_list_bool | exact kit_ty kB_list_int | exact kit_ty kB_list_dict | exact kit_ty kB_list_tuple | exact kit_ty kB_list_list | exact kit_ty kB_tuple_str | exact kit_ty kB_tuple_bool | exact kit_ty kB_tuple_int | exact kit_ty kB_tuple_dict | exact kit_ty kB_tuple_tuple | exact kit_ty kB_tuple_list | exact kit_ty kB_dict_str | exact kit_ty kB_dict_bool | exact kit_ty kB_dict_int | exact kit_ty kB_dict_dict | exact kit_ty kB_dict_tuple | exact kit_ty kB_dict_list)
local macro_rules | `(tactic| k_extra "r1") => `(tactic| with_reducible first
  | refine Rg.seq ?_ | refine Rg.asg ?_ | refine Rg.gname ?_ | refine Rg.cst ?_ | refine Rg.op ?_ | refine Rg.un ?_ | refine Rg.chain ?_
  | refine Rg.exbl ?_ | refine Rg.exint ?_ | refine Rg.expair ?_ | refine Rg.exstr ?_
  | refine Rg.eqI ?_ | refine Rg.neI ?_ | refine Rg.eqStr ?_ | refine Rg.neStr ?_ | refine Rg.eqB_truetrue ?_ | refine Rg.neB_truetrue ?_ | refine Rg.eqB_truefalse ?_ | refine Rg.neB_truefalse ?_ | refine Rg.eqB_falsetrue ?_ | refine Rg.neB_falsetrue ?_ | refine Rg.eqB_falsefalse ?_ | refine Rg.neB_falsefalse ?_ | refine Rg.eqB ?_ | refine Rg.neB ?_ | refine Rg.iI0 ?_ | refine Rg.iU ?_ | refine Rg.addI ?_ | refine Rg.leI ?_ | refine Rg.leS ?_ | refine Rg.inS ?_ | refine Rg.ninS ?_ | refine Rg.isN_int ?_ | refine Rg.notN_int ?_ | refine Rg.isN_str ?_ | refine Rg.notN_str ?_ | refine Rg.isN_bl ?_ | refine Rg.notN_bl ?_ | refine Rg.isN_ref ?_ | refine Rg.notN_ref ?_ | refine Rg.isN_non ?_ | refine Rg.notN_non ?_ | refine Rg.isN ?_ | refine Rg.notN ?_
  | refine Rg.sl ?_ | refine Rg.noPart ?_ | refine Rg.part ?_ | refine Rg.test ?_ | refine Rg.tb_ ?_ | refine Rg.tand ?_ | refine Rg.tor ?_ | refine Rg.tnot ?_
  | refine Rg.andV ?_ | refine Rg.orV ?_ | refine Rg.notV ?_ | refine Rg.ife ?_
  | refine Rg.nxt ?_ | refine Rg.brk ?_ | refine Rg.cnt ?_ | refine Rg.drp ?_ | refine Rg.ret ?_ | refine Rg.retN ?_ | refine Rg.ifS ?_ | refine Rg.par ?_ | refine Rg.gsub ?_
  | refine Rg.gcons ?_ | refine Rg.gnil ?_ | refine Rg.anil ?_ | refine Rg.acons ?_ | refine Rg.callC ?_ | refine Rg.callK ?_ | refine Rg.callB ?_ | refine Rg.intI ?_
  | refine Rg.lc ?_ | refine Rg.pnil ?_ | refine Rg.pcons ?_ | refine Rg.dget2 ?_ | refine Rg.tyes ?_ | refine Rg.lst_ ?_ | refine Rg.tup_ ?_ | refine Rg.m1 ?_ | refine Rg.isStr ?_ | refine Rg.for_ ?_ | refine Rg.bm ?_ | refine Rg.bm0 ?_ | refine Rg.il ?_ | refine Rg.ir1 ?_ | refine Rg.is_ ?_ | refine Rg.iz ?_
  | refine Rg.crR ?_ | refine Rg.crK ?_ | refine Rg.ie ?_ | refine Rg.revL ?_ | refine Rg.revT ?_ | refine Rg.star ?_ | refine Rg.iT ?_ | refine Rg.ipI2 ?_ | refine Rg.par3 ?_ | refine Rg.extrip ?_ | refine Rg.fm ?_ | refine Rg.jc ?_ | refine Rg.jn ?_ | refine Ob.fld ?_ | refine Ob.sfld ?_ | refine Ob.meth ?_ | refine Ob.cmeth ?_ | refine Ob.excm ?_ | refine Ob.din ?_ | refine Ob.dnin ?_ | refine Ob.dget ?_ | refine Ob.dput ?_ | refine Ob.dnew ?_ | refine Ob.lc2 ?_ | refine Sx.keys ?_ | refine Sx.si ?_ | refine Sx.dc ?_
  | refine iteT ?_ | refine iteF ?_ | refine Rg.iteNt ?_ | refine Rg.iteNf ?_)
local macro_rules | `(tactic| k_extra "lk") => `(tactic| repeat (first | exact Ob.lookHead | refine Ob.lookTail (by decide +kernel) ?_ | exact Ob.lookNil))
local macro_rules | `(tactic| k_extra "pk") => `(tactic| repeat (first | exact Ob.putHead | refine Ob.putTail (by decide +kernel) ?_ | exact Ob.putNil))
local macro_rules | `(tactic| k_extra "r") => `(tactic| first
  | ((with_reducible refine' Rg.mkNx ?h ?_); (case h => exact rfl))
  | ((with_reducible refine' Rg.mkRt ?h ?_); (case h => exact rfl))
  | ((with_reducible refine' Rg.mkCt ?h ?_); (case h => exact rfl))
  | ((with_reducible refine' Rg.mkBk ?h ?_); (case h => exact rfl))
  | k_extra "r1"
  | ((with_reducible refine' Rg.var ?h ?_); (case h => exact rfl))
  | ((with_reducible refine' Rg.aug ?h ?_); (case h => exact rfl))
  | ((with_reducible refine' Rg.ipS2 ?h ?_); (case h => k_extra "sz"))
  | ((with_reducible refine' Rg.ipL2 ?h ?h2 ?h3 ?_); (case h => k_extra "hp"); (case h2 => k_extra "hp"); (case h3 => k_extra "sz"))
  | ((with_reducible refine' Rg.iI ?h ?_); (case h => k_extra "ar"))
  | ((with_reducible refine' Rg.mulI ?h ?_); (case h => k_extra "ar"))
  | ((with_reducible refine' Rg.eqS ?h ?_); (case h => exact rfl))
  | ((with_reducible refine' Rg.neS ?h ?_); (case h => exact rfl))
  | ((with_reducible refine' Rg.addS ?h ?_); (case h => k_extra "sz"))
  | ((with_reducible refine' Rg.isi ?h ?h1 ?_); (case h => k_extra "ty"); (case h1 => with_reducible k_extra "kb"))
  | ((with_reducible refine' Rg.lenS ?h ?_); (case h => k_extra "sz"))
  | ((with_reducible refine' Rg.lenL ?h ?_); (case h => k_extra "hp"))
  | ((with_reducible refine' Rg.lenT ?h ?_); (case h => k_extra "hp"))
  | ((with_reducible refine' Rg.ixL ?h ?h1 ?_); (case h => k_extra "hp"); (case h1 => exact rfl))
  | ((with_reducible refine' Rg.ixT ?h ?h1 ?_); (case h => k_extra "hp"); (case h1 => exact rfl))
  | ((with_reducible refine' Rg.setL ?h ?h1 ?_); (case h => k_extra "hp"); (case h1 => exact rfl))
  | ((with_reducible refine' Rg.slS ?h ?_); (case h => k_extra "sz"))
  | ((with_reducible refine' Rg.exl ?h ?_); (case h => exact ⟨_, by k_extra "hp"⟩))
  | ((with_reducible refine' Rg.exr1 ?h1 ?h2 ?_); (case h1 => omega); (case h2 => omega))
  | ((with_reducible refine' Ob.exfld ?h ?c ?n ?l ?_); (case h => assumption); (case c => assumption); (case n => assumption); (case l => k_extra "lk"))
  | ((with_reducible refine' Ob.exsfld ?h ?c ?n ?l ?_); (case h => assumption); (case c => assumption); (case n => assumption); (case l => k_extra "sz"))
  | ((with_reducible refine' Ob.exmeth ?h ?l ?_); (case h => assumption); (case l => k_extra "lk"))
  | ((with_reducible refine' Rg.gtup ?h ?h1 ?_); (case h => k_extra "hp"); (case h1 => exact rfl))
  | ((with_reducible refine' Rg.glst ?h ?h1 ?_); (case h => k_extra "hp"); (case h1 => exact rfl)))
local macro_rules | `(tactic| k_extra "rr") => `(tactic| repeat (k_extra "r"))
local macro_rules | `(tactic| k_extra "ri") => `(tactic| repeat ((fail_if_success (with_reducible refine Rg.ife ?_)); k_extra "r"))
local macro_rules | `(tactic| k_extra "rl") => `(tactic| repeat ((fail_if_success (with_reducible refine Rg.lst_ ?_)); k_extra "r"))
local macro_rules | `(tactic| k_extra "i") => `(tactic| repeat (first | (with_reducible refine Rg.exbl ?_) | (with_reducible refine iteT ?_) | (with_reducible refine iteF ?_) | (with_reducible refine Rg.iteNt ?_) | (with_reducible refine Rg.iteNf ?_) | (with_reducible refine Rg.tor ?_) | (with_reducible refine Rg.tand ?_) | (with_reducible refine Rg.ifS ?_)))
local macro_rules | `(tactic| k_extra "q") => `(tactic| first
  | k_extra "r"
  | ((with_reducible refine' Rg.iteLF ?h ?_); (case h => first | assumption | decide +kernel))
  | ((with_reducible refine' Rg.iteLT ?h ?_); (case h => first | assumption | exact decide_eq_true rfl | decide +kernel))
  | ((with_reducible refine' Rg.iteMT ?h ?_); (case h => first | assumption | decide +kernel))
  | ((with_reducible refine' Rg.iteMF ?h ?_); (case h => first | assumption | exact decide_eq_true rfl | decide +kernel)))
local macro_rules | `(tactic| k_extra "qq") => `(tactic| repeat (k_extra "q"))

def top (i : Nat) : Stmt := PySem.Challenge.pw_rubgrove_k05_documents_marked_and_number.main.body.getD i (.Pass ⟨0, 0, 0, 0⟩)
abbrev s_wall : Stmt := top 0
abbrev s_within : Stmt := top 5
abbrev s_nodes : Stmt := top 6
abbrev s_count_nodes : Stmt := top 7
abbrev s_texts_of : Stmt := top 8
abbrev s_marked : Stmt := top 9
abbrev s_numbered : Stmt := top 10
abbrev s_law_bag : Stmt := top 12
abbrev s_law_take : Stmt := top 13
abbrev s_law_of : Stmt := top 14
abbrev s_law_words : Stmt := top 15
abbrev s_law_names : Stmt := top 16
abbrev s_law_sign_text : Stmt := top 17
abbrev s_law_nested : Stmt := top 18
abbrev s_law_document : Stmt := top 19
abbrev s_law_flat : Stmt := top 20
abbrev s_law_row : Stmt := top 21
abbrev s_law_alike : Stmt := top 22
abbrev s_law_marked : Stmt := top 23
abbrev s_law_numerals : Stmt := top 24
abbrev s_law : Stmt := top 25
theorem sc_wall : FnScope ["k"] ["k"] (defScope s_wall) := ⟨rfl, rfl, rfl, by decide +kernel, rfl, by decide +kernel, by decide +kernel⟩
theorem sc_within : FnScope ["path", "row", "at", "node"] ["path", "row"] (defScope s_within) := ⟨rfl, rfl, rfl, by decide +kernel, rfl, by decide +kernel, by decide +kernel⟩
theorem sc_count_nodes : FnScope ["document", "path", "node"] ["document"] (defScope s_count_nodes) := ⟨rfl, rfl, rfl, by decide +kernel, rfl, by decide +kernel, by decide +kernel⟩
theorem sc_texts_of : FnScope ["document", "path", "node"] ["document"] (defScope s_texts_of) := ⟨rfl, rfl, rfl, by decide +kernel, rfl, by decide +kernel, by decide +kernel⟩
theorem sc_marked : FnScope ["document", "row", "found", "number", "rest"] ["document"] (defScope s_marked) := ⟨rfl, rfl, rfl, by decide +kernel, rfl, by decide +kernel, by decide +kernel⟩
theorem sc_numbered : FnScope ["document", "barred", "row", "coming", "number"] ["document", "barred"] (defScope s_numbered) := ⟨rfl, rfl, rfl, by decide +kernel, rfl, by decide +kernel, by decide +kernel⟩
theorem sc_law_bag : FnScope ["_law_script", "_law_row_z", "_law_mark", "_law_cell"] ["_law_script"] (defScope s_law_bag) := ⟨rfl, rfl, rfl, by decide +kernel, rfl, by decide +kernel, by decide +kernel⟩
theorem sc_law_take : FnScope ["_law_bag_z", "_law_many", "_law_cell", "_law_mixed", "_law_found"] ["_law_bag_z", "_law_many"] (defScope s_law_take) := ⟨rfl, rfl, rfl, by decide +kernel, rfl, by decide +kernel, by decide +kernel⟩
theorem sc_law_of : FnScope ["_law_bag_z", "_law_things"] ["_law_bag_z", "_law_things"] (defScope s_law_of) := ⟨rfl, rfl, rfl, by decide +kernel, rfl, by decide +kernel, by decide +kernel⟩
theorem sc_law_words : FnScope ["_law_bag_z", "_law_many", "_law_most", "_law_letters", "_law_stem", "_law_at", "_law_start", "_law_found", "_law_fixed", "_law_k", "_law_word"] ["_law_bag_z", "_law_many", "_law_most"] (defScope s_law_words) := ⟨rfl, rfl, rfl, by decide +kernel, rfl, by decide +kernel, by decide +kernel⟩
theorem sc_law_names : FnScope ["_law_bag_z"] ["_law_bag_z"] (defScope s_law_names) := ⟨rfl, rfl, rfl, by decide +kernel, rfl, by decide +kernel, by decide +kernel⟩
theorem sc_law_sign_text : FnScope ["_law_bag_z", "_law_most", "_law_signs", "_law_k"] ["_law_bag_z", "_law_most"] (defScope s_law_sign_text) := ⟨rfl, rfl, rfl, by decide +kernel, rfl, by decide +kernel, by decide +kernel⟩
theorem sc_law_nested : FnScope ["_law_state", "_law_rows", "_law_opened", "_law_mark", "_law_inner"] ["_law_state"] (defScope s_law_nested) := ⟨rfl, rfl, rfl, by decide +kernel, rfl, by decide +kernel, by decide +kernel⟩
theorem sc_law_document : FnScope ["_law_bag_z", "_law_kinds", "_law_many", "_law_marks", "_law_opened", "_law_some", "_law_texts", "_law_k", "_law_step"] ["_law_bag_z", "_law_kinds", "_law_many"] (defScope s_law_document) := ⟨rfl, rfl, rfl, by decide +kernel, rfl, by decide +kernel, by decide +kernel⟩
theorem sc_law_flat : FnScope ["_law_document_z", "_law_state", "_law_kind", "_law_text", "_law_inner", "_law_number"] ["_law_document_z", "_law_state"] (defScope s_law_flat) := ⟨rfl, rfl, rfl, by decide +kernel, rfl, by decide +kernel, by decide +kernel⟩
theorem sc_law_row : FnScope ["_law_document_z"] ["_law_document_z"] (defScope s_law_row) := ⟨rfl, rfl, rfl, by decide +kernel, rfl, by decide +kernel, by decide +kernel⟩
theorem sc_law_alike : FnScope ["_law_found", "_law_due", "_law_key", "_law_one", "_law_two"] ["_law_found", "_law_due"] (defScope s_law_alike) := ⟨rfl, rfl, rfl, by decide +kernel, rfl, by decide +kernel, by decide +kernel⟩
theorem sc_law_marked : FnScope ["_law_document_z", "_law_state", "_law_marks", "_law_found", "_law_at"] ["_law_document_z"] (defScope s_law_marked) := ⟨rfl, rfl, rfl, by decide +kernel, rfl, by decide +kernel, by decide +kernel⟩
theorem sc_law_numerals : FnScope ["_law_many", "_law_barred", "_law_found", "_law_coming"] ["_law_many", "_law_barred"] (defScope s_law_numerals) := ⟨rfl, rfl, rfl, by decide +kernel, rfl, by decide +kernel, by decide +kernel⟩
theorem sc_law : FnScope ["_law_script", "_law_bag_z", "_law_names_z", "_law_turn", "_law_document_z", "_law_kept", "_law_many", "_law_first", "_law_second", "_law_barred", "_law_found", "_law_state"] ["_law_script"] (defScope s_law) := ⟨rfl, rfl, rfl, by decide +kernel, rfl, by decide +kernel, by decide +kernel⟩
abbrev s_Row___init__ : Stmt := inClass (top 2) 0
theorem sc_Row___init__ : FnScope ["self"] ["self"] (defScope s_Row___init__) := ⟨rfl, rfl, rfl, by decide +kernel, rfl, by decide +kernel, by decide +kernel⟩
abbrev s_Row_made_of : Stmt := inClass (top 2) 1
theorem sc_Row_made_of : FnScope ["cls", "document", "row", "left", "thing", "kind", "text", "inner", "number"] ["cls", "document"] (defScope s_Row_made_of) := ⟨rfl, rfl, rfl, by decide +kernel, rfl, by decide +kernel, by decide +kernel⟩
abbrev s_Row_added : Stmt := inClass (top 2) 2
theorem sc_Row_added : FnScope ["self", "kind", "text", "origin"] ["self", "kind", "text", "origin"] (defScope s_Row_added) := ⟨rfl, rfl, rfl, by decide +kernel, rfl, by decide +kernel, by decide +kernel⟩
abbrev s_Row_nested : Stmt := inClass (top 2) 4
theorem sc_Row_nested : FnScope ["self", "rows", "opened", "number", "inner"] ["self"] (defScope s_Row_nested) := ⟨rfl, rfl, rfl, by decide +kernel, rfl, by decide +kernel, by decide +kernel⟩
abbrev s_Row_rub : Stmt := inClass (top 2) 5
theorem sc_Row_rub : FnScope ["self", "numbers"] ["self", "numbers"] (defScope s_Row_rub) := ⟨rfl, rfl, rfl, by decide +kernel, rfl, by decide +kernel, by decide +kernel⟩
abbrev s_Row_part : Stmt := inClass (top 2) 6
theorem sc_Row_part : FnScope ["self", "number"] ["self", "number"] (defScope s_Row_part) := ⟨rfl, rfl, rfl, by decide +kernel, rfl, by decide +kernel, by decide +kernel⟩
abbrev s_Row_cut : Stmt := inClass (top 2) 7
theorem sc_Row_cut : FnScope ["self", "number"] ["self", "number"] (defScope s_Row_cut) := ⟨rfl, rfl, rfl, by decide +kernel, rfl, by decide +kernel, by decide +kernel⟩
abbrev s_Row_place : Stmt := inClass (top 2) 8
theorem sc_Row_place : FnScope ["self", "word", "number"] ["self", "word", "number"] (defScope s_Row_place) := ⟨rfl, rfl, rfl, by decide +kernel, rfl, by decide +kernel, by decide +kernel⟩
abbrev s_Row_put_in : Stmt := inClass (top 2) 9
theorem sc_Row_put_in : FnScope ["self", "at", "part"] ["self", "at", "part"] (defScope s_Row_put_in) := ⟨rfl, rfl, rfl, by decide +kernel, rfl, by decide +kernel, by decide +kernel⟩
abbrev s_Row_doubled : Stmt := inClass (top 2) 10
theorem sc_Row_doubled : FnScope ["self", "part"] ["self", "part"] (defScope s_Row_doubled) := ⟨rfl, rfl, rfl, by decide +kernel, rfl, by decide +kernel, by decide +kernel⟩
/-- what the text's names are -/
structure Txt (mg : Str → Option Value) : Prop where
  len : mg "len" = none
  int : mg "int" = none
  range : mg "range" = none
  isinstance : mg "isinstance" = none
  all : mg "all" = none
  list : mg "list" = none
  tuple : mg "tuple" = none
  str : mg "str" = none
  sorted : mg "sorted" = none
  zip : mg "zip" = none
  enumerate : mg "enumerate" = none
  sum : mg "sum" = none
  bool : mg "bool" = none
  dict : mg "dict" = none
  repr : mg "repr" = none
  g_REST : ∃ u, mg "REST" = some u ∧ RelV (.str "rest") u
/-! ### the bag -/
def BagAt (H : Hp) (p r : Addr) : Prop := ∃ (ns : List Int) (i c m : Int), H p = some (.lst [.ref r, .int i, .int c, .int m]) ∧ H r = some (.lst (ns.map V.int)) ∧ ns.length ≤ 63 ∧ 0 ≤ i ∧ 0 ≤ c ∧ 0 ≤ m ∧ m < 2147483629
theorem bag_ne {H : Hp} {p r : Addr} {ns : List Int} {i c m : V} (h : H p = some (.lst [.ref r, i, c, m])) (h' : H r = some (.lst (ns.map V.int))) : r ≠ p := by
  rintro rfl
  rw [h] at h'
  have e := Option.some.inj h'
  injection e with e
  cases ns with
  | nil => cases e
  | cons x l =>
    rw [List.map_cons] at e
    cases e
theorem BagAt.ne_none {H : Hp} {b r p : Addr} (h : BagAt H b r) (e : H p = none) : p ≠ b ∧ p ≠ r := by
  obtain ⟨ns, i, c, m, h1, h2, _⟩ := h
  exact ⟨(ne_of_none h1 e).symm, (ne_of_none h2 e).symm⟩
theorem BagAt.ex {H : Hp} {b r : Addr} (h : BagAt H b r) : ∃ o, H b = some o := by
  obtain ⟨ns, i, c, m, h1, h2, _⟩ := h
  exact ⟨_, h1⟩
theorem BagAt.same {H H' : Hp} {b r : Addr} (h : BagAt H b r) (s : Same H H') : BagAt H' b r := by
  obtain ⟨ns, i, c, m, h1, h2, h3⟩ := h
  exact ⟨ns, i, c, m, s _ _ h1, s _ _ h2, h3⟩
theorem BagAt.new {H : Hp} {b r p : Addr} {o : HO} (h : BagAt H b r) (n : H p = none) : BagAt (upd H p o) b r := h.same (same_upd n)
/-- what was not there when the bag stood there may change -/
theorem BagAt.mut {H H1 : Hp} {b r p : Addr} {o : HO} (h : BagAt H b r) (h1 : BagAt H1 b r) (n : H1 p = none) : BagAt (upd H p o) b r := by
  obtain ⟨n1, n2⟩ := h1.ne_none n
  obtain ⟨ns, i, c, m, h1, h2, h3⟩ := h
  exact ⟨ns, i, c, m, by rw [upd_ne n1.symm]; exact h1, by rw [upd_ne n2.symm]; exact h2, h3⟩
def spBag (K : PySem.W.Frag) : Sp := fun vs H Q _ => ∃ (a : Addr) (ns : List Int), vs = [.ref a] ∧ SqL K H a (ns.map V.int) ∧ ns.length ≤ 63 ∧
  ∀ (H' : Hp) (p r : Addr), Same H H' → H p = none → BagAt H' p r → Q (.ref p) H'
def spTake : Sp := fun vs H Q _ => ∃ (b r : Addr) (many : Int), vs = [.ref b, .int many] ∧ BagAt H b r ∧ 1 ≤ many ∧ many < 1073741824 ∧
  ∀ (k : Int) (H' : Hp), But b H H' → BagAt H' b r → 0 ≤ k → k < many → Q (.int k) H'
section
variable {P : Program} {w : World} {K : PySem.W.Frag} {mg : Str → Option Value} {base : Heap} {f : Addr} {fd : FuncData}
theorem ok_law_bag (F : Fun K "_law_bag" "_law_bag" s_law_bag f fd) (T : Txt mg) : FnOk P w K mg base CX0 1 f fd ["_law_script"] (spBag K) := by
  refine F.ok sc_law_bag (fun vs H Q E h => ?_) (fun cdv A outer s H vs Q E hr h => ?_)
  · obtain ⟨a, ns, rfl, _⟩ := h
    rfl
  · obtain ⟨a, ns, rfl, hS, hl, q⟩ := h
    refine ⟨_, (pss_cons (ps_set (i := 1) sc_law_bag.nd rfl (.inl rfl) (pe_callTy (cr_list K) (by rfl) T.list (by decide +kernel) (pa_cons (pe_slice (sl_X K) (pv 0) po_none (po_some pe_int)) pa_nil)))
      (pss_cons (ps_set (i := 2) sc_law_bag.nd rfl (.inl rfl) (pe_op (op_addX K) pe_int (pe_op op_mulX pe_int (pe_callB (call_lenX K) (by rfl) T.len PySem.boot_len (pa_cons (pv 1) pa_nil)))))
      (pss_cons (ps_for PassesOwn.never rfl (pi_listX K (pv 1)) (pg_name (i := 3) sc_law_bag.nd rfl (.inl rfl)) (pss_one (ps_set (i := 2) sc_law_bag.nd rfl (.inl rfl) (pe_op op_mod (pe_callTy cr_int (by rfl) T.int (by decide +kernel) (pa_cons (pe_op (op_addX K) (pe_op (op_addX K) (pe_op op_mulX (pv 2) pe_int) (pe_op op_mod (pe_callTy cr_int (by rfl) T.int (by decide +kernel) (pa_cons (pv 3) pa_nil)) pe_int)) pe_int) pa_nil)) pe_int))))
      (pss_one (ps_ret (pe_lst (pa_cons (pv 1) (pa_cons pe_int (pa_cons pe_int (pa_cons (pv 2) pa_nil)))))))))), ?_⟩
    change (_ : TS) _ [some (V.ref a), none, none, none] _
    k_extra "rr"
    refine slL hS fun l nl => ?_
    obtain ⟨ms, em, hm⟩ := cut_map ns none (some 63)
    rw [em]
    k_extra "rr"
    refine listL (SqL.of upd_same) fun r nr => ?_
    have nrl : l ≠ r := ne_of_none upd_same nr
    have nr0 : H r = none := un0 nr
    k_extra "rr"
    have hm63 : ms.length ≤ 63 := by omega
    have elen : ((ms.map V.int).length : Int) ≤ 63 := by rw [List.length_map]; omega
    have s2 : Same H (upd (upd H l (.lst (ms.map V.int))) r (.lst (ms.map V.int))) := (same_upd nl).trans (same_upd nr)
    refine for_list (K := K) (a := r) (xs := ms.map V.int) (fun i σ H' => ∃ (m : Int) (v : Option V), σ = [some (.ref a), some (.ref r), some (.int m), v] ∧ 0 ≤ m ∧ m < 2147483629 ∧ H' = upd (upd H l (.lst (ms.map V.int))) r (.lst (ms.map V.int)))
      ⟨_, none, rfl, by omega, by omega, rfl⟩ (fun i σ H' _ ⟨_, _, _, _, _, e⟩ => by rw [e]; exact SqL.of upd_same) ?_ ?_
    · rintro i y σ H' hi ⟨m, v, rfl, m0, m1, rfl⟩
      obtain ⟨u, hu, rfl⟩ := map_at hi
      k_extra "rr"
      have h1 := Int.emod_nonneg (m * 45161 + u % 2147483423 + 11) (show (2147483549 : Int) ≠ 0 by decide)
      have h2 := Int.emod_lt_of_pos (m * 45161 + u % 2147483423 + 11) (show (0 : Int) < 2147483549 by decide)
      exact ⟨_, _, rfl, h1, by omega, rfl⟩
    · rintro σ H' ⟨m, v, rfl, m0, m1, rfl⟩
      k_extra "rr"
      refine ⟨by k_extra "sz", fun p np => ?_⟩
      k_extra "rr"
      have nrp : r ≠ p := ne_of_none upd_same np
      refine q _ p r (s2.trans (same_upd np)) (s2.free np) ⟨ms, 0, 0, m, upd_same, upd2 nrp upd_same, hm63, by decide, by decide, m0, m1⟩
end

section
variable {P : Program} {w : World} {K : PySem.W.Frag} {mg : Str → Option Value} {base : Heap} {f : Addr} {fd : FuncData}
theorem ok_law_take (F : Fun K "_law_take" "_law_take" s_law_take f fd) (T : Txt mg) : FnOk P w K mg base CX0 1 f fd ["_law_bag_z", "_law_many"] spTake := by
  refine F.ok sc_law_take (fun vs H Q E h => ?_) (fun cdv A outer s H vs Q E hr h => ?_)
  · obtain ⟨b, r, many, rfl, _⟩ := h
    rfl
  · obtain ⟨b, r, many, rfl, ⟨ns, i, c, m, hb, hn, hl, i0, c0, m0, m1⟩, k1, k2, q⟩ := h
    refine ⟨_, (C8.pss_cut (ps_if (PW.pt (pw_and (pt_cmpR (op_eqX K hr) (pe_ix (ix_X K) (pv 0) pe_int (fun _ _ => rfl)) pe_int (nomark _)) (pw_and1 (pt_cmpR op_lt (pe_ix (ix_X K) (pv 0) pe_int (fun _ _ => rfl)) (pe_callB (call_lenX K) (by rfl) T.len PySem.boot_len (pa_cons (pe_ix (ix_X K) (pv 0) pe_int (fun _ _ => rfl)) pa_nil)) (nomark _))))) (pss_cons (ps_set (i := 2) sc_law_take.nd rfl (.inl rfl) (pe_ix (ix_X K) (pe_ix (ix_X K) (pv 0) pe_int (fun _ _ => rfl)) (pe_ix (ix_X K) (pv 0) pe_int (fun _ _ => rfl)) (fun _ _ => rfl)))
      (pss_cons (ps_asg (pe_op (op_addX K) (pe_ix (ix_X K) (pv 0) pe_int (fun _ _ => rfl)) pe_int) (pg_sub (pv 0) pe_int set_list))
      (pss_one (ps_if (pt_cmpR op_ge (pv 2) (pe_op op_pow pe_int pe_int) (nomark _)) (pss_one (ps_asg (pv 2) (pg_sub (pv 0) pe_int set_list))) (pss_cons (ps_set (i := 3) sc_law_take.nd rfl (.inl rfl) (pe_op (op_addX K) (pe_op op_mulX (pe_ix (ix_X K) (pv 0) pe_int (fun _ _ => rfl)) pe_int) (pe_op op_mod (pe_callTy cr_int (by rfl) T.int (by decide +kernel) (pa_cons (pv 2) pa_nil)) pe_int)))
      (pss_one (ps_asg (pe_op op_mod (pe_callTy cr_int (by rfl) T.int (by decide +kernel) (pa_cons (pe_op (op_addX K) (pv 3) (pe_ix (ix_X K) (pv 0) pe_int (fun _ _ => rfl))) pa_nil)) pe_int) (pg_sub (pv 0) pe_int set_list)))))))) pss_nil)
      (pss_cons (ps_if (pt_cmpR op_gt (pe_ix (ix_X K) (pv 0) pe_int (fun _ _ => rfl)) pe_int (nomark _)) (pss_cons (ps_set (i := 4) sc_law_take.nd rfl (.inl rfl) (pe_op op_mod (pe_callTy cr_int (by rfl) T.int (by decide +kernel) (pa_cons (pe_ix (ix_X K) (pv 0) pe_int (fun _ _ => rfl)) pa_nil)) (pv 1)))
      (pss_cons (ps_asg (pe_op op_fdivN (pe_ix (ix_X K) (pv 0) pe_int (fun _ _ => rfl)) (pv 1)) (pg_sub (pv 0) pe_int set_list))
      (pss_one (ps_ret (pv 4))))) pss_nil)
      (pss_cons (ps_asg (pe_op op_mod (pe_callTy cr_int (by rfl) T.int (by decide +kernel) (pa_cons (pe_op (op_addX K) (pe_op op_mulX (pe_ix (ix_X K) (pv 0) pe_int (fun _ _ => rfl)) pe_int) pe_int) pa_nil)) pe_int) (pg_sub (pv 0) pe_int set_list))
      (pss_one (ps_ret (pe_op op_mod (pe_callTy cr_int (by rfl) T.int (by decide +kernel) (pa_cons (pe_op op_fdivN (pe_op op_mod (pe_callTy cr_int (by rfl) T.int (by decide +kernel) (pa_cons (pe_op op_mulX (pe_ix (ix_X K) (pv 0) pe_int (fun _ _ => rfl)) (pe_ix (ix_X K) (pv 0) pe_int (fun _ _ => rfl))) pa_nil)) pe_int) pe_int) pa_nil)) (pv 1))))))), ?_⟩
    change (_ : TS) _ [some (V.ref b), some (.int many), none, none, none] _
    have nrb := bag_ne hb hn
    refine Rg.cut (fun σ H' => ∃ (i' c' m' : Int) (v2 v3 : Option V), σ = [some (V.ref b), some (.int many), v2, v3, none] ∧ H' b = some (.lst [.ref r, .int i', .int c', .int m']) ∧ But b H H' ∧ 0 ≤ i' ∧ 0 ≤ c' ∧ 0 ≤ m' ∧ m' < 2147483629) ?_ ?_
    · k_extra "rr"
      refine iteD (fun ec => ?_) (fun ec => ?_)
      · k_extra "rr"
        refine iteD (fun ei => ?_) (fun ei => ?_)
        · k_extra "rr"
          have hin : i.toNat < ns.length := by
            rw [List.length_map] at ei
            omega
          refine ixL (SqL.of hn) (v := .int ns[i.toNat]) ?_ ?_
          · exact at_of (j := i.toNat) (by omega) (by rw [List.getElem?_map, List.getElem?_eq_getElem hin]; rfl)
          k_extra "rr"
          refine iteD (fun eb => ?_) (fun eb => ?_)
          · k_extra "rr"
            refine ⟨i + 1, ns[i.toNat], m, some (.int ns[i.toNat]), none, rfl, upd_same, But.trans But.upd But.upd, by omega, ?_, m0, m1⟩
            have e18 : (0 : Int) ≤ 10 ^ Int.toNat 18 := by decide
            omega
          · k_extra "rr"
            have h1 := Int.emod_nonneg (m * 40087 + ns[i.toNat] % 1999999913 + (i + 1)) (show (2147483629 : Int) ≠ 0 by decide)
            have h2 := Int.emod_lt_of_pos (m * 40087 + ns[i.toNat] % 1999999913 + (i + 1)) (show (0 : Int) < 2147483629 by decide)
            exact ⟨i + 1, c, _, some (.int ns[i.toNat]), some (.int (m * 40087 + ns[i.toNat] % 1999999913)), rfl, upd_same, But.trans But.upd But.upd, by omega, c0, h1, h2⟩
        · k_extra "rr"
          exact ⟨i, c, m, none, none, rfl, hb, But.refl _ _, i0, c0, m0, m1⟩
      · k_extra "rr"
        exact ⟨i, c, m, none, none, rfl, hb, But.refl _ _, i0, c0, m0, m1⟩
    · rintro σ H' ⟨i', c', m', v2, v3, rfl, hb', bb, i0', c0', m0', m1'⟩
      have hn' : H' r = some (.lst (ns.map V.int)) := bb _ _ hn nrb
      k_extra "rr"
      refine iteD (fun ec => ?_) (fun ec => ?_)
      · k_extra "rr"
        refine q (c' % many) _ (bb.trans But.upd) ⟨ns, i', c'.fdiv many, m', upd_same, upd2 nrb hn', hl, i0', ?_, m0', m1'⟩ (Int.emod_nonneg _ (by omega)) (Int.emod_lt_of_pos _ (by omega))
        rw [Int.fdiv_eq_ediv_of_nonneg _ (by omega)]
        exact Int.ediv_nonneg c0' (by omega)
      · k_extra "rr"
        have h1 := Int.emod_nonneg (m' * 48271033 + 37) (show (2147483629 : Int) ≠ 0 by decide)
        have h2 := Int.emod_lt_of_pos (m' * 48271033 + 37) (show (0 : Int) < 2147483629 by decide)
        refine q _ _ (bb.trans But.upd) ⟨ns, i', c', _, upd_same, upd2 nrb hn', hl, i0', c0', h1, h2⟩ (Int.emod_nonneg _ (by omega)) (Int.emod_lt_of_pos _ (by omega))
end

/-! ### drawn things -/
def spOf (K : PySem.W.Frag) : Sp := fun vs H Q _ => ∃ (b r : Addr) (x : V), vs = [.ref b, x] ∧ BagAt H b r ∧
  ((∃ z : Str, x = .str z ∧ 0 < z.length ∧ z.length ≤ 1000 ∧ ∀ (c : Nat) (H' : Hp), c ∈ z.cps.toList → But b H H' → BagAt H' b r → Q (.str ⟨#[c]⟩) H') ∨
   (∃ (p : Addr) (xs : List V), x = .ref p ∧ p ≠ b ∧ SqL K H p xs ∧ 0 < xs.length ∧ xs.length ≤ 1000 ∧ ∀ (i : Nat) (v : V) (H' : Hp), xs[i]? = some v → But b H H' → BagAt H' b r → Q v H'))
theorem at_str {z : Str} {k : Int} (h0 : 0 ≤ k) (h1 : k < z.length) : ∃ c, atI z.cps.toList k = some c ∧ c ∈ z.cps.toList := by
  have hl : k.toNat < z.cps.toList.length := by
    have e : z.cps.toList.length = z.length := by simp [Str.length]
    omega
  refine ⟨z.cps.toList[k.toNat], ?_, List.getElem_mem hl⟩
  have e := atI_nat (xs := z.cps.toList) (j := k.toNat) (v := z.cps.toList[k.toNat]) (List.getElem?_eq_getElem hl)
  rw [show ((k.toNat : Nat) : Int) = k by omega] at e
  exact e
theorem at_lst {xs : List V} {k : Int} (h0 : 0 ≤ k) (h1 : k < xs.length) : ∃ v, atI xs k = some v ∧ xs[k.toNat]? = some v := by
  have hl : k.toNat < xs.length := by omega
  refine ⟨xs[k.toNat], ?_, List.getElem?_eq_getElem hl⟩
  have e := atI_nat (xs := xs) (j := k.toNat) (v := xs[k.toNat]) (List.getElem?_eq_getElem hl)
  rw [show ((k.toNat : Nat) : Int) = k by omega] at e
  exact e
section
variable {P : Program} {w : World} {K : PySem.W.Frag} {mg : Str → Option Value} {base : Heap} {f : Addr} {fd : FuncData}
theorem ok_law_of (F : Fun K "_law_of" "_law_of" s_law_of f fd) (T : Txt mg) (c_law_take : Cal P w K mg base 1 "_law_take" spTake) : FnOk P w K mg base CX0 2 f fd ["_law_bag_z", "_law_things"] (spOf K) := by
  refine F.ok sc_law_of (fun vs H Q E h => ?_) (fun cdv A outer s H vs Q E hr h => ?_)
  · obtain ⟨b, r, x, rfl, _⟩ := h
    rfl
  · obtain ⟨b, r, x, rfl, hb, h⟩ := h
    refine ⟨_, (pss_one (ps_ret (pe_ix (ix_X K) (pv 1) (pe_c c_law_take hr (by omega) (by rfl) (pa_cons (pv 0) (pa_cons (pe_callB (call_lenX K) (by rfl) T.len PySem.boot_len (pa_cons (pv 1) pa_nil)) pa_nil))) (fun _ _ => rfl)))), ?_⟩
    rcases h with ⟨z, rfl, z0, z1, q⟩ | ⟨p, xs, rfl, npb, hx, z0, z1, q⟩
    · change (_ : TS) _ [some (V.ref b), some (V.str z)] _
      k_extra "rr"
      refine ⟨b, r, _, rfl, hb, by omega, by omega, fun k H' bb hb' k0 k1 => ?_⟩
      obtain ⟨c, e1, e2⟩ := at_str k0 k1
      exact ixS (by k_extra "sz") e1 (q c H' e2 bb hb')
    · change (_ : TS) _ [some (V.ref b), some (V.ref p)] _
      k_extra "rr"
      refine ⟨b, r, _, rfl, hb, by omega, by omega, fun k H' bb hb' k0 k1 => ?_⟩
      obtain ⟨v, e1, e2⟩ := at_lst k0 k1
      exact ixL (SqL.but bb npb hx) e1 (q _ v H' e2 bb hb')
end
/-! a text of letters -/
def letters : List Nat := [97, 98, 99, 100, 101, 102, 103, 104, 105, 106, 107, 108, 109, 110, 111, 112, 113, 114, 115, 116, 117, 118, 119, 120, 121, 122]
theorem letters_eq : Str.ofString "abcdefghijklmnopqrstuvwxyz" = SX.S letters := by decide +kernel
def fixW (w : Str) : Str := if w = "if" then "iff" else if w = "is" then "iss" else if w = "end" then "en" else if w = "rest" then "res" else w
/-- the k-th of the words that differ at a place -/
def wordAt (st : List Nat) (at_ s0 k : Nat) : List Nat := st.take at_ ++ [letters.getD ((s0 + 5 * k) % 26) 0] ++ st.drop at_
theorem wordAt_len (st : List Nat) (at_ s0 k : Nat) : (wordAt st at_ s0 k).length ≤ st.length + 1 := by
  unfold wordAt
  rw [List.length_append, List.length_append, List.length_take, List.length_drop, List.length_singleton]
  omega
def fixed : List (Key × V) := [(.inr "if", .str "iff"), (.inr "is", .str "iss"), (.inr "end", .str "en"), (.inr "rest", .str "res")]
theorem fixed_merge : mergeK [] fixed = fixed := by decide +kernel
theorem fixed_get (w : Str) : (valV fixed (.inr w : Key)).getD (.str w) = .str (fixW w) := by
  unfold fixed fixW
  by_cases h1 : w = "if"
  · rw [if_pos h1, valV_pos (by rw [h1])]
    rfl
  rw [if_neg h1, valV_neg (fun z => h1 (Sum.inr.inj z).symm)]
  by_cases h2 : w = "is"
  · rw [if_pos h2, valV_pos (by rw [h2])]
    rfl
  rw [if_neg h2, valV_neg (fun z => h2 (Sum.inr.inj z).symm)]
  by_cases h3 : w = "end"
  · rw [if_pos h3, valV_pos (by rw [h3])]
    rfl
  rw [if_neg h3, valV_neg (fun z => h3 (Sum.inr.inj z).symm)]
  by_cases h4 : w = "rest"
  · rw [if_pos h4, valV_pos (by rw [h4])]
    rfl
  rw [if_neg h4, valV_neg (fun z => h4 (Sum.inr.inj z).symm), valV_nil]
  rfl
def Words (many most : Int) (ws : List Str) : Prop := ∃ (st : List Nat) (at_ s0 : Nat), (st.length : Int) < most ∧ (∀ c ∈ st, c ∈ letters) ∧ at_ ≤ st.length ∧ s0 < 26 ∧
  ws = (List.range many.toNat).map fun k => fixW (SX.S (wordAt st at_ s0 k))
def spWords : Sp := fun vs H Q _ => ∃ (b r : Addr) (many most : Int), vs = [.ref b, .int many, .int most] ∧ BagAt H b r ∧ 0 ≤ many ∧ many ≤ 100 ∧ 1 ≤ most ∧ most ≤ 100 ∧
  ∀ (ws : List Str) (p : Addr) (H' : Hp), Words many most ws → But b H H' → BagAt H' b r → H p = none → H' p = some (.lst (ws.map V.str)) → p ≠ b → Q (.ref p) H'
section
variable {P : Program} {w : World} {K : PySem.W.Frag} {mg : Str → Option Value} {base : Heap} {f : Addr} {fd : FuncData}
theorem ok_law_words (F : Fun K "_law_words" "_law_words" s_law_words f fd) (T : Txt mg) (c_law_take : Cal P w K mg base 1 "_law_take" spTake) (c_law_of : Cal P w K mg base 2 "_law_of" (spOf K)) : FnOk P w K mg base CX0 3 f fd ["_law_bag_z", "_law_many", "_law_most"] spWords := by
  refine F.ok sc_law_words (fun vs H Q E h => ?_) (fun cdv A outer s H vs Q E hr h => ?_)
  · obtain ⟨b, r, many, most, rfl, _⟩ := h
    rfl
  · obtain ⟨b, r, many, most, rfl, hb, k0, k1, l0, l1, q⟩ := h
    refine ⟨_, (pss_cons (ps_set (i := 3) sc_law_words.nd rfl (.inr rfl) pe_str)
      (pss_cons (ps_set (i := 4) sc_law_words.nd rfl (.inr rfl) (pe_joinX K pe_str (pe_lc (own := [("_law_k", 9)]) (g := gName 9) (tt := tYes) (by rfl) sc_law_words.nd (pi_range1 (by rfl) T.range (pa_cons (pe_c c_law_take hr (by omega) (by rfl) (pa_cons (pv 0) (pa_cons (pv 2) pa_nil))) pa_nil)) (blkOk_by (own := [("_law_k", 9)]) (N := ["_law_bag_z", "_law_many", "_law_most", "_law_letters", "_law_stem", "_law_at", "_law_start", "_law_found", "_law_fixed", "_law_k", "_law_word"]) (sc := defScope s_law_words) (by decide +kernel)) (fun _ _ _ _ _ => pg_name (i := 9) sc_law_words.nd rfl (Or.inl rfl)) (fun _ _ _ _ _ => pts_nil) (fun _ _ _ _ _ => (pe_c c_law_of hr (by omega) (by rfl) (pa_cons (pv 0) (pa_cons (pv 3) pa_nil)))))))
      (pss_cons (ps_asg (pe_tup (pa_cons (pe_c c_law_take hr (by omega) (by rfl) (pa_cons (pv 0) (pa_cons (pe_op (op_addX K) (pe_callB (call_lenX K) (by rfl) T.len PySem.boot_len (pa_cons (pv 4) pa_nil)) pe_int) pa_nil))) (pa_cons (pe_c c_law_take hr (by omega) (by rfl) (pa_cons (pv 0) (pa_cons pe_int pa_nil))) pa_nil))) (pg_tupX K (pg_tup (n := 2) (by rfl) (pgs_cons (pg_name (i := 5) sc_law_words.nd rfl (.inr rfl)) (pgs_cons (pg_name (i := 6) sc_law_words.nd rfl (.inr rfl)) pgs_nil)))))
      (pss_cons (ps_setLc (i := 7) (own := [("_law_k", 9)]) (g := gName 9) (tt := tYes) (by rfl) sc_law_words.nd rfl rfl (sw_true rfl rfl rfl (by decide +kernel)) (pi_range1 (by rfl) T.range (pa_cons (pv 1) pa_nil)) (blkOk_by (own := [("_law_k", 9)]) (N := ["_law_bag_z", "_law_many", "_law_most", "_law_letters", "_law_stem", "_law_at", "_law_start", "_law_found", "_law_fixed", "_law_k", "_law_word"]) (sc := defScope s_law_words) (by decide +kernel)) (fun _ _ _ _ _ => pg_name (i := 9) sc_law_words.nd rfl (Or.inl rfl)) (fun _ _ _ _ _ => pts_nil) (fun _ _ _ _ _ => (pe_op (op_addX K) (pe_op (op_addX K) (pe_slice (sl_X K) (pv 4) po_none (po_some (pv 5))) (pe_ix (ix_X K) (pv 3) (pe_op op_mod (pe_callTy cr_int (by rfl) T.int (by decide +kernel) (pa_cons (pe_op (op_addX K) (pv 6) (pe_op op_mulX pe_int (pv 9))) pa_nil)) pe_int) (fun _ _ => rfl))) (pe_slice (sl_X K) (pv 4) (po_some (pv 5)) po_none))))
      (pss_cons (ps_set (i := 8) sc_law_words.nd rfl (.inr rfl) (pe_disp (pps_cons pe_str pe_str (pps_cons pe_str pe_str (pps_cons pe_str pe_str (pps_cons pe_str pe_str pps_nil)))) (by rfl) (by rfl) (fun z => by cases z) (by decide)))
      (pss_one (ps_ret (pe_lc (own := [("_law_word", 10)]) (g := gName 10) (tt := tYes) (by rfl) sc_law_words.nd (pi_listX K (pv 7)) (blkOk_by (own := [("_law_word", 10)]) (N := ["_law_bag_z", "_law_many", "_law_most", "_law_letters", "_law_stem", "_law_at", "_law_start", "_law_found", "_law_fixed", "_law_k", "_law_word"]) (sc := defScope s_law_words) (by decide +kernel)) (fun _ _ _ _ _ => pg_name (i := 10) sc_law_words.nd rfl (Or.inl rfl)) (fun _ _ _ _ _ => pts_nil) (fun _ _ _ _ _ => (pe_dget2 (hu_of hr) (pv 8) (pv 10) (pv 10) ⟨rfl, rfl, rfl, rfl⟩)))))))))), ?_⟩
    change (_ : TS) _ [some (V.ref b), some (.int many), some (.int most), none, none, none, none, none, none, none, none] _
    k_extra "rr"
    refine ⟨b, r, _, rfl, hb, l0, by omega, fun n1 H1 bb1 hb1 n10 n11 => ?_⟩
    k_extra "rr"
    intro D nD
    refine lc_range (lo := 0) (n := n1.toNat) (fun i H' => ∃ cs : List Nat, cs.length = i ∧ (∀ c ∈ cs, c ∈ letters) ∧ H' D = some (.lst (cs.map fun c => V.str ⟨#[c]⟩)) ∧ But b H1 H' ∧ BagAt H' b r)
      ⟨[], rfl, (fun _ h => by cases h), upd_same, But.new nD, hb1.new nD⟩ ?_ ?_
    · rintro i H' hi ⟨cs, ec, hc, eD, bb, hb'⟩
      k_extra "rr"
      refine ⟨rfl, ?_⟩
      k_extra "rr"
      refine ⟨b, r, _, rfl, hb', .inl ⟨_, rfl, by decide +kernel, by decide +kernel, fun c H2 hc2 bb2 hb2 => ?_⟩⟩
      obtain ⟨nDb, nDr⟩ := hb1.ne_none nD
      refine ⟨_, bb2 _ _ eD nDb, by rw [List.length_map, sizeLine_eq]; omega, cs ++ [c], by rw [List.length_append, ec]; rfl, fun d hd => ?_, ?_, (bb.trans bb2).mutNew nD, hb2.mut hb1 nD⟩
      · rcases List.mem_append.mp hd with h | h
        · exact hc d h
        · rw [List.mem_singleton.mp h]
          rw [letters_eq] at hc2
          exact hc2
      · rw [upd_same, List.map_append]
        rfl
    · rintro H' ⟨cs, ec, hc, eD, bb, hb'⟩
      have eD' : H' D = some (.lst ((cs.map fun c => (⟨#[c]⟩ : Str)).map V.str)) := by
        rw [List.map_map]
        exact eD
      rw [empty_S]
      refine joinL (SqL.of eD') (by rw [len_sg, S_len0, Nat.mul_zero]; omega) ?_
      rw [join_sg]
      have hs : (SX.S cs).length ≤ sizeLine := by rw [SX.S_len, sizeLine_eq]; omega
      k_extra "rr"
      have hs2 : (((SX.S cs).length : Nat) : Int) = cs.length := by rw [SX.S_len]
      refine ⟨b, r, _, rfl, hb', by omega, by omega, fun n2 H2 bb2 hb2 n20 n21 => ?_⟩
      k_extra "rr"
      refine ⟨b, r, _, rfl, hb2, by omega, by omega, fun n3 H3 bb3 hb3 n30 n31 => ?_⟩
      k_extra "rr"
      refine ⟨by k_extra "sz", fun p np => ?_⟩
      k_extra "rr"
      have hbP := hb3.new (o := .tup [V.int n2, V.int n3]) np
      have bbP : But b H (upd H3 p (.tup [V.int n2, V.int n3])) := ((((bb1.trans bb).trans bb2).trans bb3).trans (But.new np))
      generalize upd H3 p (.tup [V.int n2, V.int n3]) = HP at hbP bbP
      intro L nL
      refine lc_range (lo := 0) (n := many.toNat) (fun i H' => H' = upd HP L (.lst ((List.range i).map fun k => V.str (SX.S (wordAt cs n2.toNat n3.toNat k))))) rfl ?_ ?_
      · rintro i H' hi rfl
        k_extra "rr"
        refine ⟨rfl, ?_⟩
        k_extra "rr"
        rw [cut_to cs n20]
        k_extra "rr"
        have hix : ((n3 + 5 * (0 + (i : Int))) % 26) = (((n3.toNat + 5 * i) % 26 : Nat) : Int) := by omega
        have hlt : (n3.toNat + 5 * i) % 26 < letters.length := Nat.mod_lt _ (by decide)
        refine ixS (k := letters.getD ((n3.toNat + 5 * i) % 26) 0) (by decide +kernel) ?_ ?_
        · rw [hix, letters_eq]
          refine atI_nat ?_
          show letters[(n3.toNat + 5 * i) % 26]? = some (letters.getD ((n3.toNat + 5 * i) % 26) 0)
          rw [List.getElem?_eq_getElem hlt, List.getD_eq_getElem?_getD, List.getElem?_eq_getElem hlt]
          rfl
        have h1 : (SX.S (cs.take n2.toNat)).length + (⟨#[letters.getD ((n3.toNat + 5 * i) % 26) 0]⟩ : Str).length ≤ sizeLine := by
          rw [SX.S_len, List.length_take, sizeLine_eq]
          show _ + 1 ≤ _
          omega
        refine addS h1 ?_
        rw [show (⟨#[letters.getD ((n3.toNat + 5 * i) % 26) 0]⟩ : Str) = SX.S [letters.getD ((n3.toNat + 5 * i) % 26) 0] from rfl, SX.S_cat]
        k_extra "rr"
        rw [cut_from cs n20]
        refine addS ?_ ?_
        · rw [SX.S_len, SX.S_len, List.length_append, List.length_take, List.length_drop, sizeLine_eq]
          show _ + 1 + _ ≤ _
          omega
        rw [SX.S_cat]
        refine ⟨_, upd_same, ?_, ?_⟩
        · rw [List.length_map, List.length_range, sizeLine_eq]
          omega
        · rw [upd_upd, List.range_succ, List.map_append]
          rfl
      · rintro H' rfl
        k_extra "rr"
        refine disp fun d nd => ?_
        k_extra "rr"
        refine ⟨upd_same, fixed, rfl, by decide, ?_⟩
        rw [upd_upd, fixed_merge]
        have nLd : L ≠ d := ne_of_none upd_same nd
        have nd0 := un0 nd
        have eL : (upd (upd HP L (.lst ((List.range many.toNat).map fun k => V.str (SX.S (wordAt cs n2.toNat n3.toNat k))))) d (.dK fixed)) L = some (.lst ((List.range many.toNat).map fun k => V.str (SX.S (wordAt cs n2.toNat n3.toNat k)))) := upd2 nLd upd_same
        have bbL : But b H (upd HP L (.lst ((List.range many.toNat).map fun k => V.str (SX.S (wordAt cs n2.toNat n3.toNat k))))) := bbP.trans (But.new nL)
        have hbL := hbP.new (o := .lst ((List.range many.toNat).map fun k => V.str (SX.S (wordAt cs n2.toNat n3.toNat k)))) nL
        have bbD := bbL.trans (But.new (o := .dK fixed) nd)
        have hbD := hbL.new (o := .dK fixed) nd
        have eD2 : (upd (upd HP L (.lst ((List.range many.toNat).map fun k => V.str (SX.S (wordAt cs n2.toNat n3.toNat k))))) d (.dK fixed)) d = some (.dK fixed) := upd_same
        generalize upd (upd HP L (.lst ((List.range many.toNat).map fun k => V.str (SX.S (wordAt cs n2.toNat n3.toNat k))))) d (.dK fixed) = HD at eL eD2 bbD hbD
        k_extra "rr"
        intro R nR
        have nLR : L ≠ R := ne_of_none eL nR
        have ndR : d ≠ R := ne_of_none eD2 nR
        refine lc_list (K := K) (a := L) (xs := (List.range many.toNat).map fun k => V.str (SX.S (wordAt cs n2.toNat n3.toNat k))) (fun i H' => H' = upd HD R (.lst ((List.range i).map fun k => V.str (fixW (SX.S (wordAt cs n2.toNat n3.toNat k)))))) rfl ?_ ?_ ?_
        · rintro i H' _ rfl
          exact SqL.of (upd2 nLR eL)
        · rintro i x H' hi rfl
          obtain ⟨u, hu, rfl⟩ := map_at hi
          obtain ⟨hlt, rfl⟩ := List.getElem?_eq_some_iff.mp hu
          rw [List.length_range] at hlt
          rw [List.getElem_range]
          k_extra "rr"
          refine ⟨rfl, ?_⟩
          k_extra "rr"
          refine ⟨d, rfl, .inl ⟨fixed, .inl (upd2 ndR eD2)⟩, ?_⟩
          k_extra "rr"
          refine ⟨_, DGet.k (k := .inr _) (upd2 ndR eD2), ?_⟩
          rw [fixed_get]
          refine ⟨_, upd_same, ?_, ?_⟩
          · rw [List.length_map, List.length_range, sizeLine_eq]
            omega
          · rw [upd_upd, List.range_succ, List.map_append]
            rfl
        · rintro H' rfl
          k_extra "rr"
          refine q ((List.range many.toNat).map fun k => fixW (SX.S (wordAt cs n2.toNat n3.toNat k))) R _ ⟨cs, n2.toNat, n3.toNat, by omega, hc, by omega, by omega, rfl⟩ (bbD.trans (But.new nR)) (hbD.new nR) (bbD.free hbD.ex nR) ?_ (hbD.ne_none nR).1
          rw [upd_same, List.length_map, List.length_range, List.map_map]
          rfl
end

theorem letters_get {i : Nat} (h : i < 26) : letters.getD i 0 ∈ letters := by
  rw [List.getD_eq_getElem?_getD, List.getElem?_eq_getElem (show i < letters.length from h)]
  exact List.getElem_mem h
theorem wordAt_ok {st : List Nat} {at_ s0 k : Nat} (h : ∀ c ∈ st, c ∈ letters) : (∀ c ∈ wordAt st at_ s0 k, c ∈ letters) ∧ 1 ≤ (wordAt st at_ s0 k).length ∧ (wordAt st at_ s0 k).length ≤ st.length + 1 := by
  refine ⟨fun c hc => ?_, ?_, wordAt_len st at_ s0 k⟩
  · unfold wordAt at hc
    rcases List.mem_append.mp hc with hc | hc
    · rcases List.mem_append.mp hc with hc | hc
      · exact h c (List.mem_of_mem_take hc)
      · rw [List.mem_singleton.mp hc]
        exact letters_get (Nat.mod_lt _ (by decide))
    · exact h c (List.mem_of_mem_drop hc)
  · unfold wordAt
    rw [List.length_append, List.length_append, List.length_singleton]
    omega
theorem fix_ok {l : List Nat} (h : ∀ c ∈ l, c ∈ letters) (h1 : 1 ≤ l.length) : ∃ m : List Nat, fixW (SX.S l) = SX.S m ∧ (∀ c ∈ m, c ∈ letters) ∧ 1 ≤ m.length ∧ (m.length ≤ l.length ∨ m.length = 3) := by
  unfold fixW
  by_cases h2 : SX.S l = "if"
  · rw [if_pos h2]
    exact ⟨[105, 102, 102], by decide +kernel, by decide, by decide, .inr rfl⟩
  rw [if_neg h2]
  by_cases h3 : SX.S l = "is"
  · rw [if_pos h3]
    exact ⟨[105, 115, 115], by decide +kernel, by decide, by decide, .inr rfl⟩
  rw [if_neg h3]
  by_cases h4 : SX.S l = "end"
  · rw [if_pos h4]
    have e : l = [101, 110, 100] := SX.S_inj (h4.trans (by decide +kernel))
    exact ⟨[101, 110], by decide +kernel, by decide, by decide, .inl (by rw [e]; decide)⟩
  rw [if_neg h4]
  by_cases h5 : SX.S l = "rest"
  · rw [if_pos h5]
    exact ⟨[114, 101, 115], by decide +kernel, by decide, by decide, .inr rfl⟩
  rw [if_neg h5]
  exact ⟨l, rfl, h, h1, .inl (Nat.le_refl _)⟩


/-! ### a text of signs -/
def signsL : List Nat := [32, 33, 35, 36, 38, 39, 40, 41, 42, 43, 44, 45, 46, 47, 58, 59, 60, 61, 62, 63, 64, 91, 93, 94, 95, 123, 124, 125, 126, 48, 49, 56, 57, 65, 77, 90, 97, 109, 122]
theorem signs_eq : Str.ofString " !#$&'()*+,-./:;<=>?\x40[]^_{|}~0189AMZamz" = SX.S signsL := by decide +kernel
def spSign : Sp := fun vs H Q _ => ∃ (b r : Addr) (most : Int), vs = [.ref b, .int most] ∧ BagAt H b r ∧ 0 ≤ most ∧ most ≤ 1000 ∧
  ∀ (l : List Nat) (H' : Hp), (l.length : Int) ≤ most → (∀ c ∈ l, c ∈ signsL) → But b H H' → BagAt H' b r → Q (.str (SX.S l)) H'
section
variable {P : Program} {w : World} {K : PySem.W.Frag} {mg : Str → Option Value} {base : Heap} {f : Addr} {fd : FuncData}
theorem ok_law_sign_text (F : Fun K "_law_sign_text" "_law_sign_text" s_law_sign_text f fd) (T : Txt mg) (c_law_take : Cal P w K mg base 1 "_law_take" spTake) : FnOk P w K mg base CX0 2 f fd ["_law_bag_z", "_law_most"] spSign := by
  refine F.ok sc_law_sign_text (fun vs H Q E h => ?_) (fun cdv A outer s H vs Q E hr h => ?_)
  · obtain ⟨b, r, most, rfl, _⟩ := h
    rfl
  · obtain ⟨b, r, most, rfl, hb, k0, k1, q⟩ := h
    refine ⟨_, (pss_cons (ps_set (i := 2) sc_law_sign_text.nd rfl (.inr rfl) pe_str)
      (pss_one (ps_ret (pe_joinX K pe_str (pe_lc (own := [("_law_k", 3)]) (g := gName 3) (tt := tYes) (by rfl) sc_law_sign_text.nd (pi_range1 (by rfl) T.range (pa_cons (pe_c c_law_take hr (by omega) (by rfl) (pa_cons (pv 0) (pa_cons (pe_op (op_addX K) (pv 1) pe_int) pa_nil))) pa_nil)) (blkOk_by (own := [("_law_k", 3)]) (N := ["_law_bag_z", "_law_most", "_law_signs", "_law_k"]) (sc := defScope s_law_sign_text) (by decide +kernel)) (fun _ _ _ _ _ => pg_name (i := 3) sc_law_sign_text.nd rfl (Or.inl rfl)) (fun _ _ _ _ _ => pts_nil) (fun _ _ _ _ _ => (pe_ix (ix_X K) (pv 2) (pe_c c_law_take hr (by omega) (by rfl) (pa_cons (pv 0) (pa_cons (pe_callB (call_lenX K) (by rfl) T.len PySem.boot_len (pa_cons (pv 2) pa_nil)) pa_nil))) (fun _ _ => rfl)))))))), ?_⟩
    change (_ : TS) _ [some (V.ref b), some (.int most), none, none] _
    k_extra "rr"
    refine ⟨b, r, _, rfl, hb, by omega, by omega, fun n1 H1 bb1 hb1 n10 n11 => ?_⟩
    k_extra "rr"
    intro D nD
    obtain ⟨nDb, nDr⟩ := hb1.ne_none nD
    refine lc_range (lo := 0) (n := n1.toNat) (fun i H' => ∃ cs : List Nat, cs.length = i ∧ (∀ c ∈ cs, c ∈ signsL) ∧ H' D = some (.lst (cs.map fun c => V.str ⟨#[c]⟩)) ∧ But b H1 H' ∧ BagAt H' b r)
      ⟨[], rfl, (fun _ h => by cases h), upd_same, But.new nD, hb1.new nD⟩ ?_ ?_
    · rintro i H' hi ⟨cs, ec, hc, eD, bb, hb'⟩
      k_extra "rr"
      refine ⟨rfl, ?_⟩
      k_extra "rr"
      have hsz : (Str.ofString " !#$&'()*+,-./:;<=>?\x40[]^_{|}~0189AMZamz").length = 39 := by decide +kernel
      refine ⟨b, r, _, rfl, hb', by rw [hsz]; decide, by rw [hsz]; decide, fun n2 H2 bb2 hb2 n20 n21 => ?_⟩
      obtain ⟨c, e1, e2⟩ := at_str (z := Str.ofString " !#$&'()*+,-./:;<=>?\x40[]^_{|}~0189AMZamz") n20 n21
      refine ixS (by rw [hsz, sizeLine_eq]; decide) e1 ?_
      refine ⟨_, bb2 _ _ eD nDb, by rw [List.length_map, sizeLine_eq]; omega, cs ++ [c], by rw [List.length_append, ec]; rfl, fun d hd => ?_, ?_, (bb.trans bb2).mutNew nD, hb2.mut hb1 nD⟩
      · rcases List.mem_append.mp hd with h | h
        · exact hc d h
        · rw [List.mem_singleton.mp h]
          rw [signs_eq] at e2
          exact e2
      · rw [upd_same, List.map_append]
        rfl
    · rintro H' ⟨cs, ec, hc, eD, bb, hb'⟩
      have eD' : H' D = some (.lst ((cs.map fun c => (⟨#[c]⟩ : Str)).map V.str)) := by
        rw [List.map_map]
        exact eD
      rw [empty_S]
      refine joinL (SqL.of eD') (by rw [len_sg, S_len0, Nat.mul_zero]; omega) ?_
      rw [join_sg]
      k_extra "rr"
      exact q cs H' (by omega) hc (bb1.trans bb) hb'
end

/-! ### equal and of the same kinds -/
def sca : V → Bool
  | .non => true
  | .bl _ => true
  | .int _ => true
  | .str _ => true
  | _ => false
/-- equal data of the same kinds, nested below n -/
def Alk (K : PySem.W.Frag) (H : Hp) : Nat → V → V → Prop
  | 0 => fun _ _ => False
  | n + 1 => fun x y => (x = y ∧ sca x = true) ∨ ∃ a b xs ys, x = .ref a ∧ y = .ref b ∧ ((SqL K H a xs ∧ SqL K H b ys) ∨ (SqT K H a xs ∧ SqT K H b ys)) ∧ xs.length = ys.length ∧ xs.length ≤ 100000 ∧
      ∀ (i : Nat) (x y : V), xs[i]? = some x → ys[i]? = some y → Alk K H n x y
theorem Alk.same {K : PySem.W.Frag} {H H' : Hp} (s : Same H H') : ∀ {n : Nat} {x y : V}, Alk K H n x y → Alk K H' n x y
  | 0, _, _, h => h
  | n + 1, x, y, h => by
    rcases h with h | ⟨a, b, xs, ys, rfl, rfl, h, hl, hz, k⟩
    · exact .inl h
    · refine .inr ⟨a, b, xs, ys, rfl, rfl, ?_, hl, hz, fun i x y h1 h2 => Alk.same s (k i x y h1 h2)⟩
      rcases h with ⟨h1, h2⟩ | ⟨h1, h2⟩
      · exact .inl ⟨s.seq h1, s.seq h2⟩
      · exact .inr ⟨Rg.Same.seqT s h1, Rg.Same.seqT s h2⟩
def spAlike (K : PySem.W.Frag) (n : Nat) : Sp := fun vs H Q _ => ∃ (x y : V), vs = [x, y] ∧ Alk K H n x y ∧ ∀ H', Same H H' → Q (.bl true) H'
section
variable {P : Program} {w : World} {K : PySem.W.Frag} {mg : Str → Option Value} {base : Heap} {f : Addr} {fd : FuncData}
theorem ok_law_alike0 (F : Fun K "_law_alike" "_law_alike" s_law_alike f fd) : FnOk P w K mg base CX0 1 f fd ["_law_found", "_law_due"] (spAlike K 0) := by
  refine F.ok sc_law_alike (fun vs H Q E h => ?_) (fun cdv A outer s H vs Q E hr h => ?_)
  · obtain ⟨x, y, rfl, _⟩ := h
    rfl
  · obtain ⟨x, y, rfl, h, _⟩ := h
    exact h.elim
theorem ok_law_alike1 (F : Fun K "_law_alike" "_law_alike" s_law_alike f fd) (T : Txt mg) {n : Nat} (c_law_alike : Cal P w K mg base (n + 1) "_law_alike" (spAlike K n)) : FnOk P w K mg base CX0 (n + 2) f fd ["_law_found", "_law_due"] (spAlike K (n + 1)) := by
  refine F.ok sc_law_alike (fun vs H Q E h => ?_) (fun cdv A outer s H vs Q E hr h => ?_)
  · obtain ⟨x, y, rfl, _⟩ := h
    rfl
  · obtain ⟨x, y, rfl, h, q⟩ := h
    refine ⟨_, (pss_cons (ps_if (PW.pt (pw_or (pt_cmpR op_isNn (pv 1) pe_non (nomark _)) (pw_or1 (pt_cmpR op_isNn (pv 0) pe_non (nomark _))))) (pss_one (ps_ret (pe_and (pe_cmpR op_isNn (pv 1) pe_non (nomark _)) (pe_one (pe_cmpR op_isNn (pv 0) pe_non (nomark _)))))) pss_nil)
      (pss_cons (ps_if (PW.pt (pw_or (pt_val (pe_callB (cr_isi K) (by rfl) T.isinstance (by decide +kernel) (pa_cons (pv 1) (pa_cons (pe_bltn (v := .ty "bool") (by rfl) T.bool (by decide +kernel) rfl) pa_nil)))) (pw_or1 (pt_val (pe_callB (cr_isi K) (by rfl) T.isinstance (by decide +kernel) (pa_cons (pv 0) (pa_cons (pe_bltn (v := .ty "bool") (by rfl) T.bool (by decide +kernel) rfl) pa_nil))))))) (pss_one (ps_ret (pe_and (pe_callB (cr_isi K) (by rfl) T.isinstance (by decide +kernel) (pa_cons (pv 1) (pa_cons (pe_bltn (v := .ty "bool") (by rfl) T.bool (by decide +kernel) rfl) pa_nil))) (pe_and (pe_callB (cr_isi K) (by rfl) T.isinstance (by decide +kernel) (pa_cons (pv 0) (pa_cons (pe_bltn (v := .ty "bool") (by rfl) T.bool (by decide +kernel) rfl) pa_nil))) (pe_one (pe_cmpR (op_eqX K hr) (pv 0) (pv 1) (nomark _))))))) pss_nil)
      (pss_cons (ps_if (pt_val (pe_callB (cr_isiT K) (by rfl) T.isinstance (by decide +kernel) (pa_cons (pv 1) (pa_cons (pe_tup (pa_cons (pe_bltn (v := .ty "int") (by rfl) T.int (by decide +kernel) rfl) (pa_cons (pe_bltn (v := .ty "str") (by rfl) T.str (by decide +kernel) rfl) pa_nil))) pa_nil)))) (pss_one (ps_ret (pe_and (pe_callB (cr_isiT K) (by rfl) T.isinstance (by decide +kernel) (pa_cons (pv 0) (pa_cons (pe_tup (pa_cons (pe_bltn (v := .ty "int") (by rfl) T.int (by decide +kernel) rfl) (pa_cons (pe_bltn (v := .ty "str") (by rfl) T.str (by decide +kernel) rfl) pa_nil))) pa_nil))) (pe_and (pe_cmpR (op_eqX K hr) (pe_callB (cr_isi K) (by rfl) T.isinstance (by decide +kernel) (pa_cons (pv 0) (pa_cons (pe_bltn (v := .ty "int") (by rfl) T.int (by decide +kernel) rfl) pa_nil))) (pe_callB (cr_isi K) (by rfl) T.isinstance (by decide +kernel) (pa_cons (pv 1) (pa_cons (pe_bltn (v := .ty "int") (by rfl) T.int (by decide +kernel) rfl) pa_nil))) (nomark _)) (pe_one (pe_cmpR (op_eqX K hr) (pv 0) (pv 1) (nomark _))))))) pss_nil)
      (pss_cons (ps_if (pt_val (pe_callB (cr_isi K) (by rfl) T.isinstance (by decide +kernel) (pa_cons (pv 1) (pa_cons (pe_bltn (v := .ty "dict") (by rfl) T.dict (by decide +kernel) rfl) pa_nil)))) pss_never pss_nil)
      (pss_cons (ps_if (PW.pt (pw_or (pt_cmpR (op_neX K hr) (pe_callB (cr_isi K) (by rfl) T.isinstance (by decide +kernel) (pa_cons (pv 1) (pa_cons (pe_bltn (v := .ty "tuple") (by rfl) T.tuple (by decide +kernel) rfl) pa_nil))) (pe_callB (cr_isi K) (by rfl) T.isinstance (by decide +kernel) (pa_cons (pv 0) (pa_cons (pe_bltn (v := .ty "tuple") (by rfl) T.tuple (by decide +kernel) rfl) pa_nil))) (nomark _)) (pw_or1 (pt_cmpR (op_neX K hr) (pe_callB (cr_isi K) (by rfl) T.isinstance (by decide +kernel) (pa_cons (pv 1) (pa_cons (pe_bltn (v := .ty "list") (by rfl) T.list (by decide +kernel) rfl) pa_nil))) (pe_callB (cr_isi K) (by rfl) T.isinstance (by decide +kernel) (pa_cons (pv 0) (pa_cons (pe_bltn (v := .ty "list") (by rfl) T.list (by decide +kernel) rfl) pa_nil))) (nomark _))))) (pss_one (ps_ret pe_bl)) pss_nil)
      (pss_one (ps_ret (pe_and (pe_cmpR (op_eqX K hr) (pe_callB (call_lenX K) (by rfl) T.len PySem.boot_len (pa_cons (pv 0) pa_nil)) (pe_callB (call_lenX K) (by rfl) T.len PySem.boot_len (pa_cons (pv 1) pa_nil)) (nomark _)) (pe_one (pe_callB (cr_allX K (by rfl)) (by rfl) T.all (by decide +kernel) (pa_cons (pe_lc (own := [("_law_one", 3), ("_law_two", 4)])  (tt := tYes) (by rfl) sc_law_alike.nd (pi_zipX K (RZ.pi_zipA (by rfl) T.zip (pa_cons (pv 0) (pa_cons (pv 1) pa_nil)))) (blkOk_by (own := [("_law_one", 3), ("_law_two", 4)]) (N := ["_law_found", "_law_due", "_law_key", "_law_one", "_law_two"]) (sc := defScope s_law_alike) (by decide +kernel)) (fun _ _ _ _ _ => pg_tupX K (pg_tup (n := 2) (by rfl) (pgs_cons (pg_name (i := 3) sc_law_alike.nd rfl (Or.inl rfl)) (pgs_cons (pg_name (i := 4) sc_law_alike.nd rfl (Or.inl rfl)) pgs_nil)))) (fun _ _ _ _ _ => pts_nil) (fun _ _ _ _ _ => (pe_c c_law_alike hr (by omega) (by rfl) (pa_cons (pv 3) (pa_cons (pv 4) pa_nil))))) pa_nil))))))))))), ?_⟩
    rcases h with ⟨rfl, hx⟩ | ⟨a, b, xs, ys, rfl, rfl, h, hl, hz, k⟩
    · cases x with
      | non =>
        change (_ : TS) _ [some V.non, some V.non, none, none, none] _
        k_extra "rr"
        exact q H (Same.refl H)
      | bl c =>
        change (_ : TS) _ [some (V.bl c), some (V.bl c), none, none, none] _
        k_extra "rr"
        rw [decide_eq_true rfl]
        exact q H (Same.refl H)
      | int i =>
        change (_ : TS) _ [some (V.int i), some (V.int i), none, none, none] _
        k_extra "rr"
        refine ⟨by k_extra "sz", fun t nt => ?_⟩
        k_extra "rr"
        refine isiT (b := true) upd_same (cls2 _ _) (.base (.int _)) (kitAny2 kB_int_int kB_int_str) ?_
        k_extra "rr"
        refine ⟨by k_extra "sz", fun t2 nt2 => ?_⟩
        k_extra "rr"
        refine isiT (b := true) upd_same (cls2 _ _) (.base (.int _)) (kitAny2 kB_int_int kB_int_str) ?_
        k_extra "rr"
        rw [decide_eq_true rfl]
        exact q _ ((same_upd nt).trans (same_upd nt2))
      | str z =>
        change (_ : TS) _ [some (V.str z), some (V.str z), none, none, none] _
        k_extra "rr"
        refine ⟨by k_extra "sz", fun t nt => ?_⟩
        k_extra "rr"
        refine isiT (b := true) upd_same (cls2 _ _) (.base (.str _)) (kitAny2 kB_str_int kB_str_str) ?_
        k_extra "rr"
        refine ⟨by k_extra "sz", fun t2 nt2 => ?_⟩
        k_extra "rr"
        refine isiT (b := true) upd_same (cls2 _ _) (.base (.str _)) (kitAny2 kB_str_int kB_str_str) ?_
        k_extra "rr"
        rw [decide_eq_true rfl]
        exact q _ ((same_upd nt).trans (same_upd nt2))
      | byt _ => cases hx
      | flt _ => cases hx
      | ref _ => cases hx
      | ty _ => cases hx
    · rcases h with ⟨h1, h2⟩ | ⟨h1, h2⟩
      · change (_ : TS) _ [some (V.ref a), some (V.ref b), none, none, none] _
        have t1 := tyx_L h1
        have t2 := tyx_L h2
        k_extra "rr"
        refine ⟨by k_extra "sz", fun t nt => ?_⟩
        have s1 : Same H (upd H t (.tup [V.ty "int", V.ty "str"])) := same_upd nt
        have h1' := Same.seq s1 h1
        have h2' := Same.seq s1 h2
        have t1' := tyx_L h1'
        have t2' := tyx_L h2'
        k_extra "rr"
        refine isiT (b := false) upd_same (cls2 _ _) t2' (kitAny2 kB_list_int kB_list_str) ?_
        generalize upd H t (.tup [V.ty "int", V.ty "str"]) = H1 at s1 h1' h2' t1' t2'
        k_extra "rr"
        rw [hl, decide_eq_true rfl]
        k_extra "rr"
        refine ⟨a, b, xs, ys, rfl, .inl ⟨h1', h2', fun D nD => ?_⟩⟩
        refine lc_it (walk_zip (K := K) (a := a) (b := b) (xs := xs) (ys := ys) (n := xs.length) (by rw [hl, Nat.min_self])) (fun i H' => H' D = some (.lst ((List.replicate i true).map V.bl)) ∧ Same H1 H')
          ⟨upd_same, same_upd nD⟩ (fun i H' _ p => ⟨Same.seq p.2 h1', Same.seq p.2 h2'⟩) ?_ ?_
        · rintro i x H2 H3 hi ⟨eD, s2⟩ ⟨T, x1, y1, rfl, nT, rfl, e1, e2⟩
          k_extra "rr"
          refine ⟨rfl, ?_⟩
          k_extra "rr"
          have s3 : Same H2 (upd H2 T (.tup [x1, y1])) := same_upd nT
          refine ⟨x1, y1, rfl, ((k i x1 y1 e1 e2).same (s1.trans s2)).same s3, fun H4 s4 => ?_⟩
          refine ⟨_, s4 _ _ (s3 _ _ eD), ?_, ?_, fun c o hc => ?_⟩
          · rw [List.length_map, List.length_replicate]
            rw [sizeLine_eq]
            omega
          · rw [upd_same, List.replicate_succ', List.map_append]
            rfl
          · rw [upd_ne (ne_of_none hc nD)]
            exact s4 _ _ (s3 _ _ (s2 _ _ hc))
        · rintro H2 ⟨eD, s2⟩
          k_extra "rr"
          refine all_ (SqL.of eD) ?_
          rw [show (List.replicate xs.length true).all id = true from List.all_eq_true.mpr fun z hz => List.eq_of_mem_replicate hz]
          exact q H2 (s1.trans s2)
      · change (_ : TS) _ [some (V.ref a), some (V.ref b), none, none, none] _
        have t1 := tyx_T h1
        have t2 := tyx_T h2
        k_extra "rr"
        refine ⟨by k_extra "sz", fun t nt => ?_⟩
        have s1 : Same H (upd H t (.tup [V.ty "int", V.ty "str"])) := same_upd nt
        have h1' := Rg.Same.seqT s1 h1
        have h2' := Rg.Same.seqT s1 h2
        have t1' := tyx_T h1'
        have t2' := tyx_T h2'
        k_extra "rr"
        refine isiT (b := false) upd_same (cls2 _ _) t2' (kitAny2 kB_tuple_int kB_tuple_str) ?_
        generalize upd H t (.tup [V.ty "int", V.ty "str"]) = H1 at s1 h1' h2' t1' t2'
        k_extra "rr"
        rw [hl, decide_eq_true rfl]
        k_extra "rr"
        refine ⟨a, b, xs, ys, rfl, .inr ⟨h1', h2', fun D nD => ?_⟩⟩
        refine lc_it (walk_zipT (K := K) (a := a) (b := b) (xs := xs) (ys := ys) (n := xs.length) (by rw [hl, Nat.min_self])) (fun i H' => H' D = some (.lst ((List.replicate i true).map V.bl)) ∧ Same H1 H')
          ⟨upd_same, same_upd nD⟩ (fun i H' _ p => ⟨Rg.Same.seqT p.2 h1', Rg.Same.seqT p.2 h2'⟩) ?_ ?_
        · rintro i x H2 H3 hi ⟨eD, s2⟩ ⟨T, x1, y1, rfl, nT, rfl, e1, e2⟩
          k_extra "rr"
          refine ⟨rfl, ?_⟩
          k_extra "rr"
          have s3 : Same H2 (upd H2 T (.tup [x1, y1])) := same_upd nT
          refine ⟨x1, y1, rfl, ((k i x1 y1 e1 e2).same (s1.trans s2)).same s3, fun H4 s4 => ?_⟩
          refine ⟨_, s4 _ _ (s3 _ _ eD), ?_, ?_, fun c o hc => ?_⟩
          · rw [List.length_map, List.length_replicate]
            rw [sizeLine_eq]
            omega
          · rw [upd_same, List.replicate_succ', List.map_append]
            rfl
          · rw [upd_ne (ne_of_none hc nD)]
            exact s4 _ _ (s3 _ _ (s2 _ _ hc))
        · rintro H2 ⟨eD, s2⟩
          k_extra "rr"
          refine all_ (SqL.of eD) ?_
          rw [show (List.replicate xs.length true).all id = true from List.all_eq_true.mpr fun z hz => List.eq_of_mem_replicate hz]
          exact q H2 (s1.trans s2)
end

/-! ### is_sign -/
def signB (c : Nat) : Bool := decide (32 ≤ c) && (decide (c ≤ 126) && !decide (c = 34))
def spIsSign : Sp := fun vs H Q _ => ∃ (c : Nat), vs = [.str ⟨#[c]⟩] ∧ Q (.bl (signB c)) H
section
variable {P : Program} {w : World} {K : PySem.W.Frag} {mg : Str → Option Value} {base : Heap} {f : Addr} {fd : FuncData}
end

/-! ### kinds and texts -/
def letters' : List Nat := letters
/-- a value that is a text, or is known to be none -/
def StrOr (K : PySem.W.Frag) (H : Hp) (x : V) : Prop := (∃ l : List Nat, x = .str (SX.S l) ∧ l.length ≤ 100000) ∨ ((∀ z, x ≠ .str z) ∧ ∃ T, TyX K H x (.type T) ∧ kitB T "str" = some false)
def wordB (x : V) (most : Int) : Bool := match x with
  | .str z => decide (1 ≤ (z.length : Int)) && (decide ((z.length : Int) ≤ most) && (z.cps.toList.map fun c => decide (c ∈ letters)).all id)
  | _ => false
def textB (x : V) : Bool := match x with
  | .str z => decide ((z.length : Int) ≤ 20) && (z.cps.toList.map signB).all id
  | _ => false
theorem wordB_no {x : V} (h : ∀ z, x ≠ .str z) (m : Int) : wordB x m = false := by
  cases x with
  | str z => exact absurd rfl (h z)
  | _ => rfl
theorem textB_no {x : V} (h : ∀ z, x ≠ .str z) : textB x = false := by
  cases x with
  | str z => exact absurd rfl (h z)
  | _ => rfl
def spWord (K : PySem.W.Frag) : Sp := fun vs H Q _ => ∃ (x : V) (most : Int), vs = [x, .int most] ∧ StrOr K H x ∧ ∀ H', Same H H' → Q (.bl (wordB x most)) H'
def spKind (K : PySem.W.Frag) : Sp := fun vs H Q _ => ∃ (x : V), vs = [x] ∧ StrOr K H x ∧ ∀ H', Same H H' → Q (.bl (wordB x 6)) H'
def spText (K : PySem.W.Frag) : Sp := fun vs H Q _ => ∃ (x : V), vs = [x] ∧ StrOr K H x ∧ ∀ H', Same H H' → Q (.bl (textB x)) H'
section
variable {P : Program} {w : World} {K : PySem.W.Frag} {mg : Str → Option Value} {base : Heap} {f : Addr} {fd : FuncData}
end

/-! ### documents -/
inductive Fo where
  | nil
  | cons (k t : List Nat) (i r : Fo)
namespace Fo
def size : Fo → Nat
  | nil => 0
  | cons _ _ i r => 1 + i.size + r.size
def depth : Fo → Nat
  | nil => 0
  | cons _ _ i r => max (i.depth + 1) r.depth
def len : Fo → Nat
  | nil => 0
  | cons _ _ _ r => r.len + 1
def All (p : List Nat → List Nat → Prop) : Fo → Prop
  | nil => True
  | cons k t i r => p k t ∧ All p i ∧ All p r
def snoc : Fo → List Nat → List Nat → Fo → Fo
  | nil, k, t, i => cons k t i nil
  | cons k' t' i' r, k, t, i => cons k' t' i' (snoc r k t i)
theorem size_snoc (k t : List Nat) (i : Fo) : ∀ f : Fo, (snoc f k t i).size = f.size + i.size + 1
  | nil => by
    show 1 + i.size + 0 = 0 + i.size + 1
    omega
  | cons k' t' i' r => by
    have := size_snoc k t i r
    show 1 + i'.size + (snoc r k t i).size = 1 + i'.size + r.size + i.size + 1
    omega
theorem all_snoc {p : List Nat → List Nat → Prop} {k t : List Nat} {i : Fo} (h : p k t) (hi : i.All p) : ∀ {f : Fo}, f.All p → (snoc f k t i).All p
  | nil, _ => ⟨h, hi, trivial⟩
  | cons _ _ _ _, ⟨h1, h2, h3⟩ => ⟨h1, h2, all_snoc h hi h3⟩
theorem All.imp {p q : List Nat → List Nat → Prop} (h : ∀ k t, p k t → q k t) : ∀ {f : Fo}, f.All p → f.All q
  | nil, _ => trivial
  | cons _ _ _ _, ⟨h1, h2, h3⟩ => ⟨h _ _ h1, All.imp h h2, All.imp h h3⟩
theorem depth_le : ∀ f : Fo, f.depth ≤ f.size
  | nil => Nat.le_refl 0
  | cons k t i r => by
    have h1 := depth_le i
    have h2 := depth_le r
    show max (i.depth + 1) r.depth ≤ 1 + i.size + r.size
    omega
theorem len_le : ∀ f : Fo, f.len ≤ f.size
  | nil => Nat.le_refl 0
  | cons k t i r => by
    have h2 := len_le r
    show r.len + 1 ≤ 1 + i.size + r.size
    omega
end Fo
/-- no tuple is lost -/
def TupLe (H H' : Hp) : Prop := ∀ c xs, H c = some (.tup xs) → H' c = some (.tup xs)
theorem TupLe.refl (H : Hp) : TupLe H H := fun _ _ h => h
theorem TupLe.trans {H H1 H2 : Hp} (a : TupLe H H1) (b : TupLe H1 H2) : TupLe H H2 := fun c xs h => b c xs (a c xs h)
theorem TupLe.same {H H' : Hp} (s : Same H H') : TupLe H H' := fun c xs h => s c _ h
theorem TupLe.but {b : Addr} {H H' : Hp} (s : But b H H') {l : List V} (h : H b = some (.lst l)) : TupLe H H' := fun c xs e => s c _ e fun z => by
  rw [z, h] at e
  cases e
theorem TupLe.new {H : Hp} {p : Addr} {o : HO} (h : H p = none) : TupLe H (upd H p o) := TupLe.same (same_upd h)
theorem TupLe.lst {H : Hp} {p : Addr} {l m : List V} (h : H p = some (.lst l)) : TupLe H (upd H p (.lst m)) := fun c xs e => by
  by_cases z : c = p
  · rw [z, h] at e
    cases e
  · rw [upd_ne z]
    exact e
def Items (H : Hp) : Fo → List V → Prop
  | .nil, xs => xs = []
  | .cons k t i r, xs => ∃ p q ys xs', xs = .ref p :: xs' ∧ H p = some (.tup [.str (SX.S k), .str (SX.S t), .ref q]) ∧ H q = some (.tup ys) ∧ Items H i ys ∧ Items H r xs'
def Doc (H : Hp) (f : Fo) (a : Addr) : Prop := ∃ xs, H a = some (.tup xs) ∧ Items H f xs
theorem Items.le {H H' : Hp} (s : TupLe H H') : ∀ {f : Fo} {xs : List V}, Items H f xs → Items H' f xs
  | .nil, _, h => h
  | .cons _ _ _ _, _, ⟨p, q, ys, xs', e, h1, h2, h3, h4⟩ => ⟨p, q, ys, xs', e, s _ _ h1, s _ _ h2, h3.le s, h4.le s⟩
theorem Doc.le {H H' : Hp} (s : TupLe H H') {f : Fo} {a : Addr} : Doc H f a → Doc H' f a := fun ⟨xs, h, i⟩ => ⟨xs, s _ _ h, i.le s⟩
theorem Items.len {H : Hp} : ∀ {f : Fo} {xs : List V}, Items H f xs → xs.length = f.len
  | .nil, _, h => by rw [show _ = _ from h]; rfl
  | .cons _ _ _ r, _, ⟨p, q, ys, xs', e, h1, h2, h3, h4⟩ => by
    rw [e, List.length_cons, h4.len]
    rfl
theorem Items.snoc {H : Hp} {k t : List Nat} {i : Fo} {p q : Addr} {ys : List V} (hp : H p = some (.tup [.str (SX.S k), .str (SX.S t), .ref q])) (hq : H q = some (.tup ys)) (hi : Items H i ys) :
    ∀ {f : Fo} {xs : List V}, Items H f xs → Items H (f.snoc k t i) (xs ++ [.ref p])
  | .nil, _, h => by
    rw [show _ = _ from h]
    exact ⟨p, q, ys, [], rfl, hp, hq, hi, rfl⟩
  | .cons _ _ _ _, _, ⟨p', q', ys', xs', e, h1, h2, h3, h4⟩ => ⟨p', q', ys', xs' ++ [.ref p], by rw [e]; rfl, h1, h2, h3, Items.snoc hp hq hi h4⟩
/-! as plain data -/
def fdata : Fo → List PyData
  | .nil => []
  | .cons k t i r => .tuple [.str (SX.S k), .str (SX.S t), .tuple (fdata i)] :: fdata r
theorem Items.dp {K : PySem.W.Frag} {H : Hp} : ∀ {f : Fo} {xs : List V}, Items H f xs → DpAll K H xs (fdata f)
  | .nil, _, h => by
    rw [show _ = _ from h]
    exact .nil
  | .cons _ _ _ _, _, ⟨p, q, ys, xs', e, h1, h2, h3, h4⟩ => by
    rw [e]
    exact .cons (.tup (SqT.of h1) (.cons (.str _) (.cons (.str _) (.cons (.tup (SqT.of h2) h3.dp) .nil)))) h4.dp
theorem Doc.dp {K : PySem.W.Frag} {H : Hp} {f : Fo} {a : Addr} : Doc H f a → Dp K H (.ref a) (.tuple (fdata f)) := fun ⟨xs, h, i⟩ => .tup (SqT.of h) i.dp
/-- two documents of one forest are alike, at twice the depth and one -/
theorem Items.alk {K : PySem.W.Frag} {H : Hp} : ∀ {f : Fo} {n : Nat} {xs ys : List V}, f.size ≤ 1000 → 2 * f.depth ≤ n → Items H f xs → Items H f ys → xs.length = ys.length ∧ xs.length ≤ 1000 ∧ ∀ (i : Nat) (x y : V), xs[i]? = some x → ys[i]? = some y → Alk K H n x y
  | .nil, n, _, _, _, _, h1, h2 => by
    rw [show _ = _ from h1, show _ = _ from h2]
    exact ⟨rfl, Nat.zero_le _, fun i x y h => by cases h⟩
  | .cons k t i r, n, _, _, hz, hn, h1, h2 => by
    have hl1 := h1.len
    have hl2 := h2.len
    have hl := Fo.len_le (.cons k t i r)
    obtain ⟨p, q, ys, xs', e, h1, h2', h3, h4⟩ := h1
    obtain ⟨p2, q2, ys2, xs2, e2, g1, g2, g3, g4⟩ := h2
    have hs : 1 + i.size + r.size ≤ 1000 := hz
    have hd : 2 * max (i.depth + 1) r.depth ≤ n := hn
    obtain ⟨a1, a2, a3⟩ := Items.alk (K := K) (n := n) (by omega) (by omega) h4 g4
    obtain ⟨m, rfl⟩ : ∃ m, n = m + 2 := ⟨n - 2, by omega⟩
    obtain ⟨b1, b2, b3⟩ := Items.alk (K := K) (n := m) (by omega) (by omega) h3 g3
    refine ⟨by rw [hl1, hl2], by rw [hl1]; omega, fun j x y hx hy => ?_⟩
    subst e e2
    cases j with
    | succ j => exact a3 j x y hx hy
    | zero =>
      cases hx
      cases hy
      refine .inr ⟨p, p2, _, _, rfl, rfl, .inr ⟨SqT.of h1, SqT.of g1⟩, rfl, (by show 3 ≤ 100000; decide), fun j x y hx hy => ?_⟩
      rcases j with _ | _ | _ | j
      · cases hx
        cases hy
        exact .inl ⟨rfl, rfl⟩
      · cases hx
        cases hy
        exact .inl ⟨rfl, rfl⟩
      · cases hx
        cases hy
        exact .inr ⟨q, q2, _, _, rfl, rfl, .inr ⟨SqT.of h2', SqT.of g2⟩, b1, by omega, b3⟩
      · cases hx
theorem Doc.alk {K : PySem.W.Frag} {H : Hp} {f : Fo} {a b : Addr} {n : Nat} (hz : f.size ≤ 1000) (hn : 2 * f.depth ≤ n) (h1 : Doc H f a) (h2 : Doc H f b) : Alk K H (n + 1) (.ref a) (.ref b) := by
  obtain ⟨xs, e1, i1⟩ := h1
  obtain ⟨ys, e2, i2⟩ := h2
  obtain ⟨l1, l2, k⟩ := Items.alk (K := K) hz hn i1 i2
  exact .inr ⟨a, b, xs, ys, rfl, rfl, .inr ⟨SqT.of e1, SqT.of e2⟩, l1, by omega, k⟩

/-! ### names -/
def restL : List Nat := [114, 101, 115, 116]
theorem rest_S : Str.ofString "rest" = SX.S restL := by decide +kernel
def GoodK (k : List Nat) : Prop := (∀ c ∈ k, c ∈ letters) ∧ 1 ≤ k.length ∧ k.length ≤ 6 ∧ k ≠ restL
theorem fix_rest (w : Str) : fixW w ≠ "rest" := by
  unfold fixW
  by_cases h2 : w = "if"
  · rw [if_pos h2]
    decide +kernel
  rw [if_neg h2]
  by_cases h3 : w = "is"
  · rw [if_pos h3]
    decide +kernel
  rw [if_neg h3]
  by_cases h4 : w = "end"
  · rw [if_pos h4]
    decide +kernel
  rw [if_neg h4]
  by_cases h5 : w = "rest"
  · rw [if_pos h5]
    decide +kernel
  rw [if_neg h5]
  exact h5
theorem words_good {many most : Int} {ws : List Str} (h0 : 0 ≤ many) (h : Words many most ws) (hm : most ≤ 5) : ∃ ks : List (List Nat), ws = ks.map SX.S ∧ (∀ k ∈ ks, GoodK k) ∧ (ks.length : Int) = many := by
  obtain ⟨st, at_, s0, h1, h2, h3, h4, rfl⟩ := h
  refine ⟨((List.range many.toNat).map fun k => fixW (SX.S (wordAt st at_ s0 k))).map fun z => z.cps.toList, ?_, fun k hk => ?_, ?_⟩
  · rw [List.map_map]
    have e : (SX.S ∘ fun z : Str => z.cps.toList) = id := funext fun z => (str_S z).symm
    rw [e, List.map_id]
  · rw [List.map_map] at hk
    obtain ⟨j, hj, rfl⟩ := List.mem_map.mp hk
    obtain ⟨w1, w2, w3⟩ := wordAt_ok (at_ := at_) (s0 := s0) (k := j) h2
    obtain ⟨m, em, m1, m2, m3⟩ := fix_ok w1 w2
    show GoodK (fixW (SX.S (wordAt st at_ s0 j))).cps.toList
    rw [em]
    have e : (SX.S m).cps.toList = m := by simp [SX.S]
    rw [e]
    refine ⟨m1, m2, by omega, fun z => fix_rest (SX.S (wordAt st at_ s0 j)) ?_⟩
    rw [em, z]
    exact rest_S.symm
  · rw [List.length_map, List.length_map, List.length_range]
    omega
theorem digit_len : ∀ k : Fin 10, (Str.ofString (toString ((k.val : Nat) : Int))).length ≤ 2 := by decide +kernel
theorem digit_len' {k : Int} (h0 : 0 ≤ k) (h1 : k < 10) : (Str.ofString (toString k)).length ≤ 2 := by
  have := digit_len ⟨k.toNat, by omega⟩
  have e : ((k.toNat : Nat) : Int) = k := by omega
  rw [show ((((⟨k.toNat, by omega⟩ : Fin 10).val : Nat) : Int)) = k from e] at this
  exact this
def kws (ks : List (List Nat)) : List V := ks.map fun k => V.str (SX.S k)
def spNames : Sp := fun vs H Q _ => ∃ (b r : Addr), vs = [.ref b] ∧ BagAt H b r ∧
  ∀ (p a1 a2 a3 : Addr) (k1 k2 : List (List Nat)) (n : Nat) (H' : Hp), But b H H' → BagAt H' b r → H' p = some (.lst [.ref a1, .ref a2, .ref a3]) → H' a1 = some (.lst (kws k1)) → H' a2 = some (.lst (kws k2)) →
    k1.length = 3 → k2.length = 3 → (∀ k ∈ k1, GoodK k) → (∀ k ∈ k2, GoodK k) → H p = none → H a1 = none → H a2 = none → Q (.ref p) H'
section
variable {P : Program} {w : World} {K : PySem.W.Frag} {mg : Str → Option Value} {base : Heap} {f : Addr} {fd : FuncData}
theorem ok_law_names (F : Fun K "_law_names" "_law_names" s_law_names f fd) (T : Txt mg) (c_law_take : Cal P w K mg base 1 "_law_take" spTake) (c_law_words : Cal P w K mg base 3 "_law_words" spWords) : FnOk P w K mg base CX0 4 f fd ["_law_bag_z"] spNames := by
  refine F.ok sc_law_names (fun vs H Q E h => ?_) (fun cdv A outer s H vs Q E hr h => ?_)
  · obtain ⟨b, r, rfl, _⟩ := h
    rfl
  · obtain ⟨b, r, rfl, hb, q⟩ := h
    refine ⟨_, (pss_one (ps_ret (pe_lst (pa_cons (pe_c c_law_words hr (by omega) (by rfl) (pa_cons (pv 0) (pa_cons pe_int (pa_cons pe_int pa_nil)))) (pa_cons (pe_c c_law_words hr (by omega) (by rfl) (pa_cons (pv 0) (pa_cons pe_int (pa_cons pe_int pa_nil)))) (pa_cons (pe_lst (pa_cons pe_str (pa_cons (pe_op (op_addX K) pe_str (pe_callTy call_str_int (by rfl) T.str (by decide +kernel) (pa_cons (pe_c c_law_take hr (by omega) (by rfl) (pa_cons (pv 0) (pa_cons pe_int pa_nil))) pa_nil))) pa_nil))) pa_nil)))))), ?_⟩
    change (_ : TS) _ [some (V.ref b)] _
    k_extra "rr"
    refine ⟨b, r, 3, 5, rfl, hb, by omega, by omega, by omega, by omega, fun ws1 a1 H1 hw1 bb1 hb1 n1 e1 nb1 => ?_⟩
    k_extra "rr"
    refine ⟨b, r, 3, 3, rfl, hb1, by omega, by omega, by omega, by omega, fun ws2 a2 H2 hw2 bb2 hb2 n2 e2 nb2 => ?_⟩
    k_extra "rr"
    refine ⟨b, r, 10, rfl, hb2, by omega, by omega, fun k H3 bb3 hb3 k0 k1 => ?_⟩
    k_extra "rr"
    have hd : (Str.ofString (toString k)).length ≤ 2 := digit_len' k0 k1
    refine ⟨k, rfl, (by have : k.natAbs < 2 ^ 10 := by omega
                        exact Nat.lt_of_le_of_lt (Nat.log2_le_self _) (by omega)), ?_⟩
    have z1 : (Str.ofString "t").length + (Str.ofString (toString k)).length ≤ sizeLine := by
      rw [sizeLine_eq, show (Str.ofString "t").length = 1 by decide +kernel]
      omega
    k_extra "rr"
    refine ⟨by k_extra "sz", fun a3 n3 => ?_⟩
    k_extra "rr"
    refine ⟨by k_extra "sz", fun p np => ?_⟩
    k_extra "rr"
    obtain ⟨k1, rfl, g1, l1⟩ := words_good (by omega) hw1 (by omega)
    obtain ⟨k2, rfl, g2, l2⟩ := words_good (by omega) hw2 (by omega)
    rw [List.map_map] at e1 e2
    have bb := ((bb1.trans bb2).trans bb3).trans (But.new (o := .lst [.str "", .str ("t" ++ Str.ofString (toString k))]) n3)
    exact q p a1 a2 a3 k1 k2 0 _ (bb.trans (But.new np)) ((hb3.new n3).new np) upd_same (same_upd np _ _ (same_upd n3 _ _ (bb3 _ _ (bb2 _ _ e1 nb1) nb1))) (same_upd np _ _ (same_upd n3 _ _ (bb3 _ _ e2 nb2))) (by omega) (by omega) g1 g2 (bb.free (hb3.new n3).ex np) n1 (bb1.free hb1.ex n2)
end

/-! ### _law_nested -/
def ivs (ms : List Int) : List V := ms.map V.int
/-- the rows (the last one first) and the forests that they hold -/
def RowsR (H : Hp) : List Addr → List Fo → Prop
  | [], [] => True
  | r :: rs, f :: fs => (∃ xs, H r = some (.lst xs) ∧ Items H f xs) ∧ RowsR H rs fs
  | _, _ => False
def sizes (fs : List Fo) : Nat := (fs.map Fo.size).sum
theorem RowsR.len {H : Hp} : ∀ {rs : List Addr} {fs : List Fo}, RowsR H rs fs → rs.length = fs.length
  | [], [], _ => rfl
  | _ :: _, _ :: _, h => by rw [List.length_cons, List.length_cons, h.2.len]
theorem RowsR.keep {H H' : Hp} (t : TupLe H H') : ∀ {rs : List Addr} {fs : List Fo}, (∀ r ∈ rs, ∀ xs, H r = some (.lst xs) → H' r = some (.lst xs)) → RowsR H rs fs → RowsR H' rs fs
  | [], [], _, _ => trivial
  | r :: rs, f :: fs, k, ⟨⟨xs, h, i⟩, q⟩ => ⟨⟨xs, k r (List.mem_cons_self ..) _ h, i.le t⟩, RowsR.keep t (fun r' m => k r' (List.mem_cons_of_mem _ m)) q⟩
theorem RowsR.mem {H : Hp} : ∀ {rs : List Addr} {fs : List Fo}, RowsR H rs fs → ∀ r ∈ rs, ∃ xs, H r = some (.lst xs)
  | _ :: _, _ :: _, ⟨⟨xs, h, _⟩, q⟩, r, m => by
    rcases List.mem_cons.mp m with rfl | m
    · exact ⟨xs, h⟩
    · exact q.mem r m
theorem RowsR.at {H : Hp} : ∀ {rs : List Addr} {fs : List Fo}, RowsR H rs fs → ∀ r ∈ rs, ∃ f xs, f ∈ fs ∧ H r = some (.lst xs) ∧ Items H f xs
  | _ :: _, _ :: _, ⟨⟨xs, h, i⟩, q⟩, r, m => by
    rcases List.mem_cons.mp m with rfl | m
    · exact ⟨_, xs, List.mem_cons_self .., h, i⟩
    · obtain ⟨f, ys, h1, h2, h3⟩ := q.at r m
      exact ⟨f, ys, List.mem_cons_of_mem _ h1, h2, h3⟩
theorem sizes_mem {f : Fo} : ∀ {fs : List Fo}, f ∈ fs → f.size ≤ sizes fs
  | g :: r, m => by
    have e : sizes (g :: r) = g.size + sizes r := rfl
    rcases List.mem_cons.mp m with rfl | m
    · omega
    · have := sizes_mem m
      omega
theorem ints_ne {K : PySem.W.Frag} {H : Hp} : ∀ (os : List Int), DpAll K H (ivs os) (os.map PyData.int)
  | [] => .nil
  | i :: r => .cons (.int i) (ints_ne r)
theorem lay_ints : ∀ os : List Int, PyData.canLayAll0 (os.map PyData.int) = true
  | [] => by simp [PyData.canLayAll0]
  | i :: r => by
    rw [List.map_cons]
    unfold PyData.canLayAll0
    rw [lay_ints r]
    simp [PyData.canLay0]
theorem depth_ints : ∀ os : List Int, PyData.depthAll (os.map PyData.int) = 0
  | [] => by simp [PyData.depthAll]
  | i :: r => by
    rw [List.map_cons]
    unfold PyData.depthAll
    rw [depth_ints r]
    simp [PyData.depth]
theorem shaped_ints (os : List Int) : SeqAt.shaped (.list (os.map PyData.int)) = true := by
  unfold SeqAt.shaped
  have h1 : PyData.canLay0 (.list (os.map PyData.int)) = true := by
    unfold PyData.canLay0
    exact lay_ints os
  have h2 : PyData.depth (.list (os.map PyData.int)) = 1 := by
    unfold PyData.depth
    rw [depth_ints]
  rw [h1, h2]
  rfl
theorem shaped_nilL : SeqAt.shaped (.list []) = true := by decide +kernel
theorem shaped_nilT : SeqAt.shaped (.tuple []) = true := by decide +kernel
theorem eqv_nilL : ∀ ds : List PyData, PyData.eqv (.list ds) (.list []) = ds.isEmpty
  | [] => by simp [PyData.eqv, PyData.eqvAll]
  | d :: r => by simp [PyData.eqv, PyData.eqvAll]
theorem eqv_nilT : ∀ ds : List PyData, PyData.eqv (.tuple ds) (.tuple []) = ds.isEmpty
  | [] => by simp [PyData.eqv, PyData.eqvAll]
  | d :: r => by simp [PyData.eqv, PyData.eqvAll]
theorem emp_map {α β : Type} (f : α → β) (l : List α) : (l.map f).isEmpty = l.isEmpty := by cases l <;> rfl
structure NI (H : Hp) (R O : Addr) (p : List Nat → List Nat → Prop) (i : Nat) (osr : List Int) (rs : List Addr) (fs : List Fo) (H' : Hp) : Prop where
  same : Same H H'
  fR : H R = none
  fO : H O = none
  hR : H' R = some (.lst (rs.reverse.map V.ref))
  hO : H' O = some (.lst (ivs osr.reverse))
  rows : RowsR H' rs fs
  len : rs.length = osr.length + 1
  nd : rs.Nodup
  nR : R ∉ rs
  nO : O ∉ rs
  RO : R ≠ O
  fresh : ∀ r ∈ rs, H r = none
  sz : 2 * sizes fs + osr.length ≤ i
  all : ∀ f ∈ fs, f.All p
theorem NI.new {H : Hp} {R O : Addr} {p : List Nat → List Nat → Prop} {i : Nat} {osr : List Int} {rs : List Addr} {fs : List Fo} {H' : Hp} {x : Addr} {o : HO} (h : NI H R O p i osr rs fs H') (n : H' x = none) : NI H R O p i osr rs fs (upd H' x o) :=
  { h with
    same := h.same.trans (same_upd n)
    hR := same_upd n _ _ h.hR
    hO := same_upd n _ _ h.hO
    rows := h.rows.keep (TupLe.new n) fun r _ xs e => same_upd n _ _ e }
theorem NI.open {H : Hp} {R O : Addr} {p : List Nat → List Nat → Prop} {i : Nat} {osr : List Int} {rs : List Addr} {fs : List Fo} {H' : Hp} {e : Addr} {mk : Int} (h : NI H R O p i osr rs fs H') (n : upd H' O (.lst (ivs osr.reverse ++ [.int mk])) e = none) :
    NI H R O p (i + 1) (mk :: osr) (e :: rs) (.nil :: fs) (upd (upd (upd H' O (.lst (ivs osr.reverse ++ [.int mk]))) e (.lst [])) R (.lst (rs.reverse.map V.ref ++ [.ref e]))) := by
  have n1 : H' e = none := un0 n
  have eO : e ≠ O := fun z => by
    rw [z, upd_same] at n
    cases n
  have eR : e ≠ R := (ne_of_none h.hR n1).symm
  have er : e ∉ rs := fun m => by
    obtain ⟨xs, q⟩ := h.rows.mem e m
    rw [n1] at q
    cases q
  have he : H e = none := by
    cases q : H e with
    | none => rfl
    | some o =>
      rw [h.same _ _ q] at n1
      cases n1
  have t1 : TupLe H' (upd H' O (.lst (ivs osr.reverse ++ [.int mk]))) := TupLe.lst h.hO
  have t2 := t1.trans (TupLe.new (o := .lst []) n)
  have hR2 : upd (upd H' O (.lst (ivs osr.reverse ++ [.int mk]))) e (.lst []) R = some (.lst (rs.reverse.map V.ref)) := same_upd n _ _ (upd2 h.RO h.hR)
  have t3 := t2.trans (TupLe.lst (m := rs.reverse.map V.ref ++ [.ref e]) hR2)
  refine {
    same := same_mut ((same_mut h.same h.fO).trans (same_upd n)) h.fR
    fR := h.fR
    fO := h.fO
    hR := ?_
    hO := ?_
    rows := ⟨⟨[], ?_, rfl⟩, h.rows.keep t3 fun r m xs q => ?_⟩
    len := (by rw [List.length_cons, List.length_cons, h.len])
    nd := List.nodup_cons.mpr ⟨er, h.nd⟩
    nR := fun m => ?_
    nO := fun m => ?_
    RO := h.RO
    fresh := fun r m => ?_
    sz := ?_
    all := fun f m => ?_ }
  · rw [upd_same, List.reverse_cons, List.map_append]
    rfl
  · rw [upd_ne h.RO.symm, upd_ne eO.symm, upd_same, List.reverse_cons]
    unfold ivs
    rw [List.map_append]
    rfl
  · rw [upd_ne eR, upd_same]
  · have mR : r ≠ R := fun z => h.nR (z ▸ m)
    have mO : r ≠ O := fun z => h.nO (z ▸ m)
    have me : r ≠ e := fun z => er (z ▸ m)
    rw [upd_ne mR, upd_ne me, upd_ne mO]
    exact q
  · rcases List.mem_cons.mp m with z | m
    · exact eR z.symm
    · exact h.nR m
  · rcases List.mem_cons.mp m with z | m
    · exact eO z.symm
    · exact h.nO m
  · rcases List.mem_cons.mp m with rfl | m
    · exact he
    · exact h.fresh r m
  · have := h.sz
    show 2 * (0 + sizes fs) + (osr.length + 1) ≤ i + 1
    omega
  · rcases List.mem_cons.mp m with rfl | m
    · trivial
    · exact h.all f m
theorem NI.close {H : Hp} {R O : Addr} {p : List Nat → List Nat → Prop} {i : Nat} {o : Int} {os : List Int} {rl rp : Addr} {rest : List Addr} {fl fp : Fo} {fr : List Fo} {H' : Hp} {q pn : Addr} {xl xp : List V} {k t : List Nat} (h : NI H R O p i (o :: os) (rl :: rp :: rest) (fl :: fp :: fr) H')
    (hl : H' rl = some (.lst xl)) (hp : H' rp = some (.lst xp)) (il : Items H' fl xl) (ip : Items H' fp xp) (hkt : p k t)
    (nq : upd (upd H' O (.lst (ivs os.reverse))) R (.lst ((rp :: rest).reverse.map V.ref)) q = none)
    (npn : upd (upd (upd H' O (.lst (ivs os.reverse))) R (.lst ((rp :: rest).reverse.map V.ref))) q (.tup xl) pn = none) :
    NI H R O p (i + 1) os (rp :: rest) (fp.snoc k t fl :: fr) (upd (upd (upd (upd (upd H' O (.lst (ivs os.reverse))) R (.lst ((rp :: rest).reverse.map V.ref))) q (.tup xl)) pn (.tup [.str (SX.S k), .str (SX.S t), .ref q])) rp (.lst (xp ++ [.ref pn]))) := by
  have nd := List.nodup_cons.mp h.nd
  have nd2 := List.nodup_cons.mp nd.2
  have mp_ : rp ∈ rl :: rp :: rest := List.mem_cons_of_mem _ (List.mem_cons_self ..)
  have pR : rp ≠ R := fun z => h.nR (z ▸ mp_)
  have pO : rp ≠ O := fun z => h.nO (z ▸ mp_)
  have t1 : TupLe H' (upd H' O (.lst (ivs os.reverse))) := TupLe.lst h.hO
  have hR1 : upd H' O (.lst (ivs os.reverse)) R = some (.lst ((rl :: rp :: rest).reverse.map V.ref)) := upd2 h.RO h.hR
  have t2 := t1.trans (TupLe.lst (m := (rp :: rest).reverse.map V.ref) hR1)
  have t3 := t2.trans (TupLe.new (o := .tup xl) nq)
  have t4 := t3.trans (TupLe.new (o := .tup [.str (SX.S k), .str (SX.S t), .ref q]) npn)
  have hp2 : upd (upd H' O (.lst (ivs os.reverse))) R (.lst ((rp :: rest).reverse.map V.ref)) rp = some (.lst xp) := upd2 pR (upd2 pO hp)
  have hp4 := same_upd (o := .tup [.str (SX.S k), .str (SX.S t), .ref q]) npn _ _ (same_upd (o := .tup xl) nq _ _ hp2)
  have t5 := t4.trans (TupLe.lst (m := xp ++ [.ref pn]) hp4)
  have t45 : TupLe _ _ := TupLe.lst (m := xp ++ [.ref pn]) hp4
  have hq4 : upd (upd (upd (upd H' O (.lst (ivs os.reverse))) R (.lst ((rp :: rest).reverse.map V.ref))) q (.tup xl)) pn (.tup [.str (SX.S k), .str (SX.S t), .ref q]) q = some (.tup xl) := same_upd npn _ _ upd_same
  obtain ⟨_, _, hrows⟩ := h.rows
  have qO : H O = none := h.fO
  have keepR : ∀ {c : Addr} {u : HO}, c ≠ rp → upd (upd H' O (.lst (ivs os.reverse))) R (.lst ((rp :: rest).reverse.map V.ref)) c = some u →
      upd (upd (upd (upd (upd H' O (.lst (ivs os.reverse))) R (.lst ((rp :: rest).reverse.map V.ref))) q (.tup xl)) pn (.tup [.str (SX.S k), .str (SX.S t), .ref q])) rp (.lst (xp ++ [.ref pn])) c = some u := fun nc e => upd2 nc (same_upd npn _ _ (same_upd nq _ _ e))
  refine {
    same := same_mut (((same_mut (same_mut h.same h.fO) h.fR).trans (same_upd nq)).trans (same_upd npn)) (h.fresh rp mp_)
    fR := h.fR
    fO := h.fO
    hR := keepR pR.symm upd_same
    hO := keepR pO.symm (upd2 h.RO.symm upd_same)
    rows := ⟨⟨xp ++ [.ref pn], upd_same, Items.snoc (t45 _ _ upd_same) (t45 _ _ hq4) (il.le t5) (ip.le t5)⟩, hrows.keep t5 fun r m xs e => ?_⟩
    len := ?_
    nd := nd.2
    nR := fun m => h.nR (List.mem_cons_of_mem _ m)
    nO := fun m => h.nO (List.mem_cons_of_mem _ m)
    RO := h.RO
    fresh := fun r m => h.fresh r (List.mem_cons_of_mem _ m)
    sz := ?_
    all := fun f m => ?_ }
  · have m2 : r ∈ rl :: rp :: rest := List.mem_cons_of_mem _ (List.mem_cons_of_mem _ m)
    exact keepR (fun z => nd2.1 (z ▸ m)) (upd2 (fun z => h.nR (z ▸ m2)) (upd2 (fun z => h.nO (z ▸ m2)) e))
  · have := h.len
    rw [List.length_cons, List.length_cons, List.length_cons] at this
    rw [List.length_cons]
    omega
  · have := h.sz
    have e : sizes (fl :: fp :: fr) = fl.size + (fp.size + sizes fr) := rfl
    have e2 : sizes (fp.snoc k t fl :: fr) = (fp.snoc k t fl).size + sizes fr := rfl
    rw [e, List.length_cons] at this
    rw [e2, Fo.size_snoc]
    omega
  · rcases List.mem_cons.mp m with rfl | m
    · exact Fo.all_snoc hkt (h.all fl (List.mem_cons_self ..)) (h.all fp (List.mem_cons_of_mem _ (List.mem_cons_self ..)))
    · exact h.all f (List.mem_cons_of_mem _ (List.mem_cons_of_mem _ m))
def spNested : Sp := fun vs H Q _ => ∃ (st m so tx : Addr) (ms : List Int) (ks ts : List (List Nat)) (p : List Nat → List Nat → Prop), vs = [.ref st] ∧ H st = some (.lst [.ref m, .ref so, .ref tx]) ∧ H m = some (.lst (ivs ms)) ∧ H so = some (.lst (kws ks)) ∧ H tx = some (.lst (kws ts)) ∧
  ms.length ≤ 100000 ∧ (∀ x ∈ ms, 0 ≤ x ∧ x < 2 ^ 62 ∧ ∃ k t, ks[x.toNat]? = some k ∧ ts[x.toNat]? = some t ∧ p k t) ∧
  ∀ (f : Fo) (a : Addr) (H' : Hp), Same H H' → Doc H' f a → 2 * f.size ≤ ms.length → f.All p → Q (.ref a) H'
section
variable {P : Program} {w : World} {K : PySem.W.Frag} {mg : Str → Option Value} {base : Heap} {f : Addr} {fd : FuncData}
theorem ok_law_nested (F : Fun K "_law_nested" "_law_nested" s_law_nested f fd) (T : Txt mg) : FnOk P w K mg base CX0 1 f fd ["_law_state"] spNested := by
  refine F.ok sc_law_nested (fun vs H Q E h => ?_) (fun cdv A outer s H vs Q E hr h => ?_)
  · obtain ⟨st, m, so, tx, ms, ks, ts, p, rfl, _⟩ := h
    rfl
  · obtain ⟨st, m, so, tx, ms, ks, ts, p, rfl, hst, hm, hso, htx, hl, hms, q⟩ := h
    refine ⟨_, (pss_cons (ps_par (i := 1) (j := 2) (by rfl) sc_law_nested.nd rfl rfl (by decide) rfl rfl (pa_cons (pe_lst (pa_cons (pe_lst pa_nil) pa_nil)) (pa_cons (pe_lst pa_nil) pa_nil)) (by rfl))
      (pss_cons (ps_for PassesOwn.never rfl (pi_listX K (pe_ix (ix_X K) (pv 0) pe_int (fun _ _ => rfl))) (pg_name (i := 3) sc_law_nested.nd rfl (.inl rfl)) (pss_one (ps_if (PW.pt (pw_and (pt_cmpR (op_neX K hr) (pv 2) (pe_lst pa_nil) (nomark _)) (pw_and1 (pt_cmpR (op_eqX K hr) (pe_ix (ix_X K) (pv 2) (pe_un un_neg pe_int) (fun _ _ => rfl)) (pv 3) (nomark _))))) (pss_cons (ps_expr (pe_bm0X K (pe_bm0 PySem.F.plainAttrs_list PySem.F.slot_list_pop PySem.F.type_list_pop mt_pop (pv 2))))
      (pss_cons (ps_set (i := 4) sc_law_nested.nd rfl (.inl rfl) (pe_callTy (cr_tuple K) (by rfl) T.tuple (by decide +kernel) (pa_cons (pe_bm0X K (pe_bm0 PySem.F.plainAttrs_list PySem.F.slot_list_pop PySem.F.type_list_pop mt_pop (pv 1))) pa_nil)))
      (pss_one (ps_expr (pe_bmX K (pe_bm PySem.F.plainAttrs_list PySem.F.slot_list_append PySem.F.type_list_append mt_append (pe_ix (ix_X K) (pv 1) (pe_un un_neg pe_int) (fun _ _ => rfl)) (pa_cons (pe_tup (pa_cons (pe_ix (ix_X K) (pe_ix (ix_X K) (pv 0) pe_int (fun _ _ => rfl)) (pv 3) (fun _ _ => rfl)) (pa_cons (pe_ix (ix_X K) (pe_ix (ix_X K) (pv 0) pe_int (fun _ _ => rfl)) (pv 3) (fun _ _ => rfl)) (pa_cons (pv 4) pa_nil)))) pa_nil))))))) (pss_cons (ps_expr (pe_bmX K (pe_bm PySem.F.plainAttrs_list PySem.F.slot_list_append PySem.F.type_list_append mt_append (pv 2) (pa_cons (pv 3) pa_nil))))
      (pss_one (ps_expr (pe_bmX K (pe_bm PySem.F.plainAttrs_list PySem.F.slot_list_append PySem.F.type_list_append mt_append (pv 1) (pa_cons (pe_lst pa_nil) pa_nil)))))))))
      (pss_one (ps_ret (pe_callTy (cr_tuple K) (by rfl) T.tuple (by decide +kernel) (pa_cons (pe_ix (ix_X K) (pv 1) pe_int (fun _ _ => rfl)) pa_nil)))))), ?_⟩
    change (_ : TS) _ [some (V.ref st), none, none, none, none] _
    k_extra "rr"
    refine ⟨by k_extra "sz", fun r0 nr0 => ?_⟩
    k_extra "rr"
    refine ⟨by k_extra "sz", fun R nR => ?_⟩
    k_extra "rr"
    refine ⟨by k_extra "sz", fun O nO => ?_⟩
    k_extra "rr"
    refine ixL (SqL.of (same_upd nO _ _ (same_upd nR _ _ (same_upd nr0 _ _ hst)))) rfl ?_
    have i0 : NI H R O p 0 [] [r0] [.nil] (upd (upd (upd H r0 (.lst [])) R (.lst [.ref r0])) O (.lst [])) := {
      same := ((same_upd nr0).trans (same_upd nR)).trans (same_upd nO)
      fR := un0 nR
      fO := un0 (un0 nO)
      hR := upd2 (ne_of_none upd_same nO) upd_same
      hO := upd_same
      rows := ⟨⟨[], same_upd nO _ _ (same_upd nR _ _ upd_same), rfl⟩, trivial⟩
      len := rfl
      nd := (by simp)
      nR := fun z => ne_of_none upd_same nR (List.mem_singleton.mp z).symm
      nO := fun z => ne_of_none (same_upd nR _ _ upd_same) nO (List.mem_singleton.mp z).symm
      RO := ne_of_none upd_same nO
      fresh := fun r z => (by rw [List.mem_singleton.mp z]; exact nr0)
      sz := Nat.le_refl _
      all := fun f z => (by rw [List.mem_singleton.mp z]; trivial) }
    refine ⟨m, rfl, ⟨_, SqL.of (i0.same _ _ hm)⟩, for_list (K := K) (a := m) (xs := ivs ms) (fun i σ H' => ∃ (rs : List Addr) (fs : List Fo) (osr : List Int) (v3 v4 : Option V), σ = [some (.ref st), some (.ref R), some (.ref O), v3, v4] ∧ NI H R O p i osr rs fs H')
      ⟨_, _, _, _, _, rfl, i0⟩ (fun i σ H' _ ⟨_, _, _, _, _, _, I⟩ => SqL.of (I.same _ _ hm)) ?_ ?_⟩
    · rintro i x σ H' hx ⟨rs, fs, osr, v3, v4, rfl, I⟩
      obtain ⟨mk, hmk, rfl⟩ := map_at hx
      obtain ⟨mk0, mk1, k, t, ek, et, hkt⟩ := hms mk (List.mem_of_getElem? hmk)
      k_extra "rr"
      refine ⟨by k_extra "sz", fun e0 ne0 => ?_⟩
      k_extra "rr"
      have I1 := I.new (o := .lst []) ne0
      refine neDd (d := .list (osr.reverse.map .int)) (e := .list []) (.lst (SqL.of I1.hO) (ints_ne _)) (.lst (SqL.of upd_same) .nil) (shaped_ints _) shaped_nilL ?_
      rw [eqv_nilL, emp_map]
      clear I
      have il : i < ms.length := (List.getElem?_eq_some_iff.mp hmk).1
      have hsz := I1.sz
      have hlen := I1.len
      rcases osr with _ | ⟨o, os⟩
      · rw [show (!([] : List Int).reverse.isEmpty) = false from rfl]
        rw [List.length_nil] at hsz hlen
        k_extra "rr"
        refine ⟨tyvL I1.hO, ?_⟩
        k_extra "rr"
        refine app I1.hO (by unfold ivs; rw [List.length_map, List.length_reverse, sizeLine_eq]; first | omega | (rw [List.length_nil]; omega) | (rw [List.length_cons]; omega)) ?_
        k_extra "rr"
        refine ⟨tyvL (upd2 I1.RO I1.hR), ?_⟩
        k_extra "rr"
        refine ⟨by k_extra "sz", fun e ne => ?_⟩
        k_extra "rr"
        refine app (same_upd ne _ _ (upd2 I1.RO I1.hR)) (by rw [List.length_map, List.length_reverse, sizeLine_eq]; omega) ?_
        k_extra "rr"
        exact ⟨_, _, _, _, _, rfl, I1.open ne⟩
      · rw [show (!(o :: os).reverse.isEmpty) = true by simp]
        rw [List.length_cons] at hsz hlen
        k_extra "rr"
        have hO2 : upd H' e0 (.lst []) O = some (.lst (ivs os.reverse ++ [.int o])) := by
          have := I1.hO
          rw [List.reverse_cons] at this
          unfold ivs at this
          rw [List.map_append] at this
          exact this
        refine ixL (SqL.of hO2) atI_last ?_
        k_extra "rr"
        by_cases z : o = mk
        · subst z
          rw [decide_eq_true rfl]
          k_extra "rr"
          refine ⟨tyvL hO2, popL hO2 ?_⟩
          k_extra "rr"
          obtain ⟨rl, rp, rest, rfl⟩ : ∃ rl rp rest, rs = rl :: rp :: rest := by
            match rs, hlen with
            | a :: b :: r, _ => exact ⟨a, b, r, rfl⟩
          obtain ⟨fl, fp, fr, rfl⟩ : ∃ fl fp fr, fs = fl :: fp :: fr := by
            have := I1.rows.len
            match fs, this with
            | a :: b :: r, _ => exact ⟨a, b, r, rfl⟩
          obtain ⟨⟨xl, hxl, ixl⟩, ⟨xp, hxp, ixp⟩, _⟩ := id I1.rows
          have mp_ : rp ∈ rl :: rp :: rest := List.mem_cons_of_mem _ (List.mem_cons_self ..)
          have ml_ : rl ∈ rl :: rp :: rest := List.mem_cons_self ..
          have pR : rp ≠ R := fun z => I1.nR (z ▸ mp_)
          have pO : rp ≠ O := fun z => I1.nO (z ▸ mp_)
          have lR : rl ≠ R := fun z => I1.nR (z ▸ ml_)
          have lO : rl ≠ O := fun z => I1.nO (z ▸ ml_)
          have hR1 : upd (upd H' e0 (.lst [])) O (.lst (ivs os.reverse)) R = some (.lst ((rp :: rest).reverse.map V.ref ++ [V.ref rl])) := by
            have := I1.hR
            rw [List.reverse_cons, List.map_append] at this
            exact upd2 I1.RO this
          refine ⟨tyvL hR1, popL hR1 ?_⟩
          k_extra "rr"
          refine tupL (SqL.of (upd2 lR (upd2 lO hxl))) fun q0 nq => ?_
          k_extra "rr"
          have hR3 : upd (upd (upd (upd H' e0 (.lst [])) O (.lst (ivs os.reverse))) R (.lst ((rp :: rest).reverse.map V.ref))) q0 (.tup xl) R = some (.lst (rest.reverse.map V.ref ++ [V.ref rp])) := by
            rw [same_upd nq _ _ upd_same, List.reverse_cons, List.map_append]
            rfl
          refine ixL (SqL.of hR3) atI_last ?_
          have hp3 := same_upd (o := .tup xl) nq _ _ (upd2 (o := .lst ((rp :: rest).reverse.map V.ref)) pR (upd2 (o := .lst (ivs os.reverse)) pO hxp))
          refine ⟨tyvL hp3, ?_⟩
          k_extra "rr"
          have sm : Same H (upd (upd (upd (upd H' e0 (.lst [])) O (.lst (ivs os.reverse))) R (.lst ((rp :: rest).reverse.map V.ref))) q0 (.tup xl)) := (same_mut (same_mut I1.same I1.fO) I1.fR).trans (same_upd nq)
          refine ixL (SqL.of (sm _ _ hst)) rfl ?_
          k_extra "rr"
          have ek' : atI (kws ks) o = some (.str (SX.S k)) := by
            have e := atI_nat (xs := kws ks) (j := o.toNat) (v := .str (SX.S k)) (by unfold kws; rw [List.getElem?_map, ek]; rfl)
            rw [show ((o.toNat : Nat) : Int) = o by omega] at e
            exact e
          have et' : atI (kws ts) o = some (.str (SX.S t)) := by
            have e := atI_nat (xs := kws ts) (j := o.toNat) (v := .str (SX.S t)) (by unfold kws; rw [List.getElem?_map, et]; rfl)
            rw [show ((o.toNat : Nat) : Int) = o by omega] at e
            exact e
          refine ixL (SqL.of (sm _ _ hso)) ek' ?_
          k_extra "rr"
          refine ixL (SqL.of (sm _ _ hst)) rfl ?_
          k_extra "rr"
          refine ixL (SqL.of (sm _ _ htx)) et' ?_
          k_extra "rr"
          refine ⟨by k_extra "sz", fun pn npn => ?_⟩
          k_extra "rr"
          have hlp := ixp.len
          have hfp : fp.len ≤ fp.size := Fo.len_le fp
          have hss : sizes (fl :: fp :: fr) = fl.size + (fp.size + sizes fr) := rfl
          refine app (same_upd npn _ _ hp3) (by rw [sizeLine_eq]; omega) ?_
          k_extra "rr"
          exact ⟨_, _, _, _, _, rfl, I1.close hxl hxp ixl ixp hkt nq npn⟩
        · rw [decide_eq_false z]
          k_extra "rr"
          refine ⟨tyvL I1.hO, ?_⟩
          k_extra "rr"
          refine app I1.hO (by unfold ivs; rw [List.length_map, List.length_reverse, sizeLine_eq]; first | omega | (rw [List.length_nil]; omega) | (rw [List.length_cons]; omega)) ?_
          k_extra "rr"
          refine ⟨tyvL (upd2 I1.RO I1.hR), ?_⟩
          k_extra "rr"
          refine ⟨by k_extra "sz", fun e ne => ?_⟩
          k_extra "rr"
          refine app (same_upd ne _ _ (upd2 I1.RO I1.hR)) (by rw [List.length_map, List.length_reverse, sizeLine_eq]; omega) ?_
          k_extra "rr"
          exact ⟨_, _, _, _, _, rfl, I1.open ne⟩
    · rintro σ H' ⟨rs, fs, osr, v3, v4, rfl, I⟩
      k_extra "rr"
      have hlen := I.len
      obtain ⟨g, r0', hg⟩ : ∃ g r0', rs.reverse = g :: r0' := by
        cases e : rs.reverse with
        | nil =>
          rw [List.reverse_eq_nil_iff.mp e] at hlen
          cases hlen
        | cons a l => exact ⟨a, l, rfl⟩
      have hR2 := I.hR
      rw [hg, List.map_cons] at hR2
      refine ixL (SqL.of hR2) (atI_nat (j := 0) rfl) ?_
      obtain ⟨fg, xs, hfg, hx, ix⟩ := I.rows.at g (by rw [← List.mem_reverse, hg]; exact List.mem_cons_self ..)
      refine tupL (SqL.of hx) fun a na => ?_
      have hsz := I.sz
      unfold ivs at hsz
      rw [List.length_map] at hsz
      have hs2 := sizes_mem hfg
      exact q fg a _ (I.same.trans (same_upd na)) ⟨xs, upd_same, ix.le (TupLe.new na)⟩ (by omega) (I.all fg hfg)
end

/-! ### _law_document -/
def spDocument : Sp := fun vs H Q _ => ∃ (b r ka : Addr) (many : Int) (ks : List (List Nat)), vs = [.ref b, .ref ka, .int many] ∧ BagAt H b r ∧ ka ≠ b ∧ H ka = some (.lst (kws ks)) ∧ 1 ≤ ks.length ∧ ks.length ≤ 1000 ∧ 0 ≤ many ∧ many ≤ 1000 ∧
  ∀ (f : Fo) (a : Addr) (H' : Hp), But b H H' → BagAt H' b r → Doc H' f a → (f.size : Int) ≤ many → f.All (fun k t => k ∈ ks ∧ t.length ≤ 3 ∧ ∀ c ∈ t, c ∈ signsL) → Q (.ref a) H'
structure DI (H : Hp) (b r M O S X : Addr) (ks : List (List Nat)) (j a c : Nat) (ms osr : List Int) (sk tk : List (List Nat)) (H' : Hp) : Prop where
  b0 : BagAt H b r
  but : But b H H'
  bag : BagAt H' b r
  fM : H M = none
  fO : H O = none
  fS : H S = none
  fX : H X = none
  hM : H' M = some (.lst (ivs ms))
  hO : H' O = some (.lst (ivs osr.reverse))
  hS : H' S = some (.lst (kws sk))
  hX : H' X = some (.lst (kws tk))
  MO : M ≠ O
  MS : M ≠ S
  MX : M ≠ X
  OS : O ≠ S
  OX : O ≠ X
  SX_ : S ≠ X
  cnt : ms.length + osr.length = 2 * j
  la : sk.length = a
  lc : tk.length = c
  om : ∀ x ∈ ms, 0 ≤ x ∧ x < j
  oo : ∀ x ∈ osr, 0 ≤ x ∧ x < j
  ok : ∀ k ∈ sk, k ∈ ks
  ot : ∀ t ∈ tk, t.length ≤ 3 ∧ ∀ c ∈ t, c ∈ signsL
section
variable {H H' H2 : Hp} {b r M O S X x : Addr} {ks sk tk : List (List Nat)} {j a c : Nat} {ms osr os : List Int} {o : Int} {u : HO}
theorem DI.bagged (h : DI H b r M O S X ks j a c ms osr sk tk H') (bb : But b H' H2) (hb : BagAt H2 b r) : DI H b r M O S X ks j a c ms osr sk tk H2 :=
  { h with
    but := h.but.trans bb
    bag := hb
    hM := bb _ _ h.hM (h.b0.ne_none h.fM).1
    hO := bb _ _ h.hO (h.b0.ne_none h.fO).1
    hS := bb _ _ h.hS (h.b0.ne_none h.fS).1
    hX := bb _ _ h.hX (h.b0.ne_none h.fX).1 }
theorem DI.new (h : DI H b r M O S X ks j a c ms osr sk tk H') (n : H' x = none) : DI H b r M O S X ks j a c ms osr sk tk (upd H' x u) :=
  h.bagged (But.new n) (h.bag.new n)
/-- what is new to the start may change -/
theorem bag_mut {m : List V} {l : List V} (b0 : BagAt H b r) (fx : H x = none) (hb : BagAt H' b r) (hx : H' x = some (.lst l)) : BagAt (upd H' x (.lst m)) b r := by
  obtain ⟨n1, n2⟩ := b0.ne_none fx
  obtain ⟨ns, i, c, m, h1, h2, h3⟩ := hb
  exact ⟨ns, i, c, m, upd2 n1.symm h1, upd2 n2.symm h2, h3⟩
theorem DI.move (h : DI H b r M O S X ks j a c ms (o :: os) sk tk H') : DI H b r M O S X ks j a c (ms ++ [o]) os sk tk (upd (upd H' O (.lst (ivs os.reverse))) M (.lst (ivs ms ++ [.int o]))) :=
  { h with
    but := (h.but.mutNew h.fO).mutNew h.fM
    bag := bag_mut h.b0 h.fM (bag_mut h.b0 h.fO h.bag h.hO) (upd2 h.MO h.hM)
    hM := (by rw [upd_same]; unfold ivs; rw [List.map_append]; rfl)
    hO := upd2 h.MO.symm upd_same
    hS := upd2 h.MS.symm (upd2 h.OS.symm h.hS)
    hX := upd2 h.MX.symm (upd2 h.OX.symm h.hX)
    cnt := (by
      have := h.cnt
      rw [List.length_cons] at this
      rw [List.length_append, List.length_singleton]
      omega)
    om := fun x hx => (by
      rcases List.mem_append.mp hx with hx | hx
      · exact h.om x hx
      · rw [List.mem_singleton.mp hx]
        exact h.oo o (List.mem_cons_self ..))
    oo := fun x hx => h.oo x (List.mem_cons_of_mem _ hx) }
theorem DI.mark (h : DI H b r M O S X ks j a c ms osr sk tk H') (ho : o = (j : Int)) : DI H b r M O S X ks (j + 1) a c (ms ++ [o]) (o :: osr) sk tk (upd (upd H' M (.lst (ivs ms ++ [.int o]))) O (.lst (ivs osr.reverse ++ [.int o]))) :=
  { h with
    but := (h.but.mutNew h.fM).mutNew h.fO
    bag := bag_mut h.b0 h.fO (bag_mut h.b0 h.fM h.bag h.hM) (upd2 h.MO.symm h.hO)
    hM := (by rw [upd_ne h.MO, upd_same]; unfold ivs; rw [List.map_append]; rfl)
    hO := (by rw [upd_same]; unfold ivs; rw [List.reverse_cons, List.map_append]; rfl)
    hS := upd2 h.OS.symm (upd2 h.MS.symm h.hS)
    hX := upd2 h.OX.symm (upd2 h.MX.symm h.hX)
    cnt := (by
      have := h.cnt
      rw [List.length_append, List.length_singleton, List.length_cons]
      omega)
    om := fun x hx => (by
      rcases List.mem_append.mp hx with hx | hx
      · have := h.om x hx
        omega
      · rw [List.mem_singleton.mp hx]
        omega)
    oo := fun x hx => (by
      rcases List.mem_cons.mp hx with hx | hx
      · rw [hx]
        omega
      · have := h.oo x hx
        omega) }
theorem DI.kind {k : List Nat} (h : DI H b r M O S X ks j a c ms osr sk tk H') (hk : k ∈ ks) : DI H b r M O S X ks j (a + 1) c ms osr (sk ++ [k]) tk (upd H' S (.lst (kws sk ++ [.str (SX.S k)]))) :=
  { h with
    but := h.but.mutNew h.fS
    bag := bag_mut h.b0 h.fS h.bag h.hS
    hM := upd2 h.MS h.hM
    hO := upd2 h.OS h.hO
    hS := (by rw [upd_same]; unfold kws; rw [List.map_append]; rfl)
    hX := upd2 h.SX_.symm h.hX
    la := (by rw [List.length_append, List.length_singleton, h.la])
    ok := fun x hx => (by
      rcases List.mem_append.mp hx with hx | hx
      · exact h.ok x hx
      · rw [List.mem_singleton.mp hx]
        exact hk) }
theorem DI.text {t : List Nat} (h : DI H b r M O S X ks j a c ms osr sk tk H') (ht : t.length ≤ 3 ∧ ∀ c ∈ t, c ∈ signsL) : DI H b r M O S X ks j a (c + 1) ms osr sk (tk ++ [t]) (upd H' X (.lst (kws tk ++ [.str (SX.S t)]))) :=
  { h with
    but := h.but.mutNew h.fX
    bag := bag_mut h.b0 h.fX h.bag h.hX
    hM := upd2 h.MX h.hM
    hO := upd2 h.OX h.hO
    hS := upd2 h.SX_ h.hS
    hX := (by rw [upd_same]; unfold kws; rw [List.map_append]; rfl)
    lc := (by rw [List.length_append, List.length_singleton, h.lc])
    ot := fun x hx => (by
      rcases List.mem_append.mp hx with hx | hx
      · exact h.ot x hx
      · rw [List.mem_singleton.mp hx]
        exact ht) }
end
section
variable {P : Program} {w : World} {K : PySem.W.Frag} {mg : Str → Option Value} {base : Heap} {f : Addr} {fd : FuncData}
theorem ok_law_document (F : Fun K "_law_document" "_law_document" s_law_document f fd) (T : Txt mg) (c_law_take : Cal P w K mg base 1 "_law_take" spTake) (c_law_of : Cal P w K mg base 2 "_law_of" (spOf K)) (c_law_sign_text : Cal P w K mg base 2 "_law_sign_text" spSign) (c_law_nested : Cal P w K mg base 1 "_law_nested" spNested) :
    FnOk P w K mg base CX0 3 f fd ["_law_bag_z", "_law_kinds", "_law_many"] spDocument := by
  refine F.ok sc_law_document (fun vs H Q E h => ?_) (fun cdv A outer s H vs Q E hr h => ?_)
  · obtain ⟨b, r, ka, many, ks, rfl, _⟩ := h
    rfl
  · obtain ⟨b, r, ka, many, ks, rfl, hb, nkb, hka, k0, k1, m0, m1, q⟩ := h
    refine ⟨_, (pss_cons (ps_asg (pe_tup (pa_cons (pe_lst pa_nil) (pa_cons (pe_lst pa_nil) (pa_cons (pe_lst pa_nil) (pa_cons (pe_lst pa_nil) pa_nil))))) (pg_tupX K (pg_tup (n := 4) (by rfl) (pgs_cons (pg_name (i := 3) sc_law_document.nd rfl (.inl rfl)) (pgs_cons (pg_name (i := 4) sc_law_document.nd rfl (.inl rfl)) (pgs_cons (pg_name (i := 5) sc_law_document.nd rfl (.inl rfl)) (pgs_cons (pg_name (i := 6) sc_law_document.nd rfl (.inl rfl)) pgs_nil)))))))
      (pss_cons (ps_for PassesOwn.never rfl (pi_range1 (by rfl) T.range (pa_cons (pe_c c_law_take hr (by omega) (by rfl) (pa_cons (pv 0) (pa_cons (pe_op (op_addX K) (pv 2) pe_int) pa_nil))) pa_nil)) (pg_name (i := 7) sc_law_document.nd rfl (.inl rfl)) (pss_cons (ps_for PassesOwn.never rfl (pi_range1 (by rfl) T.range (pa_cons (pe_c c_law_take hr (by omega) (by rfl) (pa_cons (pv 0) (pa_cons (pe_op (op_addX K) (pe_callB (call_lenX K) (by rfl) T.len PySem.boot_len (pa_cons (pv 4) pa_nil)) pe_int) pa_nil))) pa_nil)) (pg_name (i := 8) sc_law_document.nd rfl (.inl rfl)) (pss_one (ps_expr (pe_bmX K (pe_bm PySem.F.plainAttrs_list PySem.F.slot_list_append PySem.F.type_list_append mt_append (pv 3) (pa_cons (pe_bm0X K (pe_bm0 PySem.F.plainAttrs_list PySem.F.slot_list_pop PySem.F.type_list_pop mt_pop (pv 4))) pa_nil))))))
      (pss_cons (ps_if (pt_cmpR op_gt (pe_callB (call_lenX K) (by rfl) T.len PySem.boot_len (pa_cons (pv 4) pa_nil)) pe_int (nomark _)) (pss_one (ps_expr (pe_bmX K (pe_bm PySem.F.plainAttrs_list PySem.F.slot_list_append PySem.F.type_list_append mt_append (pv 3) (pa_cons (pe_bm0X K (pe_bm0 PySem.F.plainAttrs_list PySem.F.slot_list_pop PySem.F.type_list_pop mt_pop (pv 4))) pa_nil))))) pss_nil)
      (pss_cons (ps_expr (pe_bmX K (pe_bm PySem.F.plainAttrs_list PySem.F.slot_list_append PySem.F.type_list_append mt_append (pv 3) (pa_cons (pv 7) pa_nil))))
      (pss_cons (ps_expr (pe_bmX K (pe_bm PySem.F.plainAttrs_list PySem.F.slot_list_append PySem.F.type_list_append mt_append (pv 4) (pa_cons (pv 7) pa_nil))))
      (pss_cons (ps_expr (pe_bmX K (pe_bm PySem.F.plainAttrs_list PySem.F.slot_list_append PySem.F.type_list_append mt_append (pv 5) (pa_cons (pe_c c_law_of hr (by omega) (by rfl) (pa_cons (pv 0) (pa_cons (pv 1) pa_nil))) pa_nil))))
      (pss_one (ps_expr (pe_bmX K (pe_bm PySem.F.plainAttrs_list PySem.F.slot_list_append PySem.F.type_list_append mt_append (pv 6) (pa_cons (pe_c c_law_sign_text hr (by omega) (by rfl) (pa_cons (pv 0) (pa_cons pe_int pa_nil))) pa_nil)))))))))))
      (pss_one (ps_ret (pe_c c_law_nested hr (by omega) (by rfl) (pa_cons (pe_lst (pa_cons (pe_op (op_addX K) (pv 3) (pe_revLX K (pv 4))) (pa_cons (pv 5) (pa_cons (pv 6) pa_nil)))) pa_nil)))))), ?_⟩
    change (_ : TS) _ [some (V.ref b), some (V.ref ka), some (V.int many), none, none, none, none, none, none] _
    k_extra "rr"
    refine ⟨by k_extra "sz", fun M nM => ?_⟩
    k_extra "rr"
    refine ⟨by k_extra "sz", fun O nO => ?_⟩
    k_extra "rr"
    refine ⟨by k_extra "sz", fun S nS => ?_⟩
    k_extra "rr"
    refine ⟨by k_extra "sz", fun X nX => ?_⟩
    k_extra "rr"
    refine ⟨by k_extra "sz", fun tp ntp => ?_⟩
    have i0 : DI H b r M O S X ks 0 0 0 [] [] [] [] (upd (upd (upd (upd (upd H M (.lst [])) O (.lst [])) S (.lst [])) X (.lst [])) tp (.tup [.ref M, .ref O, .ref S, .ref X])) := by
      have nXX : upd (upd (upd H M (.lst [])) O (.lst [])) S (.lst []) X = none := nX
      refine DI.new ?_ ntp
      refine {
        b0 := hb
        but := (((But.new nM).trans (But.new nO)).trans (But.new nS)).trans (But.new nX)
        bag := (((hb.new nM).new nO).new nS).new nX
        fM := nM
        fO := un0 nO
        fS := un0 (un0 nS)
        fX := un0 (un0 (un0 nX))
        hM := same_upd nX _ _ (same_upd nS _ _ (same_upd nO _ _ upd_same))
        hO := same_upd nX _ _ (same_upd nS _ _ upd_same)
        hS := same_upd nX _ _ upd_same
        hX := upd_same
        MO := ne_of_none upd_same nO
        MS := ne_of_none (same_upd nO _ _ upd_same) nS
        MX := ne_of_none (same_upd nS _ _ (same_upd nO _ _ upd_same)) nX
        OS := ne_of_none upd_same nS
        OX := ne_of_none (same_upd nS _ _ upd_same) nX
        SX_ := ne_of_none upd_same nX
        cnt := rfl
        la := rfl
        lc := rfl
        om := fun x hx => nomatch hx
        oo := fun x hx => nomatch hx
        ok := fun x hx => nomatch hx
        ot := fun x hx => nomatch hx }
    generalize hH5 : upd (upd (upd (upd (upd H M (.lst [])) O (.lst [])) S (.lst [])) X (.lst [])) tp (.tup [.ref M, .ref O, .ref S, .ref X]) = H5 at i0
    have htp : H5 tp = some (.tup [.ref M, .ref O, .ref S, .ref X]) := by
      rw [← hH5, upd_same]
    clear hH5
    k_extra "rr"
    refine ⟨b, r, _, rfl, i0.bag, by omega, by omega, fun n H6 bb6 hb6 n0 n1 => ?_⟩
    have i1 := i0.bagged bb6 hb6
    k_extra "rr"
    refine for_range (lo := 0) (n := n.toNat) (fun i σ H' => ∃ (ms osr : List Int) (sk tk : List (List Nat)) (v7 v8 : Option V), σ = [some (.ref b), some (.ref ka), some (.int many), some (.ref M), some (.ref O), some (.ref S), some (.ref X), v7, v8] ∧ DI H b r M O S X ks i i i ms osr sk tk H')
      ⟨_, _, _, _, _, _, rfl, i1⟩ ?_ ?_
    · rintro i σ H' hi ⟨ms, osr, sk, tk, v7, v8, rfl, I⟩
      rw [Int.zero_add]
      have hil : (i : Int) ≤ many := by omega
      have lenO : ∀ os : List Int, (ivs os.reverse).length = os.length := fun os => by unfold ivs; rw [List.length_map, List.length_reverse]
      have lenM : ∀ os : List Int, (ivs os).length = os.length := fun os => by unfold ivs; rw [List.length_map]
      k_extra "rr"
      refine lenL (SqL.of I.hO) ?_
      rw [lenO]
      have hcnt := I.cnt
      k_extra "rr"
      refine ⟨b, r, _, rfl, I.bag, by omega, by omega, fun t H2 bb2 hb2 t0 t1 => ?_⟩
      have I2 := I.bagged bb2 hb2
      k_extra "rr"
      refine for_range (lo := 0) (n := t.toNat) (fun s σ H' => ∃ (ms1 osr1 : List Int) (v8 : Option V), σ = [some (.ref b), some (.ref ka), some (.int many), some (.ref M), some (.ref O), some (.ref S), some (.ref X), some (.int i), v8] ∧ osr1.length + s = osr.length ∧ DI H b r M O S X ks i i i ms1 osr1 sk tk H')
        ⟨ms, osr, _, rfl, rfl, I2⟩ ?_ ?_
      · rintro s0 σ H3 hs ⟨ms1, osr1, v8', rfl, hl, I3⟩
        have hcnt := I3.cnt
        k_extra "rr"
        refine ⟨tyvL I3.hM, ?_⟩
        k_extra "rr"
        obtain ⟨o, os, rfl⟩ : ∃ o os, osr1 = o :: os := by
          cases osr1 with
          | nil =>
            rw [List.length_nil] at hl
            omega
          | cons o os => exact ⟨o, os, rfl⟩
        have hO2 : H3 O = some (.lst (ivs os.reverse ++ [.int o])) := by
          have := I3.hO
          rw [List.reverse_cons] at this
          unfold ivs at this
          rw [List.map_append] at this
          exact this
        refine ⟨tyvL hO2, popL hO2 ?_⟩
        k_extra "rr"
        refine app (upd2 I3.MO I3.hM) (by rw [lenM, sizeLine_eq]; omega) ?_
        k_extra "rr"
        rw [List.length_cons] at hl
        exact ⟨_, _, _, rfl, by omega, I3.move⟩
      · rintro σ H3 ⟨ms1, osr1, v8', rfl, hl, I3⟩
        k_extra "rr"
        refine lenL (SqL.of I3.hO) ?_
        k_extra "rr"
        rw [lenO]
        refine iteD (fun hc => ?yes) (fun hc => ?no)
        case' yes =>
          have hcnt := I3.cnt
          k_extra "rr"
          refine ⟨tyvL I3.hM, ?_⟩
          k_extra "rr"
          obtain ⟨o, os, rfl⟩ : ∃ o os, osr1 = o :: os := by
            cases osr1 with
            | nil =>
              rw [List.length_nil] at hc
              omega
            | cons o os => exact ⟨o, os, rfl⟩
          have hO2 : H3 O = some (.lst (ivs os.reverse ++ [.int o])) := by
            have := I3.hO
            rw [List.reverse_cons] at this
            unfold ivs at this
            rw [List.map_append] at this
            exact this
          refine ⟨tyvL hO2, popL hO2 ?_⟩
          k_extra "rr"
          refine app (upd2 I3.MO I3.hM) (by rw [lenM, sizeLine_eq]; omega) ?_
          have I4 := I3.move
          generalize upd (upd H3 O (.lst (ivs os.reverse))) M (.lst (ivs ms1 ++ [.int o])) = H4 at I4
        case' no =>
          have I4 := I3
          generalize H3 = H4 at I4
        all_goals
          k_extra "rr"
          have hcnt2 := I4.cnt
          refine ⟨tyvL I4.hM, ?_⟩
          k_extra "rr"
          refine app I4.hM (by rw [lenM, sizeLine_eq]; omega) ?_
          k_extra "rr"
          refine ⟨tyvL (upd2 I4.MO.symm I4.hO), ?_⟩
          k_extra "rr"
          refine app (upd2 I4.MO.symm I4.hO) (by rw [lenO, sizeLine_eq]; omega) ?_
          k_extra "rr"
          have I5 := I4.mark (o := i) rfl
          refine ⟨tyvL I5.hS, ?_⟩
          k_extra "rr"
          refine ⟨b, r, _, rfl, I5.bag, .inr ⟨ka, _, rfl, nkb, SqL.of (I5.but _ _ hka nkb), by unfold kws; rw [List.length_map]; omega, by unfold kws; rw [List.length_map]; omega, fun i2 v2 H6 hv bb6 hb6 => ?_⟩⟩
          obtain ⟨kd, hkd, rfl⟩ := map_at hv
          have I6 := I5.bagged bb6 hb6
          have hla := I6.la
          have hlc := I6.lc
          k_extra "rr"
          refine app I6.hS (by unfold kws; rw [List.length_map, sizeLine_eq]; omega) ?_
          have I7 := I6.kind (List.mem_of_getElem? hkd)
          k_extra "rr"
          refine ⟨tyvL I7.hX, ?_⟩
          k_extra "rr"
          refine ⟨b, r, 3, rfl, I7.bag, by omega, by omega, fun lt H8 hlt hsg bb8 hb8 => ?_⟩
          have I8 := I7.bagged bb8 hb8
          k_extra "rr"
          refine app I8.hX (by unfold kws; rw [List.length_map, sizeLine_eq]; omega) ?_
          have I9 := I8.text (t := lt) ⟨by omega, hsg⟩
          k_extra "rr"
          exact ⟨_, _, _, _, _, _, rfl, I9⟩
    · rintro σ H' ⟨ms, osr, sk, tk, v7, v8, rfl, I⟩
      k_extra "rr"
      refine ⟨O, _, rfl, SqL.of I.hO, fun y ny => ?_⟩
      have I2 := I.new (u := .lst (ivs osr.reverse).reverse) ny
      have hcnt := I.cnt
      have hrr : (ivs osr.reverse).reverse = ivs osr := by unfold ivs; rw [← List.map_reverse, List.reverse_reverse]
      refine addL I2.hM upd_same (by rw [hrr]; unfold ivs; rw [List.length_map, List.length_map, sizeLine_eq]; omega) fun z nz => ?_
      have I3 := I2.new (u := .lst (ivs ms ++ (ivs osr.reverse).reverse)) nz
      k_extra "rr"
      refine ⟨by k_extra "sz", fun st nst => ?_⟩
      have I4 := I3.new (u := .lst [.ref z, .ref S, .ref X]) nst
      k_extra "rr"
      have hz : ivs ms ++ (ivs osr.reverse).reverse = ivs (ms ++ osr) := by rw [hrr]; unfold ivs; rw [List.map_append]
      refine ⟨st, z, S, X, ms ++ osr, sk, tk, fun k t => k ∈ ks ∧ t.length ≤ 3 ∧ ∀ c ∈ t, c ∈ signsL, rfl, upd_same, by rw [← hz]; exact same_upd nst _ _ upd_same, I4.hS, I4.hX, by rw [List.length_append]; omega, fun x hx => ?_, fun f a H9 s9 hd hs ha => ?_⟩
      · obtain ⟨x0, x1⟩ : 0 ≤ x ∧ x < n.toNat := by
          rcases List.mem_append.mp hx with hx | hx
          · exact I.om x hx
          · exact I.oo x hx
        have hk : x.toNat < sk.length := by rw [I.la]; omega
        have ht : x.toNat < tk.length := by rw [I.lc]; omega
        exact ⟨x0, by omega, sk[x.toNat], tk[x.toNat], List.getElem?_eq_getElem hk, List.getElem?_eq_getElem ht, I.ok _ (List.getElem_mem hk), I.ot _ (List.getElem_mem ht)⟩
      · rw [List.length_append] at hs
        exact q f a H9 (I4.but.trans (But.of_same s9)) (I4.bag.same s9) hd (by omega) ha
end

/-! ### texts of documents -/
namespace Fo
def isNil : Fo → Bool
  | nil => true
  | cons _ _ _ _ => false
def get : Fo → Nat → Option (List Nat × List Nat × Fo)
  | nil, _ => none
  | cons k t i _, 0 => some (k, t, i)
  | cons _ _ _ r, j + 1 => r.get j
end Fo
def headT (k t : List Nat) : List Nat := k ++ (if t = [] then [] else 34 :: (t ++ [34]))
def sepT : Fo → List Nat → List Nat
  | .nil, _ => []
  | .cons _ _ _ _, w => 32 :: w
def parT : Fo → List Nat → List Nat
  | .nil, _ => []
  | .cons _ _ _ _, w => 40 :: (w ++ [41])
def wr : Fo → List Nat
  | .nil => []
  | .cons k t i r => headT k t ++ parT i (wr i) ++ sepT r (wr r)
def nw (k t : List Nat) (i : Fo) : List Nat := headT k t ++ parT i (wr i)
def nws : Fo → List (List Nat)
  | .nil => []
  | .cons k t i r => nw k t i :: nws r
theorem wr_join : ∀ f : Fo, TL.joinL [32] (nws f) = wr f
  | .nil => rfl
  | .cons k t i .nil => by
    show nw k t i = nw k t i ++ []
    rw [List.append_nil]
  | .cons k t i (.cons k2 t2 i2 r2) => by
    show nw k t i ++ ([32] ++ TL.joinL [32] (nws (.cons k2 t2 i2 r2))) = nw k t i ++ 32 :: wr (.cons k2 t2 i2 r2)
    rw [wr_join (.cons k2 t2 i2 r2)]
    rfl
/-- kinds and texts as the documents have them -/
def GN (k t : List Nat) : Prop := (∀ c ∈ k, c ∈ letters) ∧ 1 ≤ k.length ∧ k.length ≤ 6 ∧ t.length ≤ 20 ∧ ∀ c ∈ t, signB c = true
abbrev GF (f : Fo) : Prop := f.All GN
theorem head_len {k t : List Nat} (h : GN k t) : (headT k t).length ≤ 28 := by
  obtain ⟨_, h1, h2, h3, _⟩ := h
  unfold headT
  rw [List.length_append]
  by_cases z : t = []
  · rw [if_pos z, List.length_nil]
    omega
  · rw [if_neg z, List.length_cons, List.length_append, List.length_singleton]
    omega
theorem wr_len : ∀ {f : Fo}, GF f → (wr f).length ≤ 31 * f.size
  | .nil, _ => Nat.le_refl 0
  | .cons k t i r, ⟨h1, h2, h3⟩ => by
    have a1 := head_len h1
    have a2 := wr_len h2
    have a3 := wr_len h3
    have b2 : (parT i (wr i)).length ≤ (wr i).length + 2 := by
      cases i with
      | nil => exact Nat.zero_le _
      | cons _ _ _ _ =>
        show (40 :: (_ ++ [41])).length ≤ _
        rw [List.length_cons, List.length_append, List.length_singleton]
        omega
    have b3 : (sepT r (wr r)).length ≤ (wr r).length + 1 := by
      cases r with
      | nil => exact Nat.zero_le _
      | cons _ _ _ _ => exact Nat.le_refl _
    show (headT k t ++ parT i (wr i) ++ sepT r (wr r)).length ≤ 31 * (1 + i.size + r.size)
    rw [List.length_append, List.length_append]
    omega
theorem nw_len {k t : List Nat} {i : Fo} (h : GN k t) (hi : GF i) : (nw k t i).length ≤ 31 * i.size + 30 := by
  have a1 := head_len h
  have a2 := wr_len hi
  unfold nw
  rw [List.length_append]
  cases i with
  | nil =>
    show _ + 0 ≤ _
    omega
  | cons _ _ _ _ =>
    show _ + (40 :: (_ ++ [41])).length ≤ _
    rw [List.length_cons, List.length_append, List.length_singleton]
    omega
theorem nws_sum : ∀ {f : Fo}, GF f → ((nws f).map List.length).sum ≤ 31 * f.size ∧ (nws f).length = f.len
  | .nil, _ => ⟨Nat.le_refl 0, rfl⟩
  | .cons k t i r, ⟨h1, h2, h3⟩ => by
    obtain ⟨a1, a2⟩ := nws_sum h3
    have a3 := nw_len h1 h2
    constructor
    · show (nw k t i).length + ((nws r).map List.length).sum ≤ 31 * (1 + i.size + r.size)
      omega
    · show (nws r).length + 1 = r.len + 1
      rw [a2]
theorem get_nws : ∀ {f : Fo} {j : Nat} {k t : List Nat} {i : Fo}, f.get j = some (k, t, i) → (nws f)[j]? = some (nw k t i)
  | .cons _ _ _ _, 0, _, _, _, h => by
    cases h
    rfl
  | .cons _ _ _ r, j + 1, _, _, _, h => get_nws (f := r) h
theorem get_depth : ∀ {f : Fo} {j : Nat} {k t : List Nat} {i : Fo}, f.get j = some (k, t, i) → i.depth + 1 ≤ f.depth ∧ i.size + 1 ≤ f.size
  | .cons _ _ i r, 0, _, _, _, h => by
    cases h
    constructor
    · show _ ≤ max (i.depth + 1) r.depth
      omega
    · show _ ≤ 1 + i.size + r.size
      omega
  | .cons _ _ i r, j + 1, _, _, i2, h => by
    obtain ⟨a, b⟩ := get_depth (f := r) h
    constructor
    · show _ ≤ max (i.depth + 1) r.depth
      omega
    · show _ ≤ 1 + i.size + r.size
      omega
theorem get_all {p : List Nat → List Nat → Prop} : ∀ {f : Fo} {j : Nat} {k t : List Nat} {i : Fo}, f.All p → f.get j = some (k, t, i) → p k t ∧ i.All p
  | .cons _ _ _ _, 0, _, _, _, ⟨h1, h2, h3⟩, h => by
    cases h
    exact ⟨h1, h2⟩
  | .cons _ _ _ r, j + 1, _, _, _, ⟨h1, h2, h3⟩, h => get_all (f := r) h3 h
theorem Items.get {H : Hp} : ∀ {f : Fo} {xs : List V} {j : Nat} {x : V}, Items H f xs → xs[j]? = some x → ∃ k t i p q, f.get j = some (k, t, i) ∧ x = .ref p ∧ H p = some (.tup [.str (SX.S k), .str (SX.S t), .ref q]) ∧ Doc H i q
  | .nil, _, _, _, h, hx => by
    rw [show _ = _ from h] at hx
    cases hx
  | .cons k t i r, _, j, _, ⟨p, q, ys, xs', e, h1, h2, h3, h4⟩, hx => by
    subst e
    cases j with
    | zero =>
      cases hx
      exact ⟨k, t, i, p, q, rfl, rfl, h1, ys, h2, h3⟩
    | succ j =>
      have e := Items.get h4 hx
      exact e
/-! shapes -/
theorem sign_small {c : Nat} (h : signB c = true) : c < 1114112 := by
  unfold signB at h
  simp only [Bool.and_eq_true, decide_eq_true_eq] at h
  omega
theorem letters_small : ∀ c ∈ letters, c < 1114112 := by decide
theorem ok_S {l : List Nat} (h : ∀ c ∈ l, c < 1114112) : PyData.strOk (SX.S l) = true := by
  unfold PyData.strOk
  show (l.toArray.all (· < 0x110000)) = true
  rw [List.all_toArray]
  exact List.all_eq_true.mpr fun c hc => decide_eq_true (h c hc)
theorem lay_fdata : ∀ {f : Fo}, GF f → PyData.canLayAll0 (fdata f) = true
  | .nil, _ => by simp [fdata, PyData.canLayAll0]
  | .cons k t i r, ⟨⟨h1, _, _, _, h2⟩, h3, h4⟩ => by
    have a1 := lay_fdata h3
    have a2 := lay_fdata h4
    have b1 := ok_S fun c hc => letters_small c (h1 c hc)
    have b2 := ok_S fun c hc => sign_small (h2 c hc)
    unfold fdata
    simp only [PyData.canLayAll0, PyData.canLay0, a1, a2, b1, b2, Bool.and_self, Bool.and_true]
theorem depth_fdata : ∀ f : Fo, PyData.depthAll (fdata f) ≤ 2 * f.depth
  | .nil => by simp [fdata, PyData.depthAll]
  | .cons k t i r => by
    have a1 := depth_fdata i
    have a2 := depth_fdata r
    unfold fdata
    simp only [PyData.depthAll, PyData.depth]
    show _ ≤ 2 * max (i.depth + 1) r.depth
    omega
theorem shaped_doc {f : Fo} (h : GF f) (hd : f.depth ≤ 31) : SeqAt.shaped (.tuple (fdata f)) = true := by
  have h1 := lay_fdata h
  have h2 := depth_fdata f
  unfold SeqAt.shaped
  simp only [PyData.canLay0, PyData.depth, h1, Bool.true_and]
  exact decide_eq_true (by omega)
theorem fdata_nil : ∀ f : Fo, (fdata f).isEmpty = f.isNil
  | .nil => rfl
  | .cons _ _ _ _ => rfl
/-! ### _law_text -/
def spLText (n : Nat) : Sp := fun vs H Q _ => ∃ (a : Addr) (f : Fo), vs = [.ref a] ∧ Doc H f a ∧ f.depth < n ∧ f.depth ≤ 31 ∧ f.size ≤ 100 ∧ GF f ∧ ∀ H', Same H H' → Q (.str (SX.S (wr f))) H'
section
variable {P : Program} {w : World} {K : PySem.W.Frag} {mg : Str → Option Value} {base : Heap} {f : Addr} {fd : FuncData}
end

/-! ### spaced, document_text -/
def spaceL (xs : List V) : List V := ((xs.reverse.map fun x => [x, V.str " "]).flatten).dropLast
def spSpaced : Sp := fun vs H Q _ => ∃ (a : Addr) (xs : List V), vs = [.ref a] ∧ H a = some (.tup xs) ∧ xs.length ≤ 1000 ∧ ∀ (p : Addr) (H' : Hp), Same H H' → H p = none → H' p = some (.lst (spaceL xs)) → Q (.ref p) H'
theorem flat_len (xs : List V) : ((xs.map fun x => [x, V.str " "]).flatten).length = 2 * xs.length := by
  induction xs with
  | nil => rfl
  | cons x r ih =>
    rw [List.map_cons, List.flatten_cons, List.length_append, ih]
    show 2 + 2 * r.length = 2 * (r.length + 1)
    omega
section
variable {P : Program} {w : World} {K : PySem.W.Frag} {mg : Str → Option Value} {base : Heap} {f : Addr} {fd : FuncData}
end

/-! ### document_text: its stack -/
inductive Tk where
  | s (l : List Nat)
  | n (k t : List Nat) (i : Fo)
def TkAt (H : Hp) : Tk → V → Prop
  | .s l, v => v = .str (SX.S l)
  | .n k t i, v => ∃ p q, v = .ref p ∧ H p = some (.tup [.str (SX.S k), .str (SX.S t), .ref q]) ∧ Doc H i q
def tkT : Tk → List Nat
  | .s l => l
  | .n k t i => nw k t i
def tksT (ts : List Tk) : List Nat := (ts.map tkT).flatten
def wt : Fo → Nat
  | .nil => 0
  | .cons _ _ i r => 4 + wt i + wt r
def tkW : Tk → Nat
  | .s _ => 1
  | .n _ _ i => 3 + wt i
def tksW (ts : List Tk) : Nat := (ts.map tkW).sum
def TkG : Tk → Prop
  | .s l => l.length ≤ 1 ∧ ∀ c ∈ l, c < 1114112
  | .n k t i => GN k t ∧ GF i ∧ i.depth ≤ 30
def toks2 : Fo → List Tk
  | .nil => []
  | .cons k t i r => .s [32] :: .n k t i :: toks2 r
def toks (f : Fo) : List Tk := (toks2 f).tail
theorem toks2_T : ∀ f : Fo, tksT (toks2 f) = sepT f (wr f)
  | .nil => rfl
  | .cons k t i r => by
    have ih := toks2_T r
    show 32 :: (nw k t i ++ tksT (toks2 r)) = 32 :: (nw k t i ++ sepT r (wr r))
    rw [ih]
theorem toks_T : ∀ f : Fo, tksT (toks f) = wr f
  | .nil => rfl
  | .cons k t i r => by
    have ih := toks2_T r
    show nw k t i ++ tksT (toks2 r) = nw k t i ++ sepT r (wr r)
    rw [ih]
theorem toks2_W : ∀ f : Fo, tksW (toks2 f) = wt f
  | .nil => rfl
  | .cons k t i r => by
    have ih := toks2_W r
    show 1 + (3 + wt i + tksW (toks2 r)) = 4 + wt i + wt r
    rw [ih]
    omega
theorem toks_W : ∀ f : Fo, tksW (toks f) ≤ wt f
  | .nil => Nat.le_refl 0
  | .cons k t i r => by
    have ih := toks2_W r
    show 3 + wt i + tksW (toks2 r) ≤ 4 + wt i + wt r
    rw [ih]
    omega
theorem wt_le : ∀ f : Fo, wt f ≤ 4 * f.size
  | .nil => Nat.le_refl 0
  | .cons k t i r => by
    have h1 := wt_le i
    have h2 := wt_le r
    show 4 + wt i + wt r ≤ 4 * (1 + i.size + r.size)
    omega
theorem len_wt : ∀ f : Fo, f.len ≤ wt f
  | .nil => Nat.le_refl 0
  | .cons k t i r => by
    have h2 := len_wt r
    show r.len + 1 ≤ 4 + wt i + wt r
    omega
theorem toks2_G : ∀ {f : Fo}, GF f → f.depth ≤ 31 → ∀ t ∈ toks2 f, TkG t
  | .nil, _, _, _, h => nomatch h
  | .cons k t i r, ⟨h1, h2, h3⟩, hd, x, h => by
    have hd2 : max (i.depth + 1) r.depth ≤ 31 := hd
    rcases List.mem_cons.mp h with rfl | h
    · exact ⟨Nat.le_refl 1, by decide⟩
    · rcases List.mem_cons.mp h with rfl | h
      · exact ⟨h1, h2, by omega⟩
      · exact toks2_G h3 (by omega) x h
theorem toks_G {f : Fo} (h : GF f) (hd : f.depth ≤ 31) : ∀ t ∈ toks f, TkG t := fun t m => toks2_G h hd t (List.mem_of_mem_tail m)
theorem len_W : ∀ ts : List Tk, ts.length ≤ tksW ts
  | [] => Nat.le_refl 0
  | t :: r => by
    have := len_W r
    have h : 1 ≤ tkW t := by
      cases t with
      | s l => exact Nat.le_refl 1
      | n k t i =>
        show 1 ≤ 3 + wt i
        omega
    show r.length + 1 ≤ tkW t + tksW r
    omega
theorem TkAt.le {H H' : Hp} (s : TupLe H H') : ∀ {t : Tk} {v : V}, TkAt H t v → TkAt H' t v
  | .s _, _, h => h
  | .n _ _ _, _, ⟨p, q, e, h, d⟩ => ⟨p, q, e, s _ _ h, d.le s⟩
def TksAt (H : Hp) : List Tk → List V → Prop
  | [], [] => True
  | t :: ts, v :: vs => TkAt H t v ∧ TksAt H ts vs
  | _, _ => False
theorem TksAt.le {H H' : Hp} (s : TupLe H H') : ∀ {ts : List Tk} {vs : List V}, TksAt H ts vs → TksAt H' ts vs
  | [], [], _ => trivial
  | _ :: _, _ :: _, ⟨h, r⟩ => ⟨h.le s, r.le s⟩
theorem TksAt.len {H : Hp} : ∀ {ts : List Tk} {vs : List V}, TksAt H ts vs → vs.length = ts.length
  | [], [], _ => rfl
  | _ :: _, _ :: _, ⟨h, r⟩ => by rw [List.length_cons, List.length_cons, r.len]
theorem TksAt.app {H : Hp} : ∀ {ts us : List Tk} {vs ws : List V}, TksAt H ts vs → TksAt H us ws → TksAt H (ts ++ us) (vs ++ ws)
  | [], _, [], _, _, h => h
  | _ :: _, _, _ :: _, _, ⟨h, r⟩, q => ⟨h, r.app q⟩
theorem Items.toks2 {H : Hp} : ∀ {f : Fo} {xs : List V}, Items H f xs → TksAt H (toks2 f) ((xs.map fun x => [V.str " ", x]).flatten)
  | .nil, _, h => by
    rw [show _ = _ from h]
    trivial
  | .cons k t i r, _, ⟨p, q, ys, xs', e, h1, h2, h3, h4⟩ => by
    subst e
    exact ⟨congrArg V.str (by decide +kernel), ⟨p, q, rfl, h1, ys, h2, h3⟩, Items.toks2 h4⟩
theorem space_rev (xs : List V) : (spaceL xs).reverse = ((xs.map fun x => [V.str " ", x]).flatten).tail := by
  unfold spaceL
  rw [← List.tail_reverse]
  congr 1
  rw [List.reverse_flatten, List.map_map, List.map_reverse, List.reverse_reverse]
  rfl
theorem TksAt.tail {H : Hp} : ∀ {ts : List Tk} {vs : List V}, TksAt H ts vs → TksAt H ts.tail vs.tail
  | [], [], _ => trivial
  | _ :: _, _ :: _, ⟨_, r⟩ => r
theorem Items.toks {H : Hp} {f : Fo} {xs : List V} (h : Items H f xs) : TksAt H (toks f) (spaceL xs).reverse := by
  rw [space_rev]
  exact (Items.toks2 h).tail
/-! as plain data -/
def tkD : Tk → PyData
  | .s l => .str (SX.S l)
  | .n k t i => .tuple [.str (SX.S k), .str (SX.S t), .tuple (fdata i)]
theorem TkAt.dp {K : PySem.W.Frag} {H : Hp} : ∀ {t : Tk} {v : V}, TkAt H t v → Dp K H v (tkD t)
  | .s _, _, h => by
    rw [show _ = _ from h]
    exact .str _
  | .n _ _ _, _, ⟨p, q, e, h, d⟩ => by
    subst e
    exact .tup (SqT.of h) (.cons (.str _) (.cons (.str _) (.cons d.dp .nil)))
theorem dp_snoc {K : PySem.W.Frag} {H : Hp} {v : V} {d : PyData} (h : Dp K H v d) : ∀ {vs : List V} {ds : List PyData}, DpAll K H vs ds → DpAll K H (vs ++ [v]) (ds ++ [d])
  | _, _, .nil => .cons h .nil
  | _, _, .cons a b => .cons a (dp_snoc h b)
theorem TksAt.dp {K : PySem.W.Frag} {H : Hp} : ∀ {ts : List Tk} {vs : List V}, TksAt H ts vs → DpAll K H vs.reverse (ts.map tkD).reverse
  | [], [], _ => .nil
  | _ :: _, _ :: _, ⟨h, r⟩ => by
    rw [List.map_cons, List.reverse_cons, List.reverse_cons]
    exact dp_snoc h.dp r.dp
theorem TkG.data : ∀ {t : Tk}, TkG t → (tkD t).canLay0 = true ∧ (tkD t).depth ≤ 63
  | .s l, ⟨_, h⟩ => ⟨by
      have := ok_S h
      simpa [tkD, PyData.canLay0] using this, by simp [tkD, PyData.depth]⟩
  | .n k t i, ⟨⟨h1, _, _, _, h2⟩, h3, h4⟩ => by
    have a1 := lay_fdata h3
    have b1 := ok_S fun c hc => letters_small c (h1 c hc)
    have b2 := ok_S fun c hc => sign_small (h2 c hc)
    have a2 := depth_fdata i
    constructor
    · unfold tkD
      simp only [PyData.canLayAll0, PyData.canLay0, a1, b1, b2, Bool.and_self, Bool.and_true]
    · unfold tkD
      simp only [PyData.depthAll, PyData.depth]
      omega
theorem shaped_all : ∀ {ds : List PyData}, (∀ d ∈ ds, d.canLay0 = true ∧ d.depth ≤ 63) → PyData.canLayAll0 ds = true ∧ PyData.depthAll ds ≤ 63
  | [], _ => by simp [PyData.canLayAll0, PyData.depthAll]
  | d :: r, h => by
    obtain ⟨a1, a2⟩ := shaped_all fun x m => h x (List.mem_cons_of_mem _ m)
    obtain ⟨b1, b2⟩ := h d (List.mem_cons_self ..)
    simp only [PyData.canLayAll0, PyData.depthAll, a1, b1, Bool.and_self, true_and]
    omega
theorem shaped_list {ds : List PyData} (h : ∀ d ∈ ds, d.canLay0 = true ∧ d.depth ≤ 63) : SeqAt.shaped (.list ds) = true := by
  obtain ⟨h1, h2⟩ := shaped_all h
  unfold SeqAt.shaped
  simp only [PyData.canLay0, PyData.depth, h1, Bool.true_and]
  exact decide_eq_true (by omega)
theorem shaped_tks {ts : List Tk} (h : ∀ t ∈ ts, TkG t) : SeqAt.shaped (.list (ts.map tkD).reverse) = true := shaped_list fun d m => by
  rw [List.mem_reverse] at m
  obtain ⟨t, ht, rfl⟩ := List.mem_map.mp m
  exact (h t ht).data
def spDText : Sp := fun vs H Q _ => ∃ (a : Addr) (f : Fo), vs = [.ref a] ∧ Doc H f a ∧ f.depth ≤ 31 ∧ f.size ≤ 100 ∧ GF f ∧ ∀ H', Same H H' → Q (.str (SX.S (wr f))) H'
section
variable {P : Program} {w : World} {K : PySem.W.Frag} {mg : Str → Option Value} {base : Heap} {f : Addr} {fd : FuncData}
end

/-! ### class Row: a document as a row -/
abbrev rowF (m k t o : V) : List (Str × V) := [("marks", m), ("kind_row", k), ("text_row", t), ("origin_row", o)]
def RowO (C dx m k t o : Addr) : HO := .ins C dx (rowF (.ref m) (.ref k) (.ref t) (.ref o))
/-- what the text says of the class -/
structure RowC (K : PySem.W.Frag) (mg : Str → Option Value) (C : Addr) : Prop where
  cl : Cls K C
  n1 : NoAttr K C "marks"
  n2 : NoAttr K C "kind_row"
  n3 : NoAttr K C "text_row"
  n4 : NoAttr K C "origin_row"
/-- numbers: a node's at its beginning and at its end -/
def mkI (n : Nat) : Fo → List Int
  | .nil => []
  | .cons _ _ i r => (n : Int) :: (mkI (n + 1) i ++ (n : Int) :: mkI (n + 1 + i.size) r)
def fks : Fo → List (List Nat)
  | .nil => []
  | .cons k _ i r => k :: (fks i ++ fks r)
def fts : Fo → List (List Nat)
  | .nil => []
  | .cons _ t i r => t :: (fts i ++ fts r)
theorem fks_len : ∀ f : Fo, (fks f).length = f.size
  | .nil => rfl
  | .cons k t i r => by
    show (k :: (fks i ++ fks r)).length = 1 + i.size + r.size
    rw [List.length_cons, List.length_append, fks_len i, fks_len r]
    omega
theorem fts_len : ∀ f : Fo, (fts f).length = f.size
  | .nil => rfl
  | .cons k t i r => by
    show (t :: (fts i ++ fts r)).length = 1 + i.size + r.size
    rw [List.length_cons, List.length_append, fts_len i, fts_len r]
    omega
theorem mkI_len : ∀ (f : Fo) (n : Nat), (mkI n f).length = 2 * f.size
  | .nil, n => rfl
  | .cons k t i r, n => by
    show ((n : Int) :: (mkI (n + 1) i ++ (n : Int) :: mkI (n + 1 + i.size) r)).length = 2 * (1 + i.size + r.size)
    rw [List.length_cons, List.length_append, List.length_cons, mkI_len i, mkI_len r]
    omega
/-! the stack of made_of -/
inductive Td where
  | num (i : Int)
  | nd (k t : List Nat) (i : Fo)
def Fo.nodes : Fo → List Td
  | .nil => []
  | .cons k t i r => .nd k t i :: r.nodes
def tdM (n : Nat) : List Td → List Int
  | [] => []
  | .num i :: L => i :: tdM n L
  | .nd _ _ i :: L => (n : Int) :: (mkI (n + 1) i ++ (n : Int) :: tdM (n + 1 + i.size) L)
def tdK : List Td → List (List Nat)
  | [] => []
  | .num _ :: L => tdK L
  | .nd k _ i :: L => k :: (fks i ++ tdK L)
def tdT : List Td → List (List Nat)
  | [] => []
  | .num _ :: L => tdT L
  | .nd _ t i :: L => t :: (fts i ++ tdT L)
def tdW : List Td → Nat
  | [] => 0
  | .num _ :: L => 1 + tdW L
  | .nd _ _ i :: L => 2 + 2 * i.size + tdW L
theorem tdM_nodes (L : List Td) : ∀ (f : Fo) (n : Nat), tdM n (f.nodes ++ L) = mkI n f ++ tdM (n + f.size) L
  | .nil, n => rfl
  | .cons k t i r, n => by
    show (n : Int) :: (mkI (n + 1) i ++ (n : Int) :: tdM (n + 1 + i.size) (r.nodes ++ L)) = ((n : Int) :: (mkI (n + 1) i ++ (n : Int) :: mkI (n + 1 + i.size) r)) ++ tdM (n + (1 + i.size + r.size)) L
    rw [tdM_nodes L r, show n + 1 + i.size + r.size = n + (1 + i.size + r.size) by omega]
    simp only [List.cons_append, List.append_assoc]
theorem tdK_nodes (L : List Td) : ∀ f : Fo, tdK (f.nodes ++ L) = fks f ++ tdK L
  | .nil => rfl
  | .cons k t i r => by
    show k :: (fks i ++ tdK (r.nodes ++ L)) = (k :: (fks i ++ fks r)) ++ tdK L
    rw [tdK_nodes L r]
    simp only [List.cons_append, List.append_assoc]
theorem tdT_nodes (L : List Td) : ∀ f : Fo, tdT (f.nodes ++ L) = fts f ++ tdT L
  | .nil => rfl
  | .cons k t i r => by
    show t :: (fts i ++ tdT (r.nodes ++ L)) = (t :: (fts i ++ fts r)) ++ tdT L
    rw [tdT_nodes L r]
    simp only [List.cons_append, List.append_assoc]
theorem tdW_nodes (L : List Td) : ∀ f : Fo, tdW (f.nodes ++ L) = 2 * f.size + tdW L
  | .nil => (Nat.zero_add _).symm
  | .cons k t i r => by
    show 2 + 2 * i.size + tdW (r.nodes ++ L) = 2 * (1 + i.size + r.size) + tdW L
    rw [tdW_nodes L r]
    omega
theorem tdW_len : ∀ L : List Td, L.length ≤ tdW L
  | [] => Nat.le_refl 0
  | .num _ :: L => by
    have := tdW_len L
    show L.length + 1 ≤ 1 + tdW L
    omega
  | .nd _ _ i :: L => by
    have := tdW_len L
    show L.length + 1 ≤ 2 + 2 * i.size + tdW L
    omega
def TdAt (H : Hp) : Td → V → Prop
  | .num i, v => v = .int i
  | .nd k t i, v => ∃ p q, v = .ref p ∧ H p = some (.tup [.str (SX.S k), .str (SX.S t), .ref q]) ∧ Doc H i q
def TdsAt (H : Hp) : List Td → List V → Prop
  | [], [] => True
  | t :: ts, v :: vs => TdAt H t v ∧ TdsAt H ts vs
  | _, _ => False
def TdG : Td → Prop
  | .num i => 0 ≤ i ∧ i < 100000
  | .nd k t i => GN k t ∧ GF i ∧ i.depth ≤ 30
theorem TdAt.le {H H' : Hp} (s : TupLe H H') : ∀ {t : Td} {v : V}, TdAt H t v → TdAt H' t v
  | .num _, _, h => h
  | .nd _ _ _, _, ⟨p, q, e, h, d⟩ => ⟨p, q, e, s _ _ h, d.le s⟩
theorem TdsAt.le {H H' : Hp} (s : TupLe H H') : ∀ {ts : List Td} {vs : List V}, TdsAt H ts vs → TdsAt H' ts vs
  | [], [], _ => trivial
  | _ :: _, _ :: _, ⟨h, r⟩ => ⟨h.le s, r.le s⟩
theorem TdsAt.len {H : Hp} : ∀ {ts : List Td} {vs : List V}, TdsAt H ts vs → vs.length = ts.length
  | [], [], _ => rfl
  | _ :: _, _ :: _, ⟨h, r⟩ => by rw [List.length_cons, List.length_cons, r.len]
theorem TdsAt.app {H : Hp} : ∀ {ts us : List Td} {vs ws : List V}, TdsAt H ts vs → TdsAt H us ws → TdsAt H (ts ++ us) (vs ++ ws)
  | [], _, [], _, _, h => h
  | _ :: _, _, _ :: _, _, ⟨h, r⟩, q => ⟨h, r.app q⟩
theorem Items.tds {H : Hp} : ∀ {f : Fo} {xs : List V}, Items H f xs → TdsAt H f.nodes xs
  | .nil, _, h => by
    rw [show _ = _ from h]
    trivial
  | .cons k t i r, _, ⟨p, q, ys, xs', e, h1, h2, h3, h4⟩ => by
    subst e
    exact ⟨⟨p, q, rfl, h1, ys, h2, h3⟩, Items.tds h4⟩
theorem nodes_G : ∀ {f : Fo}, GF f → f.depth ≤ 31 → ∀ t ∈ f.nodes, TdG t
  | .nil, _, _, _, h => nomatch h
  | .cons k t i r, ⟨h1, h2, h3⟩, hd, x, h => by
    have hd2 : max (i.depth + 1) r.depth ≤ 31 := hd
    rcases List.mem_cons.mp h with rfl | h
    · exact ⟨h1, h2, by omega⟩
    · exact nodes_G h3 (by omega) x h
def tdD : Td → PyData
  | .num i => .int i
  | .nd k t i => .tuple [.str (SX.S k), .str (SX.S t), .tuple (fdata i)]
theorem TdAt.dp {K : PySem.W.Frag} {H : Hp} : ∀ {t : Td} {v : V}, TdAt H t v → Dp K H v (tdD t)
  | .num _, _, h => by
    rw [show _ = _ from h]
    exact .int _
  | .nd _ _ _, _, ⟨p, q, e, h, d⟩ => by
    subst e
    exact .tup (SqT.of h) (.cons (.str _) (.cons (.str _) (.cons d.dp .nil)))
theorem TdsAt.dp {K : PySem.W.Frag} {H : Hp} : ∀ {ts : List Td} {vs : List V}, TdsAt H ts vs → DpAll K H vs.reverse (ts.map tdD).reverse
  | [], [], _ => .nil
  | _ :: _, _ :: _, ⟨h, r⟩ => by
    rw [List.map_cons, List.reverse_cons, List.reverse_cons]
    exact dp_snoc h.dp r.dp
theorem TdG.data : ∀ {t : Td}, TdG t → (tdD t).canLay0 = true ∧ (tdD t).depth ≤ 63
  | .num i, ⟨h1, h2⟩ => ⟨by simp [tdD, PyData.canLay0], by simp [tdD, PyData.depth]⟩
  | .nd k t i, ⟨⟨h1, _, _, _, h2⟩, h3, h4⟩ => by
    have a1 := lay_fdata h3
    have b1 := ok_S fun c hc => letters_small c (h1 c hc)
    have b2 := ok_S fun c hc => sign_small (h2 c hc)
    have a2 := depth_fdata i
    constructor
    · unfold tdD
      simp only [PyData.canLayAll0, PyData.canLay0, a1, b1, b2, Bool.and_self, Bool.and_true]
    · unfold tdD
      simp only [PyData.depthAll, PyData.depth]
      omega
theorem shaped_tds {ts : List Td} (h : ∀ t ∈ ts, TdG t) : SeqAt.shaped (.list (ts.map tdD).reverse) = true := shaped_list fun d m => by
  rw [List.mem_reverse] at m
  obtain ⟨t, ht, rfl⟩ := List.mem_map.mp m
  exact (h t ht).data
/-! ### the promises -/
/-- __init__: four new lists in the fields -/
def spRowI (C : Addr) : Sp := fun vs H Q _ => ∃ (x dx : Addr), vs = [.ref x] ∧ H x = some (.ins C dx []) ∧
  ∀ (m k t o : Addr) (H' : Hp), (∀ b u, H b = some u → b ≠ x → H' b = some u) → H' x = some (RowO C dx m k t o) → H m = none → H k = none → H t = none → H o = none →
    H' m = some (.lst []) → H' k = some (.lst []) → H' t = some (.lst []) → H' o = some (.lst []) → m ≠ k → m ≠ t → m ≠ o → k ≠ t → k ≠ o → t ≠ o → Q .non H'
/-- added: the three rows grow -/
def spAdded (C : Addr) : Sp := fun vs H Q _ => ∃ (p dx m k t o : Addr) (xk xt xo : V) (ks ts os : List V), vs = [.ref p, xk, xt, xo] ∧ H p = some (RowO C dx m k t o) ∧ H k = some (.lst ks) ∧ H t = some (.lst ts) ∧ H o = some (.lst os) ∧ k ≠ t ∧ k ≠ o ∧ t ≠ o ∧
  ks.length ≤ 100000 ∧ ts.length ≤ 100000 ∧ os.length ≤ 100000 ∧
  ∀ H', (∀ b u, H b = some u → b ≠ k → b ≠ t → b ≠ o → H' b = some u) → (∀ b, H b = none → H' b = none) → H' k = some (.lst (ks ++ [xk])) → H' t = some (.lst (ts ++ [xt])) → H' o = some (.lst (os ++ [xo])) → Q (.int (ks.length : Int)) H'
/-- made_of: a new row of a document -/
structure NewRow (C : Addr) (H H' : Hp) (p dx m k t o : Addr) (ms : List Int) (ks ts : List (List Nat)) (os : List V) : Prop where
  same : Same H H'
  fp : H p = none
  fm : H m = none
  fk : H k = none
  ft : H t = none
  fo : H o = none
  hp : H' p = some (RowO C dx m k t o)
  hm : H' m = some (.lst (ivs ms))
  hk : H' k = some (.lst (kws ks))
  ht : H' t = some (.lst (kws ts))
  ho : H' o = some (.lst os)
  mk_ : m ≠ k
  mt_ : m ≠ t
  mo_ : m ≠ o
  kt_ : k ≠ t
  ko_ : k ≠ o
  to_ : t ≠ o
def upTo (n : Nat) : List V := (List.range n).map fun i : Nat => V.int (i : Int)
def spMade (C : Addr) : Sp := fun vs H Q _ => ∃ (d : Addr) (f : Fo), vs = [.ref C, .ref d] ∧ Doc H f d ∧ GF f ∧ f.depth ≤ 31 ∧ f.size ≤ 1000 ∧
  ∀ (p dx m k t o : Addr) (H' : Hp), NewRow C H H' p dx m k t o (mkI 0 f) (fks f) (fts f) (upTo f.size) → Q (.ref p) H'
theorem istep {H0 H : Hp} {x C dx l : Addr} {fs : List (Str × V)} (fs' : List (Str × V)) {g : Str} (k : ∀ b u, H0 b = some u → b ≠ x → H b = some u) (hx : H x = some (.ins C dx fs)) (nl : H l = none) (pf : putF g (.ref l) fs = fs') :
    (∀ b u, H0 b = some u → b ≠ x → upd (upd H l (.lst [])) x (.ins C dx (putF g (.ref l) fs)) b = some u) ∧ upd (upd H l (.lst [])) x (.ins C dx (putF g (.ref l) fs)) x = some (.ins C dx fs') ∧
      upd (upd H l (.lst [])) x (.ins C dx (putF g (.ref l) fs)) l = some (.lst []) ∧ (∀ b u, H b = some u → b ≠ x → upd (upd H l (.lst [])) x (.ins C dx (putF g (.ref l) fs)) b = some u) ∧ H0 l = none := by
  have nlx : l ≠ x := fun z => by
    rw [z, hx] at nl
    cases nl
  have k2 : ∀ b u, H b = some u → b ≠ x → upd (upd H l (.lst [])) x (.ins C dx (putF g (.ref l) fs)) b = some u := fun b u e n => by
    rw [upd_ne n, upd_ne (ne_of_none e nl)]
    exact e
  refine ⟨fun b u e n => k2 b u (k b u e n) n, by rw [upd_same, pf], by rw [upd_ne nlx, upd_same], k2, ?_⟩
  cases e : H0 l with
  | none => rfl
  | some u =>
    rw [k l u e nlx] at nl
    cases nl
section
variable {P : Program} {w : World} {K : PySem.W.Frag} {mg : Str → Option Value} {base : Heap} {f C : Addr} {fd : FuncData}
theorem ok_Row_init (F : Fun K "__init__" "Row.__init__" s_Row___init__ f fd) (R : RowC K mg C) : FnOk P w K mg base CX0 1 f fd ["self"] (spRowI C) := by
  refine F.ok sc_Row___init__ (fun vs H Q E h => ?_) (fun cdv A outer s H vs Q E hr h => ?_)
  · obtain ⟨x, dx, rfl, _⟩ := h
    rfl
  · obtain ⟨x, dx, rfl, hx, q⟩ := h
    obtain ⟨cl, n1, n2, n3, n4⟩ := R
    refine ⟨_, (pss_cons (ps_fld (pv 0) (pe_lst pa_nil) rfl)
      (pss_cons (ps_fld (pv 0) (pe_lst pa_nil) rfl)
      (pss_cons (ps_fld (pv 0) (pe_lst pa_nil) rfl)
      (pss_one (ps_fld (pv 0) (pe_lst pa_nil) rfl))))), ?_⟩
    change (_ : TS) _ [some (V.ref x)] _
    k_extra "rr"
    refine ⟨by k_extra "sz", fun m nm => ?_⟩
    have hx1 := same_upd (o := .lst []) nm _ _ hx
    k_extra "rr"
    obtain ⟨a1, a2, a3, _, am⟩ := istep (H0 := H) [("marks", V.ref m)] (g := "marks") (fun b u e _ => e) hx nm (by k_extra "pk")
    clear hx1
    generalize upd (upd H m (.lst [])) x _ = H1 at a1 a2 a3
    refine ⟨by k_extra "sz", fun k nk => ?_⟩
    have hx1 := same_upd (o := .lst []) nk _ _ a2
    k_extra "rr"
    obtain ⟨b1, b2, b3, b4, bm⟩ := istep (H0 := H) [("marks", V.ref m), ("kind_row", V.ref k)] (g := "kind_row") a1 a2 nk (by k_extra "pk")
    have nmx : m ≠ x := fun z => by
      rw [z, a2] at a3
      cases a3
    have b5 := b4 _ _ a3 nmx
    have mk_ : m ≠ k := ne_of_none a3 nk
    clear hx1
    generalize upd (upd H1 k (.lst [])) x _ = H2 at b1 b2 b3 b5
    refine ⟨by k_extra "sz", fun t nt => ?_⟩
    have hx1 := same_upd (o := .lst []) nt _ _ b2
    k_extra "rr"
    obtain ⟨c1, c2, c3, c4, cm⟩ := istep (H0 := H) [("marks", V.ref m), ("kind_row", V.ref k), ("text_row", V.ref t)] (g := "text_row") b1 b2 nt (by k_extra "pk")
    have nkx : k ≠ x := fun z => by
      rw [z, b2] at b3
      cases b3
    have c5 := c4 _ _ b5 nmx
    have c6 := c4 _ _ b3 nkx
    have mt_ : m ≠ t := ne_of_none b5 nt
    have kt_ : k ≠ t := ne_of_none b3 nt
    clear hx1
    generalize upd (upd H2 t (.lst [])) x _ = H3 at c1 c2 c3 c5 c6
    refine ⟨by k_extra "sz", fun o no => ?_⟩
    have hx1 := same_upd (o := .lst []) no _ _ c2
    k_extra "rr"
    obtain ⟨d1, d2, d3, d4, dm⟩ := istep (H0 := H) (rowF (.ref m) (.ref k) (.ref t) (.ref o)) (g := "origin_row") c1 c2 no (by k_extra "pk")
    have ntx : t ≠ x := fun z => by
      rw [z, c2] at c3
      cases c3
    exact q m k t o _ d1 d2 am bm cm dm (d4 _ _ c5 nmx) (d4 _ _ c6 nkx) (d4 _ _ c3 ntx) d3 mk_ mt_ (ne_of_none c5 no) kt_ (ne_of_none c6 no) (ne_of_none c3 no)
theorem ok_Row_added (F : Fun K "added" "Row.added" s_Row_added f fd) (T : Txt mg) (R : RowC K mg C) : FnOk P w K mg base CX0 1 f fd ["self", "kind", "text", "origin"] (spAdded C) := by
  refine F.ok sc_Row_added (fun vs H Q E h => ?_) (fun cdv A outer s H vs Q E hr h => ?_)
  · obtain ⟨p, dx, m, k, t, o, xk, xt, xo, ks, ts, os, rfl, _⟩ := h
    rfl
  · obtain ⟨p, dx, m, k, t, o, xk, xt, xo, ks, ts, os, rfl, hp, hk, ht, ho, kt_, ko_, to_, lk, lt, lo, q⟩ := h
    obtain ⟨cl, n1, n2, n3, n4⟩ := R
    have pk : p ≠ k := fun z => by
      rw [z, hk] at hp
      cases hp
    have pt : p ≠ t := fun z => by
      rw [z, ht] at hp
      cases hp
    have po : p ≠ o := fun z => by
      rw [z, ho] at hp
      cases hp
    refine ⟨_, (pss_cons (ps_expr (pe_bmX K (pe_bm PySem.F.plainAttrs_list PySem.F.slot_list_append PySem.F.type_list_append mt_append (pe_fldX K (pe_fld (pv 0) rfl)) (pa_cons (pv 1) pa_nil))))
      (pss_cons (ps_expr (pe_bmX K (pe_bm PySem.F.plainAttrs_list PySem.F.slot_list_append PySem.F.type_list_append mt_append (pe_fldX K (pe_fld (pv 0) rfl)) (pa_cons (pv 2) pa_nil))))
      (pss_cons (ps_expr (pe_bmX K (pe_bm PySem.F.plainAttrs_list PySem.F.slot_list_append PySem.F.type_list_append mt_append (pe_fldX K (pe_fld (pv 0) rfl)) (pa_cons (pv 3) pa_nil))))
      (pss_one (ps_ret (pe_op op_sub (pe_callB (call_lenX K) (by rfl) T.len PySem.boot_len (pa_cons (pe_fldX K (pe_fld (pv 0) rfl)) pa_nil)) pe_int)))))), ?_⟩
    change (_ : TS) _ [some (V.ref p), some xk, some xt, some xo] _
    unfold RowO at hp
    k_extra "rr"
    refine ⟨tyvL hk, ?_⟩
    k_extra "rr"
    refine app hk (by rw [sizeLine_eq]; omega) ?_
    have hp1 := upd2 (o := .lst (ks ++ [xk])) pk hp
    have ht1 := upd2 (o := .lst (ks ++ [xk])) kt_.symm ht
    have ho1 := upd2 (o := .lst (ks ++ [xk])) ko_.symm ho
    k_extra "rr"
    refine ⟨tyvL ht1, ?_⟩
    k_extra "rr"
    refine app ht1 (by rw [sizeLine_eq]; omega) ?_
    have hp2 := upd2 (o := .lst (ts ++ [xt])) pt hp1
    have ho2 := upd2 (o := .lst (ts ++ [xt])) to_.symm ho1
    k_extra "rr"
    refine ⟨tyvL ho2, ?_⟩
    k_extra "rr"
    refine app ho2 (by rw [sizeLine_eq]; omega) ?_
    have hp3 := upd2 (o := .lst (os ++ [xo])) po hp2
    have hk3 : upd (upd (upd H k (.lst (ks ++ [xk]))) t (.lst (ts ++ [xt]))) o (.lst (os ++ [xo])) k = some (.lst (ks ++ [xk])) := upd2 ko_ (upd2 kt_ upd_same)
    have ht3 : upd (upd (upd H k (.lst (ks ++ [xk]))) t (.lst (ts ++ [xt]))) o (.lst (os ++ [xo])) t = some (.lst (ts ++ [xt])) := upd2 to_ upd_same
    have ho3 : upd (upd (upd H k (.lst (ks ++ [xk]))) t (.lst (ts ++ [xt]))) o (.lst (os ++ [xo])) o = some (.lst (os ++ [xo])) := upd_same
    have e3 : ∀ b u, H b = some u → b ≠ k → b ≠ t → b ≠ o → upd (upd (upd H k (.lst (ks ++ [xk]))) t (.lst (ts ++ [xt]))) o (.lst (os ++ [xo])) b = some u := fun b u e n1 n2 n3 => upd2 n3 (upd2 n2 (upd2 n1 e))
    have e4 : ∀ b, H b = none → upd (upd (upd H k (.lst (ks ++ [xk]))) t (.lst (ts ++ [xt]))) o (.lst (os ++ [xo])) b = none := fun b e => by
      rw [upd_ne (ne_of_none ho e).symm, upd_ne (ne_of_none ht e).symm, upd_ne (ne_of_none hk e).symm]
      exact e
    have hq := q _ e3 e4 hk3 ht3 ho3
    generalize upd (upd (upd H k (.lst (ks ++ [xk]))) t (.lst (ts ++ [xt]))) o (.lst (os ++ [xo])) = H3 at hp3 hk3 hq
    k_extra "rr"
    rw [List.length_append, List.length_singleton, show ((ks.length + 1 : Nat) : Int) - 1 = (ks.length : Int) by omega]
    exact hq
end

/-! ### the plain law of rubbed rows -/
def apF : Fo → Fo → Fo
  | .nil, g => g
  | .cons k t i r, g => .cons k t i (apF r g)
theorem apF_nil : ∀ f : Fo, apF f .nil = f
  | .nil => rfl
  | .cons k t i r => by
    show Fo.cons k t i (apF r .nil) = _
    rw [apF_nil r]
theorem apF_assoc (g h : Fo) : ∀ f : Fo, apF (apF f g) h = apF f (apF g h)
  | .nil => rfl
  | .cons k t i r => by
    show Fo.cons k t i (apF (apF r g) h) = Fo.cons k t i (apF r (apF g h))
    rw [apF_assoc g h r]
theorem apF_snoc (k t : List Nat) (i g : Fo) : ∀ f : Fo, apF (f.snoc k t i) g = apF f (.cons k t i g)
  | .nil => rfl
  | .cons k' t' i' r => by
    show Fo.cons k' t' i' (apF (r.snoc k t i) g) = Fo.cons k' t' i' (apF r (.cons k t i g))
    rw [apF_snoc k t i g r]
theorem apF_size (g : Fo) : ∀ f : Fo, (apF f g).size = f.size + g.size
  | .nil => by
    show g.size = 0 + g.size
    omega
  | .cons k t i r => by
    have := apF_size g r
    show 1 + i.size + (apF r g).size = 1 + i.size + r.size + g.size
    omega
/-- the plain machine of nested: open marks and rows -/
def nstep (ks ts : List (List Nat)) (s : List Int × List Fo) (mk : Int) : List Int × List Fo :=
  if s.1.head? = some mk then (s.1.tail, ((s.2.tail.headD .nil).snoc (ks.getD mk.toNat []) (ts.getD mk.toNat []) (s.2.headD .nil)) :: s.2.tail.tail)
  else (mk :: s.1, .nil :: s.2)
def nestF (ks ts : List (List Nat)) (ms : List Int) : Fo := ((ms.foldl (nstep ks ts) ([], [.nil])).2.getLast?).getD .nil
/-- rubbing: nodes with the numbers of g go, what stands in them comes in their place -/
def rubF (g : Nat → Bool) (n : Nat) : Fo → Fo
  | .nil => .nil
  | .cons k t i r => if g n then apF (rubF g (n + 1) i) (rubF g (n + 1 + i.size) r) else .cons k t (rubF g (n + 1) i) (rubF g (n + 1 + i.size) r)
/-- the kinds and texts of f stand in ks, ts from n on -/
def AtF (ks ts : List (List Nat)) (n : Nat) : Fo → Prop
  | .nil => True
  | .cons k t i r => ks.getD n [] = k ∧ ts.getD n [] = t ∧ AtF ks ts (n + 1) i ∧ AtF ks ts (n + 1 + i.size) r
theorem atF_mk : ∀ (f : Fo) (a b c d : List (List Nat)), a.length = c.length → AtF (a ++ fks f ++ b) (c ++ fts f ++ d) a.length f
  | .nil, _, _, _, _, _ => trivial
  | .cons k t i r, a, b, c, d, e => by
    have h1 := atF_mk i (a ++ [k]) (fks r ++ b) (c ++ [t]) (fts r ++ d) (by simp [e])
    have h2 := atF_mk r (a ++ [k] ++ fks i) b (c ++ [t] ++ fts i) d (by simp [e, fks_len, fts_len])
    have e1 : a ++ fks (.cons k t i r) ++ b = a ++ [k] ++ fks i ++ (fks r ++ b) := by
      show a ++ (k :: (fks i ++ fks r)) ++ b = _
      simp
    have e2 : c ++ fts (.cons k t i r) ++ d = c ++ [t] ++ fts i ++ (fts r ++ d) := by
      show c ++ (t :: (fts i ++ fts r)) ++ d = _
      simp
    have e3 : a ++ [k] ++ fks i ++ fks r ++ b = a ++ [k] ++ fks i ++ (fks r ++ b) := by simp
    have e4 : c ++ [t] ++ fts i ++ fts r ++ d = c ++ [t] ++ fts i ++ (fts r ++ d) := by simp
    rw [e1, e2]
    rw [e3, e4] at h2
    have l1 : (a ++ [k]).length = a.length + 1 := by simp
    have l2 : (a ++ [k] ++ fks i).length = a.length + 1 + i.size := by simp [fks_len]; omega
    rw [l1] at h1
    rw [l2] at h2
    refine ⟨?_, ?_, h1, h2⟩
    · simp [List.getD, List.getElem?_append]
    · simp [List.getD, List.getElem?_append, e]
theorem mkI_ge : ∀ (f : Fo) (n : Nat) (x : Int), x ∈ mkI n f → (n : Int) ≤ x ∧ x < ((n + f.size : Nat) : Int)
  | .nil, _, _, h => by cases h
  | .cons k t i r, n, x, h => by
    have hs : (Fo.cons k t i r).size = 1 + i.size + r.size := rfl
    rw [hs]
    rcases List.mem_cons.mp h with rfl | h
    · omega
    rcases List.mem_append.mp h with h | h
    · have := mkI_ge i (n + 1) x h
      omega
    rcases List.mem_cons.mp h with rfl | h
    · omega
    · have := mkI_ge r (n + 1 + i.size) x h
      omega
theorem nest_rub (ks ts : List (List Nat)) (g : Nat → Bool) : ∀ (f : Fo) (n : Nat) (os : List Int) (fp : Fo) (fr : List Fo), AtF ks ts n f → (∀ x ∈ os, x < (n : Int)) →
    ((mkI n f).filter fun x : Int => !g x.toNat).foldl (nstep ks ts) (os, fp :: fr) = (os, apF fp (rubF g n f) :: fr)
  | .nil, n, os, fp, fr, _, _ => by
    show (os, fp :: fr) = (os, apF fp .nil :: fr)
    rw [apF_nil]
  | .cons k t i r, n, os, fp, fr, ha, ho => by
    obtain ⟨hk, ht, hi, hr⟩ := ha
    have e0 : mkI n (.cons k t i r) = (n : Int) :: (mkI (n + 1) i ++ (n : Int) :: mkI (n + 1 + i.size) r) := rfl
    have en : (n : Int).toNat = n := by omega
    have o1 : ∀ x ∈ os, x < ((n + 1 : Nat) : Int) := fun x m => by have := ho x m; omega
    have o2 : ∀ x ∈ os, x < ((n + 1 + i.size : Nat) : Int) := fun x m => by have := ho x m; omega
    rw [e0]
    cases hg : g n with
    | true =>
      have e1 : (List.filter (fun x : Int => !g x.toNat) ((n : Int) :: (mkI (n + 1) i ++ (n : Int) :: mkI (n + 1 + i.size) r))) = (mkI (n + 1) i).filter (fun x : Int => !g x.toNat) ++ (mkI (n + 1 + i.size) r).filter (fun x : Int => !g x.toNat) := by
        simp [List.filter_cons, List.filter_append, en, hg]
      have e2 : rubF g n (.cons k t i r) = apF (rubF g (n + 1) i) (rubF g (n + 1 + i.size) r) := by
        show (if g n then _ else _) = _
        rw [hg, if_pos rfl]
      rw [e1, e2, List.foldl_append, nest_rub ks ts g i (n + 1) os fp fr hi o1, nest_rub ks ts g r (n + 1 + i.size) os _ fr hr o2, apF_assoc]
    | false =>
      have e1 : (List.filter (fun x : Int => !g x.toNat) ((n : Int) :: (mkI (n + 1) i ++ (n : Int) :: mkI (n + 1 + i.size) r))) = (n : Int) :: ((mkI (n + 1) i).filter (fun x : Int => !g x.toNat) ++ (n : Int) :: (mkI (n + 1 + i.size) r).filter (fun x : Int => !g x.toNat)) := by
        simp [List.filter_cons, List.filter_append, en, hg]
      have e2 : rubF g n (.cons k t i r) = .cons k t (rubF g (n + 1) i) (rubF g (n + 1 + i.size) r) := by
        show (if g n then _ else _) = _
        rw [hg]
        rfl
      have s1 : nstep ks ts (os, fp :: fr) (n : Int) = ((n : Int) :: os, .nil :: fp :: fr) := by
        have hn : ¬ (os.head? = some (n : Int)) := fun z => by
          have := ho (n : Int) (List.mem_of_mem_head? z)
          omega
        exact if_neg hn
      have o3 : ∀ x ∈ (n : Int) :: os, x < ((n + 1 : Nat) : Int) := fun x m => by
        rcases List.mem_cons.mp m with rfl | m
        · omega
        · exact o1 x m
      have s2 : nstep ks ts ((n : Int) :: os, apF .nil (rubF g (n + 1) i) :: fp :: fr) (n : Int) = (os, fp.snoc k t (rubF g (n + 1) i) :: fr) := by
        refine (if_pos rfl).trans ?_
        show (os, fp.snoc (ks.getD (n : Int).toNat []) (ts.getD (n : Int).toNat []) (rubF g (n + 1) i) :: fr) = _
        rw [en, hk, ht]
      rw [e1, e2, List.foldl_cons, s1, List.foldl_append, nest_rub ks ts g i (n + 1) _ _ _ hi o3, List.foldl_cons, s2, nest_rub ks ts g r (n + 1 + i.size) os _ fr hr o2, apF_snoc]
theorem nestF_rub (g : Nat → Bool) (f : Fo) : nestF (fks f) (fts f) ((mkI 0 f).filter fun x : Int => !g x.toNat) = rubF g 0 f := by
  have h := atF_mk f [] [] [] [] rfl
  simp only [List.nil_append, List.append_nil, List.length_nil] at h
  unfold nestF
  rw [nest_rub (fks f) (fts f) g f 0 [] .nil [] h (fun x m => by cases m)]
  rfl
/-- none goes -/
theorem rubF_none (g : Nat → Bool) : ∀ (f : Fo) (n : Nat), (∀ j, n ≤ j → j < n + f.size → g j = false) → rubF g n f = f
  | .nil, _, _ => rfl
  | .cons k t i r, n, h => by
    have hs : (Fo.cons k t i r).size = 1 + i.size + r.size := rfl
    rw [hs] at h
    show (if g n then _ else _) = _
    rw [h n (Nat.le_refl _) (by omega), rubF_none g i (n + 1) (fun j a b => h j (by omega) (by omega)), rubF_none g r (n + 1 + i.size) (fun j a b => h j (by omega) (by omega))]
    rfl
/-- alike tests rub alike -/
theorem rubF_congr (g g' : Nat → Bool) : ∀ (f : Fo) (n : Nat), (∀ j, n ≤ j → j < n + f.size → g j = g' j) → rubF g n f = rubF g' n f
  | .nil, _, _ => rfl
  | .cons k t i r, n, h => by
    have hs : (Fo.cons k t i r).size = 1 + i.size + r.size := rfl
    rw [hs] at h
    show (if g n then _ else _) = (if g' n then _ else _)
    rw [h n (Nat.le_refl _) (by omega), rubF_congr g g' i (n + 1) (fun j a b => h j (by omega) (by omega)), rubF_congr g g' r (n + 1 + i.size) (fun j a b => h j (by omega) (by omega))]
/-- one that stands there goes: one node less -/
theorem rubF_one (a : Nat) : ∀ (f : Fo) (n : Nat), n ≤ a → a < n + f.size → (rubF (fun j => j == a) n f).size + 1 = f.size
  | .nil, n, h1, h2 => by
    have : (Fo.nil).size = 0 := rfl
    omega
  | .cons k t i r, n, h1, h2 => by
    have hs : (Fo.cons k t i r).size = 1 + i.size + r.size := rfl
    rw [hs] at h2 ⊢
    by_cases z : n = a
    · subst z
      have e : rubF (fun j => j == n) n (.cons k t i r) = apF (rubF (fun j => j == n) (n + 1) i) (rubF (fun j => j == n) (n + 1 + i.size) r) := if_pos (by simp)
      rw [e, apF_size, rubF_none _ i (n + 1) (fun j a b => by simp; omega), rubF_none _ r (n + 1 + i.size) (fun j a b => by simp; omega)]
      omega
    · have e : rubF (fun j => j == a) n (.cons k t i r) = .cons k t (rubF (fun j => j == a) (n + 1) i) (rubF (fun j => j == a) (n + 1 + i.size) r) := if_neg (by simpa using z)
      rw [e]
      show 1 + (rubF (fun j => j == a) (n + 1) i).size + (rubF (fun j => j == a) (n + 1 + i.size) r).size + 1 = _
      by_cases y : a < n + 1 + i.size
      · have h3 := rubF_one a i (n + 1) (by omega) y
        rw [rubF_none _ r (n + 1 + i.size) (fun j a b => by simp; omega)]
        omega
      · have h3 := rubF_one a r (n + 1 + i.size) (by omega) (by omega)
        rw [rubF_none _ i (n + 1) (fun j a b => by simp; omega)]
        omega
/-- the later one first, then the earlier one: both at once -/
theorem rubF_two (lo hi : Nat) (hl : lo < hi) : ∀ (f : Fo) (n : Nat), rubF (fun j => j == lo) n (rubF (fun j => j == hi) n f) = rubF (fun j => j == lo || j == hi) n f
  | .nil, _ => rfl
  | .cons k t i r, n => by
    by_cases z : n = hi
    · subst z
      have e : rubF (fun j => j == n) n (.cons k t i r) = apF (rubF (fun j => j == n) (n + 1) i) (rubF (fun j => j == n) (n + 1 + i.size) r) := if_pos (by simp)
      have e2 : rubF (fun j => j == lo || j == n) n (.cons k t i r) = apF (rubF (fun j => j == lo || j == n) (n + 1) i) (rubF (fun j => j == lo || j == n) (n + 1 + i.size) r) := if_pos (by simp)
      rw [e, e2, rubF_none (fun j => j == lo) _ n (fun j a b => by simp; omega), rubF_congr (fun j => j == lo || j == n) (fun j => j == n) i (n + 1) (fun j a b => by
        have : (j == lo) = false := by simp; omega
        rw [this]; rfl), rubF_congr (fun j => j == lo || j == n) (fun j => j == n) r (n + 1 + i.size) (fun j a b => by
        have : (j == lo) = false := by simp; omega
        rw [this]; rfl)]
    · have e : rubF (fun j => j == hi) n (.cons k t i r) = .cons k t (rubF (fun j => j == hi) (n + 1) i) (rubF (fun j => j == hi) (n + 1 + i.size) r) := if_neg (by simpa using z)
      rw [e]
      by_cases y : n = lo
      · subst y
        have e1 : rubF (fun j => j == n) n (.cons k t (rubF (fun j => j == hi) (n + 1) i) (rubF (fun j => j == hi) (n + 1 + i.size) r)) = apF (rubF (fun j => j == n) (n + 1) (rubF (fun j => j == hi) (n + 1) i)) (rubF (fun j => j == n) (n + 1 + (rubF (fun j => j == hi) (n + 1) i).size) (rubF (fun j => j == hi) (n + 1 + i.size) r)) := if_pos (by simp)
        have e2 : rubF (fun j => j == n || j == hi) n (.cons k t i r) = apF (rubF (fun j => j == n || j == hi) (n + 1) i) (rubF (fun j => j == n || j == hi) (n + 1 + i.size) r) := if_pos (by simp)
        rw [e1, e2, rubF_two n hi hl i (n + 1), rubF_none (fun j => j == n) _ _ (fun j a b => by simp; omega), rubF_congr (fun j => j == n || j == hi) (fun j => j == hi) r (n + 1 + i.size) (fun j a b => by
          have : (j == n) = false := by simp; omega
          rw [this]; rfl)]
      · have e1 : rubF (fun j => j == lo) n (.cons k t (rubF (fun j => j == hi) (n + 1) i) (rubF (fun j => j == hi) (n + 1 + i.size) r)) = .cons k t (rubF (fun j => j == lo) (n + 1) (rubF (fun j => j == hi) (n + 1) i)) (rubF (fun j => j == lo) (n + 1 + (rubF (fun j => j == hi) (n + 1) i).size) (rubF (fun j => j == hi) (n + 1 + i.size) r)) := if_neg (by simpa using y)
        have e2 : rubF (fun j => j == lo || j == hi) n (.cons k t i r) = .cons k t (rubF (fun j => j == lo || j == hi) (n + 1) i) (rubF (fun j => j == lo || j == hi) (n + 1 + i.size) r) := if_neg (by simp; exact ⟨y, z⟩)
        rw [e1, e2, rubF_two lo hi hl i (n + 1)]
        congr 1
        by_cases x : n ≤ hi ∧ hi < n + 1 + i.size
        · have hs := rubF_one hi i (n + 1) (by omega) (by omega)
          rw [rubF_none (fun j => j == hi) r (n + 1 + i.size) (fun j a b => by simp; omega), rubF_none (fun j => j == lo) r _ (fun j a b => by simp; omega), rubF_none (fun j => j == lo || j == hi) r _ (fun j a b => by simp; omega)]
        · rw [rubF_none (fun j => j == hi) i (n + 1) (fun j a b => by simp; omega)]
          exact rubF_two lo hi hl r (n + 1 + i.size)

/-! ### nested: the walks of _law_nested and of Row.nested, told by the plain machine (printed by mknest.py from nested.part) -/
theorem nst_take {ks ts : List (List Nat)} {ms : List Int} {i : Nat} {mk : Int} {s s0 : List Int × List Fo} (hmk : ms[i]? = some mk) (e : s = (ms.take i).foldl (nstep ks ts) s0) : nstep ks ts s mk = (ms.take (i + 1)).foldl (nstep ks ts) s0 := by
  rw [List.take_succ, hmk, List.foldl_append, ← e]
  rfl
theorem nst_open {ks ts : List (List Nat)} {os : List Int} {fs : List Fo} {mk : Int} (h : os.head? ≠ some mk) : nstep ks ts (os, fs) mk = (mk :: os, .nil :: fs) := if_neg h
theorem nst_close {ks ts : List (List Nat)} {os : List Int} {fl fp : Fo} {fr : List Fo} {o : Int} {k t : List Nat} (hk : ks[o.toNat]? = some k) (ht : ts[o.toNat]? = some t) : nstep ks ts (o :: os, fl :: fp :: fr) o = (os, fp.snoc k t fl :: fr) := by
  refine (if_pos rfl).trans ?_
  show (os, fp.snoc (ks.getD o.toNat []) (ts.getD o.toNat []) fl :: fr) = _
  rw [List.getD_eq_getElem?_getD, hk, List.getD_eq_getElem?_getD, ht]
  rfl
theorem nst_end {ks ts : List (List Nat)} {ms : List Int} {osr : List Int} {fs : List Fo} {fg : Fo} (e : (osr, fs) = ms.foldl (nstep ks ts) ([], [.nil])) (h : fs.getLast? = some fg) : nestF ks ts ms = fg := by
  unfold nestF
  rw [← e]
  show (fs.getLast?).getD .nil = fg
  rw [h]
  rfl
theorem rows_last {H : Hp} {g : Addr} : ∀ {rs : List Addr} {fs : List Fo}, RowsR H rs fs → rs.getLast? = some g → ∃ (fg : Fo) (xs : List V), fs.getLast? = some fg ∧ H g = some (.lst xs) ∧ Items H fg xs
  | [], _, _, e => by cases e
  | [r], [f], h, e => by
    obtain ⟨⟨xs, hx, ix⟩, _⟩ := h
    cases e
    exact ⟨f, xs, rfl, hx, ix⟩
  | [r], [], h, _ => h.elim
  | [r], f :: f2 :: fs, h, _ => h.2.elim
  | r :: r2 :: rs, [], h, _ => h.elim
  | r :: r2 :: rs, [f], h, _ => h.2.elim
  | r :: r2 :: rs, f :: f2 :: fs, h, e => by
    obtain ⟨fg, xs, a, b⟩ := rows_last (rs := r2 :: rs) (fs := f2 :: fs) h.2 (by rw [List.getLast?_cons_cons] at e; exact e)
    exact ⟨fg, xs, by rw [List.getLast?_cons_cons]; exact a, b⟩
def spNest2 : Sp := fun vs H Q _ => ∃ (st m so tx : Addr) (re : List V) (ms : List Int) (ks ts : List (List Nat)) (p : List Nat → List Nat → Prop), vs = [.ref st] ∧ H st = some (.lst (.ref m :: .ref so :: .ref tx :: re)) ∧ H m = some (.lst (ivs ms)) ∧ H so = some (.lst (kws ks)) ∧ H tx = some (.lst (kws ts)) ∧
  ms.length ≤ 100000 ∧ (∀ x ∈ ms, 0 ≤ x ∧ x < 2 ^ 62 ∧ ∃ k t, ks[x.toNat]? = some k ∧ ts[x.toNat]? = some t ∧ p k t) ∧
  ∀ (a : Addr) (H' : Hp), Same H H' → Doc H' (nestF ks ts ms) a → 2 * (nestF ks ts ms).size ≤ ms.length → (nestF ks ts ms).All p → Q (.ref a) H'
def spRNested (C : Addr) : Sp := fun vs H Q _ => ∃ (st dx m so tx oo : Addr) (ms : List Int) (ks ts : List (List Nat)) (p : List Nat → List Nat → Prop), vs = [.ref st] ∧ H st = some (RowO C dx m so tx oo) ∧ H m = some (.lst (ivs ms)) ∧ H so = some (.lst (kws ks)) ∧ H tx = some (.lst (kws ts)) ∧
  ms.length ≤ 100000 ∧ (∀ x ∈ ms, 0 ≤ x ∧ x < 2 ^ 62 ∧ ∃ k t, ks[x.toNat]? = some k ∧ ts[x.toNat]? = some t ∧ p k t) ∧
  ∀ (a : Addr) (H' : Hp), Same H H' → Doc H' (nestF ks ts ms) a → 2 * (nestF ks ts ms).size ≤ ms.length → (nestF ks ts ms).All p → Q (.ref a) H'
section
variable {P : Program} {w : World} {K : PySem.W.Frag} {mg : Str → Option Value} {base : Heap} {f C : Addr} {fd : FuncData}
theorem ok_law_nested2 (F : Fun K "_law_nested" "_law_nested" s_law_nested f fd) (T : Txt mg) : FnOk P w K mg base CX0 1 f fd ["_law_state"] spNest2 := by
  refine F.ok sc_law_nested (fun vs H Q E h => ?_) (fun cdv A outer s H vs Q E hr h => ?_)
  · obtain ⟨st, m, so, tx, re, ms, ks, ts, p, rfl, _⟩ := h
    rfl
  · obtain ⟨st, m, so, tx, re, ms, ks, ts, p, rfl, hst, hm, hso, htx, hl, hms, q⟩ := h
    refine ⟨_, (pss_cons (ps_par (i := 1) (j := 2) (by rfl) sc_law_nested.nd rfl rfl (by decide) rfl rfl (pa_cons (pe_lst (pa_cons (pe_lst pa_nil) pa_nil)) (pa_cons (pe_lst pa_nil) pa_nil)) (by rfl))
      (pss_cons (ps_for PassesOwn.never rfl (pi_listX K (pe_ix (ix_X K) (pv 0) pe_int (fun _ _ => rfl))) (pg_name (i := 3) sc_law_nested.nd rfl (.inl rfl)) (pss_one (ps_if (PW.pt (pw_and (pt_cmpR (op_neX K hr) (pv 2) (pe_lst pa_nil) (nomark _)) (pw_and1 (pt_cmpR (op_eqX K hr) (pe_ix (ix_X K) (pv 2) (pe_un un_neg pe_int) (fun _ _ => rfl)) (pv 3) (nomark _))))) (pss_cons (ps_expr (pe_bm0X K (pe_bm0 PySem.F.plainAttrs_list PySem.F.slot_list_pop PySem.F.type_list_pop mt_pop (pv 2))))
      (pss_cons (ps_set (i := 4) sc_law_nested.nd rfl (.inl rfl) (pe_callTy (cr_tuple K) (by rfl) T.tuple (by decide +kernel) (pa_cons (pe_bm0X K (pe_bm0 PySem.F.plainAttrs_list PySem.F.slot_list_pop PySem.F.type_list_pop mt_pop (pv 1))) pa_nil)))
      (pss_one (ps_expr (pe_bmX K (pe_bm PySem.F.plainAttrs_list PySem.F.slot_list_append PySem.F.type_list_append mt_append (pe_ix (ix_X K) (pv 1) (pe_un un_neg pe_int) (fun _ _ => rfl)) (pa_cons (pe_tup (pa_cons (pe_ix (ix_X K) (pe_ix (ix_X K) (pv 0) pe_int (fun _ _ => rfl)) (pv 3) (fun _ _ => rfl)) (pa_cons (pe_ix (ix_X K) (pe_ix (ix_X K) (pv 0) pe_int (fun _ _ => rfl)) (pv 3) (fun _ _ => rfl)) (pa_cons (pv 4) pa_nil)))) pa_nil))))))) (pss_cons (ps_expr (pe_bmX K (pe_bm PySem.F.plainAttrs_list PySem.F.slot_list_append PySem.F.type_list_append mt_append (pv 2) (pa_cons (pv 3) pa_nil))))
      (pss_one (ps_expr (pe_bmX K (pe_bm PySem.F.plainAttrs_list PySem.F.slot_list_append PySem.F.type_list_append mt_append (pv 1) (pa_cons (pe_lst pa_nil) pa_nil)))))))))
      (pss_one (ps_ret (pe_callTy (cr_tuple K) (by rfl) T.tuple (by decide +kernel) (pa_cons (pe_ix (ix_X K) (pv 1) pe_int (fun _ _ => rfl)) pa_nil)))))), ?_⟩
    change (_ : TS) _ [some (V.ref st), none, none, none, none] _
    k_extra "rr"
    refine ⟨by k_extra "sz", fun r0 nr0 => ?_⟩
    k_extra "rr"
    refine ⟨by k_extra "sz", fun R nR => ?_⟩
    k_extra "rr"
    refine ⟨by k_extra "sz", fun O nO => ?_⟩
    k_extra "rr"
    refine ixL (SqL.of (same_upd nO _ _ (same_upd nR _ _ (same_upd nr0 _ _ hst)))) (atI_nat (j := 0) rfl) ?_
    have i0 : NI H R O p 0 [] [r0] [.nil] (upd (upd (upd H r0 (.lst [])) R (.lst [.ref r0])) O (.lst [])) := {
      same := ((same_upd nr0).trans (same_upd nR)).trans (same_upd nO)
      fR := un0 nR
      fO := un0 (un0 nO)
      hR := upd2 (ne_of_none upd_same nO) upd_same
      hO := upd_same
      rows := ⟨⟨[], same_upd nO _ _ (same_upd nR _ _ upd_same), rfl⟩, trivial⟩
      len := rfl
      nd := (by simp)
      nR := fun z => ne_of_none upd_same nR (List.mem_singleton.mp z).symm
      nO := fun z => ne_of_none (same_upd nR _ _ upd_same) nO (List.mem_singleton.mp z).symm
      RO := ne_of_none upd_same nO
      fresh := fun r z => (by rw [List.mem_singleton.mp z]; exact nr0)
      sz := Nat.le_refl _
      all := fun f z => (by rw [List.mem_singleton.mp z]; trivial) }
    refine ⟨m, rfl, ⟨_, SqL.of (i0.same _ _ hm)⟩, for_list (K := K) (a := m) (xs := ivs ms) (fun i σ H' => ∃ (rs : List Addr) (fs : List Fo) (osr : List Int) (v3 v4 : Option V), ((osr, fs) = (ms.take i).foldl (nstep ks ts) ([], [.nil])) ∧ σ = [some (.ref st), some (.ref R), some (.ref O), v3, v4] ∧ NI H R O p i osr rs fs H')
      ⟨_, _, _, _, _, rfl, rfl, i0⟩ (fun i σ H' _ ⟨_, _, _, _, _, _, _, I⟩ => SqL.of (I.same _ _ hm)) ?_ ?_⟩
    · rintro i x σ H' hx ⟨rs, fs, osr, v3, v4, eM, rfl, I⟩
      obtain ⟨mk, hmk, rfl⟩ := map_at hx
      obtain ⟨mk0, mk1, k, t, ek, et, hkt⟩ := hms mk (List.mem_of_getElem? hmk)
      k_extra "rr"
      refine ⟨by k_extra "sz", fun e0 ne0 => ?_⟩
      k_extra "rr"
      have I1 := I.new (o := .lst []) ne0
      refine neDd (d := .list (osr.reverse.map .int)) (e := .list []) (.lst (SqL.of I1.hO) (ints_ne _)) (.lst (SqL.of upd_same) .nil) (shaped_ints _) shaped_nilL ?_
      rw [eqv_nilL, emp_map]
      clear I
      have il : i < ms.length := (List.getElem?_eq_some_iff.mp hmk).1
      have hsz := I1.sz
      have hlen := I1.len
      rcases osr with _ | ⟨o, os⟩
      · rw [show (!([] : List Int).reverse.isEmpty) = false from rfl]
        rw [List.length_nil] at hsz hlen
        k_extra "rr"
        refine ⟨tyvL I1.hO, ?_⟩
        k_extra "rr"
        refine app I1.hO (by unfold ivs; rw [List.length_map, List.length_reverse, sizeLine_eq]; first | omega | (rw [List.length_nil]; omega) | (rw [List.length_cons]; omega)) ?_
        k_extra "rr"
        refine ⟨tyvL (upd2 I1.RO I1.hR), ?_⟩
        k_extra "rr"
        refine ⟨by k_extra "sz", fun e ne => ?_⟩
        k_extra "rr"
        refine app (same_upd ne _ _ (upd2 I1.RO I1.hR)) (by rw [List.length_map, List.length_reverse, sizeLine_eq]; omega) ?_
        k_extra "rr"
        exact ⟨_, _, _, _, _, (nst_open (ks := ks) (ts := ts) (by simp)).symm.trans (nst_take hmk eM), rfl, I1.open ne⟩
      · rw [show (!(o :: os).reverse.isEmpty) = true by simp]
        rw [List.length_cons] at hsz hlen
        k_extra "rr"
        have hO2 : upd H' e0 (.lst []) O = some (.lst (ivs os.reverse ++ [.int o])) := by
          have := I1.hO
          rw [List.reverse_cons] at this
          unfold ivs at this
          rw [List.map_append] at this
          exact this
        refine ixL (SqL.of hO2) atI_last ?_
        k_extra "rr"
        by_cases z : o = mk
        · subst z
          rw [decide_eq_true rfl]
          k_extra "rr"
          refine ⟨tyvL hO2, popL hO2 ?_⟩
          k_extra "rr"
          obtain ⟨rl, rp, rest, rfl⟩ : ∃ rl rp rest, rs = rl :: rp :: rest := by
            match rs, hlen with
            | a :: b :: r, _ => exact ⟨a, b, r, rfl⟩
          obtain ⟨fl, fp, fr, rfl⟩ : ∃ fl fp fr, fs = fl :: fp :: fr := by
            have := I1.rows.len
            match fs, this with
            | a :: b :: r, _ => exact ⟨a, b, r, rfl⟩
          obtain ⟨⟨xl, hxl, ixl⟩, ⟨xp, hxp, ixp⟩, _⟩ := id I1.rows
          have mp_ : rp ∈ rl :: rp :: rest := List.mem_cons_of_mem _ (List.mem_cons_self ..)
          have ml_ : rl ∈ rl :: rp :: rest := List.mem_cons_self ..
          have pR : rp ≠ R := fun z => I1.nR (z ▸ mp_)
          have pO : rp ≠ O := fun z => I1.nO (z ▸ mp_)
          have lR : rl ≠ R := fun z => I1.nR (z ▸ ml_)
          have lO : rl ≠ O := fun z => I1.nO (z ▸ ml_)
          have hR1 : upd (upd H' e0 (.lst [])) O (.lst (ivs os.reverse)) R = some (.lst ((rp :: rest).reverse.map V.ref ++ [V.ref rl])) := by
            have := I1.hR
            rw [List.reverse_cons, List.map_append] at this
            exact upd2 I1.RO this
          refine ⟨tyvL hR1, popL hR1 ?_⟩
          k_extra "rr"
          refine tupL (SqL.of (upd2 lR (upd2 lO hxl))) fun q0 nq => ?_
          k_extra "rr"
          have hR3 : upd (upd (upd (upd H' e0 (.lst [])) O (.lst (ivs os.reverse))) R (.lst ((rp :: rest).reverse.map V.ref))) q0 (.tup xl) R = some (.lst (rest.reverse.map V.ref ++ [V.ref rp])) := by
            rw [same_upd nq _ _ upd_same, List.reverse_cons, List.map_append]
            rfl
          refine ixL (SqL.of hR3) atI_last ?_
          have hp3 := same_upd (o := .tup xl) nq _ _ (upd2 (o := .lst ((rp :: rest).reverse.map V.ref)) pR (upd2 (o := .lst (ivs os.reverse)) pO hxp))
          refine ⟨tyvL hp3, ?_⟩
          k_extra "rr"
          have sm : Same H (upd (upd (upd (upd H' e0 (.lst [])) O (.lst (ivs os.reverse))) R (.lst ((rp :: rest).reverse.map V.ref))) q0 (.tup xl)) := (same_mut (same_mut I1.same I1.fO) I1.fR).trans (same_upd nq)
          refine ixL (SqL.of (sm _ _ hst)) (atI_nat (j := 1) rfl) ?_
          k_extra "rr"
          have ek' : atI (kws ks) o = some (.str (SX.S k)) := by
            have e := atI_nat (xs := kws ks) (j := o.toNat) (v := .str (SX.S k)) (by unfold kws; rw [List.getElem?_map, ek]; rfl)
            rw [show ((o.toNat : Nat) : Int) = o by omega] at e
            exact e
          have et' : atI (kws ts) o = some (.str (SX.S t)) := by
            have e := atI_nat (xs := kws ts) (j := o.toNat) (v := .str (SX.S t)) (by unfold kws; rw [List.getElem?_map, et]; rfl)
            rw [show ((o.toNat : Nat) : Int) = o by omega] at e
            exact e
          refine ixL (SqL.of (sm _ _ hso)) ek' ?_
          k_extra "rr"
          refine ixL (SqL.of (sm _ _ hst)) (atI_nat (j := 2) rfl) ?_
          k_extra "rr"
          refine ixL (SqL.of (sm _ _ htx)) et' ?_
          k_extra "rr"
          refine ⟨by k_extra "sz", fun pn npn => ?_⟩
          k_extra "rr"
          have hlp := ixp.len
          have hfp : fp.len ≤ fp.size := Fo.len_le fp
          have hss : sizes (fl :: fp :: fr) = fl.size + (fp.size + sizes fr) := rfl
          refine app (same_upd npn _ _ hp3) (by rw [sizeLine_eq]; omega) ?_
          k_extra "rr"
          exact ⟨_, _, _, _, _, (nst_close (ks := ks) (ts := ts) ek et).symm.trans (nst_take hmk eM), rfl, I1.close hxl hxp ixl ixp hkt nq npn⟩
        · rw [decide_eq_false z]
          k_extra "rr"
          refine ⟨tyvL I1.hO, ?_⟩
          k_extra "rr"
          refine app I1.hO (by unfold ivs; rw [List.length_map, List.length_reverse, sizeLine_eq]; first | omega | (rw [List.length_nil]; omega) | (rw [List.length_cons]; omega)) ?_
          k_extra "rr"
          refine ⟨tyvL (upd2 I1.RO I1.hR), ?_⟩
          k_extra "rr"
          refine ⟨by k_extra "sz", fun e ne => ?_⟩
          k_extra "rr"
          refine app (same_upd ne _ _ (upd2 I1.RO I1.hR)) (by rw [List.length_map, List.length_reverse, sizeLine_eq]; omega) ?_
          k_extra "rr"
          exact ⟨_, _, _, _, _, (nst_open (ks := ks) (ts := ts) (by simpa using z)).symm.trans (nst_take hmk eM), rfl, I1.open ne⟩
    · rintro σ H' ⟨rs, fs, osr, v3, v4, eM, rfl, I⟩
      k_extra "rr"
      have hlen := I.len
      obtain ⟨g, r0', hg⟩ : ∃ g r0', rs.reverse = g :: r0' := by
        cases e : rs.reverse with
        | nil =>
          rw [List.reverse_eq_nil_iff.mp e] at hlen
          cases hlen
        | cons a l => exact ⟨a, l, rfl⟩
      have hR2 := I.hR
      rw [hg, List.map_cons] at hR2
      refine ixL (SqL.of hR2) (atI_nat (j := 0) rfl) ?_
      obtain ⟨fg, xs, hfl, hx, ix⟩ := rows_last I.rows (show rs.getLast? = some g by rw [← List.head?_reverse, hg]; rfl)
      have hfg : fg ∈ fs := List.mem_of_getLast? hfl
      have eN : nestF ks ts ms = fg := nst_end (by rw [eM]; unfold ivs; rw [List.length_map, List.take_length]) hfl
      refine tupL (SqL.of hx) fun a na => ?_
      have hsz := I.sz
      unfold ivs at hsz
      rw [List.length_map] at hsz
      have hs2 := sizes_mem hfg
      exact q a _ (I.same.trans (same_upd na)) (by rw [eN]; exact ⟨xs, upd_same, ix.le (TupLe.new na)⟩) (by rw [eN]; omega) (by rw [eN]; exact I.all fg hfg)
theorem ok_Row_nested (F : Fun K "nested" "Row.nested" s_Row_nested f fd) (T : Txt mg) (R : RowC K mg C) : FnOk P w K mg base CX0 1 f fd ["self"] (spRNested C) := by
  refine F.ok sc_Row_nested (fun vs H Q E h => ?_) (fun cdv A outer s H vs Q E hr h => ?_)
  · obtain ⟨st, dx, m, so, tx, oo, ms, ks, ts, p, rfl, _⟩ := h
    rfl
  · obtain ⟨st, dx, m, so, tx, oo, ms, ks, ts, p, rfl, hst, hm, hso, htx, hl, hms, q⟩ := h
    obtain ⟨cl, n1, n2, n3, n4⟩ := R
    unfold RowO at hst
    refine ⟨_, (pss_cons (ps_par (i := 1) (j := 2) (by rfl) sc_Row_nested.nd rfl rfl (by decide) rfl rfl (pa_cons (pe_lst (pa_cons (pe_lst pa_nil) pa_nil)) (pa_cons (pe_lst pa_nil) pa_nil)) (by rfl))
      (pss_cons (ps_for PassesOwn.never rfl (pi_listX K (pe_fldX K (pe_fld (pv 0) rfl))) (pg_name (i := 3) sc_Row_nested.nd rfl (.inl rfl)) (pss_one (ps_if (PW.pt (pw_and (pt_cmpR (op_neX K hr) (pv 2) (pe_lst pa_nil) (nomark _)) (pw_and1 (pt_cmpR (op_eqX K hr) (pe_ix (ix_X K) (pv 2) (pe_un un_neg pe_int) (fun _ _ => rfl)) (pv 3) (nomark _))))) (pss_cons (ps_expr (pe_bm0X K (pe_bm0 PySem.F.plainAttrs_list PySem.F.slot_list_pop PySem.F.type_list_pop mt_pop (pv 2))))
      (pss_cons (ps_set (i := 4) sc_Row_nested.nd rfl (.inl rfl) (pe_callTy (cr_tuple K) (by rfl) T.tuple (by decide +kernel) (pa_cons (pe_bm0X K (pe_bm0 PySem.F.plainAttrs_list PySem.F.slot_list_pop PySem.F.type_list_pop mt_pop (pv 1))) pa_nil)))
      (pss_one (ps_expr (pe_bmX K (pe_bm PySem.F.plainAttrs_list PySem.F.slot_list_append PySem.F.type_list_append mt_append (pe_ix (ix_X K) (pv 1) (pe_un un_neg pe_int) (fun _ _ => rfl)) (pa_cons (pe_tup (pa_cons (pe_ix (ix_X K) (pe_fldX K (pe_fld (pv 0) rfl)) (pv 3) (fun _ _ => rfl)) (pa_cons (pe_ix (ix_X K) (pe_fldX K (pe_fld (pv 0) rfl)) (pv 3) (fun _ _ => rfl)) (pa_cons (pv 4) pa_nil)))) pa_nil))))))) (pss_cons (ps_expr (pe_bmX K (pe_bm PySem.F.plainAttrs_list PySem.F.slot_list_append PySem.F.type_list_append mt_append (pv 2) (pa_cons (pv 3) pa_nil))))
      (pss_one (ps_expr (pe_bmX K (pe_bm PySem.F.plainAttrs_list PySem.F.slot_list_append PySem.F.type_list_append mt_append (pv 1) (pa_cons (pe_lst pa_nil) pa_nil)))))))))
      (pss_one (ps_ret (pe_callTy (cr_tuple K) (by rfl) T.tuple (by decide +kernel) (pa_cons (pe_ix (ix_X K) (pv 1) pe_int (fun _ _ => rfl)) pa_nil)))))), ?_⟩
    change (_ : TS) _ [some (V.ref st), none, none, none, none] _
    k_extra "rr"
    refine ⟨by k_extra "sz", fun r0 nr0 => ?_⟩
    k_extra "rr"
    refine ⟨by k_extra "sz", fun R nR => ?_⟩
    k_extra "rr"
    refine ⟨by k_extra "sz", fun O nO => ?_⟩
    k_extra "rr"
    have hst3 := same_upd (o := .lst []) nO _ _ (same_upd (o := .lst [.ref r0]) nR _ _ (same_upd (o := .lst []) nr0 _ _ hst))
    k_extra "rr"
    have i0 : NI H R O p 0 [] [r0] [.nil] (upd (upd (upd H r0 (.lst [])) R (.lst [.ref r0])) O (.lst [])) := {
      same := ((same_upd nr0).trans (same_upd nR)).trans (same_upd nO)
      fR := un0 nR
      fO := un0 (un0 nO)
      hR := upd2 (ne_of_none upd_same nO) upd_same
      hO := upd_same
      rows := ⟨⟨[], same_upd nO _ _ (same_upd nR _ _ upd_same), rfl⟩, trivial⟩
      len := rfl
      nd := (by simp)
      nR := fun z => ne_of_none upd_same nR (List.mem_singleton.mp z).symm
      nO := fun z => ne_of_none (same_upd nR _ _ upd_same) nO (List.mem_singleton.mp z).symm
      RO := ne_of_none upd_same nO
      fresh := fun r z => (by rw [List.mem_singleton.mp z]; exact nr0)
      sz := Nat.le_refl _
      all := fun f z => (by rw [List.mem_singleton.mp z]; trivial) }
    refine ⟨m, rfl, ⟨_, SqL.of (i0.same _ _ hm)⟩, for_list (K := K) (a := m) (xs := ivs ms) (fun i σ H' => ∃ (rs : List Addr) (fs : List Fo) (osr : List Int) (v3 v4 : Option V), ((osr, fs) = (ms.take i).foldl (nstep ks ts) ([], [.nil])) ∧ σ = [some (.ref st), some (.ref R), some (.ref O), v3, v4] ∧ NI H R O p i osr rs fs H')
      ⟨_, _, _, _, _, rfl, rfl, i0⟩ (fun i σ H' _ ⟨_, _, _, _, _, _, _, I⟩ => SqL.of (I.same _ _ hm)) ?_ ?_⟩
    · rintro i x σ H' hx ⟨rs, fs, osr, v3, v4, eM, rfl, I⟩
      obtain ⟨mk, hmk, rfl⟩ := map_at hx
      obtain ⟨mk0, mk1, k, t, ek, et, hkt⟩ := hms mk (List.mem_of_getElem? hmk)
      k_extra "rr"
      refine ⟨by k_extra "sz", fun e0 ne0 => ?_⟩
      k_extra "rr"
      have I1 := I.new (o := .lst []) ne0
      refine neDd (d := .list (osr.reverse.map .int)) (e := .list []) (.lst (SqL.of I1.hO) (ints_ne _)) (.lst (SqL.of upd_same) .nil) (shaped_ints _) shaped_nilL ?_
      rw [eqv_nilL, emp_map]
      clear I
      have il : i < ms.length := (List.getElem?_eq_some_iff.mp hmk).1
      have hsz := I1.sz
      have hlen := I1.len
      rcases osr with _ | ⟨o, os⟩
      · rw [show (!([] : List Int).reverse.isEmpty) = false from rfl]
        rw [List.length_nil] at hsz hlen
        k_extra "rr"
        refine ⟨tyvL I1.hO, ?_⟩
        k_extra "rr"
        refine app I1.hO (by unfold ivs; rw [List.length_map, List.length_reverse, sizeLine_eq]; first | omega | (rw [List.length_nil]; omega) | (rw [List.length_cons]; omega)) ?_
        k_extra "rr"
        refine ⟨tyvL (upd2 I1.RO I1.hR), ?_⟩
        k_extra "rr"
        refine ⟨by k_extra "sz", fun e ne => ?_⟩
        k_extra "rr"
        refine app (same_upd ne _ _ (upd2 I1.RO I1.hR)) (by rw [List.length_map, List.length_reverse, sizeLine_eq]; omega) ?_
        k_extra "rr"
        exact ⟨_, _, _, _, _, (nst_open (ks := ks) (ts := ts) (by simp)).symm.trans (nst_take hmk eM), rfl, I1.open ne⟩
      · rw [show (!(o :: os).reverse.isEmpty) = true by simp]
        rw [List.length_cons] at hsz hlen
        k_extra "rr"
        have hO2 : upd H' e0 (.lst []) O = some (.lst (ivs os.reverse ++ [.int o])) := by
          have := I1.hO
          rw [List.reverse_cons] at this
          unfold ivs at this
          rw [List.map_append] at this
          exact this
        refine ixL (SqL.of hO2) atI_last ?_
        k_extra "rr"
        by_cases z : o = mk
        · subst z
          rw [decide_eq_true rfl]
          k_extra "rr"
          refine ⟨tyvL hO2, popL hO2 ?_⟩
          k_extra "rr"
          obtain ⟨rl, rp, rest, rfl⟩ : ∃ rl rp rest, rs = rl :: rp :: rest := by
            match rs, hlen with
            | a :: b :: r, _ => exact ⟨a, b, r, rfl⟩
          obtain ⟨fl, fp, fr, rfl⟩ : ∃ fl fp fr, fs = fl :: fp :: fr := by
            have := I1.rows.len
            match fs, this with
            | a :: b :: r, _ => exact ⟨a, b, r, rfl⟩
          obtain ⟨⟨xl, hxl, ixl⟩, ⟨xp, hxp, ixp⟩, _⟩ := id I1.rows
          have mp_ : rp ∈ rl :: rp :: rest := List.mem_cons_of_mem _ (List.mem_cons_self ..)
          have ml_ : rl ∈ rl :: rp :: rest := List.mem_cons_self ..
          have pR : rp ≠ R := fun z => I1.nR (z ▸ mp_)
          have pO : rp ≠ O := fun z => I1.nO (z ▸ mp_)
          have lR : rl ≠ R := fun z => I1.nR (z ▸ ml_)
          have lO : rl ≠ O := fun z => I1.nO (z ▸ ml_)
          have hR1 : upd (upd H' e0 (.lst [])) O (.lst (ivs os.reverse)) R = some (.lst ((rp :: rest).reverse.map V.ref ++ [V.ref rl])) := by
            have := I1.hR
            rw [List.reverse_cons, List.map_append] at this
            exact upd2 I1.RO this
          refine ⟨tyvL hR1, popL hR1 ?_⟩
          k_extra "rr"
          refine tupL (SqL.of (upd2 lR (upd2 lO hxl))) fun q0 nq => ?_
          k_extra "rr"
          have hR3 : upd (upd (upd (upd H' e0 (.lst [])) O (.lst (ivs os.reverse))) R (.lst ((rp :: rest).reverse.map V.ref))) q0 (.tup xl) R = some (.lst (rest.reverse.map V.ref ++ [V.ref rp])) := by
            rw [same_upd nq _ _ upd_same, List.reverse_cons, List.map_append]
            rfl
          refine ixL (SqL.of hR3) atI_last ?_
          have hp3 := same_upd (o := .tup xl) nq _ _ (upd2 (o := .lst ((rp :: rest).reverse.map V.ref)) pR (upd2 (o := .lst (ivs os.reverse)) pO hxp))
          refine ⟨tyvL hp3, ?_⟩
          k_extra "rr"
          have sm : Same H (upd (upd (upd (upd H' e0 (.lst [])) O (.lst (ivs os.reverse))) R (.lst ((rp :: rest).reverse.map V.ref))) q0 (.tup xl)) := (same_mut (same_mut I1.same I1.fO) I1.fR).trans (same_upd nq)
          have hst5 := sm _ _ hst
          k_extra "rr"
          have ek' : atI (kws ks) o = some (.str (SX.S k)) := by
            have e := atI_nat (xs := kws ks) (j := o.toNat) (v := .str (SX.S k)) (by unfold kws; rw [List.getElem?_map, ek]; rfl)
            rw [show ((o.toNat : Nat) : Int) = o by omega] at e
            exact e
          have et' : atI (kws ts) o = some (.str (SX.S t)) := by
            have e := atI_nat (xs := kws ts) (j := o.toNat) (v := .str (SX.S t)) (by unfold kws; rw [List.getElem?_map, et]; rfl)
            rw [show ((o.toNat : Nat) : Int) = o by omega] at e
            exact e
          refine ixL (SqL.of (sm _ _ hso)) ek' ?_
          k_extra "rr"
          have hst5 := sm _ _ hst
          k_extra "rr"
          refine ixL (SqL.of (sm _ _ htx)) et' ?_
          k_extra "rr"
          refine ⟨by k_extra "sz", fun pn npn => ?_⟩
          k_extra "rr"
          have hlp := ixp.len
          have hfp : fp.len ≤ fp.size := Fo.len_le fp
          have hss : sizes (fl :: fp :: fr) = fl.size + (fp.size + sizes fr) := rfl
          refine app (same_upd npn _ _ hp3) (by rw [sizeLine_eq]; omega) ?_
          k_extra "rr"
          exact ⟨_, _, _, _, _, (nst_close (ks := ks) (ts := ts) ek et).symm.trans (nst_take hmk eM), rfl, I1.close hxl hxp ixl ixp hkt nq npn⟩
        · rw [decide_eq_false z]
          k_extra "rr"
          refine ⟨tyvL I1.hO, ?_⟩
          k_extra "rr"
          refine app I1.hO (by unfold ivs; rw [List.length_map, List.length_reverse, sizeLine_eq]; first | omega | (rw [List.length_nil]; omega) | (rw [List.length_cons]; omega)) ?_
          k_extra "rr"
          refine ⟨tyvL (upd2 I1.RO I1.hR), ?_⟩
          k_extra "rr"
          refine ⟨by k_extra "sz", fun e ne => ?_⟩
          k_extra "rr"
          refine app (same_upd ne _ _ (upd2 I1.RO I1.hR)) (by rw [List.length_map, List.length_reverse, sizeLine_eq]; omega) ?_
          k_extra "rr"
          exact ⟨_, _, _, _, _, (nst_open (ks := ks) (ts := ts) (by simpa using z)).symm.trans (nst_take hmk eM), rfl, I1.open ne⟩
    · rintro σ H' ⟨rs, fs, osr, v3, v4, eM, rfl, I⟩
      k_extra "rr"
      have hlen := I.len
      obtain ⟨g, r0', hg⟩ : ∃ g r0', rs.reverse = g :: r0' := by
        cases e : rs.reverse with
        | nil =>
          rw [List.reverse_eq_nil_iff.mp e] at hlen
          cases hlen
        | cons a l => exact ⟨a, l, rfl⟩
      have hR2 := I.hR
      rw [hg, List.map_cons] at hR2
      refine ixL (SqL.of hR2) (atI_nat (j := 0) rfl) ?_
      obtain ⟨fg, xs, hfl, hx, ix⟩ := rows_last I.rows (show rs.getLast? = some g by rw [← List.head?_reverse, hg]; rfl)
      have hfg : fg ∈ fs := List.mem_of_getLast? hfl
      have eN : nestF ks ts ms = fg := nst_end (by rw [eM]; unfold ivs; rw [List.length_map, List.take_length]) hfl
      refine tupL (SqL.of hx) fun a na => ?_
      have hsz := I.sz
      unfold ivs at hsz
      rw [List.length_map] at hsz
      have hs2 := sizes_mem hfg
      exact q a _ (I.same.trans (same_upd na)) (by rw [eN]; exact ⟨xs, upd_same, ix.le (TupLe.new na)⟩) (by rw [eN]; omega) (by rw [eN]; exact I.all fg hfg)
end

/-! ### Row.made_of -/
section
variable {C p dx m k t o l x : Addr} {H H' : Hp} {ms : List Int} {ks ts : List (List Nat)} {os : List V} {u : HO}
theorem NewRow.new (h : NewRow C H H' p dx m k t o ms ks ts os) (n : H' x = none) : NewRow C H (upd H' x u) p dx m k t o ms ks ts os :=
  { h with same := h.same.trans (same_upd n), hp := same_upd n _ _ h.hp, hm := same_upd n _ _ h.hm, hk := same_upd n _ _ h.hk, ht := same_upd n _ _ h.ht, ho := same_upd n _ _ h.ho }
theorem NewRow.oth {l1 : List V} (h : NewRow C H H' p dx m k t o ms ks ts os) (fl : H l = none) (hl : H' l = some (.lst l1)) (lm : l ≠ m) (lk : l ≠ k) (lt : l ≠ t) (lo : l ≠ o) : NewRow C H (upd H' l u) p dx m k t o ms ks ts os := by
  have lp : l ≠ p := fun z => by
    rw [z, h.hp] at hl
    cases hl
  exact { h with same := same_mut h.same fl, hp := upd2 lp.symm h.hp, hm := upd2 lm.symm h.hm, hk := upd2 lk.symm h.hk, ht := upd2 lt.symm h.ht, ho := upd2 lo.symm h.ho }
theorem NewRow.mark (h : NewRow C H H' p dx m k t o ms ks ts os) (i : Int) : NewRow C H (upd H' m (.lst (ivs ms ++ [.int i]))) p dx m k t o (ms ++ [i]) ks ts os := by
  have mp : m ≠ p := fun z => by
    have e := h.hp
    rw [← z, h.hm] at e
    cases e
  refine { h with same := same_mut h.same h.fm, hp := upd2 mp.symm h.hp, hm := ?_, hk := upd2 h.mk_.symm h.hk, ht := upd2 h.mt_.symm h.ht, ho := upd2 h.mo_.symm h.ho }
  rw [upd_same]
  unfold ivs
  rw [List.map_append]
  rfl
theorem NewRow.add {H2 : Hp} {a b : List Nat} {v : V} (h : NewRow C H H' p dx m k t o ms ks ts os) (e3 : ∀ b u, H' b = some u → b ≠ k → b ≠ t → b ≠ o → H2 b = some u) (hk : H2 k = some (.lst (kws ks ++ [.str (SX.S a)]))) (ht : H2 t = some (.lst (kws ts ++ [.str (SX.S b)]))) (ho : H2 o = some (.lst (os ++ [v]))) :
    NewRow C H H2 p dx m k t o ms (ks ++ [a]) (ts ++ [b]) (os ++ [v]) := by
  have pk : p ≠ k := fun z => by
    have e := h.hp
    rw [z, h.hk] at e
    cases e
  have pt : p ≠ t := fun z => by
    have e := h.hp
    rw [z, h.ht] at e
    cases e
  have po : p ≠ o := fun z => by
    have e := h.hp
    rw [z, h.ho] at e
    cases e
  refine { h with same := fun c w e => e3 c w (h.same c w e) (ne_of_none e h.fk) (ne_of_none e h.ft) (ne_of_none e h.fo), hp := e3 _ _ h.hp pk pt po, hm := e3 _ _ h.hm h.mk_ h.mt_ h.mo_, hk := ?_, ht := ?_, ho := ho }
  · rw [hk]
    unfold kws
    rw [List.map_append]
    rfl
  · rw [ht]
    unfold kws
    rw [List.map_append]
    rfl
theorem NewRow.tup {H2 : Hp} (h : NewRow C H H' p dx m k t o ms ks ts os) (e3 : ∀ b u, H' b = some u → b ≠ k → b ≠ t → b ≠ o → H2 b = some u) : TupLe H' H2 := fun c xs e => e3 c _ e
  (fun z => by
    rw [z, h.hk] at e
    cases e) (fun z => by
    rw [z, h.ht] at e
    cases e) (fun z => by
    rw [z, h.ho] at e
    cases e)
end
theorem upTo_succ (n : Nat) : upTo (n + 1) = upTo n ++ [.int (n : Int)] := by
  unfold upTo
  rw [List.range_succ, List.map_append]
  rfl
section
variable {P : Program} {w : World} {K : PySem.W.Frag} {mg : Str → Option Value} {base : Heap} {f C : Addr} {fd : FuncData}
theorem ok_Row_made_of (F : Fun K "made_of" "Row.made_of" s_Row_made_of f fd) (T : Txt mg) (R : RowC K mg C) (v_Row : Ob.MakV P w K mg base 1 C (spRowI C)) (c_Row_added : C8.Met P w K mg base 1 C "added" (spAdded C) []) : FnOk P w K mg base CX0 3 f fd ["cls", "document"] (spMade C) := by
  refine F.ok sc_Row_made_of (fun vs H Q E h => ?_) (fun cdv A outer s H vs Q E hr h => ?_)
  · obtain ⟨d, fo, rfl, _⟩ := h
    rfl
  · obtain ⟨d, fo, rfl, hd, hg, hdep, hsz, q⟩ := h
    obtain ⟨cl, n1, n2, n3, n4⟩ := R
    obtain ⟨xs, hxs, ixs⟩ := hd
    refine ⟨_, (pss_cons (ps_set (i := 2) sc_Row_made_of.nd rfl (.inl rfl) (Ob.pe_mkv (i := 0) v_Row hr (by omega) rfl (.inl rfl)))
      (pss_cons (ps_set (i := 3) sc_Row_made_of.nd rfl (.inl rfl) (pe_callTy (cr_list K) (by rfl) T.list (by decide +kernel) (pa_cons (pe_revT K (pv 1)) pa_nil)))
      (pss_cons (ps_while PassesOwn.never (pt_cmpR (op_neX K hr) (pv 3) (pe_lst pa_nil) (nomark _)) (pss_cons (ps_set (i := 4) sc_Row_made_of.nd rfl (.inl rfl) (pe_bm0X K (pe_bm0 PySem.F.plainAttrs_list PySem.F.slot_list_pop PySem.F.type_list_pop mt_pop (pv 3))))
      (pss_one (ps_if (pt_val (pe_callB (cr_isi K) (by rfl) T.isinstance (by decide +kernel) (pa_cons (pv 4) (pa_cons (pe_bltn (v := .ty "int") (by rfl) T.int (by decide +kernel) rfl) pa_nil)))) (pss_one (ps_expr (pe_bmX K (pe_bm PySem.F.plainAttrs_list PySem.F.slot_list_append PySem.F.type_list_append mt_append (pe_fldX K (pe_fld (pv 2) rfl)) (pa_cons (pv 4) pa_nil))))) (pss_cons (ps_asg (pv 4) (pg_tupX K (pg_tup (n := 3) (by rfl) (pgs_cons (pg_name (i := 5) sc_Row_made_of.nd rfl (.inl rfl)) (pgs_cons (pg_name (i := 6) sc_Row_made_of.nd rfl (.inl rfl)) (pgs_cons (pg_name (i := 7) sc_Row_made_of.nd rfl (.inl rfl)) pgs_nil))))))
      (pss_cons (ps_set (i := 8) sc_Row_made_of.nd rfl (.inl rfl) (C8.pe_mt c_Row_added hr (by omega) (pv 2) (pa_cons (pv 5) (pa_cons (pv 6) (pa_cons (pe_callB (call_lenX K) (by rfl) T.len PySem.boot_len (pa_cons (pe_fldX K (pe_fld (pv 2) rfl)) pa_nil)) pa_nil)))))
      (pss_cons (ps_expr (pe_bmX K (pe_bm PySem.F.plainAttrs_list PySem.F.slot_list_append PySem.F.type_list_append mt_append (pe_fldX K (pe_fld (pv 2) rfl)) (pa_cons (pv 8) pa_nil))))
      (pss_cons (ps_expr (pe_bmX K (pe_bm PySem.F.plainAttrs_list PySem.F.slot_list_append PySem.F.type_list_append mt_append (pv 3) (pa_cons (pv 8) pa_nil))))
      (pss_one (ps_aug (i := 3) sc_Row_made_of.nd rfl (.inl rfl) (pe_callTy (cr_list K) (by rfl) T.list (by decide +kernel) (pa_cons (pe_revT K (pv 7)) pa_nil)) ip_X))))))))))
      (pss_one (ps_ret (pv 2)))))), ?_⟩
    change (_ : TS) _ [some (V.ref C), some (.ref d), none, none, none, none, none, none, none] _
    k_extra "rr"
    refine Ob.mkv rfl fun x dx nx ndx nex => ?_
    refine ⟨x, dx, rfl, upd_same, fun m k t o H1 keep hx m0 k0 t0 o0 hm hk ht ho mk_ mt_ mo_ kt_ ko_ to_ => ⟨rfl, ?_⟩⟩
    have s1 : Same H H1 := fun b u e => keep b u (upd2 (ne_of_none e nx) (upd2 (ne_of_none e ndx) e)) (ne_of_none e nx)
    have N0 : NewRow C H H1 x dx m k t o [] [] [] (upTo 0) := ⟨s1, nx, un0 (un0 m0), un0 (un0 k0), un0 (un0 t0), un0 (un0 o0), hx, hm, hk, ht, ho, mk_, mt_, mo_, kt_, ko_, to_⟩
    clear keep hx m0 k0 t0 o0 hm hk ht ho mk_ mt_ mo_ kt_ ko_ to_ nx ndx nex
    k_extra "rr"
    refine ⟨d, xs, rfl, SqT.of (s1 _ _ hxs), fun r nr => ?_⟩
    k_extra "rr"
    refine listT (SqT.of upd_same) fun l nl => ?_
    have N1 := (N0.new (u := .tup xs.reverse) nr).new (u := .lst xs.reverse) nl
    have hl : upd (upd H1 r (.tup xs.reverse)) l (.lst xs.reverse) l = some (.lst xs.reverse) := upd_same
    have lm := ne_of_none (same_upd nr _ _ N0.hm) nl
    have lk := ne_of_none (same_upd nr _ _ N0.hk) nl
    have lt := ne_of_none (same_upd nr _ _ N0.ht) nl
    have lo := ne_of_none (same_upd nr _ _ N0.ho) nl
    have fl : H l = none := by
      cases e : H l with
      | none => rfl
      | some u =>
        rw [same_upd nr _ _ (s1 _ _ e)] at nl
        cases nl
    have hi0 := (ixs.le (TupLe.same N1.same)).tds
    generalize upd (upd H1 r (.tup xs.reverse)) l (.lst xs.reverse) = H2 at N1 hl hi0
    clear N0 s1 nr nl
    k_extra "rr"
    obtain ⟨W, hW⟩ : ∃ W : Nat → L2.St → Hp → Prop, ∀ ms' σ H', W ms' σ H' ↔ ∃ (n : Nat) (L : List Td) (vs : List V) (ms : List Int) (ks ts : List (List Nat)) (v4 v5 v6 v7 v8 : Option V), σ = [some (.ref C), some (.ref d), some (.ref x), some (.ref l), v4, v5, v6, v7, v8] ∧ NewRow C H H' x dx m k t o ms ks ts (upTo n) ∧
      H' l = some (.lst vs.reverse) ∧ TdsAt H' L vs ∧ (∀ t ∈ L, TdG t) ∧ ms ++ tdM n L = mkI 0 fo ∧ ks ++ tdK L = fks fo ∧ ts ++ tdT L = fts fo ∧ ks.length = n ∧ ts.length = n ∧ ms' = tdW L ∧ tdW L ≤ 2000 := ⟨_, fun _ _ _ => Iff.rfl⟩
    refine ⟨W, ⟨_, (hW _ _ _).mpr ⟨0, fo.nodes, xs, [], [], [], _, _, _, _, _, rfl, N1, hl, hi0, nodes_G hg hdep, ?_, ?_, ?_, rfl, rfl, rfl, ?_⟩⟩, ?_⟩
    · have := tdM_nodes [] fo 0
      rw [List.append_nil] at this
      rw [this]
      exact List.append_nil _
    · have := tdK_nodes [] fo
      rw [List.append_nil] at this
      rw [this]
      exact List.append_nil _
    · have := tdT_nodes [] fo
      rw [List.append_nil] at this
      rw [this]
      exact List.append_nil _
    · have := tdW_nodes [] fo
      rw [List.append_nil] at this
      rw [this]
      show 2 * fo.size + 0 ≤ 2000
      omega
    clear hl hi0 N1
    intro me σ H3 hw
    obtain ⟨n, L, vs, ms, ks, ts, v4, v5, v6, v7, v8, rfl, N, hl, hT, hG, hM, hKs, hTs, lks, lts, hme, hwt⟩ := (hW _ _ _).mp hw
    clear hw
    k_extra "rr"
    refine ⟨by k_extra "sz", fun e ne => ?_⟩
    have N2 := N.new (u := .lst []) ne
    have hl2 := same_upd (o := .lst []) ne _ _ hl
    have hT2 := hT.le (TupLe.new (o := .lst []) ne)
    k_extra "rr"
    refine neDd (d := .list (L.map tdD).reverse) (e := .list []) (.lst (SqL.of hl2) hT2.dp) (.lst (SqL.of upd_same) .nil) (shaped_tds hG) shaped_nilL ?_
    rw [eqv_nilL]
    clear N hl hT
    generalize upd H3 e (.lst []) = H4 at N2 hl2 hT2
    have hvl := hT2.len
    have hLl := tdW_len L
    have hml := congrArg List.length hM
    rw [List.length_append, mkI_len] at hml
    have hkl := congrArg List.length hKs
    rw [List.length_append, fks_len] at hkl
    match L, vs, hT2 with
    | [], [], _ =>
      rw [show (!((([] : List Td).map tdD).reverse).isEmpty) = false from rfl]
      k_extra "rr"
      have e1 : mkI 0 fo = ms := by rw [← hM]; exact List.append_nil _
      have e2 : fks fo = ks := by rw [← hKs]; exact List.append_nil _
      have e3 : fts fo = ts := by rw [← hTs]; exact List.append_nil _
      have e4 : fo.size = n := by rw [← fks_len, e2, lks]
      refine q x dx m k t o H4 ?_
      rw [e1, e2, e3, e4]
      exact N2
    | td :: L, v :: vs, ⟨hv, hT3⟩ =>
      rw [show (!(((td :: L).map tdD).reverse).isEmpty) = true by simp]
      k_extra "rr"
      refine ⟨_, fun _ _ h => h, ?_⟩
      k_extra "rr"
      rw [List.reverse_cons] at hl2
      refine ⟨tyvL hl2, popL hl2 ?_⟩
      have N3 := N2.oth (u := .lst vs.reverse) fl hl2 lm.symm lk.symm lt.symm lo.symm
      have tl3 : TupLe H4 (upd H4 l (.lst vs.reverse)) := TupLe.lst hl2
      have hl3 : upd H4 l (.lst vs.reverse) l = some (.lst vs.reverse) := upd_same
      have hv3 := hv.le tl3
      have hT4 := hT3.le tl3
      have hG1 := hG td (List.mem_cons_self ..)
      have hG2 := fun t m => hG t (List.mem_cons_of_mem _ m)
      clear N2 hl2 hv hT3 tl3 hG
      generalize upd H4 l (.lst vs.reverse) = H5 at N3 hl3 hv3 hT4
      have hx5 : H5 x = some (.ins C dx (rowF (.ref m) (.ref k) (.ref t) (.ref o))) := N3.hp
      cases td with
      | num i =>
        rw [show v = .int i from hv3]
        k_extra "rr"
        refine ⟨tyvL N3.hm, ?_⟩
        k_extra "rr"
        refine app N3.hm (by unfold ivs; rw [List.length_map, sizeLine_eq]; omega) ?_
        k_extra "rr"
        have N4 := N3.mark i
        have lm5 : l ≠ m := lm.symm
        have hw1 : tdW (Td.num i :: L) = 1 + tdW L := rfl
        refine ⟨tdW L, by omega, (hW _ _ _).mpr ⟨n, L, vs, ms ++ [i], ks, ts, _, _, _, _, _, rfl, N4, upd2 lm5 hl3, hT4.le (TupLe.lst N3.hm), hG2, ?_, hKs, hTs, lks, lts, rfl, by omega⟩⟩
        rw [List.append_assoc]
        exact hM
      | nd a b i =>
        obtain ⟨pv, qv, rfl, hpv, hqd⟩ := hv3
        obtain ⟨gab, gi, di⟩ := hG1
        have hk5 := N3.hk
        have hw1 : tdW (Td.nd a b i :: L) = 2 + 2 * i.size + tdW L := rfl
        have kl : (kws ks).length = n := by unfold kws; rw [List.length_map]; exact lks
        have tl : (kws ts).length = n := by unfold kws; rw [List.length_map]; exact lts
        have ul : (upTo n).length = n := by unfold upTo; rw [List.length_map, List.length_range]
        k_extra "rr"
        rw [kl]
        refine ⟨x, dx, m, k, t, o, .str (SX.S a), .str (SX.S b), .int (n : Int), kws ks, kws ts, upTo n, rfl, N3.hp, N3.hk, N3.ht, N3.ho, N3.kt_, N3.ko_, N3.to_, by omega, by omega, by omega, fun H6 e3 e4 hk6 ht6 ho6 => ?_⟩
        have N4 := N3.add e3 hk6 ht6 ho6
        rw [← upTo_succ] at N4
        have tl6 := N3.tup e3
        have hl6 := e3 _ _ hl3 lk.symm lt.symm lo.symm
        have hT6 := hT4.le tl6
        have hqd6 := hqd.le tl6
        clear N3 hl3 hT4 hqd hpv tl6 e3 e4 hk6 ht6 ho6 hk5 hx5
        have hx6 : H6 x = some (.ins C dx (rowF (.ref m) (.ref k) (.ref t) (.ref o))) := N4.hp
        rw [kl]
        k_extra "rr"
        refine ⟨tyvL N4.hm, ?_⟩
        k_extra "rr"
        refine app N4.hm (by unfold ivs; rw [List.length_map, sizeLine_eq]; omega) ?_
        have N5 := N4.mark (n : Int)
        have hl7 := upd2 (o := .lst (ivs ms ++ [.int (n : Int)])) lm.symm hl6
        have hT7 := hT6.le (TupLe.lst (m := ivs ms ++ [.int (n : Int)]) N4.hm)
        have hqd7 := hqd6.le (TupLe.lst (m := ivs ms ++ [.int (n : Int)]) N4.hm)
        clear hl6 hT6 hqd6
        generalize upd H6 m (.lst (ivs ms ++ [.int (n : Int)])) = H7 at N5 hl7 hT7 hqd7
        k_extra "rr"
        refine ⟨tyvL hl7, ?_⟩
        k_extra "rr"
        refine app hl7 (by rw [List.length_reverse, sizeLine_eq]; simp only [List.length_cons] at hvl hLl; omega) ?_
        have N6 := N5.oth (u := .lst (vs.reverse ++ [.int (n : Int)])) fl hl7 lm.symm lk.symm lt.symm lo.symm
        have hl8 : upd H7 l (.lst (vs.reverse ++ [.int (n : Int)])) l = some (.lst (vs.reverse ++ [.int (n : Int)])) := upd_same
        have hT8 := hT7.le (TupLe.lst (m := vs.reverse ++ [.int (n : Int)]) hl7)
        obtain ⟨ys, hys, iys⟩ := hqd7.le (TupLe.lst (m := vs.reverse ++ [.int (n : Int)]) hl7)
        clear hl7 hT7 hqd7 N4 N5
        generalize upd H7 l (.lst (vs.reverse ++ [.int (n : Int)])) = H8 at N6 hl8 hT8 hys iys
        k_extra "rr"
        refine ⟨qv, ys, rfl, SqT.of hys, fun r2 nr2 => ?_⟩
        k_extra "rr"
        refine listT (SqT.of upd_same) fun l2 nl2 => ?_
        have N7 := (N6.new (u := .tup ys.reverse) nr2).new (u := .lst ys.reverse) nl2
        have ss := (same_upd (o := .tup ys.reverse) nr2).trans (same_upd (o := .lst ys.reverse) nl2)
        have hl9 := ss _ _ hl8
        have hl29 : upd (upd H8 r2 (.tup ys.reverse)) l2 (.lst ys.reverse) l2 = some (.lst ys.reverse) := upd_same
        have hT9 := hT8.le (TupLe.same ss)
        have i9 := (iys.le (TupLe.same ss)).tds
        have yl := iys.len
        have ile := Fo.len_le i
        clear hl8 hT8 hys iys N6
        generalize upd (upd H8 r2 (.tup ys.reverse)) l2 (.lst ys.reverse) = H9 at N7 hl9 hl29 hT9 i9
        k_extra "rr"
        refine ipL2 hl9 hl29 (by rw [List.length_append, List.length_reverse, List.length_reverse, List.length_singleton, sizeLine_eq]; simp only [List.length_cons] at hvl hLl; omega) ?_
        k_extra "rr"
        have N8 := N7.oth (u := .lst (vs.reverse ++ [.int (n : Int)] ++ ys.reverse)) fl hl9 lm.symm lk.symm lt.symm lo.symm
        have tl9 : TupLe H9 (upd H9 l (.lst (vs.reverse ++ [.int (n : Int)] ++ ys.reverse))) := TupLe.lst hl9
        have hwn : tdW (i.nodes ++ Td.num (n : Int) :: L) = 2 * i.size + (1 + tdW L) := tdW_nodes _ i
        refine ⟨tdW (i.nodes ++ .num (n : Int) :: L), by omega, (hW _ _ _).mpr ⟨n + 1, i.nodes ++ .num (n : Int) :: L, ys ++ .int (n : Int) :: vs, ms ++ [(n : Int)], ks ++ [a], ts ++ [b], _, _, _, _, _, rfl, N8, ?_, ?_, ?_, ?_, ?_, ?_, ?_, ?_, rfl, by omega⟩⟩
        · rw [upd_same, List.reverse_append, List.reverse_cons]
        · exact (i9.le tl9).app ⟨rfl, hT9.le tl9⟩
        · intro t m
          rcases List.mem_append.mp m with m | m
          · exact nodes_G gi (by omega) t m
          · rcases List.mem_cons.mp m with rfl | m
            · exact ⟨by omega, by omega⟩
            · exact hG2 t m
        · rw [tdM_nodes, List.append_assoc]
          exact hM
        · rw [tdK_nodes, List.append_assoc]
          exact hKs
        · rw [tdT_nodes, List.append_assoc]
          exact hTs
        · rw [List.length_append, lks]
          rfl
        · rw [List.length_append, lts]
          rfl
end

/-! ### the law's own rows: _law_flat, _law_row -/
def upF (a n : Nat) : List V := (List.range n).map fun i : Nat => V.int ((a + i : Nat) : Int)
theorem upF_cons (a n : Nat) : upF a (n + 1) = .int (a : Int) :: upF (a + 1) n := by
  unfold upF
  rw [List.range_succ_eq_map, List.map_cons, List.map_map]
  congr 1
  refine List.map_congr_left fun i _ => ?_
  show V.int ((a + (i + 1) : Nat) : Int) = V.int ((a + 1 + i : Nat) : Int)
  rw [show a + (i + 1) = a + 1 + i by omega]
theorem upF_app : ∀ (n a m : Nat), upF a (n + m) = upF a n ++ upF (a + n) m
  | 0, a, m => by rw [Nat.zero_add]; rfl
  | n + 1, a, m => by
    rw [show n + 1 + m = (n + m) + 1 by omega, upF_cons, upF_app n (a + 1) m, upF_cons, show a + 1 + n = a + (n + 1) by omega]
    rfl
theorem upF_len (a n : Nat) : (upF a n).length = n := by unfold upF; rw [List.length_map, List.length_range]
theorem upF_zero (n : Nat) : upF 0 n = upTo n := by
  unfold upF upTo
  refine List.map_congr_left fun i _ => ?_
  rw [Nat.zero_add]
/-- four lists in a list -/
structure St4 (H : Hp) (st m k t o : Addr) (ms : List Int) (ks ts : List (List Nat)) (os : List V) : Prop where
  hst : H st = some (.lst [.ref m, .ref k, .ref t, .ref o])
  hm : H m = some (.lst (ivs ms))
  hk : H k = some (.lst (kws ks))
  ht : H t = some (.lst (kws ts))
  ho : H o = some (.lst os)
  sm : st ≠ m
  sk : st ≠ k
  s_t : st ≠ t
  so : st ≠ o
  mk_ : m ≠ k
  mt_ : m ≠ t
  mo_ : m ≠ o
  kt_ : k ≠ t
  ko_ : k ≠ o
  to_ : t ≠ o
def But4 (m k t o : Addr) (H H' : Hp) : Prop := ∀ b u, H b = some u → b ≠ m → b ≠ k → b ≠ t → b ≠ o → H' b = some u
section
variable {st m k t o : Addr} {H H' H2 : Hp} {ms : List Int} {ks ts : List (List Nat)} {os : List V}
theorem But4.refl : But4 m k t o H H := fun _ _ e _ _ _ _ => e
theorem But4.trans (a : But4 m k t o H H') (b : But4 m k t o H' H2) : But4 m k t o H H2 := fun c u e h1 h2 h3 h4 => b c u (a c u e h1 h2 h3 h4) h1 h2 h3 h4
theorem But4.upd {l : Addr} {u : HO} (h : l = m ∨ l = k ∨ l = t ∨ l = o) : But4 m k t o H (upd H l u) := fun c w e h1 h2 h3 h4 => by
  rw [upd_ne (fun z => by rcases h with h | h | h | h <;> simp_all)]
  exact e
theorem But4.tup (h : St4 H st m k t o ms ks ts os) (b : But4 m k t o H H') : TupLe H H' := fun c xs e => b c _ e
  (fun z => by
    rw [z, h.hm] at e
    cases e) (fun z => by
    rw [z, h.hk] at e
    cases e) (fun z => by
    rw [z, h.ht] at e
    cases e) (fun z => by
    rw [z, h.ho] at e
    cases e)
theorem St4.mark (h : St4 H st m k t o ms ks ts os) (i : Int) : St4 (upd H m (.lst (ivs ms ++ [.int i]))) st m k t o (ms ++ [i]) ks ts os :=
  { h with hst := upd2 h.sm h.hst, hm := (by rw [upd_same]; unfold ivs; rw [List.map_append]; rfl), hk := upd2 h.mk_.symm h.hk, ht := upd2 h.mt_.symm h.ht, ho := upd2 h.mo_.symm h.ho }
theorem St4.kind (h : St4 H st m k t o ms ks ts os) (a : List Nat) : St4 (upd H k (.lst (kws ks ++ [.str (SX.S a)]))) st m k t o ms (ks ++ [a]) ts os :=
  { h with hst := upd2 h.sk h.hst, hm := upd2 h.mk_ h.hm, hk := (by rw [upd_same]; unfold kws; rw [List.map_append]; rfl), ht := upd2 h.kt_.symm h.ht, ho := upd2 h.ko_.symm h.ho }
theorem St4.text (h : St4 H st m k t o ms ks ts os) (a : List Nat) : St4 (upd H t (.lst (kws ts ++ [.str (SX.S a)]))) st m k t o ms ks (ts ++ [a]) os :=
  { h with hst := upd2 h.s_t h.hst, hm := upd2 h.mt_ h.hm, hk := upd2 h.kt_ h.hk, ht := (by rw [upd_same]; unfold kws; rw [List.map_append]; rfl), ho := upd2 h.to_.symm h.ho }
theorem St4.orig (h : St4 H st m k t o ms ks ts os) (v : V) : St4 (upd H o (.lst (os ++ [v]))) st m k t o ms ks ts (os ++ [v]) :=
  { h with hst := upd2 h.so h.hst, hm := upd2 h.mo_ h.hm, hk := upd2 h.ko_ h.hk, ht := upd2 h.to_ h.ht, ho := upd_same }
end
def spFlat (K : PySem.W.Frag) (n : Nat) : Sp := fun vs H Q _ => ∃ (d st m k t o : Addr) (xs : List V) (f : Fo) (ms : List Int) (ks ts : List (List Nat)) (os : List V), vs = [.ref d, .ref st] ∧ H d = some (.tup xs) ∧ Items H f xs ∧ f.depth ≤ n ∧ St4 H st m k t o ms ks ts os ∧
  ms.length + 2 * f.size ≤ 100000 ∧ ks.length + f.size ≤ 100000 ∧ ts.length + f.size ≤ 100000 ∧ os.length + f.size ≤ 100000 ∧
  ∀ H', But4 m k t o H H' → St4 H' st m k t o (ms ++ mkI ks.length f) (ks ++ fks f) (ts ++ fts f) (os ++ upF ks.length f.size) → Q (.ref st) H'
section
variable {P : Program} {w : World} {K : PySem.W.Frag} {mg : Str → Option Value} {base : Heap} {f : Addr} {fd : FuncData}
theorem ok_law_flat {n : Nat} {sp' : Sp} (F : Fun K "_law_flat" "_law_flat" s_law_flat f fd) (T : Txt mg) (c_law_flat : Cal P w K mg base (n + 1) "_law_flat" sp') (hsub : ∀ j, n = j + 1 → ∀ vs H Q E, spFlat K j vs H Q E → sp' vs H Q E) : FnOk P w K mg base CX0 (n + 2) f fd ["_law_document_z", "_law_state"] (spFlat K n) := by
  refine F.ok sc_law_flat (fun vs H Q E h => ?_) (fun cdv A outer s H vs Q E hr h => ?_)
  · obtain ⟨d, st, m, k, t, o, xs, f, ms, ks, ts, os, rfl, _⟩ := h
    rfl
  · obtain ⟨d, st, m, k, t, o, xs, fo, ms, ks, ts, os, rfl, hd, ix, hdep, S0, l1, l2, l3, l4, q⟩ := h
    refine ⟨_, (pss_cons (ps_for PassesOwn.never rfl (pi_tupX K (pv 0)) (pg_tupX K (pg_tup (n := 3) (by rfl) (pgs_cons (pg_name (i := 2) sc_law_flat.nd rfl (.inl rfl)) (pgs_cons (pg_name (i := 3) sc_law_flat.nd rfl (.inl rfl)) (pgs_cons (pg_name (i := 4) sc_law_flat.nd rfl (.inl rfl)) pgs_nil))))) (pss_cons (ps_set (i := 5) sc_law_flat.nd rfl (.inl rfl) (pe_callB (call_lenX K) (by rfl) T.len PySem.boot_len (pa_cons (pe_ix (ix_X K) (pv 1) pe_int (fun _ _ => rfl)) pa_nil)))
      (pss_cons (ps_expr (pe_bmX K (pe_bm PySem.F.plainAttrs_list PySem.F.slot_list_append PySem.F.type_list_append mt_append (pe_ix (ix_X K) (pv 1) pe_int (fun _ _ => rfl)) (pa_cons (pv 5) pa_nil))))
      (pss_cons (ps_expr (pe_bmX K (pe_bm PySem.F.plainAttrs_list PySem.F.slot_list_append PySem.F.type_list_append mt_append (pe_ix (ix_X K) (pv 1) pe_int (fun _ _ => rfl)) (pa_cons (pv 2) pa_nil))))
      (pss_cons (ps_expr (pe_bmX K (pe_bm PySem.F.plainAttrs_list PySem.F.slot_list_append PySem.F.type_list_append mt_append (pe_ix (ix_X K) (pv 1) pe_int (fun _ _ => rfl)) (pa_cons (pv 3) pa_nil))))
      (pss_cons (ps_expr (pe_bmX K (pe_bm PySem.F.plainAttrs_list PySem.F.slot_list_append PySem.F.type_list_append mt_append (pe_ix (ix_X K) (pv 1) pe_int (fun _ _ => rfl)) (pa_cons (pv 5) pa_nil))))
      (pss_cons (ps_expr (pe_c c_law_flat hr (by omega) (by rfl) (pa_cons (pv 4) (pa_cons (pv 1) pa_nil))))
      (pss_one (ps_expr (pe_bmX K (pe_bm PySem.F.plainAttrs_list PySem.F.slot_list_append PySem.F.type_list_append mt_append (pe_ix (ix_X K) (pv 1) pe_int (fun _ _ => rfl)) (pa_cons (pv 5) pa_nil))))))))))))
      (pss_one (ps_ret (pv 1)))), ?_⟩
    change (_ : TS) _ [some (V.ref d), some (.ref st), none, none, none, none] _
    k_extra "rr"
    obtain ⟨Pv, hPv⟩ : ∃ Pv : Nat → L2.St → Hp → Prop, ∀ i σ H', Pv i σ H' ↔ ∃ (r : Fo) (ms' : List Int) (ks' ts' : List (List Nat)) (os' : List V) (v2 v3 v4 v5 : Option V), σ = [some (.ref d), some (.ref st), v2, v3, v4, v5] ∧ But4 m k t o H H' ∧ Items H' r (xs.drop i) ∧ St4 H' st m k t o ms' ks' ts' os' ∧
      ms' ++ mkI ks'.length r = ms ++ mkI ks.length fo ∧ ks' ++ fks r = ks ++ fks fo ∧ ts' ++ fts r = ts ++ fts fo ∧ os' ++ upF ks'.length r.size = os ++ upF ks.length fo.size ∧ r.depth ≤ n := ⟨_, fun _ _ _ => Iff.rfl⟩
    refine ⟨d, rfl, ⟨xs, SqT.of hd⟩, for_tup (K := K) (a := d) (xs := xs) Pv ((hPv _ _ _).mpr ⟨fo, ms, ks, ts, os, _, _, _, _, rfl, But4.refl, ix, S0, rfl, rfl, rfl, rfl, hdep⟩) (fun i σ H' _ hp => ?_) ?_ ?_⟩
    · obtain ⟨r, ms', ks', ts', os', v2, v3, v4, v5, rfl, b, _⟩ := (hPv _ _ _).mp hp
      exact SqT.of (But4.tup S0 b _ _ hd)
    · intro i x σ H1 hi hp
      obtain ⟨r, ms', ks', ts', os', v2, v3, v4, v5, rfl, b1, iy, S1, eM, eK, eT, eO, hrd⟩ := (hPv _ _ _).mp hp
      clear hp
      have hlt : i < xs.length := (List.getElem?_eq_some_iff.mp hi).1
      have hx : xs[i] = x := (List.getElem?_eq_some_iff.mp hi).2
      rw [List.drop_eq_getElem_cons hlt, hx] at iy
      cases r with
      | nil => exact absurd iy (by intro z; cases z)
      | cons a c i2 r2 =>
        obtain ⟨pn, qn, zs, xs', e, hpn, hqn, iz, ir⟩ := iy
        cases e
        have hrd2 : max (i2.depth + 1) r2.depth ≤ n := hrd
        obtain ⟨j, rfl⟩ : ∃ j, n = j + 1 := ⟨n - 1, by omega⟩
        have ll1 := congrArg List.length eM
        have ll2 := congrArg List.length eK
        have ll3 := congrArg List.length eT
        have ll4 := congrArg List.length eO
        rw [List.length_append, List.length_append, mkI_len, mkI_len] at ll1
        rw [List.length_append, List.length_append, fks_len, fks_len] at ll2
        rw [List.length_append, List.length_append, fts_len, fts_len] at ll3
        rw [List.length_append, List.length_append, upF_len, upF_len] at ll4
        have hsz : (Fo.cons a c i2 r2).size = 1 + i2.size + r2.size := rfl
        have hst1 := S1.hst
        have hk1 := S1.hk
        have kl : (kws ks').length = ks'.length := by unfold kws; rw [List.length_map]
        k_extra "rr"
        rw [kl]
        refine ⟨tyvL S1.hm, ?_⟩
        k_extra "rr"
        refine app S1.hm (by unfold ivs; rw [List.length_map, sizeLine_eq]; omega) ?_
        have S2 := S1.mark (ks'.length : Int)
        have b2 := b1.trans (But4.upd (H := H1) (l := m) (u := .lst (ivs ms' ++ [.int (ks'.length : Int)])) (.inl rfl))
        have t2 := But4.tup S1 (But4.upd (H := H1) (l := m) (u := .lst (ivs ms' ++ [.int (ks'.length : Int)])) (.inl rfl))
        generalize upd H1 m (.lst (ivs ms' ++ [.int (ks'.length : Int)])) = H2 at S2 b2 t2
        have hst2 := S2.hst
        k_extra "rr"
        refine ⟨tyvL S2.hk, ?_⟩
        k_extra "rr"
        refine app S2.hk (by rw [kl, sizeLine_eq]; omega) ?_
        have S3 := S2.kind a
        have b3 := b2.trans (But4.upd (H := H2) (l := k) (u := .lst (kws ks' ++ [.str (SX.S a)])) (.inr (.inl rfl)))
        have t3 := t2.trans (But4.tup S2 (But4.upd (H := H2) (l := k) (u := .lst (kws ks' ++ [.str (SX.S a)])) (.inr (.inl rfl))))
        generalize upd H2 k (.lst (kws ks' ++ [.str (SX.S a)])) = H3 at S3 b3 t3
        have hst3 := S3.hst
        k_extra "rr"
        refine ⟨tyvL S3.ht, ?_⟩
        k_extra "rr"
        refine app S3.ht (by unfold kws; rw [List.length_map, sizeLine_eq]; omega) ?_
        have S4 := S3.text c
        have b4 := b3.trans (But4.upd (H := H3) (l := t) (u := .lst (kws ts' ++ [.str (SX.S c)])) (.inr (.inr (.inl rfl))))
        have t4 := t3.trans (But4.tup S3 (But4.upd (H := H3) (l := t) (u := .lst (kws ts' ++ [.str (SX.S c)])) (.inr (.inr (.inl rfl)))))
        generalize upd H3 t (.lst (kws ts' ++ [.str (SX.S c)])) = H4 at S4 b4 t4
        have hst4 := S4.hst
        k_extra "rr"
        refine ⟨tyvL S4.ho, ?_⟩
        k_extra "rr"
        refine app S4.ho (by rw [sizeLine_eq]; omega) ?_
        have S5 := S4.orig (.int (ks'.length : Int))
        have b5 := b4.trans (But4.upd (H := H4) (l := o) (u := .lst (os' ++ [.int (ks'.length : Int)])) (.inr (.inr (.inr rfl))))
        have t5 := t4.trans (But4.tup S4 (But4.upd (H := H4) (l := o) (u := .lst (os' ++ [.int (ks'.length : Int)])) (.inr (.inr (.inr rfl)))))
        generalize upd H4 o (.lst (os' ++ [.int (ks'.length : Int)])) = H5 at S5 b5 t5
        k_extra "rr"
        have e1 : (ks' ++ [a]).length = ks'.length + 1 := by rw [List.length_append, List.length_singleton]
        refine hsub j rfl _ _ _ _ ⟨qn, st, m, k, t, o, zs, i2, _, _, _, _, rfl, t5 _ _ hqn, iz.le t5, by omega, S5, ?_, ?_, ?_, ?_, fun H6 b56 S6 => ?_⟩
        · rw [List.length_append, List.length_singleton]; omega
        · rw [e1]; omega
        · rw [List.length_append, List.length_singleton]; omega
        · rw [List.length_append, List.length_singleton]; omega
        have b6 := b5.trans b56
        have t6 := t5.trans (But4.tup S5 b56)
        have hst6 := S6.hst
        k_extra "rr"
        refine ⟨tyvL S6.hm, ?_⟩
        k_extra "rr"
        refine app S6.hm (by unfold ivs; rw [List.length_map, List.length_append, List.length_append, List.length_singleton, mkI_len, sizeLine_eq]; omega) ?_
        have S7 := S6.mark (ks'.length : Int)
        have b67 := But4.upd (m := m) (k := k) (t := t) (o := o) (H := H6) (l := m) (u := .lst (ivs (ms' ++ [(ks'.length : Int)] ++ mkI (ks' ++ [a]).length i2) ++ [.int (ks'.length : Int)])) (.inl rfl)
        have t7 := t6.trans (But4.tup S6 b67)
        k_extra "rr"
        have e2 : (ks' ++ [a] ++ fks i2).length = ks'.length + 1 + i2.size := by rw [List.length_append, e1, fks_len]
        refine (hPv _ _ _).mpr ⟨r2, _, _, _, _, _, _, _, _, rfl, b6.trans b67, ir.le t7, S7, ?_, ?_, ?_, ?_, by omega⟩
        · rw [← eM, e1, e2]
          show _ = ms' ++ ((ks'.length : Int) :: (mkI (ks'.length + 1) i2 ++ (ks'.length : Int) :: mkI (ks'.length + 1 + i2.size) r2))
          simp only [List.append_assoc, List.cons_append, List.nil_append]
        · rw [← eK]
          show _ = ks' ++ (a :: (fks i2 ++ fks r2))
          simp only [List.append_assoc, List.cons_append, List.nil_append]
        · rw [← eT]
          show _ = ts' ++ (c :: (fts i2 ++ fts r2))
          simp only [List.append_assoc, List.cons_append, List.nil_append]
        · rw [← eO, e1, e2, hsz, show 1 + i2.size + r2.size = (i2.size + r2.size) + 1 by omega, upF_cons, upF_app]
          simp only [List.append_assoc, List.cons_append, List.nil_append]
    · intro σ H1 hp
      obtain ⟨r, ms', ks', ts', os', v2, v3, v4, v5, rfl, b1, iy, S1, eM, eK, eT, eO, hrd⟩ := (hPv _ _ _).mp hp
      rw [List.drop_length] at iy
      cases r with
      | cons a c i2 r2 =>
        obtain ⟨pn, qn, zs, xs', e, _⟩ := iy
        cases e
      | nil =>
        k_extra "rr"
        refine q H1 b1 ?_
        rw [← eM, ← eK, ← eT, ← eO]
        show St4 H1 st m k t o (ms' ++ []) (ks' ++ []) (ts' ++ []) (os' ++ [])
        rw [List.append_nil, List.append_nil, List.append_nil, List.append_nil]
        exact S1
/-- _law_row: a new row of a document -/
def spLRow (K : PySem.W.Frag) (n : Nat) : Sp := fun vs H Q _ => ∃ (d : Addr) (f : Fo), vs = [.ref d] ∧ Doc H f d ∧ f.depth ≤ n ∧ f.size ≤ 1000 ∧
  ∀ (st m k t o : Addr) (H' : Hp), Same H H' → H st = none → H m = none → H k = none → H t = none → H o = none → St4 H' st m k t o (mkI 0 f) (fks f) (fts f) (upTo f.size) → Q (.ref st) H'
theorem ok_law_row {n : Nat} (F : Fun K "_law_row" "_law_row" s_law_row f fd) (T : Txt mg) (c_law_flat : Cal P w K mg base (n + 2) "_law_flat" (spFlat K n)) : FnOk P w K mg base CX0 (n + 3) f fd ["_law_document_z"] (spLRow K n) := by
  refine F.ok sc_law_row (fun vs H Q E h => ?_) (fun cdv A outer s H vs Q E hr h => ?_)
  · obtain ⟨d, f, rfl, _⟩ := h
    rfl
  · obtain ⟨d, fo, rfl, ⟨xs, hxs, ixs⟩, hdep, hsz, q⟩ := h
    refine ⟨_, (pss_one (ps_ret (pe_c c_law_flat hr (by omega) (by rfl) (pa_cons (pv 0) (pa_cons (pe_lst (pa_cons (pe_lst pa_nil) (pa_cons (pe_lst pa_nil) (pa_cons (pe_lst pa_nil) (pa_cons (pe_lst pa_nil) pa_nil))))) pa_nil))))), ?_⟩
    change (_ : TS) _ [some (V.ref d)] _
    k_extra "rr"
    refine ⟨by k_extra "sz", fun m nm => ?_⟩
    k_extra "rr"
    refine ⟨by k_extra "sz", fun k nk => ?_⟩
    k_extra "rr"
    refine ⟨by k_extra "sz", fun t nt => ?_⟩
    k_extra "rr"
    refine ⟨by k_extra "sz", fun o no => ?_⟩
    k_extra "rr"
    refine ⟨by k_extra "sz", fun st ns => ?_⟩
    k_extra "rr"
    have s1 := same_upd (o := .lst []) nm
    have s2 := same_upd (o := .lst []) nk
    have s3 := same_upd (o := .lst []) nt
    have s4 := same_upd (o := .lst []) no
    have s5 := same_upd (o := .lst [.ref m, .ref k, .ref t, .ref o]) ns
    have sA := (((s1.trans s2).trans s3).trans s4).trans s5
    have hm := s5 _ _ (s4 _ _ (s3 _ _ (s2 _ _ (upd_same (H := H) (a := m) (o := .lst [])))))
    have hk := s5 _ _ (s4 _ _ (s3 _ _ (upd_same (H := upd H m (.lst [])) (a := k) (o := .lst []))))
    have ht := s5 _ _ (s4 _ _ (upd_same (H := upd (upd H m (.lst [])) k (.lst [])) (a := t) (o := .lst [])))
    have ho := s5 _ _ (upd_same (H := upd (upd (upd H m (.lst [])) k (.lst [])) t (.lst [])) (a := o) (o := .lst []))
    have fk := un0 nk
    have ft := un0 (un0 nt)
    have fO := un0 (un0 (un0 no))
    have fs := un0 (un0 (un0 (un0 ns)))
    have S : St4 (upd (upd (upd (upd (upd H m (.lst [])) k (.lst [])) t (.lst [])) o (.lst [])) st (.lst [.ref m, .ref k, .ref t, .ref o])) st m k t o [] [] [] [] := {
      hst := upd_same
      hm := hm
      hk := hk
      ht := ht
      ho := ho
      sm := (ne_of_none (s4 _ _ (s3 _ _ (s2 _ _ upd_same))) ns).symm
      sk := (ne_of_none (s4 _ _ (s3 _ _ upd_same)) ns).symm
      s_t := (ne_of_none (s4 _ _ upd_same) ns).symm
      so := (ne_of_none upd_same ns).symm
      mk_ := ne_of_none upd_same nk
      mt_ := ne_of_none (s2 _ _ upd_same) nt
      mo_ := ne_of_none (s3 _ _ (s2 _ _ upd_same)) no
      kt_ := ne_of_none upd_same nt
      ko_ := ne_of_none (s3 _ _ upd_same) no
      to_ := ne_of_none upd_same no }
    refine ⟨d, st, m, k, t, o, xs, fo, [], [], [], [], rfl, sA _ _ hxs, ixs.le (TupLe.same sA), hdep, S, by simp; omega, by simp; omega, by simp; omega, by simp; omega, fun H' b S' => ?_⟩
    refine q st m k t o H' (fun c u e => b c u (sA c u e) (ne_of_none e nm) (ne_of_none e fk) (ne_of_none e ft) (ne_of_none e fO)) fs nm fk ft fO ?_
    have e : upF ([] : List (List Nat)).length fo.size = upTo fo.size := upF_zero _
    rw [e] at S'
    exact S'
end

/-! ### data of any depth, apart from the list at b -/
mutual
def Dq (b : Addr) (H : Hp) : PyData → V → Prop
  | .none, v => v = .non
  | .bool c, v => v = .bl c
  | .int i, v => v = .int i
  | .str z, v => v = .str z
  | .list ds, v => ∃ a l, v = .ref a ∧ a ≠ b ∧ H a = some (.lst l) ∧ DqA b H ds l
  | .tuple ds, v => ∃ a l, v = .ref a ∧ H a = some (.tup l) ∧ DqA b H ds l
  | .dict _, _ => False
def DqA (b : Addr) (H : Hp) : List PyData → List V → Prop
  | [], l => l = []
  | d :: r, l => ∃ v m, l = v :: m ∧ Dq b H d v ∧ DqA b H r m
end
/-- tuples stay, and lists other than b's -/
structure Le (b : Addr) (H H' : Hp) : Prop where
  tup : ∀ c xs, H c = some (.tup xs) → H' c = some (.tup xs)
  lst : ∀ c l, c ≠ b → H c = some (.lst l) → H' c = some (.lst l)
theorem Le.refl (b : Addr) (H : Hp) : Le b H H := ⟨fun _ _ h => h, fun _ _ _ h => h⟩
theorem Le.trans {b : Addr} {H H1 H2 : Hp} (s : Le b H H1) (t : Le b H1 H2) : Le b H H2 := ⟨fun c xs h => t.tup c xs (s.tup c xs h), fun c l n h => t.lst c l n (s.lst c l n h)⟩
theorem Le.same {b : Addr} {H H' : Hp} (s : Same H H') : Le b H H' := ⟨fun c xs h => s c _ h, fun c l _ h => s c _ h⟩
theorem Le.but {b : Addr} {H H' : Hp} (s : But b H H') {l : List V} (h : H b = some (.lst l)) : Le b H H' := ⟨fun c xs e => s c _ e fun z => (by
  rw [z, h] at e
  cases e), fun c l n h => s c _ h n⟩
theorem Le.new {b : Addr} {H : Hp} {p : Addr} {o : HO} (h : H p = none) : Le b H (upd H p o) := Le.same (same_upd h)
theorem Le.ext {b : Addr} {H H' : Hp} (s : LamX.ExtN H H') : Le b H H' := ⟨fun c xs h => s c _ h (fun ps z => by cases z), fun c l _ h => s c _ h (fun ps z => by cases z)⟩
mutual
theorem Dq.le {b : Addr} {H H' : Hp} (s : Le b H H') : ∀ {d : PyData} {v : V}, Dq b H d v → Dq b H' d v
  | .none, _, h => by simpa only [Dq] using h
  | .bool _, _, h => by simpa only [Dq] using h
  | .int _, _, h => by simpa only [Dq] using h
  | .str _, _, h => by simpa only [Dq] using h
  | .list ds, _, h => by
    simp only [Dq] at h ⊢
    obtain ⟨a, l, e, n, h1, h2⟩ := h
    exact ⟨a, l, e, n, s.lst a l n h1, DqA.le s h2⟩
  | .tuple ds, _, h => by
    simp only [Dq] at h ⊢
    obtain ⟨a, l, e, h1, h2⟩ := h
    exact ⟨a, l, e, s.tup a l h1, DqA.le s h2⟩
  | .dict _, _, h => by simp only [Dq] at h
theorem DqA.le {b : Addr} {H H' : Hp} (s : Le b H H') : ∀ {ds : List PyData} {l : List V}, DqA b H ds l → DqA b H' ds l
  | [], _, h => by simpa only [DqA] using h
  | d :: r, _, h => by
    simp only [DqA] at h ⊢
    obtain ⟨v, m, e, h1, h2⟩ := h
    exact ⟨v, m, e, Dq.le s h1, DqA.le s h2⟩
end
theorem DqA.len {b : Addr} {H : Hp} : ∀ {ds : List PyData} {l : List V}, DqA b H ds l → l.length = ds.length
  | [], _, h => by
    simp only [DqA] at h
    rw [h]
    rfl
  | d :: r, _, h => by
    simp only [DqA] at h
    obtain ⟨v, m, rfl, h1, h2⟩ := h
    rw [List.length_cons, List.length_cons, h2.len]
theorem DqA.nil {b : Addr} {H : Hp} : DqA b H [] [] := by simp only [DqA]
theorem DqA.cons {b : Addr} {H : Hp} {d : PyData} {ds : List PyData} {v : V} {l : List V} (h : Dq b H d v) (k : DqA b H ds l) : DqA b H (d :: ds) (v :: l) := by
  simp only [DqA]
  exact ⟨v, l, rfl, h, k⟩
theorem DqA.inv {b : Addr} {H : Hp} {d : PyData} {ds : List PyData} {l : List V} (h : DqA b H (d :: ds) l) : ∃ v m, l = v :: m ∧ Dq b H d v ∧ DqA b H ds m := by
  simpa only [DqA] using h
theorem DqA.inv0 {b : Addr} {H : Hp} {l : List V} (h : DqA b H [] l) : l = [] := by
  simpa only [DqA] using h
theorem DqA.app {b : Addr} {H : Hp} : ∀ {ds es : List PyData} {l m : List V}, DqA b H ds l → DqA b H es m → DqA b H (ds ++ es) (l ++ m)
  | [], _, _, _, h, k => by
    rw [h.inv0]
    exact k
  | d :: r, _, _, _, h, k => by
    obtain ⟨v, m, rfl, h1, h2⟩ := h.inv
    exact .cons h1 (h2.app k)
theorem DqA.get {b : Addr} {H : Hp} : ∀ {ds : List PyData} {l : List V} {i : Nat} {v : V}, DqA b H ds l → l[i]? = some v → ∃ d, ds[i]? = some d ∧ Dq b H d v
  | [], _, i, v, h, e => by
    rw [h.inv0] at e
    cases e
  | d :: r, _, 0, v, h, e => by
    obtain ⟨v, m, rfl, h1, h2⟩ := h.inv
    cases e
    exact ⟨d, rfl, h1⟩
  | d :: r, _, i + 1, v, h, e => by
    obtain ⟨v, m, rfl, h1, h2⟩ := h.inv
    exact h2.get (i := i) e
theorem DqA.at {b : Addr} {H : Hp} : ∀ {ds : List PyData} {l : List V} {i : Nat} {d : PyData}, DqA b H ds l → ds[i]? = some d → ∃ v, l[i]? = some v ∧ Dq b H d v
  | [], _, i, v, h, e => by cases e
  | d :: r, _, 0, v, h, e => by
    obtain ⟨v, m, rfl, h1, h2⟩ := h.inv
    cases e
    exact ⟨v, rfl, h1⟩
  | d :: r, _, i + 1, v, h, e => by
    obtain ⟨v, m, rfl, h1, h2⟩ := h.inv
    exact h2.at (i := i) e
theorem DqA.take {b : Addr} {H : Hp} : ∀ {ds : List PyData} {l : List V} (i : Nat), DqA b H ds l → DqA b H (ds.take i) (l.take i)
  | _, _, 0, h => .nil
  | [], _, i + 1, h => by
    rw [h.inv0]
    exact .nil
  | d :: r, _, i + 1, h => by
    obtain ⟨v, m, rfl, h1, h2⟩ := h.inv
    exact .cons h1 (h2.take i)
theorem DqA.drop {b : Addr} {H : Hp} : ∀ {ds : List PyData} {l : List V} (i : Nat), DqA b H ds l → DqA b H (ds.drop i) (l.drop i)
  | _, _, 0, h => h
  | [], _, i + 1, h => by
    rw [h.inv0]
    exact .nil
  | d :: r, _, i + 1, h => by
    obtain ⟨v, m, rfl, h1, h2⟩ := h.inv
    exact h2.drop i
theorem DqA.rev {b : Addr} {H : Hp} : ∀ {ds : List PyData} {l : List V}, DqA b H ds l → DqA b H ds.reverse l.reverse
  | [], _, h => by
    rw [h.inv0]
    exact .nil
  | d :: r, _, h => by
    obtain ⟨v, m, rfl, h1, h2⟩ := h.inv
    rw [List.reverse_cons, List.reverse_cons]
    exact h2.rev.app (.cons h1 .nil)
/-! as plain data; kinds; equal and alike -/
mutual
theorem Dq.dp {K : PySem.W.Frag} {b : Addr} {H : Hp} : ∀ {d : PyData} {v : V}, Dq b H d v → Dp K H v d
  | .none, _, h => by
    simp only [Dq] at h
    exact h ▸ .non
  | .bool _, _, h => by
    simp only [Dq] at h
    exact h ▸ .bl _
  | .int _, _, h => by
    simp only [Dq] at h
    exact h ▸ .int _
  | .str _, _, h => by
    simp only [Dq] at h
    exact h ▸ .str _
  | .list ds, _, h => by
    simp only [Dq] at h
    obtain ⟨a, l, rfl, n, h1, h2⟩ := h
    exact .lst (SqL.of h1) (DqA.dp h2)
  | .tuple ds, _, h => by
    simp only [Dq] at h
    obtain ⟨a, l, rfl, h1, h2⟩ := h
    exact .tup (SqT.of h1) (DqA.dp h2)
  | .dict _, _, h => by simp only [Dq] at h
theorem DqA.dp {K : PySem.W.Frag} {b : Addr} {H : Hp} : ∀ {ds : List PyData} {l : List V}, DqA b H ds l → DpAll K H l ds
  | [], _, h => by
    rw [h.inv0]
    exact .nil
  | d :: r, _, h => by
    obtain ⟨v, m, rfl, h1, h2⟩ := h.inv
    exact .cons (Dq.dp h1) (DqA.dp h2)
end
def tyN : PyData → String
  | .none => "NoneType"
  | .bool _ => "bool"
  | .int _ => "int"
  | .str _ => "str"
  | .list _ => "list"
  | .tuple _ => "tuple"
  | .dict _ => "dict"
theorem Dq.ty {K : PySem.W.Frag} {b : Addr} {H : Hp} : ∀ {d : PyData} {v : V}, Dq b H d v → TyX K H v (.type (tyN d))
  | .none, _, h => by
    simp only [Dq] at h
    exact h ▸ .base .non
  | .bool _, _, h => by
    simp only [Dq] at h
    exact h ▸ .base (.bl _)
  | .int _, _, h => by
    simp only [Dq] at h
    exact h ▸ .base (.int _)
  | .str _, _, h => by
    simp only [Dq] at h
    exact h ▸ .base (.str _)
  | .list ds, _, h => by
    simp only [Dq] at h
    obtain ⟨a, l, rfl, n, h1, h2⟩ := h
    exact .base (.lst h1)
  | .tuple ds, _, h => by
    simp only [Dq] at h
    obtain ⟨a, l, rfl, h1, h2⟩ := h
    exact .base (.tup h1)
  | .dict _, _, h => by simp only [Dq] at h
def isT : PyData → Bool
  | .tuple _ => true
  | _ => false
def isS : PyData → Bool
  | .str _ => true
  | _ => false
theorem kit_isT : ∀ d : PyData, kitB (tyN d) "tuple" = some (isT d)
  | .none => kB_NoneType_tuple
  | .bool _ => kB_bool_tuple
  | .int _ => kB_int_tuple
  | .str _ => kB_str_tuple
  | .list _ => kB_list_tuple
  | .tuple _ => kB_tuple_tuple
  | .dict _ => kB_dict_tuple
theorem kit_isS : ∀ d : PyData, kitB (tyN d) "str" = some (isS d)
  | .none => kB_NoneType_str
  | .bool _ => kB_bool_str
  | .int _ => kB_int_str
  | .str _ => kB_str_str
  | .list _ => kB_list_str
  | .tuple _ => kB_tuple_str
  | .dict _ => kB_dict_str
/-- the value, for one that is a text -/
def vOf : PyData → V
  | .str z => .str z
  | _ => .non
theorem Dq.tup {b : Addr} {H : Hp} {ds : List PyData} {v : V} (h : Dq b H (.tuple ds) v) : ∃ a l, v = .ref a ∧ H a = some (.tup l) ∧ DqA b H ds l := by simpa only [Dq] using h
theorem Dq.tup_mk {b : Addr} {H : Hp} {ds : List PyData} {a : Addr} {l : List V} (h : H a = some (.tup l)) (k : DqA b H ds l) : Dq b H (.tuple ds) (.ref a) := by
  simp only [Dq]
  exact ⟨a, l, rfl, h, k⟩
theorem Dq.lst_mk {b : Addr} {H : Hp} {ds : List PyData} {a : Addr} {l : List V} (n : a ≠ b) (h : H a = some (.lst l)) (k : DqA b H ds l) : Dq b H (.list ds) (.ref a) := by
  simp only [Dq]
  exact ⟨a, l, rfl, n, h, k⟩
theorem Dq.str_mk {b : Addr} {H : Hp} (z : Str) : Dq b H (.str z) (.str z) := by simp only [Dq]
theorem Dq.int_mk {b : Addr} {H : Hp} (i : Int) : Dq b H (.int i) (.int i) := by simp only [Dq]
theorem Dq.non_mk {b : Addr} {H : Hp} : Dq b H .none .non := by simp only [Dq]
theorem Dq.bl_mk {b : Addr} {H : Hp} (c : Bool) : Dq b H (.bool c) (.bl c) := by simp only [Dq]
/-! good data: texts of signs as documents have them, and line feeds -/
def OkC (c : Nat) : Prop := (32 ≤ c ∧ c ≤ 126) ∨ c = 10
instance : DecidablePred OkC := fun c => inferInstanceAs (Decidable ((32 ≤ c ∧ c ≤ 126) ∨ c = 10))
def gS (z : Str) : Bool := decide (z.length ≤ 1000) && z.cps.toList.all fun c => decide (OkC c)
mutual
def gD : PyData → Bool
  | .none => true
  | .bool _ => true
  | .int _ => true
  | .str z => gS z
  | .list ds => gA ds
  | .tuple ds => gA ds
  | .dict _ => false
def gA : List PyData → Bool
  | [] => true
  | d :: r => gD d && gA r
end
theorem gA_mem : ∀ {ds : List PyData} {d : PyData}, gA ds = true → d ∈ ds → gD d = true
  | x :: r, d, h, m => by
    simp only [gA, Bool.and_eq_true] at h
    rcases List.mem_cons.mp m with rfl | m
    · exact h.1
    · exact gA_mem h.2 m
theorem gA_app : ∀ {ds es : List PyData}, gA (ds ++ es) = (gA ds && gA es)
  | [], _ => by simp only [gA, List.nil_append, Bool.true_and]
  | x :: r, es => by
    simp only [gA, List.cons_append, gA_app (ds := r), Bool.and_assoc]
theorem gA_of {ds : List PyData} (h : ∀ d ∈ ds, gD d = true) : gA ds = true := by
  induction ds with
  | nil => simp only [gA]
  | cons x r ih =>
    simp only [gA, Bool.and_eq_true]
    exact ⟨h x List.mem_cons_self, ih fun d m => h d (List.mem_cons_of_mem _ m)⟩
theorem gS_ok {z : Str} (h : gS z = true) : (z.length ≤ 1000) ∧ ∀ c ∈ z.cps.toList, OkC c := by
  unfold gS at h
  simp only [Bool.and_eq_true, decide_eq_true_eq, List.all_eq_true] at h
  exact h
theorem strOk_gS {z : Str} (h : gS z = true) : PyData.strOk z = true := by
  obtain ⟨_, h⟩ := gS_ok h
  unfold PyData.strOk
  rw [← Array.all_toList]
  refine List.all_eq_true.mpr fun c hc => ?_
  have := h c hc
  unfold OkC at this
  exact decide_eq_true (by omega)
mutual
theorem lay_gD : ∀ {d : PyData}, gD d = true → PyData.canLay0 d = true
  | .none, _ => by simp only [PyData.canLay0]
  | .bool _, _ => by simp only [PyData.canLay0]
  | .int _, _ => by simp only [PyData.canLay0]
  | .str z, h => by
    simp only [gD] at h
    simp only [PyData.canLay0]
    exact strOk_gS h
  | .list ds, h => by
    simp only [gD] at h
    simp only [PyData.canLay0]
    exact lay_gA h
  | .tuple ds, h => by
    simp only [gD] at h
    simp only [PyData.canLay0]
    exact lay_gA h
  | .dict _, h => by
    simp only [gD] at h
    cases h
theorem lay_gA : ∀ {ds : List PyData}, gA ds = true → PyData.canLayAll0 ds = true
  | [], _ => by simp only [PyData.canLayAll0]
  | d :: r, h => by
    simp only [gA, Bool.and_eq_true] at h
    simp only [PyData.canLayAll0, Bool.and_eq_true]
    exact ⟨lay_gD h.1, lay_gA h.2⟩
end
theorem shaped_gD {d : PyData} (h : gD d = true) (hd : d.depth ≤ 64) : SeqAt.shaped d = true := by
  unfold SeqAt.shaped
  rw [lay_gD h, decide_eq_true hd]
  rfl
theorem Dq.strOr {K : PySem.W.Frag} {b : Addr} {H : Hp} {d : PyData} {v : V} (h : Dq b H d v) (g : gD d = true) : StrOr K H v := by
  cases d with
  | str z =>
    simp only [Dq] at h
    simp only [gD] at g
    refine .inl ⟨z.cps.toList, ?_, ?_⟩
    · rw [h, SX.S_tl]
    · have := (gS_ok g).1
      have e : z.length = z.cps.toList.length := by simp [Str.length]
      omega
  | none =>
    have t := h.ty (K := K)
    simp only [Dq] at h
    subst h
    exact .inr ⟨fun z e => (by cases e), _, t, kB_NoneType_str⟩
  | bool c =>
    have t := h.ty (K := K)
    simp only [Dq] at h
    subst h
    exact .inr ⟨fun z e => (by cases e), _, t, kB_bool_str⟩
  | int c =>
    have t := h.ty (K := K)
    simp only [Dq] at h
    subst h
    exact .inr ⟨fun z e => (by cases e), _, t, kB_int_str⟩
  | list ds =>
    have t := h.ty (K := K)
    simp only [Dq] at h
    obtain ⟨a, l, rfl, _⟩ := h
    exact .inr ⟨fun z e => (by cases e), _, t, kB_list_str⟩
  | tuple ds =>
    have t := h.ty (K := K)
    simp only [Dq] at h
    obtain ⟨a, l, rfl, _⟩ := h
    exact .inr ⟨fun z e => (by cases e), _, t, kB_tuple_str⟩
  | dict _ => simp only [Dq] at h
theorem Dq.isS {b : Addr} {H : Hp} {d : PyData} {v : V} (h : Dq b H d v) : (isS d = true ∧ ∃ z, d = .str z ∧ v = .str z) ∨ (isS d = false ∧ ∀ z, v ≠ .str z) := by
  cases d <;> simp only [Dq] at h
  case str z => exact .inl ⟨rfl, z, rfl, h⟩
  case list ds =>
    obtain ⟨a, l, rfl, _⟩ := h
    exact .inr ⟨rfl, fun z e => by cases e⟩
  case tuple ds =>
    obtain ⟨a, l, rfl, _⟩ := h
    exact .inr ⟨rfl, fun z e => by cases e⟩
  all_goals exact .inr ⟨rfl, fun z e => by rw [h] at e; cases e⟩
theorem Dq.word {b : Addr} {H : Hp} {d : PyData} {v : V} (h : Dq b H d v) (n : Int) : wordB v n = wordB (vOf d) n := by
  rcases h.isS with ⟨_, z, rfl, rfl⟩ | ⟨e, k⟩
  · rfl
  · rw [wordB_no k, wordB_no]
    cases d <;> first | (intro z q; cases q; done) | cases e
theorem Dq.text {b : Addr} {H : Hp} {d : PyData} {v : V} (h : Dq b H d v) : textB v = textB (vOf d) := by
  rcases h.isS with ⟨_, z, rfl, rfl⟩ | ⟨e, k⟩
  · rfl
  · rw [textB_no k, textB_no]
    cases d <;> first | (intro z q; cases q; done) | cases e
/-! sizes -/
mutual
def sz : PyData → Nat
  | .none => 1
  | .bool _ => 1
  | .int _ => 1
  | .str _ => 1
  | .list ds => 1 + szA ds
  | .tuple ds => 1 + szA ds
  | .dict _ => 1
def szA : List PyData → Nat
  | [] => 0
  | d :: r => sz d + szA r
end
theorem sz_pos : ∀ d : PyData, 1 ≤ sz d := fun d => by cases d <;> simp only [sz] <;> omega
theorem szA_len : ∀ ds : List PyData, ds.length ≤ szA ds
  | [] => Nat.zero_le _
  | d :: r => by
    have := szA_len r
    have := sz_pos d
    simp only [szA, List.length_cons]
    omega
theorem szA_mem : ∀ {ds : List PyData} {d : PyData}, d ∈ ds → sz d ≤ szA ds
  | x :: r, d, m => by
    simp only [szA]
    rcases List.mem_cons.mp m with rfl | m
    · omega
    · have := szA_mem m
      omega
theorem szA_app : ∀ {ds es : List PyData}, szA (ds ++ es) = szA ds + szA es
  | [], _ => by simp only [szA, List.nil_append]; omega
  | x :: r, es => by
    simp only [szA, List.cons_append, szA_app (ds := r)]
    omega
/-- two values of one datum are alike -/
theorem Dq.alk {K : PySem.W.Frag} {b b' : Addr} {H : Hp} : ∀ (n : Nat) {d : PyData} {v u : V}, d.depth ≤ n → sz d ≤ 100000 → Dq b H d v → Dq b' H d u → Alk K H (n + 1) v u := by
  intro n
  induction n with
  | zero =>
    intro d v u hd hs h k
    cases d <;> simp only [Dq] at h k
    all_goals first
      | (rw [h, k]; exact .inl ⟨rfl, rfl⟩)
      | (simp only [PyData.depth] at hd; omega)
  | succ n ih =>
    intro d v u hd hs h k
    cases d <;> simp only [Dq] at h k
    case list ds =>
      obtain ⟨a, l, rfl, _, h1, h2⟩ := h
      obtain ⟨a', l', rfl, _, k1, k2⟩ := k
      simp only [PyData.depth] at hd
      simp only [sz] at hs
      refine .inr ⟨a, a', l, l', rfl, rfl, .inl ⟨SqL.of h1, SqL.of k1⟩, by rw [h2.len, k2.len], by have := szA_len ds; have := h2.len; omega, fun i x y hx hy => ?_⟩
      obtain ⟨d1, e1, f1⟩ := h2.get hx
      obtain ⟨d2, e2, f2⟩ := k2.get hy
      obtain rfl : d1 = d2 := Option.some.inj (e1.symm.trans e2)
      have m := List.mem_of_getElem? e1
      exact ih (by have := PyData.depth_le_depthAll _ _ m; omega) (by have := szA_mem m; omega) f1 f2
    case tuple ds =>
      obtain ⟨a, l, rfl, h1, h2⟩ := h
      obtain ⟨a', l', rfl, k1, k2⟩ := k
      simp only [PyData.depth] at hd
      simp only [sz] at hs
      refine .inr ⟨a, a', l, l', rfl, rfl, .inr ⟨SqT.of h1, SqT.of k1⟩, by rw [h2.len, k2.len], by have := szA_len ds; have := h2.len; omega, fun i x y hx hy => ?_⟩
      obtain ⟨d1, e1, f1⟩ := h2.get hx
      obtain ⟨d2, e2, f2⟩ := k2.get hy
      obtain rfl : d1 = d2 := Option.some.inj (e1.symm.trans e2)
      have m := List.mem_of_getElem? e1
      exact ih (by have := PyData.depth_le_depthAll _ _ m; omega) (by have := szA_mem m; omega) f1 f2
    all_goals (rw [h, k]; exact .inl ⟨rfl, rfl⟩)
theorem DqA.unsnoc {b : Addr} {H : Hp} {d : PyData} : ∀ {ds : List PyData} {l : List V}, DqA b H (ds ++ [d]) l → ∃ m v, l = m ++ [v] ∧ DqA b H ds m ∧ Dq b H d v
  | [], _, h => by
    obtain ⟨v, m, rfl, h1, h2⟩ := h.inv
    rw [h2.inv0]
    exact ⟨[], v, rfl, .nil, h1⟩
  | x :: r, _, h => by
    obtain ⟨v, m, rfl, h1, h2⟩ := h.inv
    obtain ⟨m2, v2, rfl, h3, h4⟩ := h2.unsnoc
    exact ⟨v :: m2, v2, rfl, .cons h1 h3, h4⟩
theorem shaped_lst {ds : List PyData} (g : gA ds = true) (hd : ∀ d ∈ ds, d.depth ≤ 63) : SeqAt.shaped (.list ds) = true := by
  have e : PyData.depthAll ds ≤ 63 := by
    clear g
    induction ds with
    | nil => simp [PyData.depthAll]
    | cons x r ih =>
      have h1 := hd x List.mem_cons_self
      have h2 := ih fun d m => hd d (List.mem_cons_of_mem _ m)
      simp only [PyData.depthAll]
      omega
  refine shaped_gD (by simpa only [gD] using g) ?_
  simp only [PyData.depth]
  omega
/-- a path: ints in a tuple -/
def pathD (p : List Int) : PyData := .tuple (p.map PyData.int)
theorem DqA.ints {b : Addr} {H : Hp} : ∀ (p : List Int), DqA b H (p.map PyData.int) (p.map V.int)
  | [] => .nil
  | i :: r => .cons (Dq.int_mk i) (DqA.ints r)
theorem DqA.ints_inv {b : Addr} {H : Hp} : ∀ {p : List Int} {l : List V}, DqA b H (p.map PyData.int) l → l = p.map V.int
  | [], _, h => h.inv0
  | i :: r, _, h => by
    obtain ⟨v, m, rfl, h1, h2⟩ := h.inv
    simp only [Dq] at h1
    rw [h1, h2.ints_inv]
    rfl
theorem gA_ints : ∀ p : List Int, gA (p.map PyData.int) = true
  | [] => by simp only [List.map_nil, gA]
  | i :: r => by simp only [List.map_cons, gA, gD, gA_ints r, Bool.and_self]
theorem depth_path (p : List Int) : (pathD p).depth = 1 := by
  unfold pathD
  have e : ∀ q : List Int, PyData.depthAll (q.map PyData.int) = 0 := fun q => by
    induction q with
    | nil => simp [PyData.depthAll]
    | cons i r ih => simp only [List.map_cons, PyData.depthAll, ih, PyData.depth, Nat.max_self]
  simp only [PyData.depth, e]
theorem sz_path (p : List Int) : sz (pathD p) = 1 + p.length := by
  unfold pathD
  have e : ∀ q : List Int, szA (q.map PyData.int) = q.length := fun q => by
    induction q with
    | nil => rfl
    | cons i r ih =>
      simp only [List.map_cons, szA, ih, sz, List.length_cons]
      omega
  simp only [sz, e]
theorem Le.set {b : Addr} {H : Hp} {l m : List V} (h : H b = some (.lst l)) : Le b H (upd H b (.lst m)) := by
  refine ⟨fun c xs e => ?_, fun c l n e => ?_⟩
  · rw [upd_ne fun z => ?_]
    · exact e
    · rw [z, h] at e
      cases e
  · rw [upd_ne n]
    exact e
mutual
/-- what is not there is no part of it -/
theorem Dq.free {b x : Addr} {H : Hp} (n : H x = none) : ∀ {d : PyData} {v : V}, Dq b H d v → Dq x H d v
  | .none, _, h => by simpa only [Dq] using h
  | .bool _, _, h => by simpa only [Dq] using h
  | .int _, _, h => by simpa only [Dq] using h
  | .str _, _, h => by simpa only [Dq] using h
  | .list ds, _, h => by
    simp only [Dq] at h ⊢
    obtain ⟨a, l, e, _, h1, h2⟩ := h
    exact ⟨a, l, e, ne_of_none h1 n, h1, DqA.free n h2⟩
  | .tuple ds, _, h => by
    simp only [Dq] at h ⊢
    obtain ⟨a, l, e, h1, h2⟩ := h
    exact ⟨a, l, e, h1, DqA.free n h2⟩
  | .dict _, _, h => by simp only [Dq] at h
theorem DqA.free {b x : Addr} {H : Hp} (n : H x = none) : ∀ {ds : List PyData} {l : List V}, DqA b H ds l → DqA x H ds l
  | [], _, h => by simpa only [DqA] using h
  | d :: r, _, h => by
    simp only [DqA] at h ⊢
    obtain ⟨v, m, e, h1, h2⟩ := h
    exact ⟨v, m, e, Dq.free n h1, DqA.free n h2⟩
end

/-! ### is_shape -/
def sizesT : List (Str × V) := [("one", .int 2), ("within", .int 3), ("ahead", .int 3)]
def sizeN (z : Str) : Int := if z = "one" then 2 else if z = "within" then 3 else if z = "ahead" then 3 else 0
theorem sizes_get (z : Str) : (sizesT.lookup z).getD (.int 0) = .int (sizeN z) := by
  unfold sizesT sizeN
  by_cases h1 : z = "one"
  · subst h1
    simp [List.lookup]
  have n1 : (z == ("one" : Str)) = false := by simpa using h1
  by_cases h2 : z = "within"
  · subst h2
    simp only [List.lookup, n1, beq_self_eq_true, if_neg h1, if_true]
    rfl
  have n2 : (z == ("within" : Str)) = false := by simpa using h2
  by_cases h3 : z = "ahead"
  · subst h3
    simp only [List.lookup, n1, n2, beq_self_eq_true, if_neg h1, if_neg h2, if_true]
    rfl
  have n3 : (z == ("ahead" : Str)) = false := by simpa using h3
  simp only [List.lookup, n1, n2, n3, if_neg h1, if_neg h2, if_neg h3]
  rfl
/-- a kind that may be named -/
def kindB (d : PyData) : Bool := wordB (vOf d) 6 && !decide (vOf d = .str "rest")
def shapeB : PyData → Bool
  | .tuple (.str z :: ks) => decide (sizeN z = ks.length + 1) && (ks.map kindB).all id
  | _ => false
def spIsShape : Sp := fun vs H Q _ => ∃ (v : V) (b : Addr) (d : PyData), vs = [v] ∧ Dq b H d v ∧ gD d = true ∧ sz d ≤ 10000 ∧ ∀ H', Same H H' → Q (.bl (shapeB d)) H'
section
variable {P : Program} {w : World} {K : PySem.W.Frag} {mg : Str → Option Value} {base : Heap} {f aS : Addr} {fd : FuncData}
end

/-! ### nodes and faults, as data -/
def nodeD : PyData → Bool
  | .tuple [k, t, i] => wordB (vOf k) 6 && (textB (vOf t) && isT i)
  | _ => false
def kidsD : PyData → List PyData
  | .tuple [_, _, .tuple xs] => xs
  | _ => []
mutual
/-- the path of the first value that is no node -/
def flt (p : List Int) : PyData → Option (List Int)
  | .tuple [k, t, .tuple xs] => if (wordB (vOf k) 6 && textB (vOf t)) = true then fltA p 0 xs else some p
  | _ => some p
def fltA (p : List Int) (i : Nat) : List PyData → Option (List Int)
  | [] => none
  | d :: r => (flt (p ++ [(i : Int)]) d).or (fltA p (i + 1) r)
end
theorem flt_eq (p : List Int) (d : PyData) : flt p d = if nodeD d = true then fltA p 0 (kidsD d) else some p := by
  unfold flt
  split
  · rename_i k t xs
    simp only [nodeD, isT, kidsD, Bool.and_true]
  · rename_i h
    have e : nodeD d = false := by
      unfold nodeD
      split
      · rename_i k t i
        cases i with
        | tuple xs => exact absurd rfl (h k t xs)
        | _ => simp [isT]
      · rfl
    rw [e]
    rfl
theorem node_eq {d : PyData} (h : nodeD d = true) : ∃ k t, d = .tuple [k, t, .tuple (kidsD d)] := by
  unfold nodeD at h
  split at h
  · rename_i k t i
    cases i with
    | tuple xs => exact ⟨k, t, rfl⟩
    | _ => simp [isT] at h
  · cases h
def fltS : List (List Int × PyData) → Option (List Int)
  | [] => none
  | (p, d) :: r => (flt p d).or (fltS r)
def enumK (p : List Int) (i : Nat) : List PyData → List (List Int × PyData)
  | [] => []
  | d :: r => (p ++ [(i : Int)], d) :: enumK p (i + 1) r
theorem fltS_enum (p : List Int) (r : List (List Int × PyData)) : ∀ (ds : List PyData) (i : Nat), fltS (enumK p i ds ++ r) = (fltA p i ds).or (fltS r)
  | [], i => by simp [enumK, fltA]
  | d :: ds, i => by
    simp only [enumK, List.cons_append, fltS, fltA, fltS_enum p r ds (i + 1), Option.or_assoc]
def faultD : PyData → Option (List Int)
  | .tuple ds => fltA [] 0 ds
  | _ => some []
def pD (x : List Int × PyData) : PyData := .tuple [pathD x.1, x.2]
def szS (s : List (List Int × PyData)) : Nat := (s.map fun x => sz x.2).sum
theorem szS_enum (p : List Int) : ∀ (ds : List PyData) (i : Nat), szS (enumK p i ds) = szA ds
  | [], i => rfl
  | d :: ds, i => by
    have := szS_enum p ds (i + 1)
    simp only [enumK, szS, List.map_cons, List.sum_cons, szA] at this ⊢
    rw [this]
theorem szS_app (s r : List (List Int × PyData)) : szS (s ++ r) = szS s + szS r := by
  simp [szS]
theorem szS_len : ∀ s : List (List Int × PyData), s.length ≤ szS s
  | [] => Nat.le_refl 0
  | x :: r => by
    have := szS_len r
    have := sz_pos x.2
    simp only [szS, List.map_cons, List.sum_cons, List.length_cons] at this ⊢
    unfold szS at *
    omega
/-- what is on the stack is good -/
def SG (x : List Int × PyData) : Prop := gD x.2 = true ∧ x.1.length + x.2.depth ≤ 40
theorem enum_mem {p : List Int} : ∀ {ds : List PyData} {i : Nat} {x : List Int × PyData}, x ∈ enumK p i ds → ∃ j : Int, x.1 = p ++ [j] ∧ x.2 ∈ ds
  | [], i, x, h => by simp [enumK] at h
  | d :: ds, i, x, h => by
    simp only [enumK, List.mem_cons] at h
    rcases h with rfl | h
    · exact ⟨i, rfl, List.mem_cons_self⟩
    · obtain ⟨j, e, m⟩ := enum_mem h
      exact ⟨j, e, List.mem_cons_of_mem _ m⟩
theorem SG_enum {p : List Int} {ds : List PyData} {n : Nat} (g : gA ds = true) (h : PyData.depthAll ds ≤ n) (hp : p.length + 1 + n ≤ 40) : ∀ x ∈ enumK p 0 ds, SG x := fun x m => by
  obtain ⟨j, e, m⟩ := enum_mem m
  refine ⟨gA_mem g m, ?_⟩
  have := PyData.depth_le_depthAll _ _ m
  rw [e, List.length_append, List.length_singleton]
  omega
theorem SG.pD {x : List Int × PyData} (h : SG x) : gD (pD x) = true ∧ (pD x).depth ≤ 63 := by
  obtain ⟨g, hd⟩ := h
  have h1 := depth_path x.1
  constructor
  · simp only [Pf.pD, gD, gA, g, pathD, gA_ints, Bool.and_self]
  · simp only [Pf.pD, PyData.depth, PyData.depthAll, h1]
    omega
theorem shaped_stk {s : List (List Int × PyData)} (h : ∀ x ∈ s, SG x) : SeqAt.shaped (.list (s.map pD).reverse) = true := by
  refine shaped_lst (gA_of fun d m => ?_) fun d m => ?_ <;>
  · rw [List.mem_reverse] at m
    obtain ⟨x, hx, rfl⟩ := List.mem_map.mp m
    first | exact (h x hx).pD.1 | exact (h x hx).pD.2
theorem kids_lt {d : PyData} (h : nodeD d = true) : szA (kidsD d) < sz d ∧ PyData.depthAll (kidsD d) + 2 ≤ d.depth ∧ (gD d = true → gA (kidsD d) = true) := by
  obtain ⟨k, t, e⟩ := node_eq h
  generalize hx : kidsD d = xs at e
  subst e
  refine ⟨?_, ?_, fun g => ?_⟩
  · simp only [sz, szA]
    omega
  · simp only [PyData.depth, PyData.depthAll]
    omega
  · simp only [gD, gA, Bool.and_eq_true] at g
    exact g.2.2.1
/-! ### is_node, within -/
def spNode : Sp := fun vs H Q _ => ∃ (v : V) (b : Addr) (d : PyData), vs = [v] ∧ Dq b H d v ∧ gD d = true ∧ ∀ H', Same H H' → Q (.bl (nodeD d)) H'
def spWithin : Sp := fun vs H Q _ => ∃ (pa ra b : Addr) (p : List Int) (ds : List PyData), vs = [.ref pa, .ref ra] ∧ Dq b H (pathD p) (.ref pa) ∧ Dq b H (.tuple ds) (.ref ra) ∧ ds.length ≤ 10000 ∧ p.length ≤ 1000 ∧
  ∀ (q : Addr) (l : List V) (H' : Hp), Same H H' → H q = none → H' q = some (.lst l) → DqA b H' ((enumK p 0 ds).map pD).reverse l → DqA q H' ((enumK p 0 ds).map pD).reverse l → Q (.ref q) H'
theorem enum_len (p : List Int) : ∀ (ds : List PyData) (i : Nat), (enumK p i ds).length = ds.length
  | [], _ => rfl
  | d :: ds, i => by simp only [enumK, List.length_cons, enum_len p ds (i + 1)]
theorem enum_take (p : List Int) : ∀ (ds : List PyData) (i j : Nat) (d : PyData), ds[j]? = some d → (enumK p i ds).take (j + 1) = (enumK p i ds).take j ++ [(p ++ [((i + j : Nat) : Int)], d)]
  | [], _, j, d, h => by cases h
  | x :: ds, i, 0, d, h => by
    cases h
    rfl
  | x :: ds, i, j + 1, d, h => by
    have e := enum_take p ds (i + 1) j d h
    simp only [enumK, List.take_succ_cons, e, List.cons_append]
    rw [show i + 1 + j = i + (j + 1) by omega]
section
variable {P : Program} {w : World} {K : PySem.W.Frag} {mg : Str → Option Value} {base : Heap} {f : Addr} {fd : FuncData}
/-- pairs of a path and a datum of the heap before -/
def PA (b : Addr) (H H' : Hp) : List (List Int × PyData) → List V → Prop
  | [], m => m = []
  | x :: s, m => ∃ (q pp : Addr) (y : V) (m' : List V), m = .ref q :: m' ∧ H' q = some (.tup [.ref pp, y]) ∧ H' pp = some (.tup (x.1.map V.int)) ∧ Dq b H x.2 y ∧ PA b H H' s m'
theorem PA.le {b : Addr} {H H1 H2 : Hp} (t : TupLe H1 H2) : ∀ {s : List (List Int × PyData)} {m : List V}, PA b H H1 s m → PA b H H2 s m
  | [], _, h => h
  | x :: s, _, ⟨q, pp, y, m', e, h1, h2, h3, h4⟩ => ⟨q, pp, y, m', e, t _ _ h1, t _ _ h2, h3, h4.le t⟩
theorem PA.snoc {b : Addr} {H H' : Hp} {x : List Int × PyData} {q pp : Addr} {y : V} (h1 : H' q = some (.tup [.ref pp, y])) (h2 : H' pp = some (.tup (x.1.map V.int))) (h3 : Dq b H x.2 y) : ∀ {s : List (List Int × PyData)} {m : List V}, PA b H H' s m → PA b H H' (s ++ [x]) (m ++ [.ref q])
  | [], _, h => by
    obtain rfl : _ = [] := h
    exact ⟨q, pp, y, [], rfl, h1, h2, h3, rfl⟩
  | z :: s, _, ⟨q', pp', y', m', e, a1, a2, a3, a4⟩ => ⟨q', pp', y', m' ++ [.ref q], by rw [e]; rfl, a1, a2, a3, a4.snoc h1 h2 h3⟩
theorem PA.dq {b : Addr} {H H' : Hp} (k : Same H H') : ∀ {s : List (List Int × PyData)} {m : List V}, PA b H H' s m → DqA b H' (s.map pD) m
  | [], _, h => by
    obtain rfl : _ = [] := h
    exact .nil
  | x :: s, _, ⟨q, pp, y, m', e, h1, h2, h3, h4⟩ => by
    rw [e]
    exact .cons (Dq.tup_mk h1 (.cons (Dq.tup_mk h2 (DqA.ints _)) (.cons (h3.le (Le.same k)) .nil))) (h4.dq k)
theorem PA.len {b : Addr} {H H' : Hp} : ∀ {s : List (List Int × PyData)} {m : List V}, PA b H H' s m → m.length = s.length
  | [], _, h => by
    obtain rfl : _ = [] := h
    rfl
  | x :: s, _, ⟨q, pp, y, m', e, h1, h2, h3, h4⟩ => by
    rw [e, List.length_cons, h4.len]
    rfl
theorem ok_within (F : Fun K "within" "within" s_within f fd) (T : Txt mg) : FnOk P w K mg base CX0 1 f fd ["path", "row"] spWithin := by
  refine F.ok sc_within (fun vs H Q E h => ?_) (fun cdv A outer s H vs Q E hr h => ?_)
  · obtain ⟨pa, ra, b, p, ds, rfl, _⟩ := h
    rfl
  · obtain ⟨pa, ra, b, p, ds, rfl, hp, hd, hlen, plen, q⟩ := h
    obtain ⟨_, pl, ep, hpa, hpl⟩ := hp.tup
    cases ep
    obtain rfl := hpl.ints_inv
    obtain ⟨_, l, er, hra, hl⟩ := hd.tup
    cases er
    have len := hl.len
    refine ⟨_, (pss_one (ps_ret (pe_revLX K (pe_lc (own := [("at", 2), ("node", 3)])  (tt := tYes) (by rfl) sc_within.nd (pi_enX K (by rfl) T.enumerate (pa_cons (pv 1) pa_nil)) (blkOk_by (own := [("at", 2), ("node", 3)]) (N := ["path", "row", "at", "node"]) (sc := defScope s_within) (by decide +kernel)) (fun _ _ _ _ _ => pg_tupX K (pg_tup (n := 2) (by rfl) (pgs_cons (pg_name (i := 2) sc_within.nd rfl (Or.inl rfl)) (pgs_cons (pg_name (i := 3) sc_within.nd rfl (Or.inl rfl)) pgs_nil)))) (fun _ _ _ _ _ => pts_nil) (fun _ _ _ _ _ => (pe_tup (pa_cons (pe_tup (pa_starX K (pv 0) (pa_cons (pv 2) pa_nil))) (pa_cons (pv 3) pa_nil)))))))), ?_⟩
    change (_ : TS) _ [some (V.ref pa), some (V.ref ra), none, none] _
    k_extra "rr"
    refine ⟨ra, l, rfl, .inr ⟨SqT.of hra, fun D nD => ?_⟩⟩
    refine lc_it (walk_enT (K := K) (a := ra) (xs := l)) (fun i H' => ∃ m, H' D = some (.lst m) ∧ Same H H' ∧ PA b H H' ((enumK p 0 ds).take i) m) ⟨[], upd_same, same_upd nD, rfl⟩ (fun i H' _ ⟨m, _, s, _⟩ => SqT.of (s _ _ hra)) ?_ ?_
    · rintro i x H1 H2 hi ⟨m, hD, s1, hm⟩ ⟨T0, x1, y1, rfl, nT, rfl, e1, e2⟩
      obtain rfl := Option.some.inj e1
      obtain ⟨d, ed, hy⟩ := hl.get e2
      k_extra "rr"
      refine ⟨rfl, ?_⟩
      k_extra "rr"
      have s2 : Same H1 (upd H1 T0 (.tup [V.int (i : Nat), y1])) := same_upd nT
      refine ⟨pa, _, rfl, .inl (SqT.of (s2 _ _ (s1 _ _ hpa))), ?_⟩
      k_extra "rr"
      refine ⟨by rw [List.length_append, List.length_map, sizeLine_eq]; show _ + 1 ≤ _; omega, fun p1 n1 => ?_⟩
      k_extra "rr"
      refine ⟨by k_extra "sz", fun p2 n2 => ?_⟩
      have n12 : p1 ≠ p2 := ne_of_none upd_same n2
      have s3 := s2.trans (same_upd (o := .tup (p.map V.int ++ [V.int (i : Nat)])) n1)
      have s4 := s3.trans (same_upd (o := .tup [V.ref p1, y1]) n2)
      have em := hm.len
      rw [List.length_take] at em
      have hp2 : upd (upd (upd H1 T0 (.tup [V.int (i : Nat), y1])) p1 (.tup (p.map V.int ++ [V.int (i : Nat)]))) p2 (.tup [V.ref p1, y1]) p2 = some (.tup [V.ref p1, y1]) := upd_same
      have hp1 : upd (upd (upd H1 T0 (.tup [V.int (i : Nat), y1])) p1 (.tup (p.map V.int ++ [V.int (i : Nat)]))) p2 (.tup [V.ref p1, y1]) p1 = some (.tup (p.map V.int ++ [V.int (i : Nat)])) := by
        rw [upd_ne n12]
        exact upd_same
      generalize upd (upd (upd H1 T0 (.tup [V.int (i : Nat), y1])) p1 (.tup (p.map V.int ++ [V.int (i : Nat)]))) p2 (.tup [V.ref p1, y1]) = H4 at s4 hp1 hp2
      have hD4 := s4 _ _ hD
      have t4 : TupLe H4 (upd H4 D (.lst (m ++ [.ref p2]))) := TupLe.lst hD4
      refine ⟨m, hD4, by rw [sizeLine_eq]; omega, m ++ [.ref p2], upd_same, same_mut (s1.trans s4) nD, ?_⟩
      rw [enum_take p ds 0 i d ed, Nat.zero_add]
      exact (hm.le ((TupLe.same s4).trans t4)).snoc (t4 _ _ hp2) (t4 _ _ (by rw [hp1, List.map_append]; rfl)) hy
    · rintro H1 ⟨m, hD, s1, hm⟩
      k_extra "rr"
      refine ⟨D, m, rfl, SqL.of hD, fun l2 n2 => ?_⟩
      rw [len, show ds.length = (enumK p 0 ds).length from (enum_len p ds 0).symm, List.take_length] at hm
      refine q l2 m.reverse _ (s1.trans (same_upd n2)) (s1.free n2) upd_same ?_ ?_
      · exact ((hm.dq s1).le (Le.new n2)).rev
      · exact (((hm.dq s1).free n2).le (Le.new n2)).rev
end

/-! ### good texts -/
theorem gS_of {l : List Nat} (h1 : l.length ≤ 1000) (h2 : ∀ c ∈ l, OkC c) : gS (SX.S l) = true := by
  unfold gS
  rw [SX.S_len]
  simp only [Bool.and_eq_true, decide_eq_true_eq, List.all_eq_true]
  refine ⟨h1, fun c hc => h2 c ?_⟩
  simpa [SX.S] using hc
theorem okC_letters : ∀ c ∈ letters, OkC c := by decide
theorem okC_sign {c : Nat} (h : signB c = true) : OkC c := by
  unfold signB at h
  simp only [Bool.and_eq_true, decide_eq_true_eq] at h
  exact .inl ⟨h.1, h.2.1⟩
theorem word_S {k : List Nat} {n : Int} (h1 : ∀ c ∈ k, c ∈ letters) (h2 : 1 ≤ k.length) (h3 : (k.length : Int) ≤ n) : wordB (.str (SX.S k)) n = true := by
  have e : (SX.S k).cps.toList = k := by simp [SX.S]
  show (decide (1 ≤ ((SX.S k).length : Int)) && (decide (((SX.S k).length : Int) ≤ n) && _)) = true
  rw [SX.S_len, decide_eq_true (show 1 ≤ (k.length : Int) by omega), decide_eq_true h3, e, Bool.true_and, Bool.true_and]
  refine List.all_eq_true.mpr fun x hx => ?_
  obtain ⟨c, hc, rfl⟩ := List.mem_map.mp hx
  exact decide_eq_true (h1 c hc)

/-! ### documents as data -/
theorem Items.dq {b : Addr} {H : Hp} : ∀ {f : Fo} {xs : List V}, Items H f xs → DqA b H (fdata f) xs
  | .nil, _, h => by
    rw [show _ = _ from h]
    exact .nil
  | .cons _ _ _ _, _, ⟨p, q, ys, xs', e, h1, h2, h3, h4⟩ => by
    rw [e]
    exact .cons (Dq.tup_mk h1 (.cons (Dq.str_mk _) (.cons (Dq.str_mk _) (.cons (Dq.tup_mk h2 h3.dq) .nil)))) h4.dq
theorem Doc.dq {b : Addr} {H : Hp} {f : Fo} {a : Addr} : Doc H f a → Dq b H (.tuple (fdata f)) (.ref a) := fun ⟨xs, h, i⟩ => Dq.tup_mk h i.dq
/-- kinds and texts as the documents have them -/
def GN2 (k t : List Nat) : Prop := (∀ c ∈ k, c ∈ letters) ∧ 1 ≤ k.length ∧ k.length ≤ 6 ∧ t.length ≤ 20 ∧ ∀ c ∈ t, signB c = true
theorem sz_fdata : ∀ f : Fo, szA (fdata f) = 4 * f.size
  | .nil => rfl
  | .cons k t i r => by
    have a1 := sz_fdata i
    have a2 := sz_fdata r
    unfold fdata
    simp only [szA, sz, a1, a2, Fo.size]
    omega
theorem depth_fdata2 : ∀ f : Fo, PyData.depthAll (fdata f) ≤ 2 * f.depth
  | .nil => by simp [fdata, PyData.depthAll]
  | .cons k t i r => by
    have a1 := depth_fdata2 i
    have a2 := depth_fdata2 r
    unfold fdata
    simp only [PyData.depthAll, PyData.depth]
    show _ ≤ 2 * max (i.depth + 1) r.depth
    omega
theorem gA_fdata : ∀ {f : Fo}, f.All GN2 → gA (fdata f) = true
  | .nil, _ => by simp only [fdata, gA]
  | .cons k t i r, ⟨⟨h1, _, h2, h3, h4⟩, h5, h6⟩ => by
    unfold fdata
    simp only [gA, gD, gA_fdata h5, gA_fdata h6, gS_of (show k.length ≤ 1000 by omega) (fun c hc => okC_letters c (h1 c hc)), gS_of (show t.length ≤ 1000 by omega) (fun c hc => okC_sign (h4 c hc)), Bool.and_self]
theorem text_S {t : List Nat} (h3 : t.length ≤ 20) (h4 : ∀ c ∈ t, signB c = true) : textB (.str (SX.S t)) = true := by
  have e : (SX.S t).cps.toList = t := by simp [SX.S]
  show (decide (((SX.S t).length : Int) ≤ 20) && _) = true
  rw [SX.S_len, decide_eq_true (show (t.length : Int) ≤ 20 by omega), e, Bool.true_and]
  refine List.all_eq_true.mpr fun x hx => ?_
  obtain ⟨c, hc, rfl⟩ := List.mem_map.mp hx
  exact h4 c hc
theorem flt_fdata : ∀ {f : Fo} (p : List Int) (i : Nat), f.All GN2 → fltA p i (fdata f) = none
  | .nil, p, i, _ => by simp only [fdata, fltA]
  | .cons k t j r, p, i, ⟨⟨h1, h1', h2, h3, h4⟩, h5, h6⟩ => by
    unfold fdata
    simp only [fltA, flt, vOf, word_S h1 h1' (show (k.length : Int) ≤ 6 by omega), text_S h3 h4, Bool.and_self, if_true, flt_fdata _ 0 h5, flt_fdata p (i + 1) h6, Option.or_none]

/-! ### the generator nodes -/
mutual
def preD (p : List Int) : PyData → List (List Int × PyData)
  | .tuple [k, t, .tuple xs] => (p, .tuple [k, t, .tuple xs]) :: preA p 0 xs
  | d => [(p, d)]
def preA (p : List Int) (i : Nat) : List PyData → List (List Int × PyData)
  | [] => []
  | d :: r => preD (p ++ [(i : Int)]) d ++ preA p (i + 1) r
end
theorem preD_eq (p : List Int) {d : PyData} (h : nodeD d = true) : preD p d = (p, d) :: preA p 0 (kidsD d) := by
  obtain ⟨k, t, e⟩ := node_eq h
  generalize kidsD d = xs at e
  subst e
  simp only [preD]
def preS : List (List Int × PyData) → List (List Int × PyData)
  | [] => []
  | x :: r => preD x.1 x.2 ++ preS r
theorem preS_app : ∀ s r : List (List Int × PyData), preS (s ++ r) = preS s ++ preS r
  | [], _ => rfl
  | x :: s, r => by
    show preD x.1 x.2 ++ preS (s ++ r) = _
    rw [preS_app s r]
    simp [preS]
theorem preS_enum (p : List Int) : ∀ (ds : List PyData) (i : Nat), preS (enumK p i ds) = preA p i ds
  | [], _ => by simp [enumK, preS, preA]
  | d :: r, i => by
    simp only [enumK, preS, preA, preS_enum p r (i + 1)]
theorem preA_len : ∀ (f : Fo) (p : List Int) (i : Nat), (preA p i (fdata f)).length = f.size
  | .nil, _, _ => by simp [fdata, preA, Fo.size]
  | .cons k t j r, p, i => by
    have h1 := preA_len j (p ++ [(i : Int)]) 0
    have h2 := preA_len r p (i + 1)
    unfold fdata
    simp only [preA, preD, List.length_append, List.length_cons, h1, h2, Fo.size]
    omega
def spNodes : Gx.SpX := fun vs H Yp Q => ∃ (a b : Addr) (ds : List PyData), vs = [.ref a] ∧ Dq b H (.tuple ds) (.ref a) ∧ gA ds = true ∧ PyData.depthAll ds ≤ 38 ∧ szA ds ≤ 10000 ∧ fltA [] 0 ds = none ∧ (preA [] 0 ds).length ≤ 10000 ∧
  (∀ ys x H' L p d, (preA [] 0 ds)[ys.length]? = some (p, d) → Same H H' → Dq L H' (pD (p, d)) x → Yp ys x H') ∧ ∀ (ys : List V) H', ys.length = (preA [] 0 ds).length → Same H H' → Q ys H'
theorem sc_nodes : GScope ["document", "left", "path", "node"] ["document"] (defScope s_nodes) := ⟨rfl, rfl, rfl, by decide +kernel, rfl, by decide +kernel, by decide +kernel⟩
section
variable {P : Program} {w : World} {K : PySem.W.Frag} {mg : Str → Option Value} {base : Heap} {f C : Addr} {fd : FuncData}
theorem o_nx {f : List V → L2.St → Hp → Prop} {rt : List V → VK} {bk ct : List V → L2.St → Hp → Prop} {ys : List V} {σ : L2.St} {H : Hp} (h : f ys σ H) : ({ nx := f, rt := rt, bk := bk, ct := ct } : GEnds).nx ys σ H := h
theorem ok_nodes (F : Fun K "nodes" "nodes" s_nodes f fd) (T : Txt mg) (c_within : Cal P w K mg base 1 "within" spWithin) : Gx.GFx P w K mg base 3 f fd ["document"] spNodes := by
  obtain ⟨oc, od, kV, doc, pm, an, cdv, ct, osl, rfl, lk, hcd⟩ := F.ex
  refine Gx.gfx_of (k := 2) lk hcd sc_nodes (fun vs H Yp Q h => ?_) (fun A outer s H vs Yp Q pn hr h => ?_)
  · obtain ⟨a, b, ds, rfl, _⟩ := h
    rfl
  · obtain ⟨a, b, ds, rfl, hv, g, hd, hs, hf0, hlen0, qy, qe⟩ := h
    refine ⟨_, (Gx.gt_cons (Gx.gt_ps (ps_set (i := 1) sc_nodes.nd rfl (.inl rfl) (pe_c c_within hr (by omega) (by rfl) (pa_cons (pe_tup pa_nil) (pa_cons (pv 0) pa_nil)))))
      (Gx.gt_cons (Gx.gt_while owns_gcx (pt_cmpR (op_neX K hr) (pv 1) (pe_lst pa_nil) (nomark _)) (Gx.gt_cons (Gx.gt_ps (ps_asg (pe_bm0X K (pe_bm0 PySem.F.plainAttrs_list PySem.F.slot_list_pop PySem.F.type_list_pop mt_pop (pv 1))) (pg_tupX K (pg_tup (n := 2) (by rfl) (pgs_cons (pg_name (i := 2) sc_nodes.nd rfl (.inl rfl)) (pgs_cons (pg_name (i := 3) sc_nodes.nd rfl (.inl rfl)) pgs_nil))))))
      (Gx.gt_cons (Gx.gt_yield (pe_tup (pa_cons (pv 2) (pa_cons (pv 3) pa_nil))))
      (Gx.gt_cons (Gx.gt_ps (ps_aug (i := 1) sc_nodes.nd rfl (.inl rfl) (pe_c c_within hr (by omega) (by rfl) (pa_cons (pv 2) (pa_cons (pe_ix (ix_X K) (pv 3) pe_int (fun _ _ => rfl)) pa_nil))) ip_X))
      Gx.gt_nil))))
      Gx.gt_nil)), ?_⟩
    change (_ : TGn) _ [] [some (V.ref a), none, none, none] _
    refine Gx.o_then (Gx.o_plain ?_)
    obtain ⟨_, l, e1, ha, hl⟩ := id hv.tup
    cases e1
    have hdl := szA_len ds
    k_extra "rr"
    refine ⟨by k_extra "sz", fun p0 np0 => ?_⟩
    have s0 : Same H (upd H p0 (.tup [])) := same_upd np0
    k_extra "rr"
    refine ⟨p0, a, b, [], ds, rfl, Dq.tup_mk upd_same .nil, hv.le (Le.same s0), by omega, Nat.zero_le _, fun L l1 H1 s1 nL hL _ hl1 => ?_⟩
    k_extra "rr"
    have nL0 : H L = none := s0.free nL
    refine Gx.o_then ?_
    refine ⟨fun m ys σ H' => ∃ (stk done : List (List Int × PyData)) (l : List V) (v2 v3 : Option V), σ = [some (.ref a), some (.ref L), v2, v3] ∧ Same H H' ∧ H' L = some (.lst l) ∧ DqA L H' (stk.map pD).reverse l ∧ (∀ x ∈ stk, SG x) ∧ fltS stk = none ∧ szS stk = m ∧ m ≤ 10000 ∧ preA [] 0 ds = done ++ preS stk ∧ ys.length = done.length,
      ⟨szA ds, enumK [] 0 ds, [], l1, _, _, rfl, s0.trans s1, hL, hl1, SG_enum g (Nat.le_refl _) (by show 0 + 1 + _ ≤ _; omega), ?_, szS_enum [] ds 0, hs, by rw [preS_enum]; rfl, rfl⟩, ?_⟩
    · have e := fltS_enum [] [] ds 0
      rw [List.append_nil] at e
      rw [e, hf0]
      simp [fltS]
    rintro m ys σ H' ⟨stk, done, l, v2, v3, rfl, s2, hL2, hk, hG, hf, hm, hm4, hdone, hys⟩
    k_extra "rr"
    refine ⟨by k_extra "sz", fun e ne => ?_⟩
    have s3 : Same H (upd H' e (.lst [])) := s2.trans (same_upd ne)
    have hL3 := same_upd (o := .lst []) ne _ _ hL2
    have hk3 := hk.le (Le.new (o := .lst []) ne)
    k_extra "rr"
    refine neDd (d := .list (stk.map pD).reverse) (e := .list []) (.lst (SqL.of hL3) hk3.dp) (.lst (SqL.of upd_same) .nil) (shaped_stk hG) shaped_nilL ?_
    rw [eqv_nilL]
    clear hL2 hk
    generalize upd H' e (.lst []) = H2 at s3 hL3 hk3
    match stk, hk3, hG, hf, hm, hdone with
    | [], hk3, hG, hf, hm, hdone =>
      rw [show (!((([] : List (List Int × PyData)).map pD).reverse).isEmpty) = false from rfl]
      refine ⟨false, rfl, ?_⟩
      rw [if_neg Bool.false_ne_true]
      refine Gx.o_end ?_
      refine qe ys _ ?_ s3
      rw [hdone, hys]
      simp [preS]
    | (p, d) :: stk, hk3, hG, hf, hm, hdone =>
      rw [show (!((((p, d) :: stk).map pD).reverse).isEmpty) = true by simp]
      refine ⟨true, rfl, ?_⟩
      rw [if_pos rfl]
      have hf1 : (flt p d).or (fltS stk) = none := hf
      rw [flt_eq] at hf1
      have en : nodeD d = true := by
        by_cases z : nodeD d = true
        · exact z
        · rw [if_neg z] at hf1
          simp at hf1
      rw [if_pos en] at hf1
      have hdone2 : preA [] 0 ds = done ++ ((p, d) :: preS (enumK p 0 (kidsD d) ++ stk)) := by
        rw [hdone]
        show done ++ (preD p d ++ preS stk) = _
        rw [preD_eq p en, preS_app, preS_enum]
        rfl
      have hat : (preA [] 0 ds)[ys.length]? = some (p, d) := by
        rw [hdone2, hys]
        simp
      refine ⟨_, fun _ _ _ h => h, ?_⟩
      refine Gx.o_then (Gx.o_plain ?_)
      k_extra "rr"
      rw [List.map_cons, List.reverse_cons] at hk3
      obtain ⟨l', v, rfl, hk4, hv4⟩ := hk3.unsnoc
      refine ⟨tyvL hL3, popL hL3 ?_⟩
      have s4 : Same H (upd H2 L (.lst l')) := same_mut s3 nL0
      have t4 : Le L H2 (upd H2 L (.lst l')) := Le.set hL3
      have hk5 := hk4.le t4
      have hv5 := hv4.le t4
      have hl5 : upd H2 L (.lst l') L = some (.lst l') := upd_same
      generalize upd H2 L (.lst l') = H4 at s4 hk5 hv5 hl5
      obtain ⟨pq, l2, rfl, hpq, hl2⟩ := hv5.tup
      obtain ⟨vp, m1, rfl, hvp, hl2⟩ := hl2.inv
      obtain ⟨vd, m2, rfl, hvd, hl2⟩ := hl2.inv
      obtain rfl := hl2.inv0
      obtain ⟨gd, gl⟩ := hG _ List.mem_cons_self
      simp only at gd gl
      have hG2 : ∀ x ∈ stk, SG x := fun x hx => hG x (List.mem_cons_of_mem _ hx)
      k_extra "rr"
      refine Gx.o_then ?_
      refine ⟨?_, ?_⟩
      · have : ys.length < (preA [] 0 ds).length := (List.getElem?_eq_some_iff.mp hat).1
        rw [sizeLine_eq]
        omega
      k_extra "rr"
      refine ⟨by k_extra "sz", fun pt npt => ?_⟩
      have s5 : Same H (upd H4 pt (.tup [vp, vd])) := s4.trans (same_upd npt)
      have t5 : Le L H4 (upd H4 pt (.tup [vp, vd])) := Le.new npt
      have hvp5 := hvp.le t5
      have hvd5 := hvd.le t5
      have hk6 := hk5.le t5
      have hl6 := same_upd (o := .tup [vp, vd]) npt _ _ hl5
      have hpt : upd H4 pt (.tup [vp, vd]) pt = some (.tup [vp, vd]) := upd_same
      generalize upd H4 pt (.tup [vp, vd]) = H5 at s5 hvp5 hvd5 hk6 hl6 hpt
      refine ⟨qy ys _ H5 L p d hat s5 (Dq.tup_mk hpt (.cons hvp5 (.cons hvd5 .nil))), ?_⟩
      refine o_nx ?_
      refine Gx.o_then (Gx.o_plain ?_)
      obtain ⟨pp, pl, rfl, hpp, hpl⟩ := hvp5.tup
      obtain rfl := hpl.ints_inv
      obtain ⟨k1, k2, k3⟩ := kids_lt en
      have gk := k3 gd
      obtain ⟨kk, tt, ed⟩ := node_eq en
      rw [ed] at hvd5
      obtain ⟨dq, l3, rfl, hdq, hl3⟩ := hvd5.tup
      obtain ⟨w1, m1, rfl, _, hl3⟩ := hl3.inv
      obtain ⟨w2, m2, rfl, _, hl3⟩ := hl3.inv
      obtain ⟨w3, m3, rfl, hw3, hl3⟩ := hl3.inv
      obtain rfl := hl3.inv0
      obtain ⟨kq, kl, rfl, hkq, hkl⟩ := id hw3.tup
      have hsm : sz d + szS stk = m := hm
      have hkn := szA_len (kidsD d)
      have hf2 : fltS (enumK p 0 (kidsD d) ++ stk) = none := by
        rw [fltS_enum]
        exact hf1
      k_extra "rr"
      refine ⟨pp, kq, L, p, kidsD d, rfl, hvp5, hw3, by omega, by omega, fun L2 l4 H6 s6 nL2 hL2 hk7 _ => ?_⟩
      have hl7 := s6 _ _ hl6
      have len4 := hk7.len
      have len5 := hk6.len
      rw [List.length_reverse, List.length_map, enum_len] at len4
      rw [List.length_reverse, List.length_map] at len5
      have hls := szS_len stk
      refine ipL2 hl7 hL2 (by rw [sizeLine_eq]; omega) ?_
      k_extra "rr"
      refine Gx.o_end ?_
      have nLL : L2 ≠ L := (ne_of_none hl6 nL2).symm
      have t6 : Le L H6 (upd H6 L (.lst (l' ++ l4))) := Le.set hl7
      refine ⟨szS (enumK p 0 (kidsD d) ++ stk), ?_, enumK p 0 (kidsD d) ++ stk, done ++ [(p, d)], l' ++ l4, _, _, rfl, same_mut (s5.trans s6) nL0, upd_same, ?_, ?_, hf2, rfl, ?_, ?_, ?_⟩
      · rw [szS_app, szS_enum]
        omega
      · rw [List.map_append, List.reverse_append]
        exact (hk6.le ((Le.same s6).trans t6)).app (hk7.le t6)
      · intro x hx
        rcases List.mem_append.mp hx with hx | hx
        · exact SG_enum gk (Nat.le_refl _) (by omega) x hx
        · exact hG2 x hx
      · rw [szS_app, szS_enum]
        omega
      · rw [hdone2]
        simp
      · rw [List.length_append, List.length_append, hys]
        rfl
end

/-! ### count_nodes -/
def spCountN : Sp := fun vs H Q _ => ∃ (a b : Addr) (ds : List PyData), vs = [.ref a] ∧ Dq b H (.tuple ds) (.ref a) ∧ gA ds = true ∧ PyData.depthAll ds ≤ 38 ∧ szA ds ≤ 10000 ∧ fltA [] 0 ds = none ∧ (preA [] 0 ds).length ≤ 10000 ∧ ∀ H', Same H H' → Q (.int ((preA [] 0 ds).length : Int)) H'
section
variable {P : Program} {w : World} {K : PySem.W.Frag} {mg : Str → Option Value} {base : Heap} {f C : Addr} {fd : FuncData}
theorem ok_count_nodes (F : Fun K "count_nodes" "count_nodes" s_count_nodes f fd) (T : Txt mg) (c_nodes : Gx.CalG P w K mg base 3 "nodes" spNodes) : FnOk P w K mg base CX0 5 f fd ["document"] spCountN := by
  refine F.ok sc_count_nodes (fun vs H Q E h => ?_) (fun cdv A outer s H vs Q E hr h => ?_)
  · obtain ⟨a, b, ds, rfl, _⟩ := h
    rfl
  · obtain ⟨a, b, ds, rfl, hv, g, hd, hs, hf, hl, q⟩ := h
    refine ⟨_, (pss_one (ps_ret (pe_callB (cr_sumX K (by rfl)) (by rfl) T.sum (by decide +kernel) (pa_cons (Gx.pe_each rfl (Gx.pm_c c_nodes hr (by omega) (by rfl) (pa_cons (pv 0) pa_nil)) hr (by omega) rfl (by decide) rfl rfl (by decide) Gx.elt_one) pa_nil)))), ?_⟩
    change (_ : TS) _ [some (V.ref a), none, none] _
    k_extra "rr"
    refine ⟨fun ys x H' => ∃ L p d, Dq L H' (pD (p, d)) x, fun ys H' => ys.length = (preA [] 0 ds).length ∧ Same H H', fun _ => .int 1, ?_, ?_, ?_⟩
    · show tCons (tVar 0) tNil _ _ _
      k_extra "rr"
      exact ⟨a, b, ds, rfl, hv, g, hd, hs, hf, hl, fun ys x H' L p d _ _ h => ⟨L, p, d, h⟩, fun ys H' h1 h2 => ⟨h1, h2⟩⟩
    · rintro ys x H' ⟨L, p, d, h⟩
      obtain ⟨pq, l2, rfl, hpq, hl2⟩ := h.tup
      obtain ⟨vp, m1, rfl, hvp, hl2⟩ := hl2.inv
      obtain ⟨vd, m2, rfl, hvd, hl2⟩ := hl2.inv
      obtain rfl := hl2.inv0
      exact ⟨pq, vp, vd, rfl, hpq, rfl⟩
    · rintro ys H' ⟨hn, s1⟩ p np
      k_extra "rr"
      refine ⟨p, List.replicate ys.length 1, rfl, SqL.of (by rw [upd_same, List.map_replicate, List.map_const', List.length_range]), ?_⟩
      have e : (List.replicate ys.length (1 : Int)).sum = ((preA [] 0 ds).length : Int) := by
        rw [hn]
        generalize (preA [] 0 ds).length = n
        induction n with
        | zero => rfl
        | succ n ih =>
          rw [List.replicate_succ, List.sum_cons, ih]
          omega
      rw [e]
      exact q _ (s1.trans (same_upd np))
end

/-! ### rubbed documents stay good -/
theorem apF_all {p : List Nat → List Nat → Prop} {g : Fo} (hg : g.All p) : ∀ {f : Fo}, f.All p → (apF f g).All p
  | .nil, _ => hg
  | .cons _ _ _ _, ⟨h1, h2, h3⟩ => ⟨h1, h2, apF_all hg h3⟩
theorem rubF_all {p : List Nat → List Nat → Prop} (g : Nat → Bool) : ∀ {f : Fo} (n : Nat), f.All p → (rubF g n f).All p
  | .nil, _, _ => trivial
  | .cons k t i r, n, ⟨h1, h2, h3⟩ => by
    show (if g n then apF (rubF g (n + 1) i) (rubF g (n + 1 + i.size) r) else .cons k t (rubF g (n + 1) i) (rubF g (n + 1 + i.size) r)).All p
    split
    · exact apF_all (rubF_all g _ h3) (rubF_all g _ h2)
    · exact ⟨h1, rubF_all g _ h2, rubF_all g _ h3⟩
theorem rubF_le (g : Nat → Bool) : ∀ (f : Fo) (n : Nat), (rubF g n f).size ≤ f.size
  | .nil, _ => Nat.le_refl _
  | .cons k t i r, n => by
    have a := rubF_le g i (n + 1)
    have b := rubF_le g r (n + 1 + i.size)
    show (if g n then apF (rubF g (n + 1) i) (rubF g (n + 1 + i.size) r) else .cons k t (rubF g (n + 1) i) (rubF g (n + 1 + i.size) r)).size ≤ 1 + i.size + r.size
    split
    · rw [apF_size]
      omega
    · show 1 + _ + _ ≤ _
      omega

/-! ### small things for laws without runs -/
abbrev Wd := List Nat
theorem letter_sign {c : Nat} (h : c ∈ letters) : signB c = true := by
  have : ∀ c ∈ letters, signB c = true := by decide
  exact this c h
theorem depth_size (f : Fo) : f.depth ≤ f.size := Fo.depth_le f

/-! ### literal values -/
inductive Lit where
  | non
  | bl (b : Bool)
  | int (i : Int)
  | str (z : Str)
  | mul (z : Str) (n : Nat)
  | tup (xs : List Lit)
  | lst (xs : List Lit)
mutual
def Lit.data : Lit → PyData
  | .non => .none
  | .bl b => .bool b
  | .int i => .int i
  | .str z => .str z
  | .mul z n => .str (Txt.mul z n)
  | .tup xs => .tuple (Lit.dataA xs)
  | .lst xs => .list (Lit.dataA xs)
def Lit.dataA : List Lit → List PyData
  | [] => []
  | x :: r => x.data :: Lit.dataA r
end
mutual
def Lit.te : Lit → TE
  | .non => tC .non
  | .bl b => tC (.bl b)
  | .int i => tC (.int i)
  | .str z => tC (.str z)
  | .mul z n => tOp rMulX (tC (.str z)) (tC (.int n))
  | .tup xs => tTup (Lit.ta xs)
  | .lst xs => tLst (Lit.ta xs)
def Lit.ta : List Lit → TA
  | [] => tNil
  | x :: r => tCons x.te (Lit.ta r)
end
mutual
def Lit.ok : Lit → Bool
  | .non => true
  | .bl _ => true
  | .int _ => true
  | .str _ => true
  | .mul z n => decide (z.length ≤ 1000) && decide (n ≤ 1000)
  | .tup xs => decide (xs.length ≤ 1000) && Lit.okA xs
  | .lst xs => decide (xs.length ≤ 1000) && Lit.okA xs
def Lit.okA : List Lit → Bool
  | [] => true
  | x :: r => x.ok && Lit.okA r
end
theorem Lit.lenA : ∀ xs : List Lit, (Lit.dataA xs).length = xs.length
  | [] => rfl
  | x :: r => by rw [Lit.dataA, List.length_cons, List.length_cons, Lit.lenA r]
mutual
theorem Lit.run {b : Addr} {l : List V} : ∀ (x : Lit) {σ : St} {H : Hp} {Q : VK}, x.ok = true → H b = some (.lst l) → (∀ v H', Same H H' → Dq b H' x.data v → Q v H') → x.te σ H Q
  | .non, σ, H, Q, _, _, q => q _ H (Same.refl H) (by rw [Lit.data]; exact Dq.non_mk)
  | .bl c, σ, H, Q, _, _, q => q _ H (Same.refl H) (by rw [Lit.data]; exact Dq.bl_mk c)
  | .int i, σ, H, Q, _, _, q => q _ H (Same.refl H) (by rw [Lit.data]; exact Dq.int_mk i)
  | .str z, σ, H, Q, _, _, q => q _ H (Same.refl H) (by rw [Lit.data]; exact Dq.str_mk z)
  | .mul z n, σ, H, Q, h, _, q => by
    simp only [Lit.ok, Bool.and_eq_true, decide_eq_true_eq] at h
    simp only [Lit.te]
    k_extra "rr"
    exact mulS h.1 (by omega) (by omega) (q _ H (Same.refl H) (by rw [Lit.data]; exact Dq.str_mk _))
  | .tup xs, σ, H, Q, h, hb, q => by
    simp only [Lit.ok, Bool.and_eq_true, decide_eq_true_eq] at h
    simp only [Lit.te]
    refine Rg.tup_ (Lit.runA xs h.2 hb fun vs H1 s1 h1 => ⟨?_, fun p np => q _ _ (s1.trans (same_upd np)) ?_⟩)
    · rw [h1.len, Lit.lenA, sizeLine_eq]
      omega
    · rw [Lit.data]
      exact Dq.tup_mk upd_same (h1.le (Le.new np))
  | .lst xs, σ, H, Q, h, hb, q => by
    simp only [Lit.ok, Bool.and_eq_true, decide_eq_true_eq] at h
    simp only [Lit.te]
    refine Rg.lst_ (Lit.runA xs h.2 hb fun vs H1 s1 h1 => ⟨?_, fun p np => q _ _ (s1.trans (same_upd np)) ?_⟩)
    · rw [h1.len, Lit.lenA, sizeLine_eq]
      omega
    · rw [Lit.data]
      exact Dq.lst_mk (ne_of_none (s1 _ _ hb) np).symm upd_same (h1.le (Le.new np))
theorem Lit.runA {b : Addr} {l : List V} : ∀ (xs : List Lit) {σ : St} {H : Hp} {QA : List V → Hp → Prop}, Lit.okA xs = true → H b = some (.lst l) → (∀ vs H', Same H H' → DqA b H' (Lit.dataA xs) vs → QA vs H') → Lit.ta xs σ H QA
  | [], σ, H, QA, _, _, q => q [] H (Same.refl H) (by rw [Lit.dataA]; exact .nil)
  | x :: r, σ, H, QA, h, hb, q => by
    simp only [Lit.okA, Bool.and_eq_true] at h
    simp only [Lit.ta]
    refine Rg.acons (Lit.run x h.1 hb fun v H1 s1 h1 => Lit.runA r h.2 (s1 _ _ hb) fun vs H2 s2 h2 => q _ _ (s1.trans s2) ?_)
    rw [Lit.dataA]
    exact .cons (h1.le (Le.same s2)) h2
end
/-- drawn from a literal list: one of its items -/
theorem lit_of {K : PySem.W.Frag} {b r : Addr} {xs : List Lit} {t : TE} (et : (Lit.lst xs).te = t) {σ : St} {H : Hp} {Q : VK} (ok : (Lit.lst xs).ok = true) (h0 : 0 < xs.length) (hb : BagAt H b r) (q : ∀ v d H', d ∈ Lit.dataA xs → But b H H' → BagAt H' b r → Dq b H' d v → Q v H') :
    t σ H fun v H1 => tNil σ H1 fun xs H2 => spOf K (.ref b :: v :: xs) H2 Q E0 := by
  show t σ H fun v H1 => spOf K [.ref b, v] H1 Q E0
  rw [← et]
  obtain ⟨l, hl⟩ : ∃ l, H b = some (.lst l) := by
    obtain ⟨ns, i, c, m, h1, _⟩ := hb
    exact ⟨_, h1⟩
  have ok2 := ok
  simp only [Lit.ok, Bool.and_eq_true, decide_eq_true_eq] at ok2
  simp only [Lit.te]
  refine Rg.lst_ (Lit.runA xs ok2.2 hl fun vs H1 s1 h1 => ⟨?_, fun p np => ?_⟩)
  · rw [h1.len, Lit.lenA, sizeLine_eq]
    omega
  · have hb1 := (hb.same s1).new (o := .lst vs) np
    have len := h1.len
    rw [Lit.lenA] at len
    refine ⟨b, r, _, rfl, hb1, .inr ⟨p, vs, rfl, ((hb.same s1).ne_none np).1, SqL.of upd_same, by omega, by omega, fun i v H2 hv bb hb2 => ?_⟩⟩
    obtain ⟨d, ed, hd⟩ := h1.get hv
    have l1 : Le b (upd H1 p (.lst vs)) H2 := by
      obtain ⟨ns, i, c, m, e1, _⟩ := hb1
      exact Le.but bb e1
    exact q v d H2 (List.mem_of_getElem? ed) ((But.of_same (s1.trans (same_upd np))).trans bb) hb2 (hd.le ((Le.new np).trans l1))

/-! ### literals as a whole -/
def tLit (x : Lit) : TE := fun σ H Q => x.te σ H Q
theorem pe_litX {X : Cx} {e : Expr} {t : TE} (x : Lit) (h : x.te = t) (he : PE X e t) : PE X e (tLit x) := by
  subst h
  exact he
theorem lit_go {x : Lit} {b : Addr} {l : List V} {σ : St} {H : Hp} {Q : VK} (hb : H b = some (.lst l)) (ok : x.ok = true) (q : ∀ v H', Same H H' → Dq b H' x.data v → Q v H') : tLit x σ H Q := Lit.run x ok hb q
mutual
def eqPD : PyData → PyData → Bool
  | .none, .none => true
  | .bool a, .bool b => a == b
  | .int a, .int b => decide (a = b)
  | .str a, .str b => decide (a = b)
  | .list a, .list b => eqPA a b
  | .tuple a, .tuple b => eqPA a b
  | _, _ => false
def eqPA : List PyData → List PyData → Bool
  | [], [] => true
  | a :: r, b :: s => eqPD a b && eqPA r s
  | _, _ => false
end
mutual
theorem eqPD_eq : ∀ {a b : PyData}, eqPD a b = true → a = b
  | .none, b, h => by cases b <;> first | rfl | (simp [eqPD] at h)
  | .bool x, b, h => by cases b <;> first | (simp [eqPD] at h; done) | (simp only [eqPD, beq_iff_eq] at h; rw [h])
  | .int x, b, h => by cases b <;> first | (simp [eqPD] at h; done) | (simp only [eqPD, decide_eq_true_eq] at h; rw [h])
  | .str x, b, h => by cases b <;> first | (simp [eqPD] at h; done) | (simp only [eqPD, decide_eq_true_eq] at h; rw [h])
  | .list x, b, h => by
    cases b with
    | list y =>
      simp only [eqPD] at h
      rw [eqPA_eq h]
    | _ => simp [eqPD] at h
  | .tuple x, b, h => by
    cases b with
    | tuple y =>
      simp only [eqPD] at h
      rw [eqPA_eq h]
    | _ => simp [eqPD] at h
  | .dict x, b, h => by cases b <;> simp [eqPD] at h
theorem eqPA_eq : ∀ {a b : List PyData}, eqPA a b = true → a = b
  | [], b, h => by
    cases b with
    | nil => rfl
    | cons y s => simp [eqPA] at h
  | x :: r, b, h => by
    cases b with
    | nil => simp [eqPA] at h
    | cons y s =>
      simp only [eqPA, Bool.and_eq_true] at h
      rw [eqPD_eq h.1, eqPA_eq h.2]
end
/-- a document by its data -/
theorem items_of {b : Addr} {H : Hp} : ∀ {f : Fo} {xs : List V}, DqA b H (fdata f) xs → Items H f xs
  | .nil, xs, h => h.inv0
  | .cons k t i r, xs, h => by
    obtain ⟨v, l', rfl, hv, hl⟩ := DqA.inv (d := .tuple [.str (SX.S k), .str (SX.S t), .tuple (fdata i)]) (ds := fdata r) h
    obtain ⟨p, l, rfl, hp, hd⟩ := hv.tup
    obtain ⟨v1, m1, rfl, h1, hd⟩ := hd.inv
    obtain ⟨v2, m2, rfl, h2, hd⟩ := hd.inv
    obtain ⟨v3, m3, rfl, h3, hd⟩ := hd.inv
    obtain rfl := hd.inv0
    simp only [Dq] at h1 h2
    subst h1 h2
    obtain ⟨q, ys, rfl, hq, hi⟩ := h3.tup
    exact ⟨p, q, ys, l', rfl, hp, hq, items_of hi, items_of hl⟩
theorem doc_of {b : Addr} {H : Hp} {f : Fo} {v : V} (h : Dq b H (.tuple (fdata f)) v) : ∃ a, v = .ref a ∧ Doc H f a := by
  obtain ⟨a, l, rfl, ha, hd⟩ := h.tup
  exact ⟨a, rfl, l, ha, items_of hd⟩
theorem Dq.lstI {b : Addr} {H : Hp} {ds : List PyData} {v : V} (h : Dq b H (.list ds) v) : ∃ a l, v = .ref a ∧ a ≠ b ∧ H a = some (.lst l) ∧ DqA b H ds l := by simpa only [Dq] using h
theorem Le.own {D : Addr} {H : Hp} {l m : List V} (h : H D = some (.lst l)) : Le D H (upd H D (.lst m)) := ⟨fun c xs e => by
  rw [upd_ne fun z => by rw [z, h] at e; cases e]
  exact e, fun c l n e => by
  rw [upd_ne n]
  exact e⟩

/-! ### what repr shows of a document -/
theorem fdata_show : ∀ f : Fo, PyData.showableAll (fdata f) = true ∧ PyData.hasDictAll (fdata f) = false
  | .nil => ⟨by simp only [fdata, PyData.showableAll], by simp only [fdata, PyData.hasDictAll]⟩
  | .cons k t i r => by
    obtain ⟨a1, a2⟩ := fdata_show i
    obtain ⟨b1, b2⟩ := fdata_show r
    unfold fdata
    exact ⟨by simp only [PyData.showableAll, PyData.showable, a1, b1, Bool.and_self], by simp only [PyData.hasDictAll, PyData.hasDict, a2, b2, Bool.or_self]⟩
theorem word_repr {k : Wd} {n : Nat} (h : k.length ≤ n) (hc : ∀ c ∈ k, signB c = true) : (reprText (SX.S k)).length ≤ 10 * n + 2 := by
  have e : (SX.S k).cps.toList = k := by simp [SX.S]
  have l := StrLaws.reprText_len (SX.S k) (fun c hm => by
    rw [e] at hm
    have z := hc c hm
    simp only [signB, Bool.and_eq_true, decide_eq_true_eq] at z
    exact Nat.lt_of_le_of_lt z.2.1 (by decide))
  have e2 : (SX.S k).length = k.length := SX.S_len k
  rw [e2] at l
  exact Nat.le_trans l (by omega)
theorem shown_len : ∀ {f : Fo}, GF f → piled (PyData.shownAll (fdata f)) ≤ 300 * f.size
  | .nil, _ => by
    unfold fdata
    simp only [PyData.shownAll, piled_nil]
    exact Nat.zero_le _
  | .cons k t i r, ⟨⟨h1, h2, h3, h4, h5⟩, hi, hr⟩ => by
    have a := shown_len hi
    have b := shown_len hr
    have c1 := word_repr h3 fun c hc => letter_sign (h1 c hc)
    have c2 := word_repr h4 h5
    have c3 := Rg.tup_len (PyData.shownAll (fdata i))
    have c4 := Rg.tup_len [reprText (SX.S k), reprText (SX.S t), tupleText (PyData.shownAll (fdata i))]
    rw [piled_cons, piled_cons, piled_cons, piled_nil] at c4
    unfold fdata
    simp only [PyData.shownAll, PyData.shown, piled_cons]
    show _ ≤ 300 * (1 + i.size + r.size)
    omega
def shF (f : Fo) : Str := PyData.shown (.tuple (fdata f))
theorem doc_repr {K : PySem.W.Frag} {H : Hp} {Q : VK} {f : Fo} {a : Addr} (hd : Doc H f a) (hg : GF f) (hz : f.size ≤ 25) (q : Q (.str (shF f)) H) : rRepr K [.ref a] H Q := by
  have s := fdata_show f
  have l := shown_len hg
  have d := depth_fdata2 f
  have d2 := depth_size f
  refine repr_ hd.dp (by simp only [PyData.showable, s.1]) (by simp only [PyData.hasDict, s.2]) ?_ ?_ q
  · simp only [PyData.depth]
    omega
  · have t := Rg.tup_len (PyData.shownAll (fdata f))
    rw [sizeLine_eq]
    simp only [PyData.shown]
    omega

/-! ### marked and numbered rows, plainly -/
abbrev restK : List Nat := [114, 101, 115, 116]
theorem restK_S : ("rest" : Str) = SX.S restK := by decide +kernel
def gapL (sz : Nat) : Nat → List Int → List Int
  | _, [] => []
  | g, x :: r => ((sz + g : Nat) : Int) :: ((sz + g : Nat) : Int) :: x :: gapL sz (g + 1) r
theorem gapL_app (sz : Nat) (b : List Int) : ∀ (a : List Int) (g : Nat), gapL sz g (a ++ b) = gapL sz g a ++ gapL sz (g + a.length) b
  | [], g => by simp [gapL]
  | x :: r, g => by
    have e : g + 1 + r.length = g + (r.length + 1) := by omega
    simp only [List.cons_append, gapL, gapL_app sz b r (g + 1), List.length_cons, e]
theorem gapL_len (sz : Nat) : ∀ (a : List Int) (g : Nat), (gapL sz g a).length = 3 * a.length
  | [], _ => rfl
  | x :: r, g => by
    simp only [gapL, List.length_cons, gapL_len sz r (g + 1)]
    omega
theorem gapL_snoc (sz g : Nat) (a : List Int) (x : Int) : gapL sz g (a ++ [x]) = gapL sz g a ++ [((sz + (g + a.length) : Nat) : Int), ((sz + (g + a.length) : Nat) : Int), x] := by
  rw [gapL_app]
  rfl
theorem gapL_ge {sz n : Nat} : ∀ (a : List Int) (g : Nat) (y : Int), (∀ x ∈ a, 0 ≤ x ∧ x < (n : Int)) → y ∈ gapL sz g a → (0 ≤ y ∧ y < (n : Int)) ∨ ((sz : Int) ≤ y ∧ y < ((sz + g + a.length : Nat) : Int))
  | [], _, _, _, h => by cases h
  | x :: r, g, y, ha, h => by
    simp only [gapL, List.mem_cons] at h
    rw [List.length_cons]
    rcases h with rfl | rfl | rfl | h
    · exact .inr ⟨by omega, by omega⟩
    · exact .inr ⟨by omega, by omega⟩
    · exact .inl (ha _ List.mem_cons_self)
    · rcases gapL_ge r (g + 1) y (fun x hx => ha x (List.mem_cons_of_mem _ hx)) h with h | h
      · exact .inl h
      · exact .inr ⟨h.1, by omega⟩
def rest0 : Fo := .cons restK [] .nil .nil
def gapF : Fo → Fo
  | .nil => .nil
  | .cons k t i r => .cons restK [] .nil (.cons k t (apF (gapF i) rest0) (gapF r))
theorem gapF_size : ∀ f : Fo, (gapF f).size = 3 * f.size
  | .nil => rfl
  | .cons k t i r => by
    have a := gapF_size i
    have b := gapF_size r
    show 1 + 0 + (1 + (apF (gapF i) rest0).size + (gapF r).size) = 3 * (1 + i.size + r.size)
    rw [apF_size, a, b]
    show 1 + 0 + (1 + (3 * i.size + (1 + 0 + 0)) + 3 * r.size) = _
    omega
theorem apF_depth (g : Fo) : ∀ f : Fo, (apF f g).depth = max f.depth g.depth
  | .nil => by
    show g.depth = max 0 g.depth
    omega
  | .cons k t i r => by
    have := apF_depth g r
    show max (i.depth + 1) (apF r g).depth = max (max (i.depth + 1) r.depth) g.depth
    omega
theorem gapF_depth : ∀ f : Fo, (gapF f).depth ≤ f.depth + 1
  | .nil => Nat.zero_le _
  | .cons k t i r => by
    have a := gapF_depth i
    have b := gapF_depth r
    have c := apF_depth rest0 (gapF i)
    have d : rest0.depth = 1 := rfl
    show max (0 + 1) (max ((apF (gapF i) rest0).depth + 1) (gapF r).depth) ≤ max (i.depth + 1) r.depth + 1
    omega
theorem rest0_all {p : List Nat → List Nat → Prop} (hr : p restK []) : rest0.All p := ⟨hr, trivial, trivial⟩
theorem gapF_all {p : List Nat → List Nat → Prop} (hr : p restK []) : ∀ {f : Fo}, f.All p → (gapF f).All p
  | .nil, _ => trivial
  | .cons k t i r, ⟨h1, h2, h3⟩ => ⟨hr, trivial, h1, apF_all (rest0_all hr) (gapF_all hr h2), gapF_all hr h3⟩
theorem snoc_ap (k t : List Nat) (i f : Fo) : f.snoc k t i = apF f (.cons k t i .nil) := by
  have h := apF_snoc k t i .nil f
  rw [apF_nil] at h
  exact h
/-- two rest marks at a place -/
theorem nstep_rest {ks ts : List (List Nat)} {sz j : Nat} {os : List Int} {fp : Fo} {fr : List Fo} (ho : ∀ x ∈ os, x < (sz : Int)) (hk : ks.getD (sz + j) [] = restK) (ht : ts.getD (sz + j) [] = []) :
    nstep ks ts (nstep ks ts (os, fp :: fr) ((sz + j : Nat) : Int)) ((sz + j : Nat) : Int) = (os, apF fp rest0 :: fr) := by
  have s1 : nstep ks ts (os, fp :: fr) ((sz + j : Nat) : Int) = (((sz + j : Nat) : Int) :: os, .nil :: fp :: fr) := if_neg fun z => by
    have := ho _ (List.mem_of_mem_head? z)
    omega
  rw [s1]
  refine (if_pos rfl).trans ?_
  show (os, fp.snoc (ks.getD ((sz + j : Nat) : Int).toNat []) (ts.getD ((sz + j : Nat) : Int).toNat []) .nil :: fr) = _
  rw [show (((sz + j : Nat) : Int)).toNat = sz + j by omega, hk, ht, snoc_ap]
  rfl
theorem nest_gap (ks ts : List (List Nat)) (sz G : Nat) (hG : ∀ j, j < G → ks.getD (sz + j) [] = restK ∧ ts.getD (sz + j) [] = []) : ∀ (f : Fo) (n g : Nat) (os : List Int) (fp : Fo) (fr : List Fo), AtF ks ts n f → (∀ x ∈ os, x < (n : Int)) → n + f.size ≤ sz → g + 2 * f.size ≤ G →
    (gapL sz g (mkI n f)).foldl (nstep ks ts) (os, fp :: fr) = (os, apF fp (gapF f) :: fr)
  | .nil, n, g, os, fp, fr, _, _, _, _ => by
    show (os, fp :: fr) = (os, apF fp .nil :: fr)
    rw [apF_nil]
  | .cons k t i r, n, g, os, fp, fr, ha, ho, hs, hg => by
    obtain ⟨hk, ht, hi, hr⟩ := ha
    have hz : (Fo.cons k t i r).size = 1 + i.size + r.size := rfl
    rw [hz] at hs hg
    have li := mkI_len i (n + 1)
    have e0 : mkI n (.cons k t i r) = (n : Int) :: (mkI (n + 1) i ++ (n : Int) :: mkI (n + 1 + i.size) r) := rfl
    have en : (n : Int).toNat = n := by omega
    have o1 : ∀ x ∈ os, x < ((n + 1 : Nat) : Int) := fun x m => by have := ho x m; omega
    have o2 : ∀ x ∈ os, x < ((n + 1 + i.size : Nat) : Int) := fun x m => by have := ho x m; omega
    have oz : ∀ x ∈ os, x < (sz : Int) := fun x m => by have := ho x m; omega
    have o3 : ∀ x ∈ (n : Int) :: os, x < ((n + 1 : Nat) : Int) := fun x m => by
      rcases List.mem_cons.mp m with rfl | m
      · omega
      · exact o1 x m
    have oz3 : ∀ x ∈ (n : Int) :: os, x < (sz : Int) := fun x m => by
      have := o3 x m
      omega
    have s1 : ∀ fp' : Fo, nstep ks ts (os, fp' :: fr) (n : Int) = ((n : Int) :: os, .nil :: fp' :: fr) := fun fp' => if_neg fun z => by
      have := ho (n : Int) (List.mem_of_mem_head? z)
      omega
    have s2 : ∀ (x fp' : Fo), nstep ks ts ((n : Int) :: os, x :: fp' :: fr) (n : Int) = (os, fp'.snoc k t x :: fr) := fun x fp' => by
      refine (if_pos rfl).trans ?_
      show (os, fp'.snoc (ks.getD (n : Int).toNat []) (ts.getD (n : Int).toNat []) x :: fr) = _
      rw [en, hk, ht]
    have q1 := hG g (by omega)
    have q2 := hG (g + 1 + 2 * i.size) (by omega)
    have r1 := nstep_rest (os := os) (fp := fp) (fr := fr) oz q1.1 q1.2
    have r2 := nstep_rest (os := (n : Int) :: os) (fp := gapF i) (fr := apF fp rest0 :: fr) oz3 q2.1 q2.2
    have hi' := nest_gap ks ts sz G hG i (n + 1) (g + 1) ((n : Int) :: os) .nil (apF fp rest0 :: fr) hi o3 (by omega) (by omega)
    have hr' := fun fp' => nest_gap ks ts sz G hG r (n + 1 + i.size) (g + 1 + 2 * i.size + 1) os fp' fr hr o2 (by omega) (by omega)
    have eL : gapL sz g (mkI n (.cons k t i r)) = ((sz + g : Nat) : Int) :: ((sz + g : Nat) : Int) :: (n : Int) :: (gapL sz (g + 1) (mkI (n + 1) i) ++ ((sz + (g + 1 + 2 * i.size) : Nat) : Int) :: ((sz + (g + 1 + 2 * i.size) : Nat) : Int) :: (n : Int) :: gapL sz (g + 1 + 2 * i.size + 1) (mkI (n + 1 + i.size) r)) := by
      rw [e0]
      simp only [gapL, gapL_app, li]
    have hap : apF .nil (gapF i) = gapF i := rfl
    rw [hap] at hi'
    rw [eL, List.foldl_cons, List.foldl_cons, r1, List.foldl_cons, s1, List.foldl_append, hi', List.foldl_cons, List.foldl_cons, r2, List.foldl_cons, s2, hr', apF_snoc, apF_assoc]
    rfl
def markF (f : Fo) : Fo := apF (gapF f) rest0
def markL (f : Fo) : List Int := gapL f.size 0 (mkI 0 f) ++ [((f.size + 2 * f.size : Nat) : Int), ((f.size + 2 * f.size : Nat) : Int)]
theorem nestF_mark (f : Fo) : nestF (fks f ++ List.replicate (2 * f.size + 1) restK) (fts f ++ List.replicate (2 * f.size + 1) []) (markL f) = markF f := by
  have h := atF_mk f [] (List.replicate (2 * f.size + 1) restK) [] (List.replicate (2 * f.size + 1) []) rfl
  simp only [List.nil_append, List.length_nil] at h
  have hG : ∀ j, j < 2 * f.size + 1 → (fks f ++ List.replicate (2 * f.size + 1) restK).getD (f.size + j) [] = restK ∧ (fts f ++ List.replicate (2 * f.size + 1) []).getD (f.size + j) [] = [] := fun j hj => by
    constructor
    · rw [List.getD_eq_getElem?_getD, List.getElem?_append_right (by rw [fks_len]; omega), fks_len, show f.size + j - f.size = j by omega, List.getElem?_replicate, if_pos hj]
      rfl
    · rw [List.getD_eq_getElem?_getD, List.getElem?_append_right (by rw [fts_len]; omega), fts_len, show f.size + j - f.size = j by omega, List.getElem?_replicate, if_pos hj]
      rfl
  have q := hG (2 * f.size) (by omega)
  have r := nstep_rest (os := []) (fp := gapF f) (fr := []) (sz := f.size) (j := 2 * f.size) (fun x m => by cases m) q.1 q.2
  unfold nestF markL
  rw [List.foldl_append, nest_gap _ _ f.size (2 * f.size + 1) hG f 0 0 [] .nil [] h (fun x m => by cases m) (by omega) (by omega)]
  show (((List.foldl _ ([], [gapF f]) [_, _]).2).getLast?).getD .nil = _
  rw [List.foldl_cons, List.foldl_cons, r]
  rfl
theorem markF_size (f : Fo) : (markF f).size = 3 * f.size + 1 := by
  unfold markF
  rw [apF_size, gapF_size]
  rfl
theorem markF_depth (f : Fo) : (markF f).depth ≤ f.depth + 1 := by
  have a := gapF_depth f
  have b := apF_depth rest0 (gapF f)
  have c : rest0.depth = 1 := rfl
  unfold markF
  omega
theorem markF_all {p : List Nat → List Nat → Prop} (hr : p restK []) {f : Fo} (h : f.All p) : (markF f).All p := apF_all (rest0_all hr) (gapF_all hr h)
/-! the texts exchanged -/
def reT : Fo → List (List Nat) → Fo
  | .nil, _ => .nil
  | .cons k _ i r, T => .cons k (T.headD []) (reT i T.tail) (reT r (T.drop (1 + i.size)))
theorem reT_size : ∀ (f : Fo) (T : List (List Nat)), (reT f T).size = f.size
  | .nil, _ => rfl
  | .cons k t i r, T => by
    show 1 + (reT i _).size + (reT r _).size = 1 + i.size + r.size
    rw [reT_size, reT_size]
theorem reT_depth : ∀ (f : Fo) (T : List (List Nat)), (reT f T).depth = f.depth
  | .nil, _ => rfl
  | .cons k t i r, T => by
    show max ((reT i _).depth + 1) (reT r _).depth = max (i.depth + 1) r.depth
    rw [reT_depth, reT_depth]
theorem reT_ks : ∀ (f : Fo) (T : List (List Nat)), fks (reT f T) = fks f
  | .nil, _ => rfl
  | .cons k t i r, T => by
    show k :: (fks (reT i _) ++ fks (reT r _)) = k :: (fks i ++ fks r)
    rw [reT_ks, reT_ks]
theorem reT_mk : ∀ (f : Fo) (n : Nat) (T : List (List Nat)), mkI n (reT f T) = mkI n f
  | .nil, _, _ => rfl
  | .cons k t i r, n, T => by
    show (n : Int) :: (mkI (n + 1) (reT i _) ++ (n : Int) :: mkI (n + 1 + (reT i _).size) (reT r _)) = (n : Int) :: (mkI (n + 1) i ++ (n : Int) :: mkI (n + 1 + i.size) r)
    rw [reT_size, reT_mk, reT_mk]
theorem reT_ts : ∀ (f : Fo) (T : List (List Nat)), f.size ≤ T.length → fts (reT f T) = T.take f.size
  | .nil, _, _ => by simp [reT, fts, Fo.size]
  | .cons k t i r, T, h => by
    have hz : (Fo.cons k t i r).size = 1 + i.size + r.size := rfl
    rw [hz] at h ⊢
    match T, h with
    | [], h => simp at h
    | x :: T, h =>
      show x :: (fts (reT i T) ++ fts (reT r ((x :: T).drop (1 + i.size)))) = _
      rw [List.length_cons] at h
      have e : (x :: T).drop (1 + i.size) = T.drop i.size := by
        rw [Nat.add_comm]
        rfl
      rw [e, reT_ts i T (by omega), reT_ts r (T.drop i.size) (by rw [List.length_drop]; omega), show 1 + i.size + r.size = (i.size + r.size) + 1 by omega, List.take_succ_cons, List.take_add]
theorem reT_all {p q : List Nat → List Nat → Prop} : ∀ (f : Fo) (T : List (List Nat)), f.size ≤ T.length → (∀ k t t', p k t → t' ∈ T → q k t') → f.All p → (reT f T).All q
  | .nil, _, _, _, _ => trivial
  | .cons k t i r, T, h, hq, ⟨h1, h2, h3⟩ => by
    have hz : (Fo.cons k t i r).size = 1 + i.size + r.size := rfl
    rw [hz] at h
    match T, h, hq with
    | [], h, _ => simp at h
    | x :: T, h, hq =>
      rw [List.length_cons] at h
      have e : (x :: T).drop (1 + i.size) = T.drop i.size := by
        rw [Nat.add_comm]
        rfl
      refine ⟨hq k t x h1 List.mem_cons_self, reT_all i T (by omega) (fun k t t' a m => hq k t t' a (List.mem_cons_of_mem _ m)) h2, ?_⟩
      rw [e]
      exact reT_all r (T.drop i.size) (by rw [List.length_drop]; omega) (fun k t t' a m => hq k t t' a (List.mem_cons_of_mem _ (List.mem_of_mem_drop m))) h3
theorem nestF_reT (f : Fo) (T : List (List Nat)) (h : T.length = f.size) : nestF (fks f) T (mkI 0 f) = reT f T := by
  have e := nestF_rub (fun _ => false) (reT f T)
  rw [reT_ks, reT_ts f T (by omega), reT_mk, rubF_none _ _ _ (fun _ _ _ => rfl)] at e
  rw [List.filter_eq_self.mpr (show ∀ a ∈ mkI 0 f, (fun _ : Int => !false) a = true from fun _ _ => rfl), List.take_of_length_le (by omega)] at e
  exact e
/-! numerals -/
def digs (c : Nat) : List Nat := if c < 10 then [48 + c] else [48 + c / 10, 48 + c % 10]
theorem digs_S : ∀ c : Fin 64, Str.ofString (toString ((c.val : Nat) : Int)) = SX.S (digs c.val) := by decide +kernel
theorem digs_inj : ∀ a b : Fin 64, digs a.val = digs b.val → a = b := by decide +kernel
theorem digs_ok : ∀ c : Fin 64, (digs c.val).length ≤ 2 ∧ ∀ x ∈ digs c.val, signB x = true := by decide +kernel
def okN_ (B : List (List Nat)) (c : Nat) : Bool := !B.contains (digs c)
def numL (B : List (List Nat)) (c : Nat) : List (List Nat) := ((List.range c).filter (okN_ B)).map digs
theorem numL_succ (B : List (List Nat)) (c : Nat) : numL B (c + 1) = numL B c ++ (if B.contains (digs c) = true then [] else [digs c]) := by
  unfold numL
  rw [List.range_succ, List.filter_append, List.map_append]
  congr 1
  by_cases h : B.contains (digs c) = true
  · rw [if_pos h, List.filter_cons, show okN_ B c = false by unfold okN_; rw [h]; rfl]
    rfl
  · rw [if_neg h, List.filter_cons, show okN_ B c = true by unfold okN_; rw [show B.contains (digs c) = false by simpa using h]; rfl]
    rfl
theorem numL_le (B : List (List Nat)) (hB : ∀ c, 12 ≤ c → c < 64 → B.contains (digs c) = false) : ∀ c, c ≤ 64 → c ≤ 12 + (numL B c).length ∧ (numL B c).length ≤ c
  | 0, _ => ⟨Nat.zero_le _, Nat.zero_le _⟩
  | c + 1, h => by
    obtain ⟨a, b⟩ := numL_le B hB c (by omega)
    rw [numL_succ]
    by_cases z : B.contains (digs c) = true
    · rw [if_pos z, List.append_nil]
      have : c < 12 := by
        by_cases y : 12 ≤ c
        · rw [hB c y (by omega)] at z
          cases z
        · omega
      omega
    · rw [if_neg z, List.length_append, List.length_singleton]
      omega
theorem numL_pre (B : List (List Nat)) (c : Nat) : ∀ d, ∃ r, numL B (c + d) = numL B c ++ r
  | 0 => ⟨[], by simp⟩
  | d + 1 => by
    obtain ⟨r, e⟩ := numL_pre B c d
    rw [← Nat.add_assoc, numL_succ, e, List.append_assoc]
    exact ⟨_, rfl⟩
/-- equally many numerals are the same -/
theorem numL_eq (B : List (List Nat)) {c d : Nat} (h : (numL B c).length = (numL B d).length) : numL B c = numL B d := by
  rcases Nat.le_total c d with z | z
  · obtain ⟨r, e⟩ := numL_pre B c (d - c)
    rw [show c + (d - c) = d by omega] at e
    rw [e, List.length_append] at h
    have : r = [] := List.length_eq_zero_iff.mp (by omega)
    rw [e, this, List.append_nil]
  · obtain ⟨r, e⟩ := numL_pre B d (c - d)
    rw [show d + (c - d) = c by omega] at e
    rw [e, List.length_append] at h
    have : r = [] := List.length_eq_zero_iff.mp (by omega)
    rw [e, this, List.append_nil]
theorem numL_mem {B : List (List Nat)} {c : Nat} {t : List Nat} (h : t ∈ numL B c) : ∃ d, d < c ∧ t = digs d := by
  obtain ⟨d, hd, rfl⟩ := List.mem_map.mp h
  exact ⟨d, List.mem_range.mp (List.mem_filter.mp hd).1, rfl⟩

/-! ### marked, texts_of -/
def spMarked (K : PySem.W.Frag) : Sp := fun vs H Q _ => ∃ (d : Addr) (f : Fo), vs = [.ref d] ∧ Doc H f d ∧ GF f ∧ f.size ≤ 30 ∧ ∀ (b : Addr) (H' : Hp), Same H H' → Doc H' (markF f) b → Q (.ref b) H'
def spTextsN : Sp := fun vs H Q _ => ∃ (d : Addr) (f : Fo), vs = [.ref d] ∧ Doc H f d ∧ GF f ∧ f.depth ≤ 18 ∧ f.size ≤ 1000 ∧ ∀ (p : Addr) (H' : Hp), Same H H' → H' p = some (.lst (kws (fts f))) → Q (.ref p) H'
theorem preA_at : ∀ (f : Fo) (p : List Int) (i j : Nat) (q : List Int) (d : PyData), (preA p i (fdata f))[j]? = some (q, d) → ∃ (k t : List Nat) (g : Fo), d = .tuple [.str (SX.S k), .str (SX.S t), .tuple (fdata g)] ∧ (fks f)[j]? = some k ∧ (fts f)[j]? = some t
  | .nil, p, i, j, q, d, h => by
    simp [fdata, preA] at h
  | .cons k t i r, p, n, j, q, d, h => by
    have l1 := preA_len i (p ++ [(n : Int)]) 0
    unfold fdata at h
    simp only [preA, preD, List.cons_append] at h
    show ∃ (k' t' : List Nat) (g : Fo), _ ∧ (k :: (fks i ++ fks r))[j]? = some k' ∧ (t :: (fts i ++ fts r))[j]? = some t'
    cases j with
    | zero =>
      cases h
      exact ⟨k, t, i, rfl, rfl, rfl⟩
    | succ j =>
      rw [List.getElem?_cons_succ] at h ⊢
      rw [List.getElem?_cons_succ]
      by_cases z : j < i.size
      · rw [List.getElem?_append_left (by rw [l1]; exact z)] at h
        obtain ⟨k', t', g, e, h1, h2⟩ := preA_at i _ _ j q d h
        exact ⟨k', t', g, e, by rw [List.getElem?_append_left (by rw [fks_len]; exact z)]; exact h1, by rw [List.getElem?_append_left (by rw [fts_len]; exact z)]; exact h2⟩
      · rw [List.getElem?_append_right (by rw [l1]; omega), l1] at h
        obtain ⟨k', t', g, e, h1, h2⟩ := preA_at r _ _ _ q d h
        exact ⟨k', t', g, e, by rw [List.getElem?_append_right (by rw [fks_len]; omega), fks_len]; exact h1, by rw [List.getElem?_append_right (by rw [fts_len]; omega), fts_len]; exact h2⟩
theorem markL_mem {fo : Fo} {x : Int} (hx : x ∈ markL fo) : 0 ≤ x ∧ x < ((fo.size + (2 * fo.size + 1) : Nat) : Int) := by
  unfold markL at hx
  rcases List.mem_append.mp hx with hx | hx
  · rcases gapL_ge (n := fo.size) (mkI 0 fo) 0 x (fun y hy => by have := mkI_ge fo 0 y hy; omega) hx with h | h
    · omega
    · rw [mkI_len] at h
      omega
  · simp only [List.mem_cons, List.not_mem_nil, or_false, or_self] at hx
    rw [hx]
    omega
section
variable {P : Program} {w : World} {K : PySem.W.Frag} {mg : Str → Option Value} {base : Heap} {f C : Addr} {fd : FuncData}
theorem ok_texts_of (F : Fun K "texts_of" "texts_of" s_texts_of f fd) (T : Txt mg) (c_nodes : Gx.CalG P w K mg base 3 "nodes" spNodes) : FnOk P w K mg base CX0 5 f fd ["document"] spTextsN := by
  refine F.ok sc_texts_of (fun vs H Q E h => ?_) (fun cdv A outer s H vs Q E hr h => ?_)
  · obtain ⟨a, f, rfl, _⟩ := h
    rfl
  · obtain ⟨a, fo, rfl, hd, hg, hdep, hsz, q⟩ := h
    have d2 := depth_fdata2 fo
    have z2 := sz_fdata fo
    have ln := preA_len fo [] 0
    refine ⟨_, (pss_one (ps_ret (Gx.pe_each rfl (Gx.pm_c c_nodes hr (by omega) (by rfl) (pa_cons (pv 0) pa_nil)) hr (by omega) rfl (by decide) rfl rfl (by decide) Gx.elt_item))), ?_⟩
    change (_ : TS) _ [some (V.ref a), none, none] _
    k_extra "rr"
    refine ⟨fun ys x H' => ∃ L p d, (preA [] 0 (fdata fo))[ys.length]? = some (p, d) ∧ Dq L H' (pD (p, d)) x, fun ys H' => ys.length = fo.size ∧ Same H H', fun j => (((fts fo)[j]?).map fun t => V.str (SX.S t)).getD .non, ?_, ?_, ?_⟩
    · show tCons (tVar 0) tNil _ _ _
      k_extra "rr"
      exact ⟨a, 0, fdata fo, rfl, hd.dq, gA_fdata hg, by omega, by omega, flt_fdata [] 0 hg, by omega, fun ys x H' L p d e _ h => ⟨L, p, d, e, h⟩, fun ys H' h1 h2 => ⟨by rw [h1, ln], h2⟩⟩
    · rintro ys x H' ⟨L, p, d, e, h⟩
      obtain ⟨k, t, g, rfl, _, ht⟩ := preA_at fo [] 0 _ p d e
      obtain ⟨pq, l2, rfl, hpq, hl2⟩ := h.tup
      obtain ⟨vp, m1, rfl, hvp, hl2⟩ := hl2.inv
      obtain ⟨vd, m2, rfl, hvd, hl2⟩ := hl2.inv
      obtain rfl := hl2.inv0
      obtain ⟨dq, l3, rfl, hdq, hl3⟩ := hvd.tup
      obtain ⟨w1, m1, rfl, _, hl3⟩ := hl3.inv
      obtain ⟨w2, m2, rfl, hw2, hl3⟩ := hl3.inv
      simp only [Dq] at hw2
      subst hw2
      exact ⟨pq, vp, .ref dq, rfl, hpq, dq, _, rfl, hdq, by simp only [ht]; rfl⟩
    · rintro ys H' ⟨hn, s1⟩ p np
      k_extra "rr"
      refine q p _ (s1.trans (same_upd np)) ?_
      rw [upd_same, hn]
      congr 2
      unfold kws
      refine List.ext_getElem? fun j => ?_
      rw [List.getElem?_map, List.getElem?_map]
      by_cases z : j < fo.size
      · rw [List.getElem?_range z]
        obtain ⟨t, ht⟩ : ∃ t, (fts fo)[j]? = some t := ⟨_, List.getElem?_eq_getElem (by rw [fts_len]; exact z)⟩
        simp only [Option.map_some, ht, Option.getD_some]
      · rw [List.getElem?_eq_none (by rw [List.length_range]; omega), List.getElem?_eq_none (by rw [fts_len]; omega)]
        rfl
theorem ok_marked (F : Fun K "marked" "marked" s_marked f fd) (T : Txt mg) (R : RowC K mg C) (g_Row : mg "Row" = some (.ref C)) (c_Row_made_of : Ob.CalM P w K mg base 3 C "made_of" (spMade C)) (c_Row_added : C8.Met P w K mg base 1 C "added" (spAdded C) []) (c_Row_nested : C8.Met P w K mg base 1 C "nested" (spRNested C) []) :
    FnOk P w K mg base CX0 4 f fd ["document"] (spMarked K) := by
  refine F.ok sc_marked (fun vs H Q E h => ?_) (fun cdv A outer s H vs Q E hr h => ?_)
  · obtain ⟨a, f, rfl, _⟩ := h
    rfl
  · obtain ⟨d, fo, rfl, hd, hg, hsz, q⟩ := h
    have hdep := Fo.depth_le fo
    obtain ⟨cl, n1, n2, n3, n4⟩ := R
    refine ⟨_, (pss_cons (ps_set (i := 1) sc_marked.nd rfl (.inl rfl) (Ob.pe_cm (pe_gc (v := .ref _) (by rfl) ⟨_, g_Row, rfl⟩) c_Row_made_of hr (by omega) (pa_cons (pv 0) pa_nil)))
      (pss_cons (ps_set (i := 2) sc_marked.nd rfl (.inl rfl) (pe_lst pa_nil))
      (pss_cons (ps_for PassesOwn.never rfl (pi_listX K (pe_fldX K (pe_fld (pv 1) rfl))) (pg_name (i := 3) sc_marked.nd rfl (.inl rfl)) (pss_cons (ps_set (i := 4) sc_marked.nd rfl (.inl rfl) (C8.pe_mt c_Row_added hr (by omega) (pv 1) (pa_cons (pe_gc (by rfl) T.g_REST) (pa_cons pe_str (pa_cons pe_non pa_nil)))))
      (pss_one (ps_aug (i := 2) sc_marked.nd rfl (.inl rfl) (pe_lst (pa_cons (pv 4) (pa_cons (pv 4) (pa_cons (pv 3) pa_nil)))) ip_X))))
      (pss_cons (ps_set (i := 4) sc_marked.nd rfl (.inl rfl) (C8.pe_mt c_Row_added hr (by omega) (pv 1) (pa_cons (pe_gc (by rfl) T.g_REST) (pa_cons pe_str (pa_cons pe_non pa_nil)))))
      (pss_cons (ps_fld (pv 1) (pe_lst (pa_starX K (pv 2) (pa_cons (pv 4) (pa_cons (pv 4) pa_nil)))) rfl)
      (pss_one (ps_ret (C8.pe_mt0 c_Row_nested hr (by omega) (pv 1))))))))), ?_⟩
    change (_ : TS) _ [some (V.ref d), none, none, none, none] _
    k_extra "rr"
    refine ⟨d, fo, rfl, hd, hg, by omega, by omega, fun p dx m k t o H1 N => ?_⟩
    have fm := N.fm
    have fk := N.fk
    have ft := N.ft
    have fo' := N.fo
    have fp := N.fp
    have hml : (ivs (mkI 0 fo)).length = 2 * fo.size := by
      unfold ivs
      rw [List.length_map, mkI_len]
    k_extra "rr"
    refine ⟨by k_extra "sz", fun D nD => ?_⟩
    have nDx : D ≠ p ∧ D ≠ m ∧ D ≠ k ∧ D ≠ t ∧ D ≠ o := ⟨(ne_of_none N.hp nD).symm, (ne_of_none N.hm nD).symm, (ne_of_none N.hk nD).symm, (ne_of_none N.ht nD).symm, (ne_of_none N.ho nD).symm⟩
    have nD0 : H D = none := N.same.free nD
    have sD := same_upd (o := .lst []) nD
    obtain ⟨W, hW⟩ : ∃ W : Nat → Hp → Prop, ∀ j H', W j H' ↔ (Same H H' ∧ H' p = some (RowO C dx m k t o) ∧ H' m = some (.lst (ivs (mkI 0 fo))) ∧ H' k = some (.lst (kws (fks fo ++ List.replicate j restK))) ∧ H' t = some (.lst (kws (fts fo ++ List.replicate j []))) ∧ (∃ os, H' o = some (.lst os) ∧ os.length ≤ 1000 + j) ∧ H' D = some (.lst (ivs (gapL fo.size 0 ((mkI 0 fo).take j))))) := ⟨_, fun _ _ => Iff.rfl⟩
    have step : ∀ {j : Nat} {H2 : Hp} {Q2 : VK}, j ≤ 100 → W j H2 → (∀ H3, Same H H3 → H3 p = some (RowO C dx m k t o) → H3 m = some (.lst (ivs (mkI 0 fo))) → H3 k = some (.lst (kws (fks fo ++ List.replicate (j + 1) restK))) → H3 t = some (.lst (kws (fts fo ++ List.replicate (j + 1) []))) → (∃ os, H3 o = some (.lst os) ∧ os.length ≤ 1000 + (j + 1)) → H3 D = some (.lst (ivs (gapL fo.size 0 ((mkI 0 fo).take j)))) → Q2 (.int ((fo.size + j : Nat) : Int)) H3) →
        spAdded C [.ref p, .str "rest", .str "", .non] H2 Q2 E0 := by
      intro j H2 Q2 hj hw hq
      obtain ⟨s2, hp2, hm2, hk2, ht2, ⟨os, ho2, hol⟩, hD2⟩ := (hW _ _).mp hw
      have lk : (kws (fks fo ++ List.replicate j restK)).length = fo.size + j := by
        unfold kws
        rw [List.length_map, List.length_append, fks_len, List.length_replicate]
      have lt_ : (kws (fts fo ++ List.replicate j [])).length = fo.size + j := by
        unfold kws
        rw [List.length_map, List.length_append, fts_len, List.length_replicate]
      refine ⟨p, dx, m, k, t, o, _, _, _, _, _, os, rfl, hp2, hk2, ht2, ho2, N.kt_, N.ko_, N.to_, by omega, by omega, by omega, fun H3 b3 n3 hk3 ht3 ho3 => ?_⟩
      have pk : p ≠ k := fun z => by rw [z, hk2] at hp2; cases hp2
      have pt : p ≠ t := fun z => by rw [z, ht2] at hp2; cases hp2
      have po : p ≠ o := fun z => by rw [z, ho2] at hp2; cases hp2
      rw [lk]
      refine hq H3 (fun b u e => b3 b u (s2 _ _ e) (ne_of_none e fk) (ne_of_none e ft) (ne_of_none e fo')) (b3 _ _ hp2 pk pt po) (b3 _ _ hm2 N.mk_ N.mt_ N.mo_) ?_ ?_ ⟨_, ho3, by rw [List.length_append, List.length_singleton]; omega⟩ (b3 _ _ hD2 nDx.2.2.1 nDx.2.2.2.1 nDx.2.2.2.2)
      · rw [hk3, restK_S]
        unfold kws
        rw [List.replicate_succ', ← List.append_assoc, List.map_append (l₂ := [restK])]
        rfl
      · rw [ht3, empty_S]
        unfold kws
        rw [List.replicate_succ', ← List.append_assoc, List.map_append (l₂ := [[]])]
        rfl
    have hpA : upd H1 D (.lst []) p = some (.ins C dx (rowF (.ref m) (.ref k) (.ref t) (.ref o))) := sD _ _ N.hp
    k_extra "rr"
    refine ⟨m, rfl, ⟨_, SqL.of (sD _ _ N.hm)⟩, for_list (K := K) (a := m) (xs := ivs (mkI 0 fo)) (fun j σ H' => ∃ v3 v4 : Option V, σ = [some (.ref d), some (.ref p), some (.ref D), v3, v4] ∧ W j H') ⟨none, none, rfl, (hW _ _).mpr ⟨N.same.trans sD, sD _ _ N.hp, sD _ _ N.hm, ?_, ?_, ⟨_, sD _ _ N.ho, ?_⟩, upd_same⟩⟩ ?_ ?_ ?_⟩
    · rw [List.replicate_zero, List.append_nil]
      exact sD _ _ N.hk
    · rw [List.replicate_zero, List.append_nil]
      exact sD _ _ N.ht
    · unfold upTo
      rw [List.length_map, List.length_range]
      omega
    · rintro i σ H' hi ⟨v3, v4, rfl, hw⟩
      exact SqL.of ((hW _ _).mp hw).2.2.1
    · rintro j x σ H2 hx ⟨v3, v4, rfl, hw⟩
      obtain ⟨v, hv, rfl⟩ := map_at hx
      have hj : j < (mkI 0 fo).length := (List.getElem?_eq_some_iff.mp hv).1
      rw [mkI_len] at hj
      have hp2 : H2 p = some (.ins C dx (rowF (.ref m) (.ref k) (.ref t) (.ref o))) := ((hW _ _).mp hw).2.1
      k_extra "rr"
      refine step (by omega) hw fun H3 s3 hp3 hm3 hk3 ht3 ho3 hD3 => ?_
      k_extra "rr"
      refine ⟨by k_extra "sz", fun z nz => ?_⟩
      have sz_ := same_upd (o := .lst [.int ((fo.size + j : Nat) : Int), .int ((fo.size + j : Nat) : Int), .int v]) nz
      have gl := gapL_len fo.size ((mkI 0 fo).take j) 0
      rw [List.length_take, mkI_len] at gl
      refine ipL2 (sz_ _ _ hD3) upd_same (by unfold ivs; rw [List.length_map, gl, sizeLine_eq]; show _ + 3 ≤ _; omega) ?_
      k_extra "rr"
      refine ⟨_, _, rfl, (hW _ _).mpr ⟨same_mut (s3.trans sz_) nD0, upd2 nDx.1.symm (sz_ _ _ hp3), upd2 nDx.2.1.symm (sz_ _ _ hm3), upd2 nDx.2.2.1.symm (sz_ _ _ hk3), upd2 nDx.2.2.2.1.symm (sz_ _ _ ht3), ?_, ?_⟩⟩
      · obtain ⟨os, ho4, hl4⟩ := ho3
        exact ⟨os, upd2 nDx.2.2.2.2.symm (sz_ _ _ ho4), hl4⟩
      · have e : (mkI 0 fo).take (j + 1) = (mkI 0 fo).take j ++ [v] := by rw [List.take_succ, hv]; rfl
        have lj : ((mkI 0 fo).take j).length = j := by rw [List.length_take, mkI_len]; omega
        rw [upd_same, e, gapL_snoc, lj, Nat.zero_add]
        unfold ivs
        rw [List.map_append]
        rfl
    · rintro σ H2 ⟨v3, v4, rfl, hw⟩
      rw [hml] at hw
      have hp2 : H2 p = some (.ins C dx (rowF (.ref m) (.ref k) (.ref t) (.ref o))) := ((hW _ _).mp hw).2.1
      k_extra "rr"
      refine step (by omega) hw fun H3 s3 hp3 hm3 hk3 ht3 ho3 hD3 => ?_
      rw [List.take_of_length_le (by rw [mkI_len]; omega)] at hD3
      have gl := gapL_len fo.size (mkI 0 fo) 0
      rw [mkI_len] at gl
      k_extra "rr"
      refine ⟨D, _, rfl, .inr (SqL.of hD3), ?_⟩
      k_extra "rr"
      refine ⟨by unfold ivs; rw [List.length_append, List.length_map, gl, sizeLine_eq]; show _ + 2 ≤ _; omega, fun z nz => ?_⟩
      have eM : ivs (gapL fo.size 0 (mkI 0 fo)) ++ [V.int ((fo.size + 2 * fo.size : Nat) : Int), .int ((fo.size + 2 * fo.size : Nat) : Int)] = ivs (markL fo) := by
        unfold markL ivs
        rw [List.map_append]
        rfl
      rw [eM]
      have sz_ := same_upd (o := .lst (ivs (markL fo))) nz
      have hp4 : upd H3 z (.lst (ivs (markL fo))) p = some (.ins C dx (rowF (.ref m) (.ref k) (.ref t) (.ref o))) := sz_ _ _ hp3
      have hz4 : upd H3 z (.lst (ivs (markL fo))) z = some (.lst (ivs (markL fo))) := upd_same
      have hk4 := sz_ _ _ hk3
      have ht4 := sz_ _ _ ht3
      have s4 := s3.trans sz_
      have zp : z ≠ p := (ne_of_none hp3 nz).symm
      have kp : k ≠ p := fun e => by rw [e, hp3] at hk3; cases hk3
      have tp : t ≠ p := fun e => by rw [e, hp3] at ht3; cases ht3
      generalize upd H3 z (.lst (ivs (markL fo))) = H4 at hp4 hz4 hk4 ht4 s4
      k_extra "rr"
      refine ⟨p, dx, _, rfl, upd_same, rfl, ?_⟩
      k_extra "rr"
      refine ⟨p, dx, z, k, t, o, markL fo, fks fo ++ List.replicate (2 * fo.size + 1) restK, fts fo ++ List.replicate (2 * fo.size + 1) [], fun _ _ => True, rfl, (by rw [upd_same]; rfl), upd2 zp hz4, upd2 kp hk4, upd2 tp ht4, ?_, fun x hx => ?_, fun b H8 s8 hb _ _ => q b H8 ((same_mut s4 fp).trans s8) (by rw [← nestF_mark]; exact hb)⟩
      · unfold markL
        rw [List.length_append, gl]
        show _ + 2 ≤ _
        omega
      · have hx2 := markL_mem hx
        have hlt : x.toNat < fo.size + (2 * fo.size + 1) := by omega
        refine ⟨hx2.1, by omega, _, _, List.getElem?_eq_getElem (by rw [List.length_append, fks_len, List.length_replicate]; exact hlt), List.getElem?_eq_getElem (by rw [List.length_append, fts_len, List.length_replicate]; exact hlt), trivial⟩
end

/-! ### _law_marked -/
def gapM (f : Fo) (j : Nat) : List Int := gapL f.size 0 ((mkI 0 f).take j) ++ (if j = 2 * f.size + 1 then [((f.size + 2 * f.size : Nat) : Int), ((f.size + 2 * f.size : Nat) : Int)] else [])
theorem gapM_end (f : Fo) : gapM f (2 * f.size + 1) = markL f := by
  unfold gapM markL
  rw [if_pos rfl, List.take_of_length_le (by rw [mkI_len]; omega)]
theorem gapM_succ {f : Fo} {j : Nat} (h : j ≤ 2 * f.size) : ivs (gapM f j) ++ [V.int ((f.size + j : Nat) : Int), .int ((f.size + j : Nat) : Int)] ++ ((ivs (mkI 0 f)).drop j).take 1 = ivs (gapM f (j + 1)) := by
  have hl := mkI_len f 0
  unfold gapM
  rw [if_neg (show ¬ j = 2 * f.size + 1 by omega), List.append_nil]
  by_cases z : j = 2 * f.size
  · subst z
    have d0 : (ivs (mkI 0 f)).drop (2 * f.size) = [] := List.drop_of_length_le (by unfold ivs; rw [List.length_map, hl]; exact Nat.le_refl _)
    have k0 : (mkI 0 f).take (2 * f.size) = mkI 0 f := List.take_of_length_le (by omega)
    have k1 : (mkI 0 f).take (2 * f.size + 1) = mkI 0 f := List.take_of_length_le (by omega)
    rw [if_pos rfl, d0, k0, k1]
    unfold ivs
    rw [List.map_append]
    simp
  · obtain ⟨v, hv⟩ : ∃ v, (mkI 0 f)[j]? = some v := ⟨_, List.getElem?_eq_getElem (by omega)⟩
    have e : (mkI 0 f).take (j + 1) = (mkI 0 f).take j ++ [v] := by rw [List.take_succ, hv]; rfl
    have lj : ((mkI 0 f).take j).length = j := by rw [List.length_take, hl]; omega
    have d : ((ivs (mkI 0 f)).drop j).take 1 = [.int v] := by
      have hv' : (ivs (mkI 0 f))[j]? = some (.int v) := by unfold ivs; rw [List.getElem?_map, hv]; rfl
      rw [List.drop_eq_getElem_cons (List.getElem?_eq_some_iff.mp hv').1, (List.getElem?_eq_some_iff.mp hv').2]
      rfl
    rw [if_neg (by omega), List.append_nil, e, gapL_snoc, lj, Nat.zero_add, d]
    unfold ivs
    rw [List.map_append]
    simp
theorem gapM_len {f : Fo} (j : Nat) : (gapM f j).length ≤ 6 * f.size + 2 := by
  unfold gapM
  have h := gapL_len f.size ((mkI 0 f).take j) 0
  rw [List.length_take, mkI_len] at h
  rw [List.length_append, h]
  split
  · show _ + 2 ≤ _
    omega
  · show _ + 0 ≤ _
    omega
theorem cutV_one {xs : List V} {j : Nat} (h : j ≤ xs.length) : cutV xs (some (j : Int)) (some ((j : Int) + 1)) = (xs.drop j).take 1 := by
  have e1 : HT.sIx xs.length 0 (some (j : Int)) = j := (HT.sIx_nat _ _ j).trans (Nat.min_eq_left h)
  have e2 : HT.sIx xs.length xs.length (some ((j : Int) + 1)) = min (j + 1) xs.length := HT.sIx_nat _ _ (j + 1)
  unfold cutV
  rw [e1, e2]
  by_cases z : j = xs.length
  · subst z
    simp
  · rw [show min (j + 1) xs.length - j = 1 by omega]
theorem St4.same {st m k t o : Addr} {H H' : Hp} {ms : List Int} {ks ts : List (List Nat)} {os : List V} (h : St4 H st m k t o ms ks ts os) (s : Same H H') : St4 H' st m k t o ms ks ts os :=
  { h with hst := s _ _ h.hst, hm := s _ _ h.hm, hk := s _ _ h.hk, ht := s _ _ h.ht, ho := s _ _ h.ho }
def spLMarked (K : PySem.W.Frag) (n : Nat) : Sp := fun vs H Q _ => ∃ (d : Addr) (f : Fo), vs = [.ref d] ∧ Doc H f d ∧ f.depth ≤ n ∧ f.size ≤ 30 ∧ ∀ (b : Addr) (H' : Hp), Same H H' → Doc H' (markF f) b → Q (.ref b) H'
section
variable {P : Program} {w : World} {K : PySem.W.Frag} {mg : Str → Option Value} {base : Heap} {f C : Addr} {fd : FuncData}
theorem ok_law_marked {n : Nat} (F : Fun K "_law_marked" "_law_marked" s_law_marked f fd) (T : Txt mg) (c_law_row : Cal P w K mg base (n + 3) "_law_row" (spLRow K n)) (c_law_nested : Cal P w K mg base 1 "_law_nested" spNest2) : FnOk P w K mg base CX0 (n + 4) f fd ["_law_document_z"] (spLMarked K n) := by
  refine F.ok sc_law_marked (fun vs H Q E h => ?_) (fun cdv A outer s H vs Q E hr h => ?_)
  · obtain ⟨d, f, rfl, _⟩ := h
    rfl
  · obtain ⟨d, fo, rfl, hd, hdep, hsz, q⟩ := h
    refine ⟨_, (pss_cons (ps_set (i := 1) sc_law_marked.nd rfl (.inl rfl) (pe_c c_law_row hr (by omega) (by rfl) (pa_cons (pv 0) pa_nil)))
      (pss_cons (ps_par (i := 2) (j := 3) (by rfl) sc_law_marked.nd rfl rfl (by decide) rfl rfl (pa_cons (pe_ix (ix_X K) (pv 1) pe_int (fun _ _ => rfl)) (pa_cons (pe_lst pa_nil) pa_nil)) (by rfl))
      (pss_cons (ps_for PassesOwn.never rfl (pi_range1 (by rfl) T.range (pa_cons (pe_op (op_addX K) (pe_callB (call_lenX K) (by rfl) T.len PySem.boot_len (pa_cons (pv 2) pa_nil)) pe_int) pa_nil)) (pg_name (i := 4) sc_law_marked.nd rfl (.inl rfl)) (pss_cons (ps_expr (pe_bmX K (pe_bm PySem.F.plainAttrs_list PySem.F.slot_list_append PySem.F.type_list_append mt_append (pe_ix (ix_X K) (pv 1) pe_int (fun _ _ => rfl)) (pa_cons pe_str pa_nil))))
      (pss_cons (ps_expr (pe_bmX K (pe_bm PySem.F.plainAttrs_list PySem.F.slot_list_append PySem.F.type_list_append mt_append (pe_ix (ix_X K) (pv 1) pe_int (fun _ _ => rfl)) (pa_cons pe_str pa_nil))))
      (pss_one (ps_set (i := 3) sc_law_marked.nd rfl (.inl rfl) (pe_op (op_addX K) (pe_op (op_addX K) (pv 3) (pe_lst (pa_cons (pe_op op_sub (pe_callB (call_lenX K) (by rfl) T.len PySem.boot_len (pa_cons (pe_ix (ix_X K) (pv 1) pe_int (fun _ _ => rfl)) pa_nil)) pe_int) (pa_cons (pe_op op_sub (pe_callB (call_lenX K) (by rfl) T.len PySem.boot_len (pa_cons (pe_ix (ix_X K) (pv 1) pe_int (fun _ _ => rfl)) pa_nil)) pe_int) pa_nil)))) (pe_slice (sl_X K) (pv 2) (po_some (pv 4)) (po_some (pe_op (op_addX K) (pv 4) pe_int)))))))))
      (pss_cons (ps_asg (pv 3) (pg_sub (pv 1) pe_int set_list))
      (pss_one (ps_ret (pe_c c_law_nested hr (by omega) (by rfl) (pa_cons (pv 1) pa_nil)))))))), ?_⟩
    change (_ : TS) _ [some (V.ref d), none, none, none, none] _
    k_extra "rr"
    refine ⟨d, fo, rfl, hd, hdep, by omega, fun st m k t o H1 s1 nst nm nk nt no S => ?_⟩
    k_extra "rr"
    refine ixL (SqL.of S.hst) (atI_nat (j := 0) rfl) ?_
    k_extra "rr"
    refine ⟨by k_extra "sz", fun D nD => ?_⟩
    have sD := same_upd (o := .lst []) nD
    have hmlen : (ivs (mkI 0 fo)).length = 2 * fo.size := by
      unfold ivs
      rw [List.length_map, mkI_len]
    have S1 := S.same sD
    have hst1 := S1.hst
    have hm1 := S1.hm
    k_extra "rr"
    obtain ⟨W, hW⟩ : ∃ W : Nat → L2.St → Hp → Prop, ∀ j σ H', W j σ H' ↔ ∃ (L : Addr) (v4 : Option V), σ = [some (.ref d), some (.ref st), some (.ref m), some (.ref L), v4] ∧ Same H H' ∧ St4 H' st m k t o (mkI 0 fo) (fks fo ++ List.replicate j restK) (fts fo ++ List.replicate j []) (upTo fo.size) ∧ H' L = some (.lst (ivs (gapM fo j))) ∧ L ≠ k ∧ L ≠ t := ⟨_, fun _ _ _ => Iff.rfl⟩
    refine for_range (lo := 0) W ((hW _ _ _).mpr ⟨D, none, rfl, s1.trans sD, ?_, ?_, (ne_of_none S.hk nD).symm, (ne_of_none S.ht nD).symm⟩) ?_ ?_
    · rw [List.replicate_zero, List.replicate_zero, List.append_nil, List.append_nil]
      exact S1
    · rw [upd_same]
      rfl
    · intro j σ H5 hj hw
      obtain ⟨L, v4, rfl, s5, S5, hL5, Lk, Lt⟩ := (hW _ _ _).mp hw
      rw [hmlen] at hj
      have hj : j < 2 * fo.size + 1 := by omega
      have hst5 := S5.hst
      have hk5 := S5.hk
      have ht5 := S5.ht
      have hm5 := S5.hm
      k_extra "rr"
      have lkj : (fks fo ++ List.replicate j restK).length = fo.size + j := by rw [List.length_append, fks_len, List.length_replicate]
      have ltj : (fts fo ++ List.replicate j ([] : List Nat)).length = fo.size + j := by rw [List.length_append, fts_len, List.length_replicate]
      refine ⟨tyvL hk5, ?_⟩
      k_extra "rr"
      refine app hk5 (by unfold kws; rw [List.length_map, lkj, sizeLine_eq]; omega) ?_
      rw [restK_S]
      have S6 := S5.kind restK
      have hL6 := upd2 (o := .lst (kws (fks fo ++ List.replicate j restK) ++ [.str (SX.S restK)])) Lk hL5
      have b6 : ∀ b u, H b = some u → upd H5 k (.lst (kws (fks fo ++ List.replicate j restK) ++ [.str (SX.S restK)])) b = some u := fun b u e => upd2 (ne_of_none e nk) (s5 _ _ e)
      generalize upd H5 k (.lst (kws (fks fo ++ List.replicate j restK) ++ [.str (SX.S restK)])) = H6 at S6 hL6 b6
      have hst6 := S6.hst
      have hk6 := S6.hk
      have ht6 := S6.ht
      have hm6 := S6.hm
      k_extra "rr"
      refine ⟨tyvL ht6, ?_⟩
      k_extra "rr"
      refine app ht6 (by unfold kws; rw [List.length_map, ltj, sizeLine_eq]; omega) ?_
      rw [empty_S]
      have S7 := S6.text []
      have hL7 := upd2 (o := .lst (kws (fts fo ++ List.replicate j []) ++ [.str (SX.S [])])) Lt hL6
      have b7 : ∀ b u, H b = some u → upd H6 t (.lst (kws (fts fo ++ List.replicate j []) ++ [.str (SX.S [])])) b = some u := fun b u e => upd2 (ne_of_none e nt) (b6 _ _ e)
      generalize upd H6 t (.lst (kws (fts fo ++ List.replicate j []) ++ [.str (SX.S [])])) = H7 at S7 hL7 b7
      have hst7 := S7.hst
      have hk7 := S7.hk
      have hm7 := S7.hm
      k_extra "rr"
      have elen : (((kws (fks fo ++ List.replicate j restK ++ [restK])).length : Nat) : Int) - 1 = ((fo.size + j : Nat) : Int) := by
        unfold kws
        rw [List.length_map, List.length_append, lkj, List.length_singleton]
        omega
      rw [elen]
      refine ⟨by k_extra "sz", fun a1 na1 => ?_⟩
      have t1 := same_upd (o := .lst [.int ((fo.size + j : Nat) : Int), .int ((fo.size + j : Nat) : Int)]) na1
      have gl := gapM_len (f := fo) j
      have gll : (ivs (gapM fo j)).length = (gapM fo j).length := by unfold ivs; rw [List.length_map]
      refine addL (t1 _ _ hL7) upd_same (by rw [gll, sizeLine_eq]; show _ + 2 ≤ _; omega) fun a2 na2 => ?_
      have t2 := same_upd (o := .lst (ivs (gapM fo j) ++ [.int ((fo.size + j : Nat) : Int), .int ((fo.size + j : Nat) : Int)])) na2
      have hm8 := t2 _ _ (t1 _ _ hm7)
      rw [Int.zero_add]
      k_extra "rr"
      refine slL (SqL.of hm8) fun a3 na3 => ?_
      rw [cutV_one (by rw [hmlen]; omega)]
      have t3 := same_upd (o := .lst (((ivs (mkI 0 fo)).drop j).take 1)) na3
      refine addL (t3 _ _ upd_same) upd_same (by rw [List.length_append, gll, sizeLine_eq, List.length_take]; show _ + 2 + _ ≤ _; omega) fun a4 na4 => ?_
      rw [gapM_succ (by omega)]
      have t4 := same_upd (o := .lst (ivs (gapM fo (j + 1)))) na4
      have tt := ((t1.trans t2).trans t3).trans t4
      k_extra "rr"
      refine (hW _ _ _).mpr ⟨a4, _, rfl, fun b u e => tt _ _ (b7 _ _ e), ?_, upd_same, (ne_of_none (t3 _ _ (t2 _ _ (t1 _ _ hk7))) na4).symm, (ne_of_none (t3 _ _ (t2 _ _ (t1 _ _ S7.ht))) na4).symm⟩
      have S8 := S7.same tt
      rw [List.replicate_succ', List.replicate_succ', ← List.append_assoc, ← List.append_assoc]
      exact S8
    · intro σ H5 hw
      rw [hmlen] at hw
      obtain ⟨L, v4, rfl, s5, S5, hL5, Lk, Lt⟩ := (hW _ _ _).mp hw
      rw [show (((2 * fo.size : Nat) : Int) + 1).toNat = 2 * fo.size + 1 by omega] at S5 hL5
      rw [gapM_end] at hL5
      have gl := gapL_len fo.size (mkI 0 fo) 0
      rw [mkI_len] at gl
      have hst5 := S5.hst
      have Lst : L ≠ st := fun e => by
        rw [e, hst5] at hL5
        have := congrArg (fun o : Option HO => match o with | some (.lst (x :: _)) => some x | _ => none) hL5
        revert this
        unfold ivs
        cases markL fo with
        | nil => intro z; cases z
        | cons y r => intro z; cases z
      k_extra "rr"
      refine ⟨st, L, k, t, [.ref o], markL fo, fks fo ++ List.replicate (2 * fo.size + 1) restK, fts fo ++ List.replicate (2 * fo.size + 1) [], fun _ _ => True, rfl, by rw [upd_same]; rfl, upd2 Lst hL5, upd2 S5.sk.symm S5.hk, upd2 S5.s_t.symm S5.ht, ?_, fun x hx => ?_, fun b H8 s8 hb _ _ => q b H8 ((same_mut s5 nst).trans s8) ?_⟩
      · unfold markL
        rw [List.length_append, gl]
        show _ + 2 ≤ _
        omega
      · have hx2 := markL_mem hx
        have hlt : x.toNat < fo.size + (2 * fo.size + 1) := by omega
        exact ⟨hx2.1, by omega, _, _, List.getElem?_eq_getElem (by rw [List.length_append, fks_len, List.length_replicate]; exact hlt), List.getElem?_eq_getElem (by rw [List.length_append, fts_len, List.length_replicate]; exact hlt), trivial⟩
      · rw [← nestF_mark]
        exact hb
end

/-! ### numbered, _law_numerals -/
theorem inV_kws (v : List Nat) : ∀ B : List (List Nat), inV (.str (SX.S v)) (kws B) = B.contains v
  | [] => rfl
  | n :: r => by
    have h := inV_kws v r
    show (eqV (.str (SX.S n)) (.str (SX.S v)) || inV (.str (SX.S v)) (kws r)) = _
    rw [h, List.contains_cons]
    congr 1
    show decide (SX.S n = SX.S v) = (v == n)
    by_cases z : v = n
    · subst z
      simp
    · rw [beq_eq_false_iff_ne.mpr z, decide_eq_false fun e => z (SX.S_inj e).symm]
theorem flat_kws (B : List (List Nat)) : (kws B).all flatV = true := by
  unfold kws
  rw [List.all_map]
  exact List.all_eq_true.mpr fun _ _ => rfl
theorem inK {K : PySem.W.Frag} {H : Hp} {a : Addr} {B : List (List Nat)} {v : List Nat} {Q : VK} (h : H a = some (.tup (kws B)) ∨ H a = some (.lst (kws B))) (q : Q (.bl (B.contains v)) H) : rInX K (.str (SX.S v)) (.ref a) H Q :=
  .inr ⟨a, kws B, rfl, h.elim (fun h => .inr (SqT.of h)) (fun h => .inl (SqL.of h)), rfl, flat_kws B, by rw [if_neg Bool.false_ne_true, inV_kws]; exact q⟩
theorem ninK {K : PySem.W.Frag} {H : Hp} {a : Addr} {B : List (List Nat)} {v : List Nat} {Q : VK} (h : H a = some (.tup (kws B)) ∨ H a = some (.lst (kws B))) (q : Q (.bl (!B.contains v)) H) : rNinX K (.str (SX.S v)) (.ref a) H Q :=
  .inr ⟨a, kws B, rfl, h.elim (fun h => .inr (SqT.of h)) (fun h => .inl (SqL.of h)), rfl, flat_kws B, by rw [if_pos rfl, inV_kws]; exact q⟩
theorem digs_T {c : Nat} (h : c < 64) : Str.ofString (toString (c : Int)) = SX.S (digs c) := digs_S ⟨c, h⟩
theorem digs_log : ∀ c : Fin 64, ((c.val : Nat) : Int).natAbs.log2 < 1920 := by decide +kernel
theorem ixN_at {n j : Nat} (h : j < n) : ixN n (j : Int) = some j := by
  unfold ixN
  simp
  omega
def spNumB : Sp := fun vs H Q _ => ∃ (d a : Addr) (f : Fo) (B : List (List Nat)), vs = [.ref d, .ref a] ∧ Doc H f d ∧ GF f ∧ f.size ≤ 31 ∧ H a = some (.tup (kws B)) ∧ (∀ c, 12 ≤ c → c < 64 → B.contains (digs c) = false) ∧
  ∀ (b : Addr) (H' : Hp) (c : Nat), Same H H' → c ≤ 64 → (numL B c).length = f.size → Doc H' (reT f (numL B c)) b → Q (.ref b) H'
section
variable {P : Program} {w : World} {K : PySem.W.Frag} {mg : Str → Option Value} {base : Heap} {f C : Addr} {fd : FuncData}
theorem numbered_body (T : Txt mg) (R : RowC K mg C) (g_Row : mg "Row" = some (.ref C)) (c_Row_made_of : Ob.CalM P w K mg base 3 C "made_of" (spMade C)) (c_Row_nested : C8.Met P w K mg base 1 C "nested" (spRNested C) [])
    (cdv : Value) (A : Around) (outer : List Env) (s : Shared) (H : Hp) (vs : List V) (Q : VK) (E : XK) (hr : Room 3 (A.deeper (PyProof.Rows.envOfC "numbered" (defScope s_numbered) s.heap.objs.size f cdv))) (h : spNumB vs H Q E) :
    ∃ t, PSs (cxOf CX0 P w K mg base ["document", "barred", "row", "coming", "number"] "numbered" (defScope s_numbered) f cdv A outer s H E).nox (defBody s_numbered) t ∧ t { nx := fun _ H' => Q .non H', rt := Q } (L2.start ["document", "barred", "row", "coming", "number"] vs) H := by
  obtain ⟨d, a, fo, B, rfl, hd, hg, hsz, ha, hB, q⟩ := h
  have hdep := Fo.depth_le fo
  obtain ⟨cl, n1, n2, n3, n4⟩ := R
  refine ⟨_, (pss_cons (ps_set (i := 2) sc_numbered.nd rfl (.inl rfl) (Ob.pe_cm (pe_gc (v := .ref _) (by rfl) ⟨_, g_Row, rfl⟩) c_Row_made_of hr (by omega) (pa_cons (pv 0) pa_nil)))
      (pss_cons (ps_set (i := 3) sc_numbered.nd rfl (.inl rfl) pe_int)
      (pss_cons (ps_for PassesOwn.never rfl (pi_range1 (by rfl) T.range (pa_cons (pe_callB (call_lenX K) (by rfl) T.len PySem.boot_len (pa_cons (pe_fldX K (pe_fld (pv 2) rfl)) pa_nil)) pa_nil)) (pg_name (i := 4) sc_numbered.nd rfl (.inl rfl)) (pss_cons (ps_while PassesOwn.never (pt_cmpR (op_inX K) (pe_callTy call_str_int (by rfl) T.str (by decide +kernel) (pa_cons (pv 3) pa_nil)) (pv 1) (by rfl)) (pss_one (ps_aug (i := 3) sc_numbered.nd rfl (.inl rfl) pe_int ip_X)))
      (pss_cons (ps_asg (pe_callTy call_str_int (by rfl) T.str (by decide +kernel) (pa_cons (pv 3) pa_nil)) (pg_sub (pe_fldX K (pe_fld (pv 2) rfl)) (pv 4) set_list))
      (pss_one (ps_aug (i := 3) sc_numbered.nd rfl (.inl rfl) pe_int ip_X)))))
      (pss_one (ps_ret (C8.pe_mt0 c_Row_nested hr (by omega) (pv 2))))))), ?_⟩
  change (_ : TS) _ [some (V.ref d), some (.ref a), none, none, none] _
  k_extra "rr"
  refine ⟨d, fo, rfl, hd, hg, by omega, by omega, fun p dx m k t o H1 N => ?_⟩
  have hp : H1 p = some (.ins C dx (rowF (.ref m) (.ref k) (.ref t) (.ref o))) := N.hp
  have hk := N.hk
  k_extra "rr"
  have lkk : (kws (fks fo)).length = fo.size := by unfold kws; rw [List.length_map, fks_len]
  obtain ⟨W, hW⟩ : ∃ W : Nat → Nat → L2.St → Hp → Prop, ∀ j c σ H', W j c σ H' ↔ ∃ (v4 : Option V), σ = [some (.ref d), some (.ref a), some (.ref p), some (.int (c : Int)), v4] ∧ Same H H' ∧ H' p = some (.ins C dx (rowF (.ref m) (.ref k) (.ref t) (.ref o))) ∧ H' m = some (.lst (ivs (mkI 0 fo))) ∧ H' k = some (.lst (kws (fks fo))) ∧ H' t = some (.lst (kws (numL B c ++ (fts fo).drop j))) ∧ (numL B c).length = j ∧ c ≤ 12 + j := ⟨_, fun _ _ _ _ => Iff.rfl⟩
  refine ⟨_, rfl, by rw [lkk]; omega, by rw [lkk]; omega, for_range (lo := 0) (fun j σ H' => ∃ c, W j c σ H') ⟨0, (hW _ _ _ _).mpr ⟨none, rfl, N.same, hp, N.hm, hk, N.ht, rfl, Nat.zero_le _⟩⟩ ?_ ?_⟩
  · rintro j σ H2 hj ⟨c, hw⟩
    rw [lkk] at hj
    have hj : j < fo.size := by omega
    obtain ⟨v4, rfl, s2, hp2, hm2, hk2, ht2, hl2, hc2⟩ := (hW _ _ _ _).mp hw
    have ha2 := s2 _ _ ha
    k_extra "rr"
    refine ⟨fun mm σ H' => ∃ c', mm + c' = 64 ∧ σ = [some (.ref d), some (.ref a), some (.ref p), some (.int (c' : Int)), some (.int (0 + (j : Int)))] ∧ H' = H2 ∧ numL B c' = numL B c ∧ c' ≤ 12 + j, ⟨64 - c, c, by omega, rfl, rfl, rfl, hc2⟩, ?_⟩
    rintro mm σ H' ⟨c', hm, rfl, rfl, hn', hc'⟩
    have hc64 : c' < 64 := by omega
    k_extra "rr"
    refine ⟨_, rfl, digs_log ⟨c', hc64⟩, ?_⟩
    rw [digs_T hc64]
    k_extra "rr"
    refine inK (.inl ha2) ?_
    cases hb : B.contains (digs c') with
    | true =>
      have h12 : c' < 12 := by
        by_cases y : 12 ≤ c'
        · rw [hB c' y hc64] at hb
          cases hb
        · omega
      k_extra "rr"
      refine ⟨_, fun _ _ h => h, ?_⟩
      k_extra "rr"
      refine ⟨64 - (c' + 1), by omega, c' + 1, by omega, rfl, rfl, ?_, by omega⟩
      rw [numL_succ, if_pos hb, List.append_nil, hn']
    | false =>
      k_extra "rr"
      refine ⟨_, rfl, digs_log ⟨c', hc64⟩, ?_⟩
      rw [digs_T hc64]
      k_extra "rr"
      have hk3 : (numL B c').length = j := by rw [hn']; exact hl2
      have e1 := numL_succ B c'
      rw [if_neg (by rw [hb]; exact Bool.false_ne_true)] at e1
      have lt2 : (kws (numL B c ++ (fts fo).drop j)).length = fo.size := by
        unfold kws
        rw [List.length_map, List.length_append, hl2, List.length_drop, fts_len]
        omega
      rw [show (0 : Int) + (j : Int) = (j : Int) by omega]
      refine setL ht2 (ixN_at (by rw [lt2]; exact hj)) ?_
      have et : (kws (numL B c ++ (fts fo).drop j)).set j (.str (SX.S (digs c'))) = kws (numL B (c' + 1) ++ (fts fo).drop (j + 1)) := by
        unfold kws
        rw [e1, hn', ← List.map_set (f := fun k => V.str (SX.S k)), List.set_append, if_neg (by omega), hl2, Nat.sub_self, List.append_assoc]
        congr 2
        obtain ⟨x, hx⟩ : ∃ x, (fts fo)[j]? = some x := ⟨_, List.getElem?_eq_getElem (by rw [fts_len]; exact hj)⟩
        rw [List.drop_eq_getElem_cons (List.getElem?_eq_some_iff.mp hx).1]
        rfl
      rw [et]
      have np : ∀ {b : Addr} {u : HO}, H' b = some u → (∀ l, u ≠ .lst l) → b ≠ t := fun {b u} e hu z => by
        rw [z, ht2] at e
        exact hu _ (Option.some.inj e).symm
      k_extra "rr"
      refine ⟨c' + 1, (hW _ _ _ _).mpr ⟨_, rfl, same_mut s2 N.ft, upd2 (np hp2 fun l z => by cases z) hp2, upd2 N.mt_ hm2, upd2 N.kt_ hk2, upd_same, by rw [e1, List.length_append, hk3]; rfl, by omega⟩⟩
  · rintro σ H2 ⟨c, hw⟩
    rw [lkk] at hw
    obtain ⟨v4, rfl, s2, hp2, hm2, hk2, ht2, hl2, hc2⟩ := (hW _ _ _ _).mp hw
    have hl2 : (numL B c).length = fo.size := by simpa using hl2
    have ht3 : H2 t = some (.lst (kws (numL B c))) := by
      rw [ht2]
      congr 3
      rw [List.drop_of_length_le (by rw [fts_len]; simp), List.append_nil]
    k_extra "rr"
    refine ⟨p, dx, m, k, t, o, mkI 0 fo, fks fo, numL B c, fun _ _ => True, rfl, hp2, hm2, hk2, ht3, ?_, fun x hx => ?_, fun b H8 s8 hb _ _ => q b H8 c (s2.trans s8) (by omega) hl2 (by rw [← nestF_reT fo _ hl2]; exact hb)⟩
    · rw [mkI_len]
      omega
    · have hx2 := mkI_ge fo 0 x hx
      have hlt : x.toNat < fo.size := by omega
      exact ⟨by omega, by omega, _, _, List.getElem?_eq_getElem (by rw [fks_len]; exact hlt), List.getElem?_eq_getElem (by rw [hl2]; exact hlt), trivial⟩
end
section
variable {P : Program} {w : World} {K : PySem.W.Frag} {mg : Str → Option Value} {base : Heap} {f C : Addr} {fd : FuncData}
/-- the law's numerals -/
def spNumer : Sp := fun vs H Q _ => ∃ (a : Addr) (n : Nat) (B : List (List Nat)), vs = [.int (n : Int), .ref a] ∧ n ≤ 40 ∧ H a = some (.lst (kws B)) ∧ (∀ c, 12 ≤ c → c < 64 → B.contains (digs c) = false) ∧
  ∀ (p : Addr) (H' : Hp) (c : Nat), Same H H' → c ≤ 64 → (numL B c).length = n → H p = none → H' p = some (.lst (kws (numL B c))) → Q (.ref p) H'
theorem ok_law_numerals (F : Fun K "_law_numerals" "_law_numerals" s_law_numerals f fd) (T : Txt mg) : FnOk P w K mg base CX0 1 f fd ["_law_many", "_law_barred"] spNumer := by
  refine F.ok sc_law_numerals (fun vs H Q E h => ?_) (fun cdv A outer s H vs Q E hr h => ?_)
  · obtain ⟨a, n, B, rfl, _⟩ := h
    rfl
  · obtain ⟨a, n, B, rfl, hn, ha, hB, q⟩ := h
    refine ⟨_, (pss_cons (ps_par (i := 2) (j := 3) (by rfl) sc_law_numerals.nd rfl rfl (by decide) rfl rfl (pa_cons (pe_lst pa_nil) (pa_cons pe_int pa_nil)) (by rfl))
      (pss_cons (ps_while PassesOwn.never (pt_cmpR op_lt (pe_callB (call_lenX K) (by rfl) T.len PySem.boot_len (pa_cons (pv 2) pa_nil)) (pv 0) (nomark _)) (pss_cons (ps_if (pt_cmpR (op_ninX K) (pe_callTy call_str_int (by rfl) T.str (by decide +kernel) (pa_cons (pv 3) pa_nil)) (pv 1) (by rfl)) (pss_one (ps_expr (pe_bmX K (pe_bm PySem.F.plainAttrs_list PySem.F.slot_list_append PySem.F.type_list_append mt_append (pv 2) (pa_cons (pe_callTy call_str_int (by rfl) T.str (by decide +kernel) (pa_cons (pv 3) pa_nil)) pa_nil))))) pss_nil)
      (pss_one (ps_set (i := 3) sc_law_numerals.nd rfl (.inl rfl) (pe_op (op_addX K) (pv 3) pe_int)))))
      (pss_one (ps_ret (pv 2))))), ?_⟩
    change (_ : TS) _ [some (.int (n : Int)), some (.ref a), none, none] _
    k_extra "rr"
    refine ⟨by k_extra "sz", fun D nD => ?_⟩
    have sD := same_upd (o := .lst []) nD
    k_extra "rr"
    refine ⟨fun m σ H' => ∃ (c : Nat), m + c = 64 ∧ σ = [some (.int (n : Int)), some (.ref a), some (.ref D), some (.int (c : Int))] ∧ Same H H' ∧ H' D = some (.lst (kws (numL B c))) ∧ (numL B c).length ≤ n, ⟨64, 0, rfl, rfl, sD, upd_same, Nat.zero_le _⟩, ?_⟩
    rintro m σ H2 ⟨c, hm, rfl, s2, hD2, hl2⟩
    have hc2 := (numL_le B hB c (by omega)).1
    have ha2 := s2 _ _ ha
    have lD : (kws (numL B c)).length = (numL B c).length := by unfold kws; rw [List.length_map]
    k_extra "rr"
    rw [lD]
    by_cases z : (numL B c).length < n
    · rw [if_pos (decide_eq_true (by omega))]
      have hc64 : c < 64 := by omega
      have e1 := numL_succ B c
      refine ⟨_, fun _ _ h => h, ?_⟩
      k_extra "rr"
      refine ⟨_, rfl, digs_log ⟨c, hc64⟩, ?_⟩
      rw [digs_T hc64]
      k_extra "rr"
      refine ninK (.inr ha2) ?_
      cases hb : B.contains (digs c) with
      | true =>
        rw [if_pos hb, List.append_nil] at e1
        k_extra "rr"
        exact ⟨64 - (c + 1), by omega, c + 1, by omega, rfl, s2, by rw [e1]; exact hD2, by rw [e1]; exact hl2⟩
      | false =>
        rw [if_neg (by rw [hb]; exact Bool.false_ne_true)] at e1
        k_extra "rr"
        refine ⟨tyvL hD2, ?_⟩
        k_extra "rr"
        refine ⟨_, rfl, digs_log ⟨c, hc64⟩, ?_⟩
        rw [digs_T hc64]
        k_extra "rr"
        refine app hD2 (by rw [lD, sizeLine_eq]; omega) ?_
        k_extra "rr"
        refine ⟨64 - (c + 1), by omega, c + 1, by omega, rfl, same_mut s2 nD, ?_, by rw [e1, List.length_append, List.length_singleton]; omega⟩
        rw [upd_same, e1]
        unfold kws
        rw [List.map_append]
        rfl
    · rw [if_neg (by rw [decide_eq_false (by omega)]; exact Bool.false_ne_true)]
      k_extra "rr"
      exact q D H2 c s2 (by omega) (by omega) nD hD2
end
section
variable {P : Program} {w : World} {K : PySem.W.Frag} {mg : Str → Option Value} {base : Heap} {f C : Addr} {fd : FuncData}
theorem sc_numbered_star : FnScope ["document", "barred", "row", "coming", "number"] ["document", "barred"] (defScope s_numbered) := ⟨rfl, rfl, rfl, by decide +kernel, rfl, by decide +kernel, by decide +kernel⟩
def spNumbered : Sp := fun vs H Q E => ∃ ws rest, vs = ws ++ rest ∧ ws.length = ["document"].length ∧ rest.length ≤ sizeLine ∧ ∀ p, H p = Option.none → spNumB (ws ++ [V.ref p]) (upd H p (.tup rest)) Q E
theorem ok_numbered (F : Fun K "numbered" "numbered" s_numbered f fd) (T : Txt mg) (R : RowC K mg C) (g_Row : mg "Row" = some (.ref C)) (c_Row_made_of : Ob.CalM P w K mg base 3 C "made_of" (spMade C)) (c_Row_nested : C8.Met P w K mg base 1 C "nested" (spRNested C) []) :
    FnR P w K mg base CX0 4 f spNumbered := by
  obtain ⟨oc, od, kV, doc, pm, an, cdv, ct, osl, rfl, lk, hcd⟩ := F.ex
  refine StX.fn_star (ps := ["document"]) (pv := "barred") (N := ["document", "barred", "row", "coming", "number"]) lk hcd sc_numbered_star StX.cxUp_none (StX.bind_star1 (B := fun us => bindArgs (PySem.W.fnOf "numbered" "numbered" (defArgs s_numbered) (defBody s_numbered) (defScope s_numbered) .none kV doc pm an cdv ct) ⟨us, []⟩) (p1 := "document") (pv := "barred") (fun _ => rfl) (fun _ _ _ => rfl)) fun A outer s H vs Q E hr h => ?_
  obtain ⟨t, h1, h2⟩ := numbered_body T R g_Row c_Row_made_of c_Row_nested cdv A outer s H vs Q E hr h
  exact ⟨t, h1.nox, h2⟩
end
theorem num_go {H : Hp} {Q : VK} {E : XK} {d : Addr} {fo : Fo} {vs : List V} {B : List (List Nat)} (hd : Doc H fo d) (hg : GF fo) (hs : fo.size ≤ 31) (hv : vs = .ref d :: kws B) (hl : B.length ≤ 10) (hB : ∀ c, 12 ≤ c → c < 64 → B.contains (digs c) = false)
    (q : ∀ (e : Addr) H' c, Same H H' → c ≤ 64 → (numL B c).length = fo.size → Doc H' (reT fo (numL B c)) e → Q (.ref e) H') : spNumbered vs H Q E := by
  have hl2 : (kws B).length = B.length := by
    unfold kws
    rw [List.length_map]
  exact ⟨[.ref d], kws B, hv, rfl, by rw [hl2, sizeLine_eq]; omega, fun pt npt => ⟨d, pt, fo, B, rfl, hd.le (TupLe.new npt), hg, hs, upd_same, hB, fun e H' c s h1 h2 h => q e H' c ((same_upd npt).trans s) h1 h2 h⟩⟩
theorem bar_ne {a c : Nat} (ha : a < 12) (h1 : 12 ≤ c) (h2 : c < 64) : (digs c == digs a) = false := by
  rw [beq_eq_false_iff_ne]
  intro e
  have := digs_inj ⟨c, h2⟩ ⟨a, by omega⟩ e
  have := Fin.mk.inj_iff.mp this
  omega
theorem bar_x : ∀ c : Fin 64, (digs c.val == [120]) = false := by decide +kernel
theorem bar0 : ∀ c, 12 ≤ c → c < 64 → ([] : List (List Nat)).contains (digs c) = false := fun _ _ _ => rfl
theorem bar1 {a : Nat} (ha : a < 12) : ∀ c, 12 ≤ c → c < 64 → [digs a].contains (digs c) = false := fun c h1 h2 => by
  simp only [List.contains_cons, List.contains_nil, Bool.or_false, bar_ne ha h1 h2]
theorem bar4 {a b : Nat} (ha : a < 12) (hb : b < 12) : ∀ c, 12 ≤ c → c < 64 → [digs a, digs b, [120], digs a].contains (digs c) = false := fun c h1 h2 => by
  have := bar_x ⟨c, h2⟩
  simp only at this
  simp only [List.contains_cons, List.contains_nil, Bool.or_false, bar_ne ha h1 h2, bar_ne hb h1 h2, this]

/-! ### the law of marked and numbered documents -/
def spLaw (K : PySem.W.Frag) : Sp := fun vs H Q _ => ∃ (a : Addr) (ns : List Int), vs = [.ref a] ∧ SqL K H a (ns.map V.int) ∧ ns.length ≤ 63 ∧ ∀ H', Q (.bl true) H'
theorem rest_due : (Lit.tup [(.tup [(.str "rest"), (.str ""), (.tup [])])]).data = .tuple (fdata (markF .nil)) := eqPD_eq (by decide +kernel)
theorem dqK {b : Addr} {H : Hp} : ∀ ws : List (List Nat), DqA b H (ws.map fun w => PyData.str (SX.S w)) (kws ws)
  | [] => .nil
  | w :: r => .cons (Dq.str_mk _) (dqK r)
theorem signs_ok5 : ∀ c ∈ signsL, signB c = true := by decide
theorem restK_G : (∀ c ∈ restK, c ∈ letters) ∧ 1 ≤ restK.length ∧ restK.length ≤ 6 := by decide
theorem dpt {g : Fo} (hz : g.size ≤ 40) (hd : g.depth ≤ 13) : (PyData.tuple (fdata g)).depth ≤ 28 ∧ sz (.tuple (fdata g)) ≤ 100000 := by
  have z1 := depth_fdata2 g
  have z2 := sz_fdata g
  constructor
  · simp only [PyData.depth]
    omega
  · simp only [sz]
    omega
section
variable {P : Program} {w : World} {K : PySem.W.Frag} {mg : Str → Option Value} {base : Heap} {f : Addr} {fd : FuncData}
theorem ok_law (F : Fun K "law" "law" s_law f fd) (T : Txt mg) (c_law_bag : Cal P w K mg base 1 "_law_bag" (spBag K)) (c_law_take : Cal P w K mg base 1 "_law_take" spTake) (c_law_names : Cal P w K mg base 4 "_law_names" spNames)
    (c_law_document : Cal P w K mg base 3 "_law_document" spDocument) (c_law_row : Cal P w K mg base 15 "_law_row" (spLRow K 12)) (c_law_nested : Cal P w K mg base 1 "_law_nested" spNest2) (c_law_alike : Cal P w K mg base 31 "_law_alike" (spAlike K 30)) (c_law_marked : Cal P w K mg base 16 "_law_marked" (spLMarked K 12)) (c_law_numerals : Cal P w K mg base 1 "_law_numerals" spNumer)
    (c_marked : Cal P w K mg base 4 "marked" (spMarked K)) (k_marked_document : CalK P w K mg base 4 "marked" ["document"] (fun us ws => us ++ ws) (spMarked K)) (c_numbered : Ob.CalS P w K mg base 4 "numbered" spNumbered) (c_count_nodes : Cal P w K mg base 5 "count_nodes" spCountN) (c_texts_of : Cal P w K mg base 5 "texts_of" spTextsN) :
    FnG P w K mg base 61 f fd ["_law_script"] (spLaw K) := by
  refine okG F sc_law (fun vs H Q E h => ?_) (fun cdv A outer s H vs Q E hgd hr h => ?_)
  · obtain ⟨a, ns, rfl, _⟩ := h
    rfl
  · obtain ⟨a, ns, rfl, hS, hl, q⟩ := h
    refine ⟨_, (pss_cons (ps_set (i := 1) sc_law.nd rfl (.inl rfl) (pe_c c_law_bag hr (by omega) (by rfl) (pa_cons (pv 0) pa_nil)))
      (pss_cons (ps_set (i := 2) sc_law.nd rfl (.inl rfl) (pe_c c_law_names hr (by omega) (by rfl) (pa_cons (pv 1) pa_nil)))
      (pss_cons (ps_for PassesOwn.never rfl (pi_range1 (by rfl) T.range (pa_cons pe_int pa_nil)) (pg_name (i := 3) sc_law.nd rfl (.inl rfl)) (pss_cons (ps_set (i := 4) sc_law.nd rfl (.inl rfl) (pe_c c_law_document hr (by omega) (by rfl) (pa_cons (pv 1) (pa_cons (pe_op (op_addX K) (pe_ix (ix_X K) (pv 2) pe_int (fun _ _ => rfl)) (pe_lst (pa_cons (pe_gc (by rfl) T.g_REST) pa_nil))) (pa_cons pe_int pa_nil)))))
      (pss_cons (ps_set (i := 5) sc_law.nd rfl (.inl rfl) (pe_callB (cr_repr K hgd hr) (by rfl) T.repr (by decide +kernel) (pa_cons (pv 4) pa_nil)))
      (pss_cons (ps_if (pt_not (pt_val (pe_c c_law_alike hr (by omega) (by rfl) (pa_cons (pe_c c_marked hr (by omega) (by rfl) (pa_cons (pv 4) pa_nil)) (pa_cons (pe_c c_law_marked hr (by omega) (by rfl) (pa_cons (pv 4) pa_nil)) pa_nil))))) (pss_one (ps_ret pe_bl)) pss_nil)
      (pss_cons (ps_set (i := 6) sc_law.nd rfl (.inl rfl) (pe_c c_count_nodes hr (by omega) (by rfl) (pa_cons (pv 4) pa_nil)))
      (pss_cons (ps_if (PW.pt (pw_or (pt_cmpR (op_neX K hr) (pe_c c_count_nodes hr (by omega) (by rfl) (pa_cons (pe_cK0 k_marked_document hr (by omega) (by rfl) (pk_cons (pv 4) pk_nil)) pa_nil)) (pe_op (op_addX K) (pe_op op_mulX pe_int (pv 6)) pe_int) (nomark _)) (pw_or1 (pt_cmpR (op_neX K hr) (pe_callB (cr_repr K hgd hr) (by rfl) T.repr (by decide +kernel) (pa_cons (pv 4) pa_nil)) (pv 5) (nomark _))))) (pss_one (ps_ret pe_bl)) pss_nil)
      (pss_cons (ps_par (i := 7) (j := 8) (by rfl) sc_law.nd rfl rfl (by decide) rfl rfl (pa_cons (pe_callTy call_str_int (by rfl) T.str (by decide +kernel) (pa_cons (pe_c c_law_take hr (by omega) (by rfl) (pa_cons (pv 1) (pa_cons pe_int pa_nil))) pa_nil)) (pa_cons (pe_callTy call_str_int (by rfl) T.str (by decide +kernel) (pa_cons (pe_c c_law_take hr (by omega) (by rfl) (pa_cons (pv 1) (pa_cons pe_int pa_nil))) pa_nil)) pa_nil)) (by rfl))
      (pss_one (ps_for PassesOwn.never rfl (pi_listX K (pe_lst (pa_cons (pe_lst pa_nil) (pa_cons (pe_lst (pa_cons (pv 7) pa_nil)) (pa_cons (pe_lst (pa_cons (pv 7) (pa_cons (pv 8) (pa_cons pe_str (pa_cons (pv 7) pa_nil))))) pa_nil))))) (pg_name (i := 9) sc_law.nd rfl (.inl rfl)) (pss_cons (ps_set (i := 10) sc_law.nd rfl (.inl rfl) (Ob.pe_cs c_numbered hr (by omega) (by rfl) (pa_cons (pv 4) pa_nil)))
      (C8.pss_cut (ps_if (pt_cmpR (op_eqX K hr) (pe_callB (call_lenX K) (by rfl) T.len PySem.boot_len (pa_cons (pv 9) pa_nil)) pe_int (nomark _)) (pss_one (ps_set (i := 10) sc_law.nd rfl (.inl rfl) (Ob.pe_cs c_numbered hr (by omega) (by rfl) (pa_cons (pv 4) (pa_cons (pe_ix (ix_X K) (pv 9) pe_int (fun _ _ => rfl)) pa_nil))))) pss_nil)
      (C8.pss_cut (ps_if (pt_cmpR (op_eqX K hr) (pe_callB (call_lenX K) (by rfl) T.len PySem.boot_len (pa_cons (pv 9) pa_nil)) pe_int (nomark _)) (pss_one (ps_set (i := 10) sc_law.nd rfl (.inl rfl) (Ob.pe_cs c_numbered hr (by omega) (by rfl) (pa_cons (pv 4) (pa_cons (pe_ix (ix_X K) (pv 9) pe_int (fun _ _ => rfl)) (pa_cons (pe_ix (ix_X K) (pv 9) pe_int (fun _ _ => rfl)) (pa_cons (pe_ix (ix_X K) (pv 9) pe_int (fun _ _ => rfl)) (pa_cons (pe_ix (ix_X K) (pv 9) pe_int (fun _ _ => rfl)) pa_nil)))))))) pss_nil)
      (pss_cons (ps_set (i := 11) sc_law.nd rfl (.inl rfl) (pe_c c_law_row hr (by omega) (by rfl) (pa_cons (pv 4) pa_nil)))
      (pss_cons (ps_asg (pe_c c_law_numerals hr (by omega) (by rfl) (pa_cons (pv 6) (pa_cons (pv 9) pa_nil))) (pg_sub (pv 11) pe_int set_list))
      (pss_one (ps_if (PW.pt (pw_or (pt_not (pt_val (pe_c c_law_alike hr (by omega) (by rfl) (pa_cons (pv 10) (pa_cons (pe_c c_law_nested hr (by omega) (by rfl) (pa_cons (pv 11) pa_nil)) pa_nil))))) (pw_or (pt_cmpR (op_neX K hr) (pe_c c_texts_of hr (by omega) (by rfl) (pa_cons (pv 10) pa_nil)) (pe_ix (ix_X K) (pv 11) pe_int (fun _ _ => rfl)) (nomark _)) (pw_or1 (pt_cmpR (op_neX K hr) (pe_callB (cr_repr K hgd hr) (by rfl) T.repr (by decide +kernel) (pa_cons (pv 4) pa_nil)) (pv 5) (nomark _)))))) (pss_one (ps_ret pe_bl)) pss_nil))))))))))))))))
      (pss_one (ps_ret (pe_and (pe_cmpR (op_eqX K hr) (pe_c c_marked hr (by omega) (by rfl) (pa_cons (pe_tup pa_nil) pa_nil)) (pe_litX (.tup [(.tup [(.str "rest"), (.str ""), (.tup [])])]) (by first | (simp only [Lit.te, Lit.ta]; done) | (simp only [Lit.te, Lit.ta]; rfl)) (pe_tup (pa_cons (pe_tup (pa_cons pe_str (pa_cons pe_str (pa_cons (pe_tup pa_nil) pa_nil)))) pa_nil))) (nomark _)) (pe_one (pe_cmpR (op_eqX K hr) (Ob.pe_cs c_numbered hr (by omega) (by rfl) (pa_cons (pe_tup pa_nil) pa_nil)) (pe_tup pa_nil) (nomark _))))))))), ?_⟩
    change (_ : TS) _ [some (V.ref a), none, none, none, none, none, none, none, none, none, none, none] _
    k_extra "rr"
    refine ⟨a, ns, rfl, hS, hl, fun H1 b r s1 nb hb => ?_⟩
    k_extra "rr"
    refine ⟨b, r, rfl, hb, fun p a1 a2 a3 kA kB n H2 bb2 hb2 hp ha1 ha2 l1 l2 g1 g2 np na1 na2 => ?_⟩
    have nb1 : a1 ≠ b := (hb.ne_none na1).1
    have nbp : p ≠ b := (hb.ne_none np).1
    have hb0 : ∀ {H' : Hp}, BagAt H' b r → ∃ l, H' b = some (.lst l) := fun h => h.elim fun _ z => z.elim fun _ z => z.elim fun _ z => z.elim fun _ z => ⟨_, z.1⟩
    k_extra "rr"
    refine for_range (lo := 0) (n := (4 : Int).toNat) (fun i σ H' => ∃ (v3 v4 v5 v6 v7 v8 v9 v10 v11 : Option V), σ = [some (.ref a), some (.ref b), some (.ref p), v3, v4, v5, v6, v7, v8, v9, v10, v11] ∧ BagAt H' b r ∧ H' p = some (.lst [.ref a1, .ref a2, .ref a3]) ∧ H' a1 = some (.lst (kws kA))) ⟨none, none, none, none, none, none, none, none, none, rfl, hb2, hp, ha1⟩ ?_ ?_
    · rintro i σ H3 hi ⟨v3, v4, v5, v6, v7, v8, v9, v10, v11, rfl, hb3, hp3, ha3⟩
      k_extra "rr"
      refine ⟨by k_extra "sz", fun l0 nl0 => ?_⟩
      have s4 := same_upd (o := .lst [.str ("rest" : Str)]) nl0
      have lA : (kws kA).length = 3 := by unfold kws; rw [List.length_map]; exact l1
      refine addL (s4 _ _ ha3) upd_same (by rw [lA, sizeLine_eq]; show 3 + 1 ≤ _; decide) fun l5 nl5 => ?_
      have e5 : kws kA ++ [V.str ("rest" : Str)] = kws (kA ++ [restK]) := by
        rw [restK_S]
        unfold kws
        rw [List.map_append]
        rfl
      rw [e5]
      have s5 := s4.trans (same_upd (o := .lst (kws (kA ++ [restK]))) nl5)
      have nb5 := ((hb3.same s4).ne_none nl5).1
      k_extra "rr"
      refine ⟨b, r, l5, 8, kA ++ [restK], rfl, hb3.same s5, nb5, upd_same, by rw [List.length_append]; show 1 ≤ _ + 1; omega, by rw [List.length_append]; show _ + 1 ≤ _; omega, by omega, by omega, fun fo d H4 bb4 hb4 hd hsz hall => ?_⟩
      have hg : GF fo := hall.imp fun k t h => by
        refine ⟨?_, ?_, ?_, by omega, fun c hc => signs_ok5 c (h.2.2 c hc)⟩ <;>
        · rcases List.mem_append.mp h.1 with z | z
          · have := g1 k z
            first | exact this.1 | exact this.2.1 | exact this.2.2.1
          · rw [List.mem_singleton.mp z]
            first | exact restK_G.1 | exact restK_G.2.1 | exact restK_G.2.2
      have hdp := Fo.depth_le fo
      have hp4 := bb4 _ _ (s5 _ _ hp3) nbp
      have ha4 := bb4 _ _ (s5 _ _ ha3) nb1
      have hsz' : fo.size ≤ 8 := by omega
      have rG : GN restK [] := ⟨restK_G.1, restK_G.2.1, restK_G.2.2, Nat.zero_le _, fun c hc => by cases hc⟩
      have mG : GF (markF fo) := markF_all rG hg
      have mS := markF_size fo
      have mD := markF_depth fo
      clear hb3 hp3 ha3 bb4 hsz hall s4 s5 e5 nl0 nl5 nb5
      k_extra "rr"
      refine doc_repr hd hg (by omega) ?_
      k_extra "rr"
      refine ⟨d, fo, rfl, hd, hg, by omega, fun m1 H5 s5 h1 => ?_⟩
      k_extra "rr"
      refine ⟨d, fo, rfl, hd.le (TupLe.same s5), by omega, by omega, fun m2 H6 s6 h2 => ?_⟩
      k_extra "rr"
      have dm := dpt (g := markF fo) (by omega) (by omega)
      refine ⟨_, _, rfl, Dq.alk 29 (by omega) dm.2 ((h1.le (TupLe.same s6)).dq (b := 0)) (h2.dq (b := 0)), fun H7 s7 => ?_⟩
      have s47 := (s5.trans s6).trans s7
      have hd7 := hd.le (TupLe.same s47)
      have hb7 := hb4.same s47
      have hp7 := s47 _ _ hp4
      have ha7 := s47 _ _ ha4
      clear hd hb4 hp4 ha4 h1 h2 s5 s6 s7 s47
      have d2 := depth_fdata2 fo
      have z2 := sz_fdata fo
      have ln := preA_len fo [] 0
      k_extra "rr"
      refine ⟨d, 0, fdata fo, rfl, hd7.dq, gA_fdata hg, by omega, by omega, flt_fdata [] 0 hg, by omega, fun H8 s8 => ?_⟩
      rw [ln]
      have hd8 := hd7.le (TupLe.same s8)
      k_extra "rr"
      refine ⟨d, fo, rfl, hd8, hg, by omega, fun m3 H9 s9 h3 => ?_⟩
      have d3 := depth_fdata2 (markF fo)
      have z3 := sz_fdata (markF fo)
      have ln3 := preA_len (markF fo) [] 0
      k_extra "rr"
      refine ⟨m3, 0, fdata (markF fo), rfl, h3.dq, gA_fdata mG, by omega, by omega, flt_fdata [] 0 mG, by omega, fun H10 s10 => ?_⟩
      rw [ln3, mS]
      have s810 := s9.trans s10
      have hd10 := hd8.le (TupLe.same s810)
      have hb10 := (hb7.same s8).same s810
      have hp10 := s810 _ _ (s8 _ _ hp7)
      have ha10 := s810 _ _ (s8 _ _ ha7)
      clear hd7 hd8 hb7 hp7 ha7 h3 s8 s9 s10 s810 d2 z2 d3 z3 ln3 dm
      k_extra "rr"
      rw [show decide (((3 * fo.size + 1 : Nat) : Int) = 3 * (fo.size : Int) + 1) = true from decide_eq_true (by omega)]
      k_extra "rr"
      refine doc_repr hd10 hg (by omega) ?_
      k_extra "rr"
      rw [show decide (shF fo = shF fo) = true from decide_eq_true rfl]
      k_extra "rr"
      refine ⟨b, r, 12, rfl, hb10, by omega, by omega, fun x1 H11 bb11 hb11 o0 o1 => ?_⟩
      obtain ⟨lb5, hlb5⟩ := hb0 hb10
      have hd11 := hd10.le (TupLe.but bb11 hlb5)
      have hp11 := bb11 _ _ hp10 nbp
      have ha11 := bb11 _ _ ha10 nb1
      obtain ⟨x1, rfl⟩ : ∃ x : Nat, x1 = (x : Int) := ⟨x1.toNat, by omega⟩
      have x12 : x1 < 12 := by omega
      k_extra "rr"
      refine ⟨_, rfl, digs_log ⟨x1, by omega⟩, ?_⟩
      rw [digs_T (by omega)]
      k_extra "rr"
      refine ⟨b, r, 4, rfl, hb11, by omega, by omega, fun x2 H12 bb12 hb12 t0 t1 => ?_⟩
      obtain ⟨lb6, hlb6⟩ := hb0 hb11
      have hd12 := hd11.le (TupLe.but bb12 hlb6)
      have hp12 := bb12 _ _ hp11 nbp
      have ha12 := bb12 _ _ ha11 nb1
      obtain ⟨x2, rfl⟩ : ∃ x : Nat, x2 = (x : Int) := ⟨x2.toNat, by omega⟩
      have y12 : x2 < 12 := by omega
      k_extra "rr"
      refine ⟨_, rfl, digs_log ⟨x2, by omega⟩, ?_⟩
      rw [digs_T (by omega)]
      clear hd10 hb10 hp10 ha10 hd11 hb11 hp11 ha11 bb11 bb12 hlb5 hlb6
      have ex : Str.ofString "x" = SX.S [120] := by decide +kernel
      k_extra "rr"
      refine ⟨by k_extra "sz", fun L1 nL1 => ?_⟩
      k_extra "rr"
      refine ⟨by k_extra "sz", fun L2 nL2 => ?_⟩
      k_extra "rr"
      rw [ex]
      refine ⟨by k_extra "sz", fun L3 nL3 => ?_⟩
      k_extra "rr"
      refine ⟨by k_extra "sz", fun L0 nL0 => ?_⟩
      have u1 := same_upd (o := .lst []) nL1
      have u2 := same_upd (o := .lst [.str (SX.S (digs x1))]) nL2
      have u3 := same_upd (o := .lst [.str (SX.S (digs x1)), .str (SX.S (digs x2)), .str (SX.S [120]), .str (SX.S (digs x1))]) nL3
      have u0 := same_upd (o := .lst [.ref L1, .ref L2, .ref L3]) nL0
      have u := ((u1.trans u2).trans u3).trans u0
      have hL0 : upd (upd (upd (upd H12 L1 (.lst [])) L2 (.lst [.str (SX.S (digs x1))])) L3 (.lst [.str (SX.S (digs x1)), .str (SX.S (digs x2)), .str (SX.S [120]), .str (SX.S (digs x1))])) L0 (.lst [.ref L1, .ref L2, .ref L3]) L0 = some (.lst [.ref L1, .ref L2, .ref L3]) := upd_same
      have hL1 := u0 _ _ (u3 _ _ (u2 _ _ (upd_same (a := L1) (o := .lst []))))
      have hL2 := u0 _ _ (u3 _ _ (upd_same (a := L2) (o := .lst [.str (SX.S (digs x1))])))
      have hL3 := u0 _ _ (upd_same (a := L3) (o := .lst [.str (SX.S (digs x1)), .str (SX.S (digs x2)), .str (SX.S [120]), .str (SX.S (digs x1))]))
      have hd13 := hd12.le (TupLe.same u)
      have hb13 := hb12.same u
      have hp13 := u _ _ hp12
      have ha13 := u _ _ ha12
      generalize upd (upd (upd (upd H12 L1 _) L2 _) L3 _) L0 _ = H13 at hL0 hL1 hL2 hL3 hd13 hb13 hp13 ha13
      clear hd12 hb12 hp12 ha12 u1 u2 u3 u0 u nL0 nL1 nL2 nL3
      k_extra "rr"
      refine for_list (K := K) (a := L0) (xs := [.ref L1, .ref L2, .ref L3]) (fun j σ H' => Same H13 H' ∧ ∃ v9 v10 v11 : Option V, σ = [some (.ref a), some (.ref b), some (.ref p), some (.int (0 + (i : Int))), some (.ref d), some (.str (shF fo)), some (.int (fo.size : Int)), some (.str (SX.S (digs x1))), some (.str (SX.S (digs x2))), v9, v10, v11]) ⟨Same.refl _, _, _, _, rfl⟩ (fun j σ H' _ hp => SqL.of (hp.1 _ _ hL0)) ?_ ?_
      · rintro j x σ H14 hx ⟨s14, v9, v10, v11, rfl⟩
        obtain ⟨Lj, B, rfl, hLj, hB, hlen⟩ : ∃ (Lj : Addr) (B : List (List Nat)), x = .ref Lj ∧ H13 Lj = some (.lst (kws B)) ∧ (∀ c, 12 ≤ c → c < 64 → B.contains (digs c) = false) ∧ (B = [] ∨ B = [digs x1] ∨ B = [digs x1, digs x2, [120], digs x1]) := by
          rcases j with _ | _ | _ | j
          · cases hx
            exact ⟨L1, [], rfl, hL1, bar0, .inl rfl⟩
          · cases hx
            exact ⟨L2, [digs x1], rfl, hL2, bar1 x12, .inr (.inl rfl)⟩
          · cases hx
            exact ⟨L3, [digs x1, digs x2, [120], digs x1], rfl, hL3, bar4 x12 y12, .inr (.inr rfl)⟩
          · simp at hx
        have hLj := s14 _ _ hLj
        have hd14 := hd13.le (TupLe.same s14)
        k_extra "rr"
        refine num_go (B := []) hd14 hg (by omega) rfl (by decide) bar0 fun e1 H15 c1 s15 lc1 ln1 k1 => ?_
        have hd15 := hd14.le (TupLe.same s15)
        have hLj := s15 _ _ hLj
        have lB : (kws B).length = B.length := by unfold kws; rw [List.length_map]
        k_extra "rr"
        refine Rg.cut (fun σ H' => ∃ (e : Addr) (v11 : Option V), σ = [some (.ref a), some (.ref b), some (.ref p), some (.int (0 + (i : Int))), some (.ref d), some (.str (shF fo)), some (.int (fo.size : Int)), some (.str (SX.S (digs x1))), some (.str (SX.S (digs x2))), some (.ref Lj), some (.ref e), v11] ∧ Same H15 H' ∧ (B.length = 4 ∨ ∃ c, c ≤ 64 ∧ (numL B c).length = fo.size ∧ Doc H' (reT fo (numL B c)) e)) ?_ ?_
        · k_extra "rr"
          rw [lB]
          rcases hlen with rfl | rfl | rfl
          · k_extra "rr"
            exact ⟨e1, _, rfl, Same.refl _, .inr ⟨c1, lc1, ln1, k1⟩⟩
          · rw [show decide ((([digs x1] : List (List Nat)).length : Int) = 1) = true from rfl]
            k_extra "rr"
            refine num_go (B := [digs x1]) hd15 hg (by omega) rfl (by show 1 ≤ 10; decide) hB fun e2 H16 c2 s16 lc2 ln2 k2 => ?_
            k_extra "rr"
            exact ⟨e2, _, rfl, s16, .inr ⟨c2, lc2, ln2, k2⟩⟩
          · k_extra "rr"
            exact ⟨e1, _, rfl, Same.refl _, .inl rfl⟩
        rintro σ H16 ⟨e2, v11', rfl, s16, hcase⟩
        have hd16 := hd15.le (TupLe.same s16)
        have hLj16 := s16 _ _ hLj
        refine Rg.cut (fun σ H' => ∃ (e : Addr) (v11 : Option V) (c : Nat), σ = [some (.ref a), some (.ref b), some (.ref p), some (.int (0 + (i : Int))), some (.ref d), some (.str (shF fo)), some (.int (fo.size : Int)), some (.str (SX.S (digs x1))), some (.str (SX.S (digs x2))), some (.ref Lj), some (.ref e), v11] ∧ Same H16 H' ∧ c ≤ 64 ∧ (numL B c).length = fo.size ∧ Doc H' (reT fo (numL B c)) e) ?_ ?_
        · k_extra "rr"
          rw [lB]
          rcases hlen with rfl | rfl | rfl
          · k_extra "rr"
            rcases hcase with z | ⟨c, z1, z2, z3⟩
            · cases z
            · exact ⟨e2, _, c, rfl, Same.refl _, z1, z2, z3⟩
          · k_extra "rr"
            rcases hcase with z | ⟨c, z1, z2, z3⟩
            · cases z
            · exact ⟨e2, _, c, rfl, Same.refl _, z1, z2, z3⟩
          · rw [show decide ((([digs x1, digs x2, [120], digs x1] : List (List Nat)).length : Int) = 4) = true from rfl]
            k_extra "rr"
            refine num_go (B := [digs x1, digs x2, [120], digs x1]) hd16 hg (by omega) rfl (by show 4 ≤ 10; decide) hB fun e3 H17 c3 s17 lc3 ln3 k3 => ?_
            k_extra "rr"
            exact ⟨e3, _, c3, rfl, s17, lc3, ln3, k3⟩
        rintro σ H17 ⟨e3, v11'', c3, rfl, s17, lc3, ln3, k3⟩
        have hd17 := hd16.le (TupLe.same s17)
        have hLj17 := s17 _ _ hLj16
        k_extra "rr"
        refine ⟨d, fo, rfl, hd17, by omega, by omega, fun st m k t o H18 s18 nst nm nk nt no S => ?_⟩
        k_extra "rr"
        refine ⟨Lj, fo.size, B, rfl, by omega, s18 _ _ hLj17, hB, fun pn H19 c4 s19 lc4 ln4 npn hpn => ?_⟩
        have S19 := S.same s19
        have pst : pn ≠ st := (ne_of_none S.hst npn).symm
        k_extra "rr"
        refine setL (k := 2) S19.hst rfl ?_
        have eset : ([V.ref m, .ref k, .ref t, .ref o] : List V).set 2 (.ref pn) = [.ref m, .ref k, .ref pn, .ref o] := rfl
        rw [eset]
        have hst20 : upd H19 st (.lst [.ref m, .ref k, .ref pn, .ref o]) st = some (.lst [.ref m, .ref k, .ref pn, .ref o]) := upd_same
        have hm20 := upd2 (o := .lst [.ref m, .ref k, .ref pn, .ref o]) S19.sm.symm S19.hm
        have hk20 := upd2 (o := .lst [.ref m, .ref k, .ref pn, .ref o]) S19.sk.symm S19.hk
        have hp20 := upd2 (o := .lst [.ref m, .ref k, .ref pn, .ref o]) pst hpn
        have s20 : Same H17 (upd H19 st (.lst [.ref m, .ref k, .ref pn, .ref o])) := same_mut (s18.trans s19) nst
        generalize upd H19 st (.lst [.ref m, .ref k, .ref pn, .ref o]) = H20 at hst20 hm20 hk20 hp20 s20
        k_extra "rr"
        refine ⟨st, m, k, pn, [.ref o], mkI 0 fo, fks fo, numL B c4, fun _ _ => True, rfl, hst20, hm20, hk20, hp20, by rw [mkI_len]; omega, fun x hx => ?_, fun e4 H21 s21 h4 _ _ => ?_⟩
        · have hx2 := mkI_ge fo 0 x hx
          have hlt : x.toNat < fo.size := by omega
          exact ⟨by omega, by omega, _, _, List.getElem?_eq_getElem (by rw [fks_len]; exact hlt), List.getElem?_eq_getElem (by rw [ln4]; exact hlt), trivial⟩
        rw [nestF_reT fo _ ln4] at h4
        have en : numL B c4 = numL B c3 := numL_eq B (by rw [ln3, ln4])
        rw [en] at h4 hp20
        have nG : GF (reT fo (numL B c3)) := reT_all fo _ (by omega) (fun k t t' h m => by
          obtain ⟨dd, hd1, rfl⟩ := numL_mem m
          have z := digs_ok ⟨dd, by omega⟩
          exact ⟨h.1, h.2.1, h.2.2.1, by have := z.1; simp only at this; omega, z.2⟩) hg
        have rs := reT_size fo (numL B c3)
        have rd := reT_depth fo (numL B c3)
        have dr := dpt (g := reT fo (numL B c3)) (by omega) (by omega)
        have s1721 := s20.trans s21
        k_extra "rr"
        refine ⟨_, _, rfl, Dq.alk 29 (by omega) dr.2 ((k3.le (TupLe.same s1721)).dq (b := 0)) (h4.dq (b := 0)), fun H22 s22 => ?_⟩
        have s1722 := s1721.trans s22
        have hst22 := s22 _ _ (s21 _ _ hst20)
        k_extra "rr"
        refine ⟨e3, reT fo (numL B c3), rfl, k3.le (TupLe.same s1722), nG, by omega, by omega, fun pt H23 s23 hpt => ?_⟩
        rw [reT_ts fo _ (by omega), List.take_of_length_le (by omega)] at hpt
        have hst23 := s23 _ _ hst22
        have hp23 := s23 _ _ (s22 _ _ (s21 _ _ hp20))
        k_extra "rr"
        have shn : SeqAt.shaped (.list ((numL B c3).map fun w => PyData.str (SX.S w))) = true := shaped_lst (gA_of fun dd m => by
          obtain ⟨u, hu, rfl⟩ := List.mem_map.mp m
          obtain ⟨y, hy, rfl⟩ := numL_mem hu
          have z := digs_ok ⟨y, by omega⟩
          simp only [gD]
          exact gS_of (by have := z.1; simp only at this; omega) fun c hc => okC_sign (z.2 c hc)) fun dd m => by
          obtain ⟨u, hu, rfl⟩ := List.mem_map.mp m
          simp only [PyData.depth]
          omega
        refine neDd (d := .list ((numL B c3).map fun w => PyData.str (SX.S w))) (e := .list ((numL B c3).map fun w => PyData.str (SX.S w))) (.lst (SqL.of hpt) (dqK (b := 0) _).dp) (.lst (SqL.of hp23) (dqK (b := 0) _).dp) shn shn ?_
        rw [SeqAt.eqv_refl _ (SeqAt.canLay_of_shaped shn), Bool.not_true]
        k_extra "rr"
        refine doc_repr (hd17.le (TupLe.same (s1722.trans s23))) hg (by omega) ?_
        k_extra "rr"
        rw [show decide (shF fo = shF fo) = true from decide_eq_true rfl]
        k_extra "rr"
        exact ⟨((((s14.trans s15).trans s16).trans s17).trans s1722).trans s23, _, _, _, rfl⟩
      · rintro σ H14 ⟨s14, v9, v10, v11, rfl⟩
        k_extra "rr"
        exact ⟨_, _, _, _, _, _, _, _, _, rfl, hb13.same s14, s14 _ _ hp13, s14 _ _ ha13⟩
    · rintro σ H3 ⟨v3, v4, v5, v6, v7, v8, v9, v10, v11, rfl, hb3, hp3, ha3⟩
      obtain ⟨lb3, hlb3⟩ := hb0 hb3
      k_extra "rr"
      have nilG : GF .nil := trivial
      refine ⟨by k_extra "sz", fun z1 nz1 => ?_⟩
      k_extra "rr"
      refine ⟨z1, .nil, rfl, ⟨[], upd_same, rfl⟩, nilG, by decide, fun x1 K1 s1 j1 => ?_⟩
      k_extra "rr"
      refine lit_go (b := b) (s1 _ _ (same_upd nz1 _ _ hlb3)) (by decide +kernel) fun v2 K3 s3 hdue => ?_
      rw [rest_due] at hdue
      refine eqDd ((j1.dq (b := b)).le (Le.same s3)).dp hdue.dp (by decide +kernel) (by decide +kernel) ?_
      rw [show PyData.eqv _ _ = true by decide +kernel]
      k_extra "rr"
      refine ⟨by k_extra "sz", fun z3 nz3 => ?_⟩
      k_extra "rr"
      refine num_go (B := []) (fo := .nil) ⟨[], upd_same, rfl⟩ nilG (by decide) rfl (by decide) bar0 fun x4 K5 c5 s5 lc5 ln5 j4 => ?_
      k_extra "rr"
      refine ⟨by k_extra "sz", fun z4 nz4 => ?_⟩
      k_extra "rr"
      refine eqDd (d := .tuple []) (e := .tuple []) ((j4.le (TupLe.new nz4)).dq (b := b)).dp (Dq.tup_mk (b := b) upd_same .nil).dp shaped_nilT shaped_nilT ?_
      rw [show PyData.eqv (.tuple []) (.tuple []) = true by decide +kernel]
      k_extra "rr"
      exact q _
end

/-! ### what the top has written, and the head -/
theorem cal_flat {P : Program} {w : World} {K : PySem.W.Frag} {mg : Str → Option Value} {base : Heap} {f : Addr} {fd : FuncData} (F : Fun K "_law_flat" "_law_flat" s_law_flat f fd) (T : Txt mg)
    (m : mg "_law_flat" = some (.ref f)) (k : PySem.W.keepIn K (.ref f) = true) (b : Binds K fd ["_law_document_z", "_law_state"] []) : ∀ n, Cal P w K mg base (n + 2) "_law_flat" (spFlat K n)
  | 0 => ⟨_, _, _, ok_law_flat (sp' := fun _ _ _ _ => False) F T ⟨_, _, _, F.ok (sp := fun _ _ _ _ => False) sc_law_flat (fun _ _ _ _ h => h.elim) (fun _ _ _ _ _ _ _ _ _ h => h.elim), m, k, b⟩ (fun j e => by omega), m, k, b⟩
  | n + 1 => ⟨_, _, _, ok_law_flat F T (cal_flat F T m k b n) (fun j e vs H Q E h => by
      obtain rfl : n = j := by omega
      exact h), m, k, b⟩
theorem cal_alike {P : Program} {w : World} {K : PySem.W.Frag} {mg : Str → Option Value} {base : Heap} {f : Addr} {fd : FuncData} (F : Fun K "_law_alike" "_law_alike" s_law_alike f fd) (T : Txt mg)
    (m : mg "_law_alike" = some (.ref f)) (k : PySem.W.keepIn K (.ref f) = true) (b : Binds K fd ["_law_found", "_law_due"] []) : ∀ n, Cal P w K mg base (n + 1) "_law_alike" (spAlike K n)
  | 0 => ⟨_, _, _, ok_law_alike0 F, m, k, b⟩
  | n + 1 => ⟨_, _, _, ok_law_alike1 F T (cal_alike F T m k b n), m, k, b⟩
theorem kb1 {K : PySem.W.Frag} {x p : Str} {st : Stmt} {f : Addr} {fd : FuncData} (F : Fun K x x st f fd)
    (h : ∀ (kV doc pm : Value) (an : Option Addr) (cdv ct u : Value), bindArgs (PySem.W.fnOf x x (defArgs st) (defBody st) (defScope st) .none kV doc pm an cdv ct) ⟨[], [(p, u)]⟩ = pure [(p, u)])
    (h2 : ∀ (kV doc pm : Value) (an : Option Addr) (cdv ct u : Value), bindArgs (PySem.W.fnOf x x (defArgs st) (defBody st) (defScope st) .none kV doc pm an cdv ct) ⟨[u], []⟩ = pure [(p, u)]) :
    KBinds K fd [p] [p] (fun us ws => us ++ ws) (fun us ws => us ++ ws) := by
  obtain ⟨oc, od, kV, doc, pm, an, cdv, ct, osl, rfl, lk, hcd⟩ := F.ex
  refine ⟨fun s us ws _ hl => ?_, fun a b => a.append b⟩
  match us, ws, hl with
  | [], [u], _ => exact .of_eq (h kV doc pm an cdv ct u)
  | [u], [], _ => exact .of_eq (h2 kV doc pm an cdv ct u)
theorem nest_weak {vs : List V} {H : Hp} {Q : VK} {E : XK} (h : spNested vs H Q E) : spNest2 vs H Q E := by
  obtain ⟨st, m, so, tx, ms, ks, ts, p, e, hst, hm, hso, htx, hl, hv, q⟩ := h
  exact ⟨st, m, so, tx, [], ms, ks, ts, p, e, hst, hm, hso, htx, hl, hv, fun a H' => q _ a H'⟩
theorem all_mk {l : PySem.W.OpenLaw} {w : World} {K : PySem.W.Frag} {h : Heap} {mg : Str → Option Value} {fa f_wall f_within f_nodes f_count_nodes f_texts_of f_marked f_numbered f_law_bag f_law_take f_law_of f_law_words f_law_names f_law_sign_text f_law_nested f_law_document f_law_flat f_law_row f_law_alike f_law_marked f_law_numerals f_law : Addr} (X : K.In h) (G : h.Ns mainGlobals mg) (hfa : mg "law" = some (.ref fa))
    {od_wall an_wall od_within an_within od_nodes an_nodes od_count_nodes an_count_nodes od_texts_of an_texts_of od_marked an_marked od_numbered an_numbered od_law_bag an_law_bag od_law_take an_law_take od_law_of an_law_of od_law_words an_law_words od_law_names an_law_names od_law_sign_text an_law_sign_text od_law_nested an_law_nested od_law_document an_law_document od_law_flat an_law_flat od_law_row an_law_row od_law_alike an_law_alike od_law_marked an_law_marked od_law_numerals an_law_numerals od_law an_law : Option Addr} {sl_wall sl_within sl_nodes sl_count_nodes sl_texts_of sl_marked sl_numbered sl_law_bag sl_law_take sl_law_of sl_law_words sl_law_names sl_law_sign_text sl_law_nested sl_law_document sl_law_flat sl_law_row sl_law_alike sl_law_marked sl_law_numerals sl_law : Array (Option Value)} {oc_wall kV_wall dc_wall pm_wall cd_wall ct_wall oc_within kV_within dc_within pm_within cd_within ct_within oc_nodes kV_nodes dc_nodes pm_nodes cd_nodes ct_nodes oc_count_nodes kV_count_nodes dc_count_nodes pm_count_nodes cd_count_nodes ct_count_nodes oc_texts_of kV_texts_of dc_texts_of pm_texts_of cd_texts_of ct_texts_of oc_marked kV_marked dc_marked pm_marked cd_marked ct_marked oc_numbered kV_numbered dc_numbered pm_numbered cd_numbered ct_numbered oc_law_bag kV_law_bag dc_law_bag pm_law_bag cd_law_bag ct_law_bag oc_law_take kV_law_take dc_law_take pm_law_take cd_law_take ct_law_take oc_law_of kV_law_of dc_law_of pm_law_of cd_law_of ct_law_of oc_law_words kV_law_words dc_law_words pm_law_words cd_law_words ct_law_words oc_law_names kV_law_names dc_law_names pm_law_names cd_law_names ct_law_names oc_law_sign_text kV_law_sign_text dc_law_sign_text pm_law_sign_text cd_law_sign_text ct_law_sign_text oc_law_nested kV_law_nested dc_law_nested pm_law_nested cd_law_nested ct_law_nested oc_law_document kV_law_document dc_law_document pm_law_document cd_law_document ct_law_document oc_law_flat kV_law_flat dc_law_flat pm_law_flat cd_law_flat ct_law_flat oc_law_row kV_law_row dc_law_row pm_law_row cd_law_row ct_law_row oc_law_alike kV_law_alike dc_law_alike pm_law_alike cd_law_alike ct_law_alike oc_law_marked kV_law_marked dc_law_marked pm_law_marked cd_law_marked ct_law_marked oc_law_numerals kV_law_numerals dc_law_numerals pm_law_numerals cd_law_numerals ct_law_numerals oc_law kV_law dc_law pm_law cd_law ct_law : Value} {t_REST : Tok}
    (a_wall : PySem.W.nsIn K mainGlobals "_wall" = some (some (.ref f_wall))) (l_wall : K.lookup f_wall = some ⟨oc_wall, od_wall, .func (PySem.W.fnOf "_wall" "_wall" (defArgs s_wall) (defBody s_wall) (defScope s_wall) .none kV_wall dc_wall pm_wall an_wall cd_wall ct_wall), sl_wall⟩) (c_wall : PySem.W.codeIn K cd_wall "_wall" = true) (k_wall : PySem.W.keepIn K (.ref f_wall) = true)
    (a_within : PySem.W.nsIn K mainGlobals "within" = some (some (.ref f_within))) (l_within : K.lookup f_within = some ⟨oc_within, od_within, .func (PySem.W.fnOf "within" "within" (defArgs s_within) (defBody s_within) (defScope s_within) .none kV_within dc_within pm_within an_within cd_within ct_within), sl_within⟩) (c_within : PySem.W.codeIn K cd_within "within" = true) (k_within : PySem.W.keepIn K (.ref f_within) = true)
    (a_nodes : PySem.W.nsIn K mainGlobals "nodes" = some (some (.ref f_nodes))) (l_nodes : K.lookup f_nodes = some ⟨oc_nodes, od_nodes, .func (PySem.W.fnOf "nodes" "nodes" (defArgs s_nodes) (defBody s_nodes) (defScope s_nodes) .none kV_nodes dc_nodes pm_nodes an_nodes cd_nodes ct_nodes), sl_nodes⟩) (c_nodes : PySem.W.codeIn K cd_nodes "nodes" = true) (k_nodes : PySem.W.keepIn K (.ref f_nodes) = true)
    (a_count_nodes : PySem.W.nsIn K mainGlobals "count_nodes" = some (some (.ref f_count_nodes))) (l_count_nodes : K.lookup f_count_nodes = some ⟨oc_count_nodes, od_count_nodes, .func (PySem.W.fnOf "count_nodes" "count_nodes" (defArgs s_count_nodes) (defBody s_count_nodes) (defScope s_count_nodes) .none kV_count_nodes dc_count_nodes pm_count_nodes an_count_nodes cd_count_nodes ct_count_nodes), sl_count_nodes⟩) (c_count_nodes : PySem.W.codeIn K cd_count_nodes "count_nodes" = true) (k_count_nodes : PySem.W.keepIn K (.ref f_count_nodes) = true)
    (a_texts_of : PySem.W.nsIn K mainGlobals "texts_of" = some (some (.ref f_texts_of))) (l_texts_of : K.lookup f_texts_of = some ⟨oc_texts_of, od_texts_of, .func (PySem.W.fnOf "texts_of" "texts_of" (defArgs s_texts_of) (defBody s_texts_of) (defScope s_texts_of) .none kV_texts_of dc_texts_of pm_texts_of an_texts_of cd_texts_of ct_texts_of), sl_texts_of⟩) (c_texts_of : PySem.W.codeIn K cd_texts_of "texts_of" = true) (k_texts_of : PySem.W.keepIn K (.ref f_texts_of) = true)
    (a_marked : PySem.W.nsIn K mainGlobals "marked" = some (some (.ref f_marked))) (l_marked : K.lookup f_marked = some ⟨oc_marked, od_marked, .func (PySem.W.fnOf "marked" "marked" (defArgs s_marked) (defBody s_marked) (defScope s_marked) .none kV_marked dc_marked pm_marked an_marked cd_marked ct_marked), sl_marked⟩) (c_marked : PySem.W.codeIn K cd_marked "marked" = true) (k_marked : PySem.W.keepIn K (.ref f_marked) = true)
    (a_numbered : PySem.W.nsIn K mainGlobals "numbered" = some (some (.ref f_numbered))) (l_numbered : K.lookup f_numbered = some ⟨oc_numbered, od_numbered, .func (PySem.W.fnOf "numbered" "numbered" (defArgs s_numbered) (defBody s_numbered) (defScope s_numbered) .none kV_numbered dc_numbered pm_numbered an_numbered cd_numbered ct_numbered), sl_numbered⟩) (c_numbered : PySem.W.codeIn K cd_numbered "numbered" = true) (k_numbered : PySem.W.keepIn K (.ref f_numbered) = true)
    (a_law_bag : PySem.W.nsIn K mainGlobals "_law_bag" = some (some (.ref f_law_bag))) (l_law_bag : K.lookup f_law_bag = some ⟨oc_law_bag, od_law_bag, .func (PySem.W.fnOf "_law_bag" "_law_bag" (defArgs s_law_bag) (defBody s_law_bag) (defScope s_law_bag) .none kV_law_bag dc_law_bag pm_law_bag an_law_bag cd_law_bag ct_law_bag), sl_law_bag⟩) (c_law_bag : PySem.W.codeIn K cd_law_bag "_law_bag" = true) (k_law_bag : PySem.W.keepIn K (.ref f_law_bag) = true)
    (a_law_take : PySem.W.nsIn K mainGlobals "_law_take" = some (some (.ref f_law_take))) (l_law_take : K.lookup f_law_take = some ⟨oc_law_take, od_law_take, .func (PySem.W.fnOf "_law_take" "_law_take" (defArgs s_law_take) (defBody s_law_take) (defScope s_law_take) .none kV_law_take dc_law_take pm_law_take an_law_take cd_law_take ct_law_take), sl_law_take⟩) (c_law_take : PySem.W.codeIn K cd_law_take "_law_take" = true) (k_law_take : PySem.W.keepIn K (.ref f_law_take) = true)
    (a_law_of : PySem.W.nsIn K mainGlobals "_law_of" = some (some (.ref f_law_of))) (l_law_of : K.lookup f_law_of = some ⟨oc_law_of, od_law_of, .func (PySem.W.fnOf "_law_of" "_law_of" (defArgs s_law_of) (defBody s_law_of) (defScope s_law_of) .none kV_law_of dc_law_of pm_law_of an_law_of cd_law_of ct_law_of), sl_law_of⟩) (c_law_of : PySem.W.codeIn K cd_law_of "_law_of" = true) (k_law_of : PySem.W.keepIn K (.ref f_law_of) = true)
    (a_law_words : PySem.W.nsIn K mainGlobals "_law_words" = some (some (.ref f_law_words))) (l_law_words : K.lookup f_law_words = some ⟨oc_law_words, od_law_words, .func (PySem.W.fnOf "_law_words" "_law_words" (defArgs s_law_words) (defBody s_law_words) (defScope s_law_words) .none kV_law_words dc_law_words pm_law_words an_law_words cd_law_words ct_law_words), sl_law_words⟩) (c_law_words : PySem.W.codeIn K cd_law_words "_law_words" = true) (k_law_words : PySem.W.keepIn K (.ref f_law_words) = true)
    (a_law_names : PySem.W.nsIn K mainGlobals "_law_names" = some (some (.ref f_law_names))) (l_law_names : K.lookup f_law_names = some ⟨oc_law_names, od_law_names, .func (PySem.W.fnOf "_law_names" "_law_names" (defArgs s_law_names) (defBody s_law_names) (defScope s_law_names) .none kV_law_names dc_law_names pm_law_names an_law_names cd_law_names ct_law_names), sl_law_names⟩) (c_law_names : PySem.W.codeIn K cd_law_names "_law_names" = true) (k_law_names : PySem.W.keepIn K (.ref f_law_names) = true)
    (a_law_sign_text : PySem.W.nsIn K mainGlobals "_law_sign_text" = some (some (.ref f_law_sign_text))) (l_law_sign_text : K.lookup f_law_sign_text = some ⟨oc_law_sign_text, od_law_sign_text, .func (PySem.W.fnOf "_law_sign_text" "_law_sign_text" (defArgs s_law_sign_text) (defBody s_law_sign_text) (defScope s_law_sign_text) .none kV_law_sign_text dc_law_sign_text pm_law_sign_text an_law_sign_text cd_law_sign_text ct_law_sign_text), sl_law_sign_text⟩) (c_law_sign_text : PySem.W.codeIn K cd_law_sign_text "_law_sign_text" = true) (k_law_sign_text : PySem.W.keepIn K (.ref f_law_sign_text) = true)
    (a_law_nested : PySem.W.nsIn K mainGlobals "_law_nested" = some (some (.ref f_law_nested))) (l_law_nested : K.lookup f_law_nested = some ⟨oc_law_nested, od_law_nested, .func (PySem.W.fnOf "_law_nested" "_law_nested" (defArgs s_law_nested) (defBody s_law_nested) (defScope s_law_nested) .none kV_law_nested dc_law_nested pm_law_nested an_law_nested cd_law_nested ct_law_nested), sl_law_nested⟩) (c_law_nested : PySem.W.codeIn K cd_law_nested "_law_nested" = true) (k_law_nested : PySem.W.keepIn K (.ref f_law_nested) = true)
    (a_law_document : PySem.W.nsIn K mainGlobals "_law_document" = some (some (.ref f_law_document))) (l_law_document : K.lookup f_law_document = some ⟨oc_law_document, od_law_document, .func (PySem.W.fnOf "_law_document" "_law_document" (defArgs s_law_document) (defBody s_law_document) (defScope s_law_document) .none kV_law_document dc_law_document pm_law_document an_law_document cd_law_document ct_law_document), sl_law_document⟩) (c_law_document : PySem.W.codeIn K cd_law_document "_law_document" = true) (k_law_document : PySem.W.keepIn K (.ref f_law_document) = true)
    (a_law_flat : PySem.W.nsIn K mainGlobals "_law_flat" = some (some (.ref f_law_flat))) (l_law_flat : K.lookup f_law_flat = some ⟨oc_law_flat, od_law_flat, .func (PySem.W.fnOf "_law_flat" "_law_flat" (defArgs s_law_flat) (defBody s_law_flat) (defScope s_law_flat) .none kV_law_flat dc_law_flat pm_law_flat an_law_flat cd_law_flat ct_law_flat), sl_law_flat⟩) (c_law_flat : PySem.W.codeIn K cd_law_flat "_law_flat" = true) (k_law_flat : PySem.W.keepIn K (.ref f_law_flat) = true)
    (a_law_row : PySem.W.nsIn K mainGlobals "_law_row" = some (some (.ref f_law_row))) (l_law_row : K.lookup f_law_row = some ⟨oc_law_row, od_law_row, .func (PySem.W.fnOf "_law_row" "_law_row" (defArgs s_law_row) (defBody s_law_row) (defScope s_law_row) .none kV_law_row dc_law_row pm_law_row an_law_row cd_law_row ct_law_row), sl_law_row⟩) (c_law_row : PySem.W.codeIn K cd_law_row "_law_row" = true) (k_law_row : PySem.W.keepIn K (.ref f_law_row) = true)
    (a_law_alike : PySem.W.nsIn K mainGlobals "_law_alike" = some (some (.ref f_law_alike))) (l_law_alike : K.lookup f_law_alike = some ⟨oc_law_alike, od_law_alike, .func (PySem.W.fnOf "_law_alike" "_law_alike" (defArgs s_law_alike) (defBody s_law_alike) (defScope s_law_alike) .none kV_law_alike dc_law_alike pm_law_alike an_law_alike cd_law_alike ct_law_alike), sl_law_alike⟩) (c_law_alike : PySem.W.codeIn K cd_law_alike "_law_alike" = true) (k_law_alike : PySem.W.keepIn K (.ref f_law_alike) = true)
    (a_law_marked : PySem.W.nsIn K mainGlobals "_law_marked" = some (some (.ref f_law_marked))) (l_law_marked : K.lookup f_law_marked = some ⟨oc_law_marked, od_law_marked, .func (PySem.W.fnOf "_law_marked" "_law_marked" (defArgs s_law_marked) (defBody s_law_marked) (defScope s_law_marked) .none kV_law_marked dc_law_marked pm_law_marked an_law_marked cd_law_marked ct_law_marked), sl_law_marked⟩) (c_law_marked : PySem.W.codeIn K cd_law_marked "_law_marked" = true) (k_law_marked : PySem.W.keepIn K (.ref f_law_marked) = true)
    (a_law_numerals : PySem.W.nsIn K mainGlobals "_law_numerals" = some (some (.ref f_law_numerals))) (l_law_numerals : K.lookup f_law_numerals = some ⟨oc_law_numerals, od_law_numerals, .func (PySem.W.fnOf "_law_numerals" "_law_numerals" (defArgs s_law_numerals) (defBody s_law_numerals) (defScope s_law_numerals) .none kV_law_numerals dc_law_numerals pm_law_numerals an_law_numerals cd_law_numerals ct_law_numerals), sl_law_numerals⟩) (c_law_numerals : PySem.W.codeIn K cd_law_numerals "_law_numerals" = true) (k_law_numerals : PySem.W.keepIn K (.ref f_law_numerals) = true)
    (a_law : PySem.W.nsIn K mainGlobals "law" = some (some (.ref f_law))) (l_law : K.lookup f_law = some ⟨oc_law, od_law, .func (PySem.W.fnOf "law" "law" (defArgs s_law) (defBody s_law) (defScope s_law) .none kV_law dc_law pm_law an_law cd_law ct_law), sl_law⟩) (c_law : PySem.W.codeIn K cd_law "law" = true) (k_law : PySem.W.keepIn K (.ref f_law) = true)
    {C_Row : Addr} (aC_Row : PySem.W.nsIn K mainGlobals "Row" = some (some (.ref C_Row))) (pg_Row : PySem.W.plainGet K C_Row Str.empty = true) (hd_Row : PySem.W.hasDictIn K C_Row = true) (po_Row : PySem.W.plainOver K C_Row = true) (sa_Row : PySem.W.findIn K (.ref C_Row) "__setattr__" = some (some (.builtin "object.__setattr__"))) (mk_Row : PySem.W.makesIn K C_Row = true) (kc_Row : PySem.W.keepIn K (.ref C_Row) = true)
    (na_Row_marks : PySem.W.findIn K (.ref C_Row) "marks" = some none)
    (na_Row_kind_row : PySem.W.findIn K (.ref C_Row) "kind_row" = some none)
    (na_Row_text_row : PySem.W.findIn K (.ref C_Row) "text_row" = some none)
    (na_Row_origin_row : PySem.W.findIn K (.ref C_Row) "origin_row" = some none)
    (rd_Row : PySem.W.readsIn K C_Row (.type "type") = true) (tg_Row : PySem.W.specialIn K (.ref C_Row) "__getattribute__" = some (some (.builtin "type.__getattribute__")))
    {f_Row_init : Addr} {od_Row_init an_Row_init : Option Addr} {sl_Row_init : Array (Option Value)} {oc_Row_init kV_Row_init dc_Row_init pm_Row_init cd_Row_init ct_Row_init : Value}
    (at_Row_init : PySem.W.findIn K (.ref C_Row) "__init__" = some (some (.ref f_Row_init))) (fi_Row_init : PySem.W.isFn K (.ref f_Row_init) = true)
    (l_Row_init : K.lookup f_Row_init = some ⟨oc_Row_init, od_Row_init, .func (PySem.W.fnOf "__init__" "Row.__init__" (defArgs s_Row___init__) (defBody s_Row___init__) (defScope s_Row___init__) .none kV_Row_init dc_Row_init pm_Row_init an_Row_init cd_Row_init ct_Row_init), sl_Row_init⟩) (c_Row_init : PySem.W.codeIn K cd_Row_init "Row.__init__" = true) (k_Row_init : PySem.W.keepIn K (.ref f_Row_init) = true)
    {f_Row_made_of : Addr} {od_Row_made_of an_Row_made_of : Option Addr} {sl_Row_made_of : Array (Option Value)} {oc_Row_made_of kV_Row_made_of dc_Row_made_of pm_Row_made_of cd_Row_made_of ct_Row_made_of : Value}
    {p_Row_made_of : Addr} {rs_Row_made_of : List Value} (at_Row_made_of : PySem.W.findCls K (.ref C_Row) (.type "type") "made_of" = some (.get (.builtin "classmethod.__get__") (.ref p_Row_made_of) .none (.ref C_Row))) (rc_Row_made_of : PySem.W.recIn K p_Row_made_of "classmethod" = some (.ref f_Row_made_of :: rs_Row_made_of)) (fi_Row_made_of : PySem.W.fnIn K f_Row_made_of = true)
    (l_Row_made_of : K.lookup f_Row_made_of = some ⟨oc_Row_made_of, od_Row_made_of, .func (PySem.W.fnOf "made_of" "Row.made_of" (defArgs s_Row_made_of) (defBody s_Row_made_of) (defScope s_Row_made_of) .none kV_Row_made_of dc_Row_made_of pm_Row_made_of an_Row_made_of cd_Row_made_of ct_Row_made_of), sl_Row_made_of⟩) (c_Row_made_of : PySem.W.codeIn K cd_Row_made_of "Row.made_of" = true) (k_Row_made_of : PySem.W.keepIn K (.ref f_Row_made_of) = true)
    {f_Row_added : Addr} {od_Row_added an_Row_added : Option Addr} {sl_Row_added : Array (Option Value)} {oc_Row_added kV_Row_added dc_Row_added pm_Row_added cd_Row_added ct_Row_added : Value}
    (at_Row_added : PySem.W.findIn K (.ref C_Row) "added" = some (some (.ref f_Row_added))) (fi_Row_added : PySem.W.isFn K (.ref f_Row_added) = true)
    (l_Row_added : K.lookup f_Row_added = some ⟨oc_Row_added, od_Row_added, .func (PySem.W.fnOf "added" "Row.added" (defArgs s_Row_added) (defBody s_Row_added) (defScope s_Row_added) .none kV_Row_added dc_Row_added pm_Row_added an_Row_added cd_Row_added ct_Row_added), sl_Row_added⟩) (c_Row_added : PySem.W.codeIn K cd_Row_added "Row.added" = true) (k_Row_added : PySem.W.keepIn K (.ref f_Row_added) = true)
    {f_Row_nested : Addr} {od_Row_nested an_Row_nested : Option Addr} {sl_Row_nested : Array (Option Value)} {oc_Row_nested kV_Row_nested dc_Row_nested pm_Row_nested cd_Row_nested ct_Row_nested : Value}
    (at_Row_nested : PySem.W.findIn K (.ref C_Row) "nested" = some (some (.ref f_Row_nested))) (fi_Row_nested : PySem.W.isFn K (.ref f_Row_nested) = true)
    (l_Row_nested : K.lookup f_Row_nested = some ⟨oc_Row_nested, od_Row_nested, .func (PySem.W.fnOf "nested" "Row.nested" (defArgs s_Row_nested) (defBody s_Row_nested) (defScope s_Row_nested) .none kV_Row_nested dc_Row_nested pm_Row_nested an_Row_nested cd_Row_nested ct_Row_nested), sl_Row_nested⟩) (c_Row_nested : PySem.W.codeIn K cd_Row_nested "Row.nested" = true) (k_Row_nested : PySem.W.keepIn K (.ref f_Row_nested) = true)
    {f_Row_rub : Addr} {od_Row_rub an_Row_rub : Option Addr} {sl_Row_rub : Array (Option Value)} {oc_Row_rub kV_Row_rub dc_Row_rub pm_Row_rub cd_Row_rub ct_Row_rub : Value}
    (at_Row_rub : PySem.W.findIn K (.ref C_Row) "rub" = some (some (.ref f_Row_rub))) (fi_Row_rub : PySem.W.isFn K (.ref f_Row_rub) = true)
    (l_Row_rub : K.lookup f_Row_rub = some ⟨oc_Row_rub, od_Row_rub, .func (PySem.W.fnOf "rub" "Row.rub" (defArgs s_Row_rub) (defBody s_Row_rub) (defScope s_Row_rub) .none kV_Row_rub dc_Row_rub pm_Row_rub an_Row_rub cd_Row_rub ct_Row_rub), sl_Row_rub⟩) (c_Row_rub : PySem.W.codeIn K cd_Row_rub "Row.rub" = true) (k_Row_rub : PySem.W.keepIn K (.ref f_Row_rub) = true)
    {f_Row_part : Addr} {od_Row_part an_Row_part : Option Addr} {sl_Row_part : Array (Option Value)} {oc_Row_part kV_Row_part dc_Row_part pm_Row_part cd_Row_part ct_Row_part : Value}
    (at_Row_part : PySem.W.findIn K (.ref C_Row) "part" = some (some (.ref f_Row_part))) (fi_Row_part : PySem.W.isFn K (.ref f_Row_part) = true)
    (l_Row_part : K.lookup f_Row_part = some ⟨oc_Row_part, od_Row_part, .func (PySem.W.fnOf "part" "Row.part" (defArgs s_Row_part) (defBody s_Row_part) (defScope s_Row_part) .none kV_Row_part dc_Row_part pm_Row_part an_Row_part cd_Row_part ct_Row_part), sl_Row_part⟩) (c_Row_part : PySem.W.codeIn K cd_Row_part "Row.part" = true) (k_Row_part : PySem.W.keepIn K (.ref f_Row_part) = true)
    {f_Row_cut : Addr} {od_Row_cut an_Row_cut : Option Addr} {sl_Row_cut : Array (Option Value)} {oc_Row_cut kV_Row_cut dc_Row_cut pm_Row_cut cd_Row_cut ct_Row_cut : Value}
    (at_Row_cut : PySem.W.findIn K (.ref C_Row) "cut" = some (some (.ref f_Row_cut))) (fi_Row_cut : PySem.W.isFn K (.ref f_Row_cut) = true)
    (l_Row_cut : K.lookup f_Row_cut = some ⟨oc_Row_cut, od_Row_cut, .func (PySem.W.fnOf "cut" "Row.cut" (defArgs s_Row_cut) (defBody s_Row_cut) (defScope s_Row_cut) .none kV_Row_cut dc_Row_cut pm_Row_cut an_Row_cut cd_Row_cut ct_Row_cut), sl_Row_cut⟩) (c_Row_cut : PySem.W.codeIn K cd_Row_cut "Row.cut" = true) (k_Row_cut : PySem.W.keepIn K (.ref f_Row_cut) = true)
    {f_Row_place : Addr} {od_Row_place an_Row_place : Option Addr} {sl_Row_place : Array (Option Value)} {oc_Row_place kV_Row_place dc_Row_place pm_Row_place cd_Row_place ct_Row_place : Value}
    (at_Row_place : PySem.W.findIn K (.ref C_Row) "place" = some (some (.ref f_Row_place))) (fi_Row_place : PySem.W.isFn K (.ref f_Row_place) = true)
    (l_Row_place : K.lookup f_Row_place = some ⟨oc_Row_place, od_Row_place, .func (PySem.W.fnOf "place" "Row.place" (defArgs s_Row_place) (defBody s_Row_place) (defScope s_Row_place) .none kV_Row_place dc_Row_place pm_Row_place an_Row_place cd_Row_place ct_Row_place), sl_Row_place⟩) (c_Row_place : PySem.W.codeIn K cd_Row_place "Row.place" = true) (k_Row_place : PySem.W.keepIn K (.ref f_Row_place) = true)
    {f_Row_put_in : Addr} {od_Row_put_in an_Row_put_in : Option Addr} {sl_Row_put_in : Array (Option Value)} {oc_Row_put_in kV_Row_put_in dc_Row_put_in pm_Row_put_in cd_Row_put_in ct_Row_put_in : Value}
    (at_Row_put_in : PySem.W.findIn K (.ref C_Row) "put_in" = some (some (.ref f_Row_put_in))) (fi_Row_put_in : PySem.W.isFn K (.ref f_Row_put_in) = true)
    (l_Row_put_in : K.lookup f_Row_put_in = some ⟨oc_Row_put_in, od_Row_put_in, .func (PySem.W.fnOf "put_in" "Row.put_in" (defArgs s_Row_put_in) (defBody s_Row_put_in) (defScope s_Row_put_in) .none kV_Row_put_in dc_Row_put_in pm_Row_put_in an_Row_put_in cd_Row_put_in ct_Row_put_in), sl_Row_put_in⟩) (c_Row_put_in : PySem.W.codeIn K cd_Row_put_in "Row.put_in" = true) (k_Row_put_in : PySem.W.keepIn K (.ref f_Row_put_in) = true)
    {f_Row_doubled : Addr} {od_Row_doubled an_Row_doubled : Option Addr} {sl_Row_doubled : Array (Option Value)} {oc_Row_doubled kV_Row_doubled dc_Row_doubled pm_Row_doubled cd_Row_doubled ct_Row_doubled : Value}
    (at_Row_doubled : PySem.W.findIn K (.ref C_Row) "doubled" = some (some (.ref f_Row_doubled))) (fi_Row_doubled : PySem.W.isFn K (.ref f_Row_doubled) = true)
    (l_Row_doubled : K.lookup f_Row_doubled = some ⟨oc_Row_doubled, od_Row_doubled, .func (PySem.W.fnOf "doubled" "Row.doubled" (defArgs s_Row_doubled) (defBody s_Row_doubled) (defScope s_Row_doubled) .none kV_Row_doubled dc_Row_doubled pm_Row_doubled an_Row_doubled cd_Row_doubled ct_Row_doubled), sl_Row_doubled⟩) (c_Row_doubled : PySem.W.codeIn K cd_Row_doubled "Row.doubled" = true) (k_Row_doubled : PySem.W.keepIn K (.ref f_Row_doubled) = true)
    (z_len : PySem.W.nsIn K mainGlobals "len" = some none) (z_int : PySem.W.nsIn K mainGlobals "int" = some none) (z_range : PySem.W.nsIn K mainGlobals "range" = some none) (z_isinstance : PySem.W.nsIn K mainGlobals "isinstance" = some none) (z_all : PySem.W.nsIn K mainGlobals "all" = some none) (z_list : PySem.W.nsIn K mainGlobals "list" = some none) (z_tuple : PySem.W.nsIn K mainGlobals "tuple" = some none) (z_str : PySem.W.nsIn K mainGlobals "str" = some none) (z_sorted : PySem.W.nsIn K mainGlobals "sorted" = some none) (z_zip : PySem.W.nsIn K mainGlobals "zip" = some none) (z_enumerate : PySem.W.nsIn K mainGlobals "enumerate" = some none) (z_sum : PySem.W.nsIn K mainGlobals "sum" = some none) (z_bool : PySem.W.nsIn K mainGlobals "bool" = some none) (z_dict : PySem.W.nsIn K mainGlobals "dict" = some none) (z_repr : PySem.W.nsIn K mainGlobals "repr" = some none) (v_REST : PySem.W.nsIn K mainGlobals "REST" = some (some (.str "rest" t_REST))) :
    ∃ fd : FuncData, (∀ (s : Shared) (v : Value), BindsTo s fd ⟨[v], []⟩ [("_law_script", v)]) ∧ ∀ base : Heap, K.In base → base.Ns mainGlobals mg → FnG l.prog w K mg base 61 fa fd ["_law_script"] (spLaw K) := by
  have e := hfa.symm.trans (PySem.W.mg_of X G a_law)
  cases e
  have T : Txt mg := ⟨PySem.W.mg_none_of X G z_len, PySem.W.mg_none_of X G z_int, PySem.W.mg_none_of X G z_range, PySem.W.mg_none_of X G z_isinstance, PySem.W.mg_none_of X G z_all, PySem.W.mg_none_of X G z_list, PySem.W.mg_none_of X G z_tuple, PySem.W.mg_none_of X G z_str, PySem.W.mg_none_of X G z_sorted, PySem.W.mg_none_of X G z_zip, PySem.W.mg_none_of X G z_enumerate, PySem.W.mg_none_of X G z_sum, PySem.W.mg_none_of X G z_bool, PySem.W.mg_none_of X G z_dict, PySem.W.mg_none_of X G z_repr, ⟨_, PySem.W.mg_of X G v_REST, _, rfl⟩⟩
  have F_wall := fun_mk (st := s_wall) l_wall c_wall k_wall
  have m_wall := PySem.W.mg_of X G a_wall
  have b_wall := F_wall.binds (ps := ["k"]) fun _ _ _ _ _ _ us hl => match us, hl with | [_], _ => rfl
  have F_within := fun_mk (st := s_within) l_within c_within k_within
  have m_within := PySem.W.mg_of X G a_within
  have b_within := F_within.binds (ps := ["path", "row"]) fun _ _ _ _ _ _ us hl => match us, hl with | [_, _], _ => rfl
  have F_nodes := fun_mk (st := s_nodes) l_nodes c_nodes k_nodes
  have m_nodes := PySem.W.mg_of X G a_nodes
  have b_nodes := F_nodes.binds (ps := ["document"]) fun _ _ _ _ _ _ us hl => match us, hl with | [_], _ => rfl
  have F_count_nodes := fun_mk (st := s_count_nodes) l_count_nodes c_count_nodes k_count_nodes
  have m_count_nodes := PySem.W.mg_of X G a_count_nodes
  have b_count_nodes := F_count_nodes.binds (ps := ["document"]) fun _ _ _ _ _ _ us hl => match us, hl with | [_], _ => rfl
  have F_texts_of := fun_mk (st := s_texts_of) l_texts_of c_texts_of k_texts_of
  have m_texts_of := PySem.W.mg_of X G a_texts_of
  have b_texts_of := F_texts_of.binds (ps := ["document"]) fun _ _ _ _ _ _ us hl => match us, hl with | [_], _ => rfl
  have F_marked := fun_mk (st := s_marked) l_marked c_marked k_marked
  have m_marked := PySem.W.mg_of X G a_marked
  have b_marked := F_marked.binds (ps := ["document"]) fun _ _ _ _ _ _ us hl => match us, hl with | [_], _ => rfl
  have F_numbered := fun_mk (st := s_numbered) l_numbered c_numbered k_numbered
  have m_numbered := PySem.W.mg_of X G a_numbered
  have F_law_bag := fun_mk (st := s_law_bag) l_law_bag c_law_bag k_law_bag
  have m_law_bag := PySem.W.mg_of X G a_law_bag
  have b_law_bag := F_law_bag.binds (ps := ["_law_script"]) fun _ _ _ _ _ _ us hl => match us, hl with | [_], _ => rfl
  have F_law_take := fun_mk (st := s_law_take) l_law_take c_law_take k_law_take
  have m_law_take := PySem.W.mg_of X G a_law_take
  have b_law_take := F_law_take.binds (ps := ["_law_bag_z", "_law_many"]) fun _ _ _ _ _ _ us hl => match us, hl with | [_, _], _ => rfl
  have F_law_of := fun_mk (st := s_law_of) l_law_of c_law_of k_law_of
  have m_law_of := PySem.W.mg_of X G a_law_of
  have b_law_of := F_law_of.binds (ps := ["_law_bag_z", "_law_things"]) fun _ _ _ _ _ _ us hl => match us, hl with | [_, _], _ => rfl
  have F_law_words := fun_mk (st := s_law_words) l_law_words c_law_words k_law_words
  have m_law_words := PySem.W.mg_of X G a_law_words
  have b_law_words := F_law_words.binds (ps := ["_law_bag_z", "_law_many", "_law_most"]) fun _ _ _ _ _ _ us hl => match us, hl with | [_, _, _], _ => rfl
  have F_law_names := fun_mk (st := s_law_names) l_law_names c_law_names k_law_names
  have m_law_names := PySem.W.mg_of X G a_law_names
  have b_law_names := F_law_names.binds (ps := ["_law_bag_z"]) fun _ _ _ _ _ _ us hl => match us, hl with | [_], _ => rfl
  have F_law_sign_text := fun_mk (st := s_law_sign_text) l_law_sign_text c_law_sign_text k_law_sign_text
  have m_law_sign_text := PySem.W.mg_of X G a_law_sign_text
  have b_law_sign_text := F_law_sign_text.binds (ps := ["_law_bag_z", "_law_most"]) fun _ _ _ _ _ _ us hl => match us, hl with | [_, _], _ => rfl
  have F_law_nested := fun_mk (st := s_law_nested) l_law_nested c_law_nested k_law_nested
  have m_law_nested := PySem.W.mg_of X G a_law_nested
  have b_law_nested := F_law_nested.binds (ps := ["_law_state"]) fun _ _ _ _ _ _ us hl => match us, hl with | [_], _ => rfl
  have F_law_document := fun_mk (st := s_law_document) l_law_document c_law_document k_law_document
  have m_law_document := PySem.W.mg_of X G a_law_document
  have b_law_document := F_law_document.binds (ps := ["_law_bag_z", "_law_kinds", "_law_many"]) fun _ _ _ _ _ _ us hl => match us, hl with | [_, _, _], _ => rfl
  have F_law_flat := fun_mk (st := s_law_flat) l_law_flat c_law_flat k_law_flat
  have m_law_flat := PySem.W.mg_of X G a_law_flat
  have b_law_flat := F_law_flat.binds (ps := ["_law_document_z", "_law_state"]) fun _ _ _ _ _ _ us hl => match us, hl with | [_, _], _ => rfl
  have F_law_row := fun_mk (st := s_law_row) l_law_row c_law_row k_law_row
  have m_law_row := PySem.W.mg_of X G a_law_row
  have b_law_row := F_law_row.binds (ps := ["_law_document_z"]) fun _ _ _ _ _ _ us hl => match us, hl with | [_], _ => rfl
  have F_law_alike := fun_mk (st := s_law_alike) l_law_alike c_law_alike k_law_alike
  have m_law_alike := PySem.W.mg_of X G a_law_alike
  have b_law_alike := F_law_alike.binds (ps := ["_law_found", "_law_due"]) fun _ _ _ _ _ _ us hl => match us, hl with | [_, _], _ => rfl
  have F_law_marked := fun_mk (st := s_law_marked) l_law_marked c_law_marked k_law_marked
  have m_law_marked := PySem.W.mg_of X G a_law_marked
  have b_law_marked := F_law_marked.binds (ps := ["_law_document_z"]) fun _ _ _ _ _ _ us hl => match us, hl with | [_], _ => rfl
  have F_law_numerals := fun_mk (st := s_law_numerals) l_law_numerals c_law_numerals k_law_numerals
  have m_law_numerals := PySem.W.mg_of X G a_law_numerals
  have b_law_numerals := F_law_numerals.binds (ps := ["_law_many", "_law_barred"]) fun _ _ _ _ _ _ us hl => match us, hl with | [_, _], _ => rfl
  have F_law := fun_mk (st := s_law) l_law c_law k_law
  have m_law := PySem.W.mg_of X G a_law
  have b_law := F_law.binds (ps := ["_law_script"]) fun _ _ _ _ _ _ us hl => match us, hl with | [_], _ => rfl
  have cls_Row : Cls K C_Row := ⟨pg_Row, hd_Row, po_Row, sa_Row⟩
  have g_Row := PySem.W.mg_of X G aC_Row
  have cr_Row : ClX.CRead K C_Row (.type "type") := ⟨rd_Row, tg_Row⟩
  have F_Row_init := fun_mk (st := s_Row___init__) l_Row_init c_Row_init k_Row_init
  have b_Row_init := F_Row_init.binds (ps := ["self"]) fun _ _ _ _ _ _ us hl => match us, hl with | [_], _ => rfl
  have mk_Row_init : Mk K C_Row f_Row_init := ⟨mk_Row, at_Row_init, fi_Row_init, kc_Row⟩
  have F_Row_made_of := fun_mk (st := s_Row_made_of) l_Row_made_of c_Row_made_of k_Row_made_of
  have b_Row_made_of := F_Row_made_of.binds (ps := ["cls", "document"]) fun _ _ _ _ _ _ us hl => match us, hl with | [_, _], _ => rfl
  have cm_Row_made_of : ClX.CMet K C_Row (.type "type") "made_of" p_Row_made_of f_Row_made_of := ⟨at_Row_made_of, ⟨_, rc_Row_made_of⟩, fi_Row_made_of⟩
  have F_Row_added := fun_mk (st := s_Row_added) l_Row_added c_Row_added k_Row_added
  have b_Row_added := F_Row_added.binds (ps := ["self", "kind", "text", "origin"]) fun _ _ _ _ _ _ us hl => match us, hl with | [_, _, _, _], _ => rfl
  have me_Row_added : Meth K C_Row "added" f_Row_added := ⟨at_Row_added, fi_Row_added, k_Row_added⟩
  have F_Row_nested := fun_mk (st := s_Row_nested) l_Row_nested c_Row_nested k_Row_nested
  have b_Row_nested := F_Row_nested.binds (ps := ["self"]) fun _ _ _ _ _ _ us hl => match us, hl with | [_], _ => rfl
  have me_Row_nested : Meth K C_Row "nested" f_Row_nested := ⟨at_Row_nested, fi_Row_nested, k_Row_nested⟩
  have F_Row_rub := fun_mk (st := s_Row_rub) l_Row_rub c_Row_rub k_Row_rub
  have b_Row_rub := F_Row_rub.binds (ps := ["self", "numbers"]) fun _ _ _ _ _ _ us hl => match us, hl with | [_, _], _ => rfl
  have me_Row_rub : Meth K C_Row "rub" f_Row_rub := ⟨at_Row_rub, fi_Row_rub, k_Row_rub⟩
  have F_Row_part := fun_mk (st := s_Row_part) l_Row_part c_Row_part k_Row_part
  have b_Row_part := F_Row_part.binds (ps := ["self", "number"]) fun _ _ _ _ _ _ us hl => match us, hl with | [_, _], _ => rfl
  have me_Row_part : Meth K C_Row "part" f_Row_part := ⟨at_Row_part, fi_Row_part, k_Row_part⟩
  have F_Row_cut := fun_mk (st := s_Row_cut) l_Row_cut c_Row_cut k_Row_cut
  have b_Row_cut := F_Row_cut.binds (ps := ["self", "number"]) fun _ _ _ _ _ _ us hl => match us, hl with | [_, _], _ => rfl
  have me_Row_cut : Meth K C_Row "cut" f_Row_cut := ⟨at_Row_cut, fi_Row_cut, k_Row_cut⟩
  have F_Row_place := fun_mk (st := s_Row_place) l_Row_place c_Row_place k_Row_place
  have b_Row_place := F_Row_place.binds (ps := ["self", "word", "number"]) fun _ _ _ _ _ _ us hl => match us, hl with | [_, _, _], _ => rfl
  have me_Row_place : Meth K C_Row "place" f_Row_place := ⟨at_Row_place, fi_Row_place, k_Row_place⟩
  have F_Row_put_in := fun_mk (st := s_Row_put_in) l_Row_put_in c_Row_put_in k_Row_put_in
  have b_Row_put_in := F_Row_put_in.binds (ps := ["self", "at", "part"]) fun _ _ _ _ _ _ us hl => match us, hl with | [_, _, _], _ => rfl
  have me_Row_put_in : Meth K C_Row "put_in" f_Row_put_in := ⟨at_Row_put_in, fi_Row_put_in, k_Row_put_in⟩
  have F_Row_doubled := fun_mk (st := s_Row_doubled) l_Row_doubled c_Row_doubled k_Row_doubled
  have b_Row_doubled := F_Row_doubled.binds (ps := ["self", "part"]) fun _ _ _ _ _ _ us hl => match us, hl with | [_, _], _ => rfl
  have me_Row_doubled : Meth K C_Row "doubled" f_Row_doubled := ⟨at_Row_doubled, fi_Row_doubled, k_Row_doubled⟩
  refine ⟨PySem.W.fnOf "law" "law" (defArgs s_law) (defBody s_law) (defScope s_law) .none kV_law dc_law pm_law an_law cd_law ct_law, fun s v => .of_eq rfl, fun base _ _ => ?_⟩
  have rw_Row : RowC K mg C_Row := ⟨cls_Row, na_Row_marks, na_Row_kind_row, na_Row_text_row, na_Row_origin_row⟩
  have v_Row : Ob.MakV l.prog w K mg base 1 C_Row (spRowI C_Row) := ⟨_, _, _, mk_Row_init, ok_Row_init F_Row_init rw_Row, b_Row_init⟩
  have c_added : C8.Met l.prog w K mg base 1 C_Row "added" (spAdded C_Row) [] := ⟨_, _, _, [], cls_Row, me_Row_added, ok_Row_added F_Row_added T rw_Row, b_Row_added, .nil⟩
  have c_rnested : C8.Met l.prog w K mg base 1 C_Row "nested" (spRNested C_Row) [] := ⟨_, _, _, [], cls_Row, me_Row_nested, ok_Row_nested F_Row_nested T rw_Row, b_Row_nested, .nil⟩
  have c_made : Ob.CalM l.prog w K mg base 3 C_Row "made_of" (spMade C_Row) := ⟨_, _, _, _, cr_Row, cm_Row_made_of, ok_Row_made_of F_Row_made_of T rw_Row v_Row c_added, b_Row_made_of⟩
  have c_bag : Cal l.prog w K mg base 1 "_law_bag" (spBag K) := ⟨_, _, _, ok_law_bag F_law_bag T, m_law_bag, k_law_bag, b_law_bag⟩
  have c_take : Cal l.prog w K mg base 1 "_law_take" spTake := ⟨_, _, _, ok_law_take F_law_take T, m_law_take, k_law_take, b_law_take⟩
  have c_of : Cal l.prog w K mg base 2 "_law_of" (spOf K) := ⟨_, _, _, ok_law_of F_law_of T c_take, m_law_of, k_law_of, b_law_of⟩
  have c_words : Cal l.prog w K mg base 3 "_law_words" spWords := ⟨_, _, _, ok_law_words F_law_words T c_take c_of, m_law_words, k_law_words, b_law_words⟩
  have c_names : Cal l.prog w K mg base 4 "_law_names" spNames := ⟨_, _, _, ok_law_names F_law_names T c_take c_words, m_law_names, k_law_names, b_law_names⟩
  have c_sign_text : Cal l.prog w K mg base 2 "_law_sign_text" spSign := ⟨_, _, _, ok_law_sign_text F_law_sign_text T c_take, m_law_sign_text, k_law_sign_text, b_law_sign_text⟩
  have g_nested2 := ok_law_nested2 (P := l.prog) (w := w) (base := base) F_law_nested T
  have c_nested2 : Cal l.prog w K mg base 1 "_law_nested" spNest2 := ⟨_, _, _, g_nested2, m_law_nested, k_law_nested, b_law_nested⟩
  have c_nested : Cal l.prog w K mg base 1 "_law_nested" spNested := ⟨_, _, _, g_nested2.imp fun _ _ _ _ h => nest_weak h, m_law_nested, k_law_nested, b_law_nested⟩
  have c_document : Cal l.prog w K mg base 3 "_law_document" spDocument := ⟨_, _, _, ok_law_document F_law_document T c_take c_of c_sign_text c_nested, m_law_document, k_law_document, b_law_document⟩
  have c_within : Cal l.prog w K mg base 1 "within" spWithin := ⟨_, _, _, ok_within F_within T, m_within, k_within, b_within⟩
  have c_nodes : Gx.CalG l.prog w K mg base 3 "nodes" spNodes := ⟨_, _, _, ok_nodes F_nodes T c_within, m_nodes, k_nodes, b_nodes⟩
  have c_count : Cal l.prog w K mg base 5 "count_nodes" spCountN := ⟨_, _, _, ok_count_nodes F_count_nodes T c_nodes, m_count_nodes, k_count_nodes, b_count_nodes⟩
  have c_numbered : Ob.CalS l.prog w K mg base 4 "numbered" spNumbered := ⟨_, ok_numbered F_numbered T rw_Row g_Row c_made c_rnested, m_numbered, k_numbered⟩
  have g_marked := ok_marked (P := l.prog) (w := w) (base := base) F_marked T rw_Row g_Row c_made c_added c_rnested
  have c_marked : Cal l.prog w K mg base 4 "marked" (spMarked K) := ⟨_, _, _, g_marked, m_marked, k_marked, b_marked⟩
  have q_marked : CalK l.prog w K mg base 4 "marked" ["document"] (fun us ws => us ++ ws) (spMarked K) := ⟨_, _, _, _, g_marked, m_marked, k_marked, kb1 F_marked (fun _ _ _ _ _ _ _ => rfl) (fun _ _ _ _ _ _ _ => rfl)⟩
  have c_texts : Cal l.prog w K mg base 5 "texts_of" spTextsN := ⟨_, _, _, ok_texts_of F_texts_of T c_nodes, m_texts_of, k_texts_of, b_texts_of⟩
  have c_row : Cal l.prog w K mg base 15 "_law_row" (spLRow K 12) := ⟨_, _, _, ok_law_row F_law_row T (cal_flat F_law_flat T m_law_flat k_law_flat b_law_flat 12), m_law_row, k_law_row, b_law_row⟩
  have c_lmarked : Cal l.prog w K mg base 16 "_law_marked" (spLMarked K 12) := ⟨_, _, _, ok_law_marked F_law_marked T c_row c_nested2, m_law_marked, k_law_marked, b_law_marked⟩
  have c_numer : Cal l.prog w K mg base 1 "_law_numerals" spNumer := ⟨_, _, _, ok_law_numerals F_law_numerals T, m_law_numerals, k_law_numerals, b_law_numerals⟩
  exact ok_law F_law T c_bag c_take c_names c_document c_row c_nested2 (cal_alike F_law_alike T m_law_alike k_law_alike b_law_alike 30) c_lmarked c_numer c_marked q_marked c_numbered c_count c_texts
theorem walk {l : PySem.W.OpenLaw} {q : Program} {loose : List Str} {XP : (Str → Option Value) → Heap → Prop} {YP : World → Heap → Prop} {d : DefRec} {K : Params → PySem.W.Frag} (hn : l.most = some 63) (hdf : d.params.defaults = [])
    (hY : ∀ (w : World) (h : Heap), YP w h → (K w.params).In h)
    (F : ∀ (w : World) (mg : Str → Option Value) (fa : Addr) (h : Heap), (K w.params).In h → h.Ns mainGlobals mg → mg d.name = some (.ref fa) →
      ∃ fd : FuncData, (∀ (s : Shared) (u : Value), BindsTo s fd ⟨[u], []⟩ [("_law_script", u)]) ∧ ∀ base : Heap, (K w.params).In base → base.Ns mainGlobals mg → FnG l.prog w (K w.params) mg base 61 fa fd ["_law_script"] (spLaw (K w.params))) :
    PySem.W.WalkO q loose XP YP l.row.toRowW d [] (fun f vs => PySem.call f vs) :=
  Rg.walk_G0 (n := 63) (k := 61) (x := "_law_script") (sp := fun w => spLaw (K w.params)) hn (by decide) hdf ⟨rfl, by decide, by decide⟩ hY F fun w H a ns hl hS => ⟨a, ns, rfl, hS, hl, fun _ => rfl⟩
end Pf
open PySem PySem.W PyProof.Rows
set_option maxRecDepth 100000 in
set_option maxHeartbeats 0 in
theorem PySem.Challenge.cw_rubgrove_k05_documents_marked_and_number_holds : PySem.Challenge.rw_rubgrove_k05_documents_marked_and_number.Holds := by
  w_on; o_law; k_head; (case hw => w_witness2)
  k_fill
  refine Pf.walk (l := PySem.Challenge.rw_rubgrove_k05_documents_marked_and_number) rfl rfl (fun w h Y => PySem.W.kIn_of Y) ?F
  case F =>
    intro w mg fa h KX G hmg
    refine' Pf.all_mk KX G hmg ?a_wall ?l_wall ?c_wall ?k_wall ?a_within ?l_within ?c_within ?k_within ?a_nodes ?l_nodes ?c_nodes ?k_nodes ?a_count_nodes ?l_count_nodes ?c_count_nodes ?k_count_nodes ?a_texts_of ?l_texts_of ?c_texts_of ?k_texts_of ?a_marked ?l_marked ?c_marked ?k_marked ?a_numbered ?l_numbered ?c_numbered ?k_numbered ?a_law_bag ?l_law_bag ?c_law_bag ?k_law_bag ?a_law_take ?l_law_take ?c_law_take ?k_law_take ?a_law_of ?l_law_of ?c_law_of ?k_law_of ?a_law_words ?l_law_words ?c_law_words ?k_law_words ?a_law_names ?l_law_names ?c_law_names ?k_law_names ?a_law_sign_text ?l_law_sign_text ?c_law_sign_text ?k_law_sign_text ?a_law_nested ?l_law_nested ?c_law_nested ?k_law_nested ?a_law_document ?l_law_document ?c_law_document ?k_law_document ?a_law_flat ?l_law_flat ?c_law_flat ?k_law_flat ?a_law_row ?l_law_row ?c_law_row ?k_law_row ?a_law_alike ?l_law_alike ?c_law_alike ?k_law_alike ?a_law_marked ?l_law_marked ?c_law_marked ?k_law_marked ?a_law_numerals ?l_law_numerals ?c_law_numerals ?k_law_numerals ?a_law ?l_law ?c_law ?k_law ?aC_Row ?pg_Row ?hd_Row ?po_Row ?sa_Row ?mk_Row ?kc_Row ?na_Row_marks ?na_Row_kind_row ?na_Row_text_row ?na_Row_origin_row ?rd_Row ?tg_Row ?at_Row_init ?fi_Row_init ?l_Row_init ?c_Row_init ?k_Row_init ?at_Row_made_of ?rc_Row_made_of ?fi_Row_made_of ?l_Row_made_of ?c_Row_made_of ?k_Row_made_of ?at_Row_added ?fi_Row_added ?l_Row_added ?c_Row_added ?k_Row_added ?at_Row_nested ?fi_Row_nested ?l_Row_nested ?c_Row_nested ?k_Row_nested ?at_Row_rub ?fi_Row_rub ?l_Row_rub ?c_Row_rub ?k_Row_rub ?at_Row_part ?fi_Row_part ?l_Row_part ?c_Row_part ?k_Row_part ?at_Row_cut ?fi_Row_cut ?l_Row_cut ?c_Row_cut ?k_Row_cut ?at_Row_place ?fi_Row_place ?l_Row_place ?c_Row_place ?k_Row_place ?at_Row_put_in ?fi_Row_put_in ?l_Row_put_in ?c_Row_put_in ?k_Row_put_in ?at_Row_doubled ?fi_Row_doubled ?l_Row_doubled ?c_Row_doubled ?k_Row_doubled ?z_len ?z_int ?z_range ?z_isinstance ?z_all ?z_list ?z_tuple ?z_str ?z_sorted ?z_zip ?z_enumerate ?z_sum ?z_bool ?z_dict ?z_repr ?v_REST
    (case a_wall => k_is)
    (case l_wall => k_is)
    (case c_wall => k_is)
    (case k_wall => k_is)
    (case a_within => k_is)
    (case l_within => k_is)
    (case c_within => k_is)
    (case k_within => k_is)
    (case a_nodes => k_is)
    (case l_nodes => k_is)
    (case c_nodes => k_is)
    (case k_nodes => k_is)
    (case a_count_nodes => k_is)
    (case l_count_nodes => k_is)
    (case c_count_nodes => k_is)
    (case k_count_nodes => k_is)
    (case a_texts_of => k_is)
    (case l_texts_of => k_is)
    (case c_texts_of => k_is)
    (case k_texts_of => k_is)
    (case a_marked => k_is)
    (case l_marked => k_is)
    (case c_marked => k_is)
    (case k_marked => k_is)
    (case a_numbered => k_is)
    (case l_numbered => k_is)
    (case c_numbered => k_is)
    (case k_numbered => k_is)
    (case a_law_bag => k_is)
    (case l_law_bag => k_is)
    (case c_law_bag => k_is)
    (case k_law_bag => k_is)
    (case a_law_take => k_is)
    (case l_law_take => k_is)
    (case c_law_take => k_is)
    (case k_law_take => k_is)
    (case a_law_of => k_is)
    (case l_law_of => k_is)
    (case c_law_of => k_is)
    (case k_law_of => k_is)
    (case a_law_words => k_is)
    (case l_law_words => k_is)
    (case c_law_words => k_is)
    (case k_law_words => k_is)
    (case a_law_names => k_is)
    (case l_law_names => k_is)
    (case c_law_names => k_is)
    (case k_law_names => k_is)
    (case a_law_sign_text => k_is)
    (case l_law_sign_text => k_is)
    (case c_law_sign_text => k_is)
    (case k_law_sign_text => k_is)
    (case a_law_nested => k_is)
    (case l_law_nested => k_is)
    (case c_law_nested => k_is)
    (case k_law_nested => k_is)
    (case a_law_document => k_is)
    (case l_law_document => k_is)
    (case c_law_document => k_is)
    (case k_law_document => k_is)
    (case a_law_flat => k_is)
    (case l_law_flat => k_is)
    (case c_law_flat => k_is)
    (case k_law_flat => k_is)
    (case a_law_row => k_is)
    (case l_law_row => k_is)
    (case c_law_row => k_is)
    (case k_law_row => k_is)
    (case a_law_alike => k_is)
    (case l_law_alike => k_is)
    (case c_law_alike => k_is)
    (case k_law_alike => k_is)
    (case a_law_marked => k_is)
    (case l_law_marked => k_is)
    (case c_law_marked => k_is)
    (case k_law_marked => k_is)
    (case a_law_numerals => k_is)
    (case l_law_numerals => k_is)
    (case c_law_numerals => k_is)
    (case k_law_numerals => k_is)
    (case a_law => k_is)
    (case l_law => k_is)
    (case c_law => k_is)
    (case k_law => k_is)
    (case aC_Row => k_is)
    (case pg_Row => k_is)
    (case hd_Row => k_is)
    (case po_Row => k_is)
    (case sa_Row => k_is)
    (case mk_Row => first | k_is | exact rfl | decide +kernel)
    (case kc_Row => k_is)
    (case na_Row_marks => k_is)
    (case na_Row_kind_row => k_is)
    (case na_Row_text_row => k_is)
    (case na_Row_origin_row => k_is)
    (case rd_Row => first | k_is | exact rfl | decide +kernel)
    (case tg_Row => first | k_is | exact rfl | decide +kernel)
    (case at_Row_init => first | k_is | exact rfl | decide +kernel)
    (case fi_Row_init => first | k_is | exact rfl | decide +kernel)
    (case l_Row_init => k_is)
    (case c_Row_init => k_is)
    (case k_Row_init => k_is)
    (case at_Row_made_of => first | k_is | exact rfl | decide +kernel)
    (case rc_Row_made_of => first | k_is | exact rfl | decide +kernel)
    (case fi_Row_made_of => first | k_is | exact rfl | decide +kernel)
    (case l_Row_made_of => k_is)
    (case c_Row_made_of => k_is)
    (case k_Row_made_of => k_is)
    (case at_Row_added => first | k_is | exact rfl | decide +kernel)
    (case fi_Row_added => first | k_is | exact rfl | decide +kernel)
    (case l_Row_added => k_is)
    (case c_Row_added => k_is)
    (case k_Row_added => k_is)
    (case at_Row_nested => first | k_is | exact rfl | decide +kernel)
    (case fi_Row_nested => first | k_is | exact rfl | decide +kernel)
    (case l_Row_nested => k_is)
    (case c_Row_nested => k_is)
    (case k_Row_nested => k_is)
    (case at_Row_rub => first | k_is | exact rfl | decide +kernel)
    (case fi_Row_rub => first | k_is | exact rfl | decide +kernel)
    (case l_Row_rub => k_is)
    (case c_Row_rub => k_is)
    (case k_Row_rub => k_is)
    (case at_Row_part => first | k_is | exact rfl | decide +kernel)
    (case fi_Row_part => first | k_is | exact rfl | decide +kernel)
    (case l_Row_part => k_is)
    (case c_Row_part => k_is)
    (case k_Row_part => k_is)
    (case at_Row_cut => first | k_is | exact rfl | decide +kernel)
    (case fi_Row_cut => first | k_is | exact rfl | decide +kernel)
    (case l_Row_cut => k_is)
    (case c_Row_cut => k_is)
    (case k_Row_cut => k_is)
    (case at_Row_place => first | k_is | exact rfl | decide +kernel)
    (case fi_Row_place => first | k_is | exact rfl | decide +kernel)
    (case l_Row_place => k_is)
    (case c_Row_place => k_is)
    (case k_Row_place => k_is)
    (case at_Row_put_in => first | k_is | exact rfl | decide +kernel)
    (case fi_Row_put_in => first | k_is | exact rfl | decide +kernel)
    (case l_Row_put_in => k_is)
    (case c_Row_put_in => k_is)
    (case k_Row_put_in => k_is)
    (case at_Row_doubled => first | k_is | exact rfl | decide +kernel)
    (case fi_Row_doubled => first | k_is | exact rfl | decide +kernel)
    (case l_Row_doubled => k_is)
    (case c_Row_doubled => k_is)
    (case k_Row_doubled => k_is)
    (case z_len => k_is)
    (case z_int => k_is)
    (case z_range => k_is)
    (case z_isinstance => k_is)
    (case z_all => k_is)
    (case z_list => k_is)
    (case z_tuple => k_is)
    (case z_str => k_is)
    (case z_sorted => k_is)
    (case z_zip => k_is)
    (case z_enumerate => k_is)
    (case z_sum => k_is)
    (case z_bool => k_is)
    (case z_dict => k_is)
    (case z_repr => k_is)
    (case v_REST => k_is)


