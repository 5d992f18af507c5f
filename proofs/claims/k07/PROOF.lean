import PyProof.Rows.All
import Wide.All
import OpenK.AllK
import Wide.FinOn
import HandS.ForMost
import HandS.IsInst
import HandS.Zip
import HandS.TupAny
import HandS.Flow
import HandS.Style
import HandS.Codes
import HandS.Steps
import HandS.Wide
import HandS.Walk
import HandS.Star
import HandS.FStr
import PySem.Challenge.RW_rubgrove_k07_texts_of_documents
set_option Elab.async false
set_option linter.all false
set_option maxRecDepth 100000
set_option maxHeartbeats 4000000
namespace Rg
open PySem L2

/-! ### calls of own defs -/
structure Cal (P : Program) (w : World) (K : PySem.W.Frag) (mg : Str → Option Value) (base : Heap) (k : Nat) (x : Str) (sp : Sp) : Prop where
  ex : ∃ (f : Addr) (fd : FuncData) (ps : List Str), FnOk P w K mg base CX0 k f fd ps sp ∧ mg x = some (.ref f) ∧ PySem.W.keepIn K (.ref f) = true ∧ Binds K fd ps []
structure CalK (P : Program) (w : World) (K : PySem.W.Frag) (mg : Str → Option Value) (base : Heap) (k : Nat) (x : Str) (ks : List Str) (gV : List V → List V → List V) (sp : Sp) : Prop where
  ex : ∃ (f : Addr) (fd : FuncData) (ps : List Str) (g : List Value → List Value → List Value), FnOk P w K mg base CX0 k f fd ps sp ∧ mg x = some (.ref f) ∧ PySem.W.keepIn K (.ref f) = true ∧ KBinds K fd ps ks g gV
def tCC (sp : Sp) (t : TA) : TE := fun σ H Q => t σ H fun vs H1 => sp vs H1 Q E0
def tCK (sp : Sp) (gV : List V → List V → List V) (t tk : TA) : TE := fun σ H Q => t σ H fun vs H1 => tk σ H1 fun zs H2 => sp (gV vs zs) H2 Q E0
section
variable {X : Cx} {k j : Nat} {x : Str} {sp : Sp} {p pos : Pos} {e : Expr} {es : List Expr} {t tk : TA} {ks : List Str} {gV : List V → List V → List V} {kws : List Keyword}
theorem pe_c (c : Cal X.prog X.w X.K X.mg X.base k x sp) (hr : Room j X.A) (hk : k ≤ j) (hg : Gl X x) (ha : PA X (e :: es) t) (hdb : (x == ("__debug__" : Str)) = false := by decide)
    (he : starEach (e :: es) X.env = (false, eval e X.env) :: starEach es X.env := by rfl) (hpl : (backTo pos (starEach es X.env)).any (·.1) = false := by rfl) : PE X (.Call (.Name x p) (e :: es) [] pos) (tCC sp t) := by
  obtain ⟨f, fd, ps, F, hm, hkp, hb⟩ := c.ex
  refine ⟨fun pins s σ H Q I h => ?_⟩
  refine (pe_call (dvs := []) (ds := []) F (hr.mono hk) hg hm hkp hb .nil pass0 ha hdb he hpl).run pins s σ H Q I ?_
  have e0 : (fun (vs : List V) (H1 : Hp) => sp (vs ++ []) H1 Q E0) = fun vs H1 => sp vs H1 Q E0 := by
    funext vs H1
    rw [List.append_nil]
  show t σ H (fun vs H1 => sp (vs ++ []) H1 Q E0)
  rw [e0]
  exact h
theorem pe_c0 (c : Cal X.prog X.w X.K X.mg X.base k x sp) (hr : Room j X.A) (hk : k ≤ j) (hg : Gl X x) (hdb : (x == ("__debug__" : Str)) = false := by decide) : PE X (.Call (.Name x p) [] [] pos) (tCC sp tNil) := by
  obtain ⟨f, fd, ps, F, hm, hkp, hb⟩ := c.ex
  refine ⟨fun pins s σ H Q I h => ?_⟩
  exact (pe_call0 (dvs := []) (ds := []) F (hr.mono hk) hg hm hkp hb .nil pass0 hdb).run pins s σ H Q I h
theorem pe_cK (c : CalK X.prog X.w X.K X.mg X.base k x ks gV sp) (hr : Room j X.A) (hk : k ≤ j) (hg : Gl X x) (ha : PA X (e :: es) t) (hkw : PK X kws tk) (hall : (backToKw pos (keywordEach kws X.env)).all (·.1.isSome) = true := by rfl) (hks : (backToKw pos (keywordEach kws X.env)).filterMap (·.1) = ks := by rfl)
    (hdb : (x == ("__debug__" : Str)) = false := by decide) (he : starEach (e :: es) X.env = (false, eval e X.env) :: starEach es X.env := by rfl)
    (hpl : ((backTo pos (starEach (e :: es) X.env)).any (·.1) || (backToKw pos (keywordEach kws X.env)).any (·.1.isNone)) = false := by rfl) : PE X (.Call (.Name x p) (e :: es) kws pos) (tCK sp gV t tk) := by
  obtain ⟨f, fd, ps, g, F, hm, hkp, hb⟩ := c.ex
  refine ⟨fun pins s σ H Q I h => ?_⟩
  exact (pe_callK F (hr.mono hk) hg hm hkp hb pass0 ha hkw hall hks hdb he hpl).run pins s σ H Q I h
theorem pe_cK0 (c : CalK X.prog X.w X.K X.mg X.base k x ks gV sp) (hr : Room j X.A) (hk : k ≤ j) (hg : Gl X x) (hkw : PK X kws tk) (hall : (backToKw pos (keywordEach kws X.env)).all (·.1.isSome) = true := by rfl) (hks : (backToKw pos (keywordEach kws X.env)).filterMap (·.1) = ks := by rfl)
    (hdb : (x == ("__debug__" : Str)) = false := by decide)
    (hpl : ((backTo pos (starEach [] X.env)).any (·.1) || (backToKw pos (keywordEach kws X.env)).any (·.1.isNone)) = false := by rfl) : PE X (.Call (.Name x p) [] kws pos) (tCK sp gV tNil tk) := by
  obtain ⟨f, fd, ps, g, F, hm, hkp, hb⟩ := c.ex
  refine ⟨fun pins s σ H Q I h => ?_⟩
  refine wpAny_Call_Name_kw (ld_glob I hg hm ?_ hdb)
  refine PySem.W.callWith_KW0 (h₀ := X.base) I.ok.mod.kin hkp hall ?_ hpl
  refine thn (hkw.run pos pins s σ H _ I h) fun ws s2 ⟨zs, H2, I2, rz, q2⟩ => ⟨I2.kIn, ?_⟩
  rw [hks]
  exact run_fnk (us := []) (vs := []) F (hr.mono hk) hb pass0 I2 .nil rz q2
theorem pe_gc {v : V} (hg : Gl X x) (h : ∃ u, X.mg x = some u ∧ RelV v u) (hd : (x == ("__debug__" : Str)) = false := by decide) : PE X (.Name x pos) (tC v) := by
  obtain ⟨u, hm, r⟩ := h
  exact pe_glob hg hm r hd
end

/-! ### operators for several kinds of values -/
def rMulS : R2 := fun x y H Q => ∃ (z : Str) (n : Int), x = .str z ∧ y = .int n ∧ z.length ≤ 1000 ∧ 0 ≤ n ∧ n ≤ 1000 ∧ Q (.str (Txt.mul z n)) H
theorem mulOk {z : Str} {n : Int} (h1 : z.length ≤ 1000) (h2 : 0 ≤ n) (h3 : n ≤ 1000) : MulOk z n := by
  refine ⟨?_, fun hn _ h => ?_, fun hn _ => ?_⟩
  · rw [decide_eq_false (by omega), decide_eq_false (by omega)]
    rfl
  · have h5 : (z.length : Int) * n ≤ 1000 * 1000 := by
      have a := Int.mul_le_mul (show (z.length : Int) ≤ 1000 by omega) h3 h2 (by omega)
      exact a
    have h6 : (z.length : Int) ≤ (2 ^ 63 - 1) / n := by
      rw [Int.le_ediv_iff_mul_le (by omega)]
      omega
    omega
  · have h5 : z.length * n.toNat ≤ 1000 * 1000 := Nat.mul_le_mul h1 (by omega)
    show decide (z.length * n.toNat > sizeLine) = false
    rw [decide_eq_false (by rw [sizeLine_eq]; omega)]
section
variable {X : Cx} {k : Nat}
theorem op_mulS : OpR X (binaryOp .Mult) rMulS := by
  intro pins s σ H x y v u Q I rx ry h
  obtain ⟨z, n, rfl, rfl, h1, h2, h3, q⟩ := h
  obtain ⟨t, rfl⟩ := rx
  obtain ⟨t', rfl⟩ := ry
  exact SB.mul (mulOk h1 h2 h3) fun t' k => ⟨.str _, H, I.tok _, ⟨_, rfl⟩, q⟩
def rMulX : R2 := fun x y H Q => rI CMul (fun i j => .int (i * j)) x y H Q ∨ rMulS x y H Q
theorem op_mulX : OpR X (binaryOp .Mult) rMulX := OpR.or op_mul op_mulS
def rAddS : R2 := fun x y H Q => ∃ i j, x = .str i ∧ y = .str j ∧ i.length + j.length ≤ sizeLine ∧ Q (.str (i ++ j)) H
def rAddX (K : PySem.W.Frag) : R2 := fun x y H Q => rI0 (fun i j => .int (i + j)) x y H Q ∨ rAddS x y H Q ∨ rCat x y H Q ∨ rCatA K x y H Q
theorem op_addX (K : PySem.W.Frag) (hK : X.K = K := by rfl) : OpR X (binaryOp .Add) (rAddX K) := by subst hK; exact OpR.or op_add (OpR.or op_add_str (OpR.or op_cat op_catA))
def rEqX (K : PySem.W.Frag) : R2 := fun x y H Q => rEq x y H Q ∨ rEqD K x y H Q
theorem op_eqX (K : PySem.W.Frag) (hr : Room k X.A) (hK : X.K = K := by rfl) : OpR X (compareOp .Eq) (rEqX K) := by subst hK; exact OpR.or op_eq (op_eqD hr.units)
def rNeX (K : PySem.W.Frag) : R2 := fun x y H Q => rNe x y H Q ∨ rNeD K x y H Q
theorem op_neX (K : PySem.W.Frag) (hr : Room k X.A) (hK : X.K = K := by rfl) : OpR X (compareOp .NotEq) (rNeX K) := by subst hK; exact OpR.or op_ne (op_neD hr.units)
def rInX (K : PySem.W.Frag) : R2 := fun x y H Q => rInS x y H Q ∨ rIn K false x y H Q
theorem op_inX (K : PySem.W.Frag) (hK : X.K = K := by rfl) : OpR X (compareOp .In) (rInX K) := by subst hK; exact OpR.or op_inS op_in_seq
def rNinX (K : PySem.W.Frag) : R2 := fun x y H Q => rNotInS x y H Q ∨ rIn K true x y H Q
theorem op_ninX (K : PySem.W.Frag) (hK : X.K = K := by rfl) : OpR X (compareOp .NotIn) (rNinX K) := by subst hK; exact OpR.or op_notInS op_notIn_seq
def rSlX (K : PySem.W.Frag) : V → Option Int → Option Int → Hp → VK → Prop := fun x lo hi H Q => rSlL K x lo hi H Q ∨ rSlS x lo hi H Q ∨ rSlA K x lo hi H Q
theorem sl_X (K : PySem.W.Frag) (hK : X.K = K := by rfl) : SlR X (rSlX K) := by subst hK; exact SlR.or sl_list (SlR.or sl_str sl_tupA)
theorem ix_X (K : PySem.W.Frag) (hK : X.K = K := by rfl) : IxR X (rIx K) := by subst hK; exact ix_seq
def rLenX (K : PySem.W.Frag) : List V → Hp → VK → Prop := fun xs H Q => ∃ x n, xs = [x] ∧ LenV K x H n ∧ Q (.int n) H
theorem call_lenX (K : PySem.W.Frag) (hK : X.K = K := by rfl) : CallR X (.builtin "len") (rLenX K) := by subst hK; exact call_len
def rLeStr : R2 := fun x y H Q => ∃ i j, x = .str i ∧ y = .str j ∧ Q (.bl (!decide (j.cps.toList < i.cps.toList))) H
def rLeX : R2 := fun x y H Q => rI0 (fun i j => .bl (decide (i ≤ j))) x y H Q ∨ rLeStr x y H Q
theorem op_leX : OpR X (compareOp .LtE) rLeX := OpR.or op_le op_le_str
def rListOf (K : PySem.W.Frag) : List V → Hp → VK → Prop := fun xs H Q => ∃ p ys, xs = [.ref p] ∧ (SqL K H p ys ∨ SqT K H p ys) ∧ ∀ l, H l = none → Q (.ref l) (upd H l (.lst ys))
theorem cr_list (K : PySem.W.Frag) (hK : X.K = K := by rfl) : CallR X (.type "list") (rListOf K) := by subst hK; exact call_list_of
def rTupOf (K : PySem.W.Frag) : List V → Hp → VK → Prop := fun xs H Q => ∃ p ys, xs = [.ref p] ∧ ((SqL K H p ys ∧ ∀ l, H l = none → Q (.ref l) (upd H l (.tup ys))) ∨ (SqT K H p ys ∧ Q (.ref p) H))
theorem cr_tuple (K : PySem.W.Frag) (hK : X.K = K := by rfl) : CallR X (.type "tuple") (rTupOf K) := by subst hK; exact call_tuple_of
theorem cr_allX (K : PySem.W.Frag) (hc : X.calm = true) (hK : X.K = K := by rfl) : CallR X (.builtin "all") (rAll K) := by subst hK; exact cr_all hc
theorem cr_anyX (K : PySem.W.Frag) (hc : X.calm = true) (hK : X.K = K := by rfl) : CallR X (.builtin "any") (rAny K) := by subst hK; exact cr_any hc
theorem cr_sumX (K : PySem.W.Frag) (hc : X.calm = true) (hK : X.K = K := by rfl) : CallR X (.builtin "sum") (rSum K) := by subst hK; exact cr_sum hc
theorem cr_sortedX (K : PySem.W.Frag) (hK : X.K = K := by rfl) : CallR X (.builtin "sorted") (rSortedS K) := by subst hK; exact cr_sortedS
theorem cr_isi (K : PySem.W.Frag) (hK : X.K = K := by rfl) : CallR X (.builtin "isinstance") (rIsi K) := by subst hK; exact call_isi
theorem cr_isiT (K : PySem.W.Frag) (hK : X.K = K := by rfl) : CallR X (.builtin "isinstance") (rIsiT K) := by subst hK; exact call_isiT
theorem pi_listX (K : PySem.W.Frag) {tg l : Expr} {tl : TE} (hl : PE X l tl) (hK : X.K = K := by rfl) : PI X tg l (iList K tl) := by subst hK; exact pi_list hl
theorem pi_zipX (K : PySem.W.Frag) {tg e : Expr} {ta : TA} (h : PI X tg e (RZ.iZipA X.K ta)) (hK : X.K = K := by rfl) : PI X tg e (RZ.iZipA K ta) := by subst hK; exact h
theorem pi_tupX (K : PySem.W.Frag) {tg l : Expr} {tl : TE} (hl : PE X l tl) (hK : X.K = K := by rfl) : PI X tg l (iTup K tl) := by subst hK; exact pi_tup hl
theorem pg_tupX (K : PySem.W.Frag) {es : List Expr} {kk : Nat} {pos : Pos} {n : Nat} {t : TGs} (h : PG X (.Tuple es kk pos) (gTup X.K n t)) (hK : X.K = K := by rfl) : PG X (.Tuple es kk pos) (gTup K n t) := by subst hK; exact h
theorem pe_bmX (K : PySem.W.Frag) {e : Expr} {T : String} {r : V → List V → Hp → VK → Prop} {to : TE} {t : TA} (h : PE X e (tBM X.K T r to t)) (hK : X.K = K := by rfl) : PE X e (tBM K T r to t) := by subst hK; exact h
theorem pe_bm0X (K : PySem.W.Frag) {e : Expr} {T : String} {r : V → List V → Hp → VK → Prop} {to : TE} (h : PE X e (tBM0 X.K T r to)) (hK : X.K = K := by rfl) : PE X e (tBM0 K T r to) := by subst hK; exact h
theorem pe_fldX (K : PySem.W.Frag) {e : Expr} {f : Str} {ta : TE} (h : PE X e (tFld X.K ta f)) (hK : X.K = K := by rfl) : PE X e (tFld K ta f) := by subst hK; exact h
def rIntX : List V → Hp → VK → Prop := fun xs H Q => (∃ i, xs = [.int i] ∧ Q (.int i) H) ∨ ∃ k, xs = [.bl k] ∧ Q (.int (if k then 1 else 0)) H
theorem cr_int : CallR X (.type "int") rIntX := call_int1
def rIsNn : R2 := fun x y H Q => y = .non ∧ Q (.bl (decide (x = .non))) H
theorem op_isNn : OpR X (compareOp .Is) rIsNn := op_isN
def rNotNn : R2 := fun x y H Q => y = .non ∧ Q (.bl (!decide (x = .non))) H
theorem op_notNn : OpR X (compareOp .IsNot) rNotNn := op_notN
def rJoin (K : PySem.W.Frag) : V → List V → Hp → VK → Prop := fun x xs H Q => ∃ a p, ∃ ys : List Str, x = .str a ∧ xs = [.ref p] ∧ (SqL K H p (ys.map V.str) ∨ SqT K H p (ys.map V.str)) ∧ (ys.map (·.length)).sum + ys.length * a.length ≤ 16777216 ∧ Q (.str (Txt.join a ys)) H
theorem pe_joinX (K : PySem.W.Frag) {o e : Expr} {to te : TE} {apos pos : Pos} (ho : PE X o to) (he : PE X e te) (hK : X.K = K := by rfl) (hs : starEach [e] X.env = [(false, eval e X.env)] := by rfl) (hbase : attributeBase o "join" X.env (eval o X.env) = eval o X.env := by rfl) (hline : (apos.endLine == pos.line) = true := by rfl) :
    PE X (.Call (.Attribute o "join" apos) [e] [] pos) (tM1 (rJoin K) to te) := by subst hK; exact pe_join ho he hs hbase hline
end

/-! ### the readings, a step each -/
section
variable {K : PySem.W.Frag} {σ : St} {H : Hp} {Q : VK} {QT : Bool → Hp → Prop} {QA : List V → Hp → Prop} {QO : Option Int → Hp → Prop} {QS : St → Hp → Prop} {D : Ends}
variable {te ta tb tc : TE} {tt tu : TT} {t u : TS} {aa ab : TA} {g : TG} {gs : TGs} {r r' : R2} {v x y z : V} {i j n m : Int} {b c : Bool} {vs ws : List V} {a p q : Addr} {xs ys : List V} {s1 s2 : Str} {wi : TI} {to tp : TO}
theorem var {k : Nat} (h : σ[k]? = some (some v)) (q : Q v H) : tVar k σ H Q := ⟨v, h, q⟩
theorem cst (q : Q v H) : tC v σ H Q := q
theorem op (q : ta σ H fun x H1 => tb σ H1 fun y H2 => r x y H2 Q) : tOp r ta tb σ H Q := q
theorem un {f : V → Hp → VK → Prop} (q : ta σ H fun x H1 => f x H1 Q) : tUn f ta σ H Q := q
theorem chain (q : ta σ H fun x H1 => tb σ H1 fun y H2 => r x y H2 fun z H3 => ∃ k, z = .bl k ∧ (if k = true then tc σ H3 fun w' H4 => r' y w' H4 Q else Q (.bl false) H3)) : tChain r r' ta tb tc σ H Q := q
theorem exbl {P : Bool → Prop} (q : P b) : ∃ k, V.bl b = .bl k ∧ P k := ⟨b, rfl, q⟩
theorem iI0 {f : Int → Int → V} (q : Q (f i j) H) : rI0 f (.int i) (.int j) H Q := ⟨i, j, rfl, rfl, q⟩
theorem iI {C : Int → Int → Prop} {f : Int → Int → V} (h : C i j) (q : Q (f i j) H) : rI C f (.int i) (.int j) H Q := ⟨i, j, rfl, rfl, h, q⟩
theorem iU {f : Int → V} (q : Q (f i) H) : rU f (.int i) H Q := ⟨i, rfl, q⟩
theorem eqI (q : Q (.bl (decide (i = j))) H) : rEqX K (.int i) (.int j) H Q := .inl ⟨rfl, by rw [show decide (V.int i = V.int j) = decide (i = j) from decide_eq_decide.mpr ⟨V.int.inj, congrArg _⟩]; exact q⟩
theorem neI (q : Q (.bl (!decide (i = j))) H) : rNeX K (.int i) (.int j) H Q := .inl ⟨rfl, by rw [show decide (V.int i = V.int j) = decide (i = j) from decide_eq_decide.mpr ⟨V.int.inj, congrArg _⟩]; exact q⟩
theorem eqStr (q : Q (.bl (decide (s1 = s2))) H) : rEqX K (.str s1) (.str s2) H Q := .inl ⟨rfl, by rw [show decide (V.str s1 = V.str s2) = decide (s1 = s2) from decide_eq_decide.mpr ⟨V.str.inj, congrArg _⟩]; exact q⟩
theorem neStr (q : Q (.bl (!decide (s1 = s2))) H) : rNeX K (.str s1) (.str s2) H Q := .inl ⟨rfl, by rw [show decide (V.str s1 = V.str s2) = decide (s1 = s2) from decide_eq_decide.mpr ⟨V.str.inj, congrArg _⟩]; exact q⟩
theorem eqB (q : Q (.bl (decide (b = c))) H) : rEqX K (.bl b) (.bl c) H Q := .inl ⟨rfl, by rw [show decide (V.bl b = V.bl c) = decide (b = c) from decide_eq_decide.mpr ⟨V.bl.inj, congrArg _⟩]; exact q⟩
theorem neB (q : Q (.bl (!decide (b = c))) H) : rNeX K (.bl b) (.bl c) H Q := .inl ⟨rfl, by rw [show decide (V.bl b = V.bl c) = decide (b = c) from decide_eq_decide.mpr ⟨V.bl.inj, congrArg _⟩]; exact q⟩
theorem cut (Mid : St → Hp → Prop) (q : t { nx := Mid, rt := D.rt, bk := D.bk, ct := D.ct } σ H) (k : ∀ σ' H', Mid σ' H' → u D σ' H') : C8.tCut t u D σ H := ⟨Mid, q, k⟩
theorem iteD {A B : Prop} {p : Prop} [Decidable p] (h1 : p → A) (h2 : ¬ p → B) : if decide p = true then A else B := ite2 (fun h => h1 (of_decide_eq_true h)) (fun h => h2 fun z => h (decide_eq_true z))
theorem iteN {A B : Prop} {p : Prop} [Decidable p] (h1 : ¬ p → A) (h2 : p → B) : if (!decide p) = true then A else B := by
  by_cases h : p
  · rw [decide_eq_true h]
    exact iteF (h2 h)
  · rw [decide_eq_false h]
    exact iteT (h1 h)
theorem eqS (h : scal x y = true) (q : Q (.bl (decide (x = y))) H) : rEqX K x y H Q := .inl ⟨h, q⟩
theorem neS (h : scal x y = true) (q : Q (.bl (!decide (x = y))) H) : rNeX K x y H Q := .inl ⟨h, q⟩
theorem eqDd {d e : PyData} (h1 : Dp K H x d) (h2 : Dp K H y e) (s1 : SeqAt.shaped d = true) (s2 : SeqAt.shaped e = true) (q : Q (.bl (PyData.eqv d e)) H) : rEqX K x y H Q := .inr ⟨d, e, h1, h2, s1, s2, q⟩
theorem neDd {d e : PyData} (h1 : Dp K H x d) (h2 : Dp K H y e) (s1 : SeqAt.shaped d = true) (s2 : SeqAt.shaped e = true) (q : Q (.bl (!PyData.eqv d e)) H) : rNeX K x y H Q := .inr ⟨d, e, h1, h2, s1, s2, q⟩
theorem addI (q : Q (.int (i + j)) H) : rAddX K (.int i) (.int j) H Q := .inl ⟨i, j, rfl, rfl, q⟩
theorem addS (h : s1.length + s2.length ≤ sizeLine) (q : Q (.str (s1 ++ s2)) H) : rAddX K (.str s1) (.str s2) H Q := .inr (.inl ⟨s1, s2, rfl, rfl, h, q⟩)
theorem addL (h1 : H a = some (.lst xs)) (h2 : H p = some (.lst ys)) (h : xs.length + ys.length ≤ sizeLine) (q : ∀ l, H l = none → Q (.ref l) (upd H l (.lst (xs ++ ys)))) : rAddX K (.ref a) (.ref p) H Q := .inr (.inr (.inl ⟨a, p, xs, ys, rfl, rfl, h1, h2, h, q⟩))
theorem mulI (h : CMul i j) (q : Q (.int (i * j)) H) : rMulX (.int i) (.int j) H Q := .inl ⟨i, j, rfl, rfl, h, q⟩
theorem mulS (h1 : s1.length ≤ 1000) (h2 : 0 ≤ n) (h3 : n ≤ 1000) (q : Q (.str (Txt.mul s1 n)) H) : rMulX (.str s1) (.int n) H Q := .inr ⟨s1, n, rfl, rfl, h1, h2, h3, q⟩
theorem leI (q : Q (.bl (decide (i ≤ j))) H) : rLeX (.int i) (.int j) H Q := .inl ⟨i, j, rfl, rfl, q⟩
theorem leS (q : Q (.bl (!decide (s2.cps.toList < s1.cps.toList))) H) : rLeX (.str s1) (.str s2) H Q := .inr ⟨s1, s2, rfl, rfl, q⟩
theorem inS {k : Nat} (q : Q (.bl (decide (k ∈ s2.cps.toList))) H) : rInX K (.str ⟨#[k]⟩) (.str s2) H Q := .inl ⟨k, s2, rfl, rfl, q⟩
theorem ninS {k : Nat} (q : Q (.bl (!decide (k ∈ s2.cps.toList))) H) : rNinX K (.str ⟨#[k]⟩) (.str s2) H Q := .inl ⟨k, s2, rfl, rfl, q⟩
theorem inSeq (h : SqL K H p xs ∨ SqT K H p xs) (h1 : flatV x = true) (h2 : xs.all flatV = true) (q : Q (.bl (inV x xs)) H) : rInX K x (.ref p) H Q := .inr ⟨p, xs, rfl, h, h1, h2, q⟩
theorem ninSeq (h : SqL K H p xs ∨ SqT K H p xs) (h1 : flatV x = true) (h2 : xs.all flatV = true) (q : Q (.bl (!inV x xs)) H) : rNinX K x (.ref p) H Q := .inr ⟨p, xs, rfl, h, h1, h2, q⟩
theorem isN_int (q : Q (.bl false) H) : rIsNn (.int i) .non H Q := ⟨rfl, q⟩
theorem notN_int (q : Q (.bl true) H) : rNotNn (.int i) .non H Q := ⟨rfl, q⟩
theorem isN_str (q : Q (.bl false) H) : rIsNn (.str s1) .non H Q := ⟨rfl, q⟩
theorem notN_str (q : Q (.bl true) H) : rNotNn (.str s1) .non H Q := ⟨rfl, q⟩
theorem isN_bl (q : Q (.bl false) H) : rIsNn (.bl b) .non H Q := ⟨rfl, q⟩
theorem notN_bl (q : Q (.bl true) H) : rNotNn (.bl b) .non H Q := ⟨rfl, q⟩
theorem isN_ref (q : Q (.bl false) H) : rIsNn (.ref a) .non H Q := ⟨rfl, q⟩
theorem notN_ref (q : Q (.bl true) H) : rNotNn (.ref a) .non H Q := ⟨rfl, q⟩
theorem isN_non (q : Q (.bl true) H) : rIsNn .non .non H Q := ⟨rfl, q⟩
theorem notN_non (q : Q (.bl false) H) : rNotNn .non .non H Q := ⟨rfl, q⟩
theorem eqB_truetrue (q : Q (.bl true) H) : rEqX K (.bl true) (.bl true) H Q := .inl ⟨rfl, q⟩
theorem neB_truetrue (q : Q (.bl false) H) : rNeX K (.bl true) (.bl true) H Q := .inl ⟨rfl, q⟩
theorem eqB_truefalse (q : Q (.bl false) H) : rEqX K (.bl true) (.bl false) H Q := .inl ⟨rfl, q⟩
theorem neB_truefalse (q : Q (.bl true) H) : rNeX K (.bl true) (.bl false) H Q := .inl ⟨rfl, q⟩
theorem eqB_falsetrue (q : Q (.bl false) H) : rEqX K (.bl false) (.bl true) H Q := .inl ⟨rfl, q⟩
theorem neB_falsetrue (q : Q (.bl true) H) : rNeX K (.bl false) (.bl true) H Q := .inl ⟨rfl, q⟩
theorem eqB_falsefalse (q : Q (.bl true) H) : rEqX K (.bl false) (.bl false) H Q := .inl ⟨rfl, q⟩
theorem neB_falsefalse (q : Q (.bl false) H) : rNeX K (.bl false) (.bl false) H Q := .inl ⟨rfl, q⟩
theorem isN (q : Q (.bl (decide (x = .non))) H) : rIsNn x .non H Q := ⟨rfl, q⟩
theorem notN (q : Q (.bl (!decide (x = .non))) H) : rNotNn x .non H Q := ⟨rfl, q⟩
theorem ixL (h : SqL K H p xs) (h1 : atI xs i = some v) (q : Q v H) : rIx K (.ref p) (.int i) H Q := .inl ⟨p, xs, i, v, rfl, rfl, h, h1, q⟩
theorem ixT (h : SqT K H p xs) (h1 : atI xs i = some v) (q : Q v H) : rIx K (.ref p) (.int i) H Q := .inr (.inl ⟨p, xs, i, v, rfl, rfl, h, h1, q⟩)
theorem ixS {k : Nat} (h : s1.length ≤ sizeLine) (h1 : atI s1.cps.toList i = some k) (q : Q (.str ⟨#[k]⟩) H) : rIx K (.str s1) (.int i) H Q := .inr (.inr ⟨s1, i, k, rfl, rfl, h, h1, q⟩)
theorem slS {lo hi : Option Int} (h : s1.length ≤ sizeLine) (q : Q (.str (cutS s1 lo hi)) H) : rSlX K (.str s1) lo hi H Q := .inr (.inl ⟨s1, rfl, h, q⟩)
theorem slL {lo hi : Option Int} (h : SqL K H a xs) (q : ∀ l, H l = none → Q (.ref l) (upd H l (.lst (cutV xs lo hi)))) : rSlX K (.ref a) lo hi H Q := .inl ⟨a, xs, rfl, h, q⟩
theorem slT {lo hi : Option Int} (h : SqT K H a xs) (q1 : HT.sIx xs.length 0 lo = 0 ∧ HT.sIx xs.length xs.length hi = xs.length → Q (.ref a) H) (q2 : ¬ (HT.sIx xs.length 0 lo = 0 ∧ HT.sIx xs.length xs.length hi = xs.length) → ∀ l, H l = none → Q (.ref l) (upd H l (.tup (cutV xs lo hi)))) :
    rSlX K (.ref a) lo hi H Q := .inr (.inr ⟨a, xs, rfl, h, q1, q2⟩)
theorem sl {f : V → Option Int → Option Int → Hp → VK → Prop} (q : te σ H fun x H1 => to σ H1 fun l H2 => tp σ H2 fun u H3 => f x l u H3 Q) : tSl f te to tp σ H Q := q
theorem noPart (q : QO none H) : tNoPart σ H QO := q
theorem part (q : te σ H fun x H1 => ∃ i, x = .int i ∧ QO (some i) H1) : tPart te σ H QO := q
theorem exint {P : Int → Prop} (q : P i) : ∃ k, V.int i = .int k ∧ P k := ⟨i, rfl, q⟩
theorem test (q : te σ H fun x H' => ∃ k, x = .bl k ∧ QT k H') : tTest te σ H QT := q
theorem tb_ (q : te σ H fun x H' => ∃ k, x = .bl k ∧ QT k H') : tB te σ H QT := q
theorem tand (q : tt σ H fun c H1 => if c = true then tu σ H1 QT else QT false H1) : tAnd tt tu σ H QT := q
theorem tor (q : tt σ H fun c H1 => if c = true then QT true H1 else tu σ H1 QT) : tOr tt tu σ H QT := q
theorem tnot (q : tt σ H fun c H1 => QT (!c) H1) : tNot tt σ H QT := q
theorem andV (q : ta σ H fun x H1 => ∃ c, x = .bl c ∧ if c = true then tb σ H1 Q else Q (.bl false) H1) : tAndV ta tb σ H Q := q
theorem orV (q : ta σ H fun x H1 => ∃ c, x = .bl c ∧ if c = true then Q (.bl true) H1 else tb σ H1 Q) : tOrV ta tb σ H Q := q
theorem notV (q : ta σ H fun x H1 => ∃ c, x = .bl c ∧ Q (.bl (!c)) H1) : tNotV ta σ H Q := q
theorem ife (q : tt σ H fun c H1 => if c = true then ta σ H1 Q else tb σ H1 Q) : tIf tt ta tb σ H Q := q
theorem seq (q : t { nx := u D, rt := D.rt, bk := D.bk, ct := D.ct } σ H) : tSeq t u D σ H := q
theorem nxt (q : D.nx σ H) : tNext D σ H := q
theorem brk (q : D.bk σ H) : tBreak D σ H := q
theorem cnt (q : D.ct σ H) : tCont D σ H := q
theorem drp (q : te σ H fun _ H1 => D.nx σ H1) : tDrop te D σ H := q
theorem ret (q : te σ H D.rt) : tRet te D σ H := q
theorem retN (q : D.rt .non H) : tRetN D σ H := q
theorem ifS (q : tt σ H fun b H1 => if b = true then t D σ H1 else u D σ H1) : tIfS tt t u D σ H := q
theorem asg (q : te σ H fun x H1 => g x σ H1 D.nx) : tAsg te g D σ H := q
theorem gname {k : Nat} (q : QS (σ.set k (some v)) H) : gName k v σ H QS := q
theorem par {k l : Nat} (q : aa σ H fun vs H1 => ∃ v w, vs = [v, w] ∧ D.nx ((σ.set k (some v)).set l (some w)) H1) : tPar k l aa D σ H := q
theorem expair {P : V → V → Prop} (q : P x y) : ∃ v w, [x, y] = [v, w] ∧ P v w := ⟨x, y, rfl, q⟩
theorem gsub {f : TSet} (q : ta σ H fun o H1 => tb σ H1 fun i H2 => f o i v H2 fun H3 => QS σ H3) : gSub ta tb f v σ H QS := q
theorem setL {k : Nat} {QH : Hp → Prop} (h : H p = some (.lst xs)) (h1 : ixN xs.length i = some k) (q : QH (upd H p (.lst (xs.set k v)))) : rSetL (.ref p) (.int i) v H QH := ⟨p, xs, i, k, rfl, rfl, h, h1, q⟩
theorem gtup {k : Nat} (h : SqT K H a xs) (h1 : xs.length = k) (q : gs xs σ H QS) : gTup K k gs (.ref a) σ H QS := ⟨a, xs, rfl, h, h1, q⟩
theorem gcons (q : g v σ H fun σ' H' => gs vs σ' H' QS) : gCons g gs (v :: vs) σ H QS := ⟨v, vs, rfl, q⟩
theorem gnil (q : QS σ H) : gNil [] σ H QS := ⟨rfl, q⟩
theorem anil (q : QA [] H) : tNil σ H QA := q
theorem acons (q : te σ H fun x H1 => aa σ H1 fun xs H2 => QA (x :: xs) H2) : tCons te aa σ H QA := q
theorem callC {sp : Sp} (q : aa σ H fun vs H1 => sp vs H1 Q E0) : tCC sp aa σ H Q := q
theorem callK {sp : Sp} {gV : List V → List V → List V} (q : aa σ H fun vs H1 => ab σ H1 fun zs H2 => sp (gV vs zs) H2 Q E0) : tCK sp gV aa ab σ H Q := q
theorem callB {f : List V → Hp → VK → Prop} (q : aa σ H fun vs H1 => f vs H1 Q) : tCB f aa σ H Q := q
theorem lenS (h : s1.length ≤ sizeLine) (q : Q (.int s1.length) H) : rLenX K [.str s1] H Q := ⟨.str s1, s1.length, rfl, ⟨h, rfl⟩, q⟩
theorem lenL (h : SqL K H p xs) (q : Q (.int xs.length) H) : rLenX K [.ref p] H Q := ⟨.ref p, xs.length, rfl, .inl ⟨xs, h, rfl⟩, q⟩
theorem lenT (h : SqT K H p xs) (q : Q (.int xs.length) H) : rLenX K [.ref p] H Q := ⟨.ref p, xs.length, rfl, .inr ⟨xs, h, rfl⟩, q⟩
theorem intI (q : Q (.int i) H) : rIntX [.int i] H Q := .inl ⟨i, rfl, q⟩
theorem listL (h : SqL K H p xs) (q : ∀ l, H l = none → Q (.ref l) (upd H l (.lst xs))) : rListOf K [.ref p] H Q := ⟨p, xs, rfl, .inl h, q⟩
theorem listT (h : SqT K H p xs) (q : ∀ l, H l = none → Q (.ref l) (upd H l (.lst xs))) : rListOf K [.ref p] H Q := ⟨p, xs, rfl, .inr h, q⟩
theorem tupL (h : SqL K H p xs) (q : ∀ l, H l = none → Q (.ref l) (upd H l (.tup xs))) : rTupOf K [.ref p] H Q := ⟨p, xs, rfl, .inl ⟨h, q⟩⟩
theorem all_ {bs : List Bool} (h : SqL K H p (bs.map V.bl)) (q : Q (.bl (bs.all id)) H) : rAll K [.ref p] H Q := ⟨p, bs, rfl, h, q⟩
theorem any_ {bs : List Bool} (h : SqL K H p (bs.map V.bl)) (q : Q (.bl (bs.any id)) H) : rAny K [.ref p] H Q := ⟨p, bs, rfl, h, q⟩
theorem isi {T : String} {tv : Value} (h : TyX K H x tv) (h1 : PySem.W.kitOne K tv (.type T) = some b) (q : Q (.bl b) H) : rIsi K [x, .ty T] H Q := ⟨x, .ty T, tv, .type T, b, rfl, .ty T, h, h1, q⟩
theorem isiT {tv : Value} {us : List Value} (hT : H p = some (.tup vs)) (hP : Paired ClsV vs us) (h : TyX K H x tv) (h1 : PySem.W.kitAny K tv us = some b) (q : Q (.bl b) H) : rIsiT K [x, .ref p] H Q := ⟨x, p, vs, tv, us, b, rfl, hT, hP, h, h1, q⟩
theorem lst_ (q : aa σ H fun xs H1 => xs.length ≤ sizeLine ∧ ∀ p, H1 p = none → Q (.ref p) (upd H1 p (.lst xs))) : tLst aa σ H Q := q
theorem tup_ (q : aa σ H fun xs H1 => xs.length ≤ sizeLine ∧ ∀ p, H1 p = none → Q (.ref p) (upd H1 p (.tup xs))) : tTup aa σ H Q := q
theorem m1 {f : V → List V → Hp → VK → Prop} (q : ta σ H fun x H1 => (∃ a, x = .str a) ∧ te σ H1 fun y H2 => f x [y] H2 Q) : tM1 f ta te σ H Q := q
theorem isStr {P : Prop} (q : P) : (∃ a, V.str s1 = .str a) ∧ P := ⟨⟨s1, rfl⟩, q⟩
theorem joinL {zs : List Str} (h : SqL K H p (zs.map V.str)) (h1 : (zs.map (·.length)).sum + zs.length * s1.length ≤ 16777216) (q : Q (.str (Txt.join s1 zs)) H) : rJoin K (.str s1) [.ref p] H Q := ⟨s1, p, zs, rfl, rfl, .inl h, h1, q⟩
theorem for_ (q : wi σ H fun J H1 => ∃ W : Nat → Nat → St → Hp → Prop, (∃ m, W 0 m σ H1) ∧ ∀ i m σ H, W i m σ H →
      (J.stop i H ∧ D.nx σ H) ∨ (J.go i H ∧ ∃ N : St → Hp → Prop, (∀ σ' H', N σ' H' → ∃ m', m' < m ∧ W (i + 1) m' σ' H') ∧ ∀ x H', J.yld i H x H' → g x σ H' fun σ2 H2 => t { nx := N, rt := D.rt, bk := D.nx, ct := N } σ2 H2)) : tFor wi g t D σ H := q
theorem bm {T : String} {f : V → List V → Hp → VK → Prop} (q : ta σ H fun x H1 => tyV K T x H1 ∧ aa σ H1 fun xs H2 => f x xs H2 Q) : tBM K T f ta aa σ H Q := q
theorem bm0 {T : String} {f : V → List V → Hp → VK → Prop} (q : ta σ H fun x H1 => tyV K T x H1 ∧ f x [] H1 Q) : tBM0 K T f ta σ H Q := q
theorem mkNx {A B C : St → Hp → Prop} {R : VK} (q : A σ H) : Ends.nx ⟨A, R, B, C⟩ σ H := q
theorem mkRt {A B C : St → Hp → Prop} {R : VK} (q : R v H) : Ends.rt ⟨A, R, B, C⟩ v H := q
theorem mkBk {A B C : St → Hp → Prop} {R : VK} (q : B σ H) : Ends.bk ⟨A, R, B, C⟩ σ H := q
theorem mkCt {A B C : St → Hp → Prop} {R : VK} (q : C σ H) : Ends.ct ⟨A, R, B, C⟩ σ H := q
theorem ilist (h : ∃ xs, SqL K H a xs) {R : It → Hp → Prop} (q : R (Itl K a) H) : (fun (x : V) (H1 : Hp) => ∃ a, x = .ref a ∧ (∃ xs, SqL K H1 a xs) ∧ R (Itl K a) H1) (.ref a) H := ⟨a, rfl, h, q⟩
theorem il {R : It → Hp → Prop} (q : te σ H fun x H1 => ∃ a, x = .ref a ∧ (∃ xs, SqL K H1 a xs) ∧ R (Itl K a) H1) : iList K te σ H R := q
theorem exl {R : Addr → Prop} (h : ∃ xs, SqL K H a xs) (q : R a) : ∃ b, V.ref a = .ref b ∧ (∃ xs, SqL K H b xs) ∧ R b := ⟨a, rfl, h, q⟩
theorem ir1 {R : It → Hp → Prop} (q : aa σ H fun vs H1 => ∃ j : Int, vs = [.int j] ∧ -(2 ^ 62) ≤ j ∧ j < 2 ^ 62 ∧ R (Itr 0 j.toNat) H1) : iRng1 aa σ H R := q
theorem exr1 {R : Int → Prop} (h1 : -(2 ^ 62) ≤ i) (h2 : i < 2 ^ 62) (q : R i) : ∃ j : Int, [V.int i] = [.int j] ∧ -(2 ^ 62) ≤ j ∧ j < 2 ^ 62 ∧ R j := ⟨i, rfl, h1, h2, q⟩
theorem is_ {R : It → Hp → Prop} (q : te σ H fun v H1 => ∃ x, v = .str x ∧ R (Its x) H1) : iStr te σ H R := q
theorem exstr {R : Str → Prop} (q : R s1) : ∃ x, V.str s1 = .str x ∧ R x := ⟨s1, rfl, q⟩
end

/-! ### kinds -/
theorem kB_NoneType_str : kitB "NoneType" "str" = some false := by decide +kernel
theorem kB_NoneType_bool : kitB "NoneType" "bool" = some false := by decide +kernel
theorem kB_NoneType_int : kitB "NoneType" "int" = some false := by decide +kernel
theorem kB_NoneType_dict : kitB "NoneType" "dict" = some false := by decide +kernel
theorem kB_NoneType_tuple : kitB "NoneType" "tuple" = some false := by decide +kernel
theorem kB_NoneType_list : kitB "NoneType" "list" = some false := by decide +kernel
theorem kB_bool_str : kitB "bool" "str" = some false := by decide +kernel
theorem kB_bool_bool : kitB "bool" "bool" = some true := by decide +kernel
theorem kB_bool_int : kitB "bool" "int" = some true := by decide +kernel
theorem kB_bool_dict : kitB "bool" "dict" = some false := by decide +kernel
theorem kB_bool_tuple : kitB "bool" "tuple" = some false := by decide +kernel
theorem kB_bool_list : kitB "bool" "list" = some false := by decide +kernel
theorem kB_int_str : kitB "int" "str" = some false := by decide +kernel
theorem kB_int_bool : kitB "int" "bool" = some false := by decide +kernel
theorem kB_int_int : kitB "int" "int" = some true := by decide +kernel
theorem kB_int_dict : kitB "int" "dict" = some false := by decide +kernel
theorem kB_int_tuple : kitB "int" "tuple" = some false := by decide +kernel
theorem kB_int_list : kitB "int" "list" = some false := by decide +kernel
theorem kB_str_str : kitB "str" "str" = some true := by decide +kernel
theorem kB_str_bool : kitB "str" "bool" = some false := by decide +kernel
theorem kB_str_int : kitB "str" "int" = some false := by decide +kernel
theorem kB_str_dict : kitB "str" "dict" = some false := by decide +kernel
theorem kB_str_tuple : kitB "str" "tuple" = some false := by decide +kernel
theorem kB_str_list : kitB "str" "list" = some false := by decide +kernel
theorem kB_list_str : kitB "list" "str" = some false := by decide +kernel
theorem kB_list_bool : kitB "list" "bool" = some false := by decide +kernel
theorem kB_list_int : kitB "list" "int" = some false := by decide +kernel
theorem kB_list_dict : kitB "list" "dict" = some false := by decide +kernel
theorem kB_list_tuple : kitB "list" "tuple" = some false := by decide +kernel
theorem kB_list_list : kitB "list" "list" = some true := by decide +kernel
theorem kB_tuple_str : kitB "tuple" "str" = some false := by decide +kernel
theorem kB_tuple_bool : kitB "tuple" "bool" = some false := by decide +kernel
theorem kB_tuple_int : kitB "tuple" "int" = some false := by decide +kernel
theorem kB_tuple_dict : kitB "tuple" "dict" = some false := by decide +kernel
theorem kB_tuple_tuple : kitB "tuple" "tuple" = some true := by decide +kernel
theorem kB_tuple_list : kitB "tuple" "list" = some false := by decide +kernel
theorem kB_dict_str : kitB "dict" "str" = some false := by decide +kernel
theorem kB_dict_bool : kitB "dict" "bool" = some false := by decide +kernel
theorem kB_dict_int : kitB "dict" "int" = some false := by decide +kernel
theorem kB_dict_dict : kitB "dict" "dict" = some true := by decide +kernel
theorem kB_dict_tuple : kitB "dict" "tuple" = some false := by decide +kernel
theorem kB_dict_list : kitB "dict" "list" = some false := by decide +kernel
theorem kitAny2 {K : PySem.W.Frag} {a b c : String} {r s : Bool} (h1 : kitB a b = some r) (h2 : kitB a c = some s) : PySem.W.kitAny K (.type a) [.type b, .type c] = some (r || s) := by
  refine kitAny_cons (kit_ty h1) (fun e => ?_) (fun e => ?_)
  · refine kitAny_cons (kit_ty h2) (fun e2 => ?_) (fun e2 => ?_)
    · rw [e, e2]
      rfl
    · rw [e, e2]
      rfl
  · rw [e]
    rfl
theorem cls2 (b c : String) : Paired ClsV [V.ty b, V.ty c] [.type b, .type c] := .cons (.ty b) (.cons (.ty c) .nil)
theorem tyx_L {K : PySem.W.Frag} {H : Hp} {a : Addr} {xs : List V} (h : SqL K H a xs) : TyX K H (.ref a) (.type "list") := by
  rcases h with (h | ⟨o, h⟩) | ⟨o, its, n, h, c, _⟩
  · exact .base (.lst h)
  · exact .base (.frz h)
  · exact .kList h c
theorem tyx_T {K : PySem.W.Frag} {H : Hp} {a : Addr} {xs : List V} (h : SqT K H a xs) : TyX K H (.ref a) (.type "tuple") := by
  rcases h with (h | ⟨o, h⟩) | ⟨o, its, n, h, c, _⟩
  · exact .base (.tup h)
  · exact .fTuple h
  · exact .kTuple h c
/-- zip over two tuples -/
theorem walk_zipT {K : PySem.W.Frag} {a b : Addr} {xs ys : List V} {n : Nat} (hn : n = min xs.length ys.length) : Walk (RZ.ItzT K a b) n (fun H => SqT K H a xs ∧ SqT K H b ys) (YPair (fun i => xs[i]?) (fun i => ys[i]?)) := by
  subst hn
  refine ⟨fun i H hi g => ?_, fun H g => ⟨xs, ys, g.1, g.2, by omega⟩, fun i H x H' hi g y => ?_⟩
  · have h1 : i < xs.length := by omega
    have h2 : i < ys.length := by omega
    exact ⟨xs, ys, xs[i], ys[i], g.1, g.2, List.getElem?_eq_getElem h1, List.getElem?_eq_getElem h2⟩
  · obtain ⟨T, x1, y1, e1, n1, e2, f1, f2⟩ := y
    exact ⟨T, x1, y1, e1, n1, e2, f1 xs g.1, f2 ys g.2⟩

/-! ### heaps -/
theorem same_upd {H : Hp} {p : Addr} {o : HO} (h : H p = none) : Same H (upd H p o) := fun b x e => by
  rw [upd_ne (ne_of_none e h)]
  exact e
/-- all that was tracked but what stands at b is as it was -/
def But (b : Addr) (H H' : Hp) : Prop := ∀ c o, H c = some o → c ≠ b → H' c = some o
theorem But.refl (b : Addr) (H : Hp) : But b H H := fun _ _ h _ => h
theorem But.trans {b : Addr} {H H1 H2 : Hp} (a : But b H H1) (c : But b H1 H2) : But b H H2 := fun d o h n => c d o (a d o h n) n
theorem But.of_same {b : Addr} {H H' : Hp} (s : Same H H') : But b H H' := fun c o h _ => s c o h
theorem But.upd {b : Addr} {H : Hp} {o : HO} : But b H (upd H b o) := fun c x h n => by rw [upd_ne n]; exact h
theorem But.new {b p : Addr} {H : Hp} {o : HO} (h : H p = none) : But b H (L2.upd H p o) := But.of_same (same_upd h)
theorem But.mutNew {b p : Addr} {H H' : Hp} {o : HO} (h : But b H H') (n : H p = none) : But b H (L2.upd H' p o) := fun c x e nc => by
  rw [upd_ne (ne_of_none e n)]
  exact h c x e nc
theorem But.free {b p : Addr} {H H' : Hp} (s : But b H H') (hb : ∃ o, H' b = some o) (n : H' p = none) : H p = none := by
  cases e : H p with
  | none => rfl
  | some o =>
    by_cases h : p = b
    · obtain ⟨u, hu⟩ := hb
      rw [h, hu] at n
      cases n
    · rw [s p o e h] at n
      cases n
theorem SqL.but {K : PySem.W.Frag} {b a : Addr} {H H' : Hp} {xs : List V} (s : But b H H') (n : a ≠ b) (h : SqL K H a xs) : SqL K H' a xs := by
  rcases h with (h | ⟨o, h⟩) | h
  · exact .inl (.inl (s _ _ h n))
  · exact .inl (.inr ⟨o, s _ _ h n⟩)
  · exact .inr h
theorem Same.seqT {K : PySem.W.Frag} {H H' : Hp} {a : Addr} {xs : List V} (e : Same H H') (h : SqT K H a xs) : SqT K H' a xs := by
  rcases h with (h | ⟨o, h⟩) | h
  · exact .inl (.inl (e _ _ h))
  · exact .inl (.inr ⟨o, e _ _ h⟩)
  · exact .inr h
theorem lc {σ : St} {H : Hp} {Q : VK} {wi : TI} {g : TG} {tt : TT} {te : TE} {vs : List Nat}
    (q : wi σ H fun J H1 => ∀ D, H1 D = none → ∃ W : Nat → Nat → Hp → Prop, (∃ m, W 0 m (upd H1 D (.lst []))) ∧ ∀ i m H, W i m H →
  (J.stop i H ∧ Q (.ref D) H) ∨ (J.go i H ∧ ∃ Nx : Hp → Prop, (∀ H', Nx H' → ∃ m', m' < m ∧ W (i + 1) m' H') ∧ ∀ x H', J.yld i H x H' → g x (wipe σ vs) H' fun σ2 H2 => wipe σ2 vs = wipe σ vs ∧ tt σ2 H2 fun b H3 =>
    if b = true then te σ2 H3 fun y H4 => ∃ acc, H4 D = some (.lst acc) ∧ acc.length < sizeLine ∧ Nx (upd H4 D (.lst (acc ++ [y]))) else Nx H3)) : tLc wi g tt te vs σ H Q := q
theorem disp {σ : St} {H : Hp} {Q : VK} {trs : List (TE × TE)} (q : ∀ p, H p = none → tPairs trs σ (upd H p (.dK [])) fun ps H2 => H2 p = some (.dK []) ∧ ∃ kvs : List (Key × V), ps = kvs.map (fun kv => (kV kv.1, kv.2)) ∧ kvs.length ≤ 15 ∧ Q (.ref p) (upd H2 p (.dK (mergeK [] kvs)))) : tDisp trs σ H Q := q
theorem pnil {σ : St} {H : Hp} {k : List (V × V) → Hp → Prop} (q : k [] H) : tPairs [] σ H k := q
theorem pcons {σ : St} {H : Hp} {k : List (V × V) → Hp → Prop} {tk tv : TE} {r : List (TE × TE)} (q : tk σ H fun x H1 => tv σ H1 fun y H2 => tPairs r σ H2 fun ps H3 => k ((x, y) :: ps) H3) : tPairs ((tk, tv) :: r) σ H k := q
theorem dget2 {σ : St} {H : Hp} {Q : VK} {td ty tx : TE} (q : td σ H fun x H1 => ∃ a, x = .ref a ∧ IsD H1 a ∧ ty σ H1 fun y H2 => tx σ H2 fun z H3 => ∃ o, DGet H3 a y o ∧ Q (o.getD z) H3) : tDGet2 td ty tx σ H Q := q
theorem iz {K : PySem.W.Frag} {σ : St} {H : Hp} {aa : TA} {R : It → Hp → Prop} (q : aa σ H fun vs H1 => ∃ a b xs ys, vs = [.ref a, .ref b] ∧ ((SqL K H1 a xs ∧ SqL K H1 b ys ∧ R (Itz K a b) H1) ∨ (SqT K H1 a xs ∧ SqT K H1 b ys ∧ R (RZ.ItzT K a b) H1))) : RZ.iZipA K aa σ H R := q
theorem tyes {σ : St} {H : Hp} {QT : Bool → Hp → Prop} (q : QT true H) : tYes σ H QT := q
theorem cxK {CX : CXT} {P : Program} {w : World} {K : PySem.W.Frag} {mg : Str → Option Value} {base : Heap} {N : List Str} {qual : Str} {sc : Scope} {f : Addr} {cd : Value} {A : Around} {outer : List Env} {s : Shared} {H : Hp} {E : XK} :
    (cxOf CX P w K mg base N qual sc f cd A outer s H E).nox.K = K := rfl
theorem cxKx {CX : CXT} {P : Program} {w : World} {K : PySem.W.Frag} {mg : Str → Option Value} {base : Heap} {N : List Str} {qual : Str} {sc : Scope} {f : Addr} {cd : Value} {A : Around} {outer : List Env} {s : Shared} {H : Hp} {E : XK} :
    (cxOf CX P w K mg base N qual sc f cd A outer s H E).K = K := rfl
theorem map_at {α : Type} {g : α → V} {l : List α} {i : Nat} {y : V} (h : (l.map g)[i]? = some y) : ∃ u, l[i]? = some u ∧ y = g u := by
  rw [List.getElem?_map] at h
  cases e : l[i]? with
  | none =>
    rw [e] at h
    cases h
  | some u =>
    rw [e] at h
    exact ⟨u, rfl, (Option.some.inj h).symm⟩
theorem cut_map (ns : List Int) (lo hi : Option Int) : ∃ ms : List Int, cutV (ns.map V.int) lo hi = ms.map V.int ∧ ms.length ≤ ns.length := by
  refine ⟨(ns.drop (HT.sIx (ns.map V.int).length 0 lo)).take (HT.sIx (ns.map V.int).length (ns.map V.int).length hi - HT.sIx (ns.map V.int).length 0 lo), ?_, ?_⟩
  · unfold cutV
    rw [List.map_take, List.map_drop]
  · rw [List.length_take, List.length_drop]
    omega
theorem un0 {H : Hp} {a b : Addr} {o : HO} (e : upd H a o b = none) : H b = none := by
  by_cases h : b = a
  · rw [h, upd_same] at e
    cases e
  · rw [upd_ne h] at e
    exact e
theorem upd2 {H : Hp} {a b : Addr} {o x : HO} (h : b ≠ a) (e : H b = some x) : upd H a o b = some x := by
  rw [upd_ne h]
  exact e
/-! ### texts -/
theorem cut_to (l : List Nat) {k : Int} (h : 0 ≤ k) : cutS (SX.S l) none (some k) = SX.S (l.take k.toNat) := by
  rw [C8.cutS_slice]
  exact SX.slice_to h
theorem cut_from (l : List Nat) {k : Int} (h : 0 ≤ k) : cutS (SX.S l) (some k) none = SX.S (l.drop k.toNat) := by
  rw [C8.cutS_slice]
  exact SX.slice_from h
theorem join_signs : ∀ cs : List Nat, TL.joinL [] (cs.map fun c => [c]) = cs
  | [] => rfl
  | [c] => rfl
  | c :: d :: r => by
    have ih := join_signs (d :: r)
    show [c] ++ ([] ++ TL.joinL [] ((d :: r).map fun c => [c])) = c :: d :: r
    rw [ih]
    rfl
theorem join_sg (cs : List Nat) : Txt.join (SX.S []) (cs.map fun c => (⟨#[c]⟩ : Str)) = SX.S cs := by
  have e : (cs.map fun c => (⟨#[c]⟩ : Str)) = (cs.map fun c => [c]).map SX.S := by
    rw [List.map_map]
    rfl
  rw [e, SX.join_S, join_signs]
theorem S_len0 : (SX.S []).length = 0 := rfl
theorem empty_S : Str.ofString "" = SX.S [] := by decide +kernel
theorem len_sg : ∀ cs : List Nat, ((cs.map fun c => (⟨#[c]⟩ : Str)).map (·.length)).sum = cs.length
  | [] => rfl
  | c :: r => by
    rw [List.map_cons, List.map_cons, List.sum_cons, len_sg r, List.length_cons]
    show 1 + r.length = r.length + 1
    omega
/-! ### [p(sign) for sign in text] -/
theorem lc_signs {l : List Nat} {p : Nat → Bool} {k : Nat} {te : TE} {vs : List Nat} {σ : St} {H1 : Hp} {D : Addr} {Qd : Hp → Prop}
    (hte : ∀ (c : Nat) (H' : Hp) (Q' : VK), c ∈ l → Q' (.bl (p c)) H' → te ((wipe σ vs).set k (some (.str ⟨#[c]⟩))) H' Q') (hw : ∀ v, wipe ((wipe σ vs).set k v) vs = wipe σ vs) (hl : l.length ≤ 100000)
    (hd : Qd (upd H1 D (.lst ((l.map p).map V.bl)))) :
    ∃ W : Nat → Nat → Hp → Prop, (∃ m, W 0 m (upd H1 D (.lst []))) ∧ ∀ i m H, W i m H →
      ((Its (SX.S l)).stop i H ∧ Qd H) ∨ ((Its (SX.S l)).go i H ∧ ∃ Nx : Hp → Prop, (∀ H', Nx H' → ∃ m', m' < m ∧ W (i + 1) m' H') ∧ ∀ x H', (Its (SX.S l)).yld i H x H' → gName k x (wipe σ vs) H' fun σ2 H2 => wipe σ2 vs = wipe σ vs ∧ tYes σ2 H2 fun b H3 =>
        if b = true then te σ2 H3 fun y H4 => ∃ acc, H4 D = some (.lst acc) ∧ acc.length < sizeLine ∧ Nx (upd H4 D (.lst (acc ++ [y]))) else Nx H3) := by
  have hz : (SX.S l).cps.size = l.length := by simp [SX.S]
  refine lc_it (walk_str (z := SX.S l)) (fun i H' => H' = upd H1 D (.lst (((l.take i).map p).map V.bl))) rfl (fun _ _ _ _ => trivial) ?_ ?_
  · rintro i x H H' hi rfl ⟨rfl, c, hc, rfl⟩
    have hc2 : l[i]? = some c := by
      have e : (SX.S l).cps[i]? = l[i]? := by simp [SX.S]
      rw [← e]
      exact hc
    have hm : c ∈ l := List.mem_of_getElem? hc2
    refine ⟨hw _, ?_⟩
    with_reducible refine Rg.tyes ?_
    with_reducible refine iteT ?_
    refine hte c _ _ hm ⟨_, upd_same, ?_, ?_⟩
    · rw [List.length_map, List.length_map, List.length_take, sizeLine_eq]
      omega
    · rw [upd_upd, List.take_add_one, hc2, List.map_append, List.map_append]
      rfl
  · rintro H rfl
    rw [hz, List.take_length]
    exact hd
theorem sgn_lt (a b : Nat) : decide (([a] : List Nat) < [b]) = decide (a < b) := by
  refine decide_eq_decide.mpr ⟨fun h => ?_, fun h => ?_⟩
  · cases h with
    | rel h => exact h
    | cons h => cases h
  · exact List.Lex.rel h
theorem sg_eq (a b : Nat) : decide ((⟨#[a]⟩ : Str) = ⟨#[b]⟩) = decide (a = b) := by
  refine decide_eq_decide.mpr ⟨fun h => ?_, fun h => by rw [h]⟩
  have e : ([a] : List Nat) = [b] := congrArg (fun x : Str => x.cps.toList) h
  injection e
theorem str_S (z : Str) : z = SX.S z.cps.toList := (SX.S_tl z).symm
theorem fold_rep (c : Nat) : ∀ (k : Nat) (acc : Array Nat), ((List.replicate k #[c]).foldl (· ++ ·) acc).toList = acc.toList ++ List.replicate k c
  | 0, acc => by simp
  | k + 1, acc => by
    rw [List.replicate_succ, List.foldl_cons, fold_rep c k, List.replicate_succ]
    simp
theorem mul_S (c : Nat) {n : Int} (h : 0 ≤ n) : Txt.mul (SX.S [c]) n = SX.S (List.replicate n.toNat c) := by
  unfold Txt.mul
  by_cases h1 : n < 1
  · rw [if_pos h1]
    have e : n = 0 := by omega
    subst e
    rfl
  · rw [if_neg h1]
    by_cases h2 : n = 1
    · subst h2
      rfl
    · rw [if_neg (by
        have : (SX.S [c]).length = 1 := rfl
        rw [this]
        simp [h2])]
      refine TL.ext_tl ?_
      have e := fold_rep c n.toNat #[]
      exact e
end Rg

set_option Elab.async false
set_option linter.all false
set_option maxRecDepth 100000
set_option maxHeartbeats 4000000
/-! ### t[::-1] of a tuple -/
namespace Rv
open PySem PyProof.Rows
section
variable {pr : Program} {wd : World} {B : Around} {Er : Value → Shared → Prop} {z : Shared}
theorem back_places (n : Nat) : Builtin.Slice.slicePlaces ((n : Int) - 1) (-1) (-1) = n := by
  simp only [Builtin.Slice.slicePlaces, show ¬ ((-1 : Int) > 0) by omega, show (-(-1 : Int)) = 1 by omega, Int.ediv_one, if_false]
  split <;> omega
theorem back_pick (l : List Value) : ∀ k, k ≤ l.length → ((List.range k).filterMap fun (m : Nat) => l.toArray[((l.length : Int) - 1 + (m : Int) * (-1)).toNat]?) = l.reverse.take k
  | 0, _ => by simp
  | k + 1, hk => by
    have hl : ((l.length : Int) - 1 + (k : Int) * (-1)).toNat = l.length - 1 - k := by omega
    have e : l.reverse[k]? = l.toArray[l.length - 1 - k]? := by
      rw [List.getElem?_reverse (by omega)]
      simp
    rw [List.range_succ, List.filterMap_append, back_pick l k (by omega), List.take_add_one, e, List.filterMap_cons, hl]
    cases l.toArray[l.length - 1 - k]? <;> rfl
theorem its_fields {sl : Addr} {u v x : Value} {Q : Value × Value × Value → Shared → Prop} (hs : z.heap.IsSliceOf sl u v x) (h : Q (u, v, x) z) : wpAny (model pr wd) B (Builtin.Slice.sliceFields (.ref sl)) Q Er z := by
  obtain ⟨o, g, _, e⟩ := hs
  exact wpAny_bind (wpAny_field g e (x := u) rfl (wpAny_bind (wpAny_field g e (x := v) rfl (wpAny_bind (wpAny_field g e (x := x) rfl (wpAny_pure h))))))
theorem back_applied {sl : Addr} {vk : Value} {n : Nat} {Q : Int × Int × Nat → Shared → Prop} (hs : z.heap.IsSliceOf sl .none .none vk) (pk : IsPart vk (some (-1))) (h : Q ((n : Int) - 1, -1, n) z) :
    wpAny (model pr wd) B (Builtin.Slice.sliceApplied (.ref sl) (pure (n : Int))) Q Er z := by
  have fin : wpAny (model pr wd) B (pure ((n : Int) - 1, (-1 : Int), Builtin.Slice.slicePlaces ((n : Int) - 1) (-1) (-1))) Q Er z := by
    rw [back_places]
    exact wpAny_pure h
  have parts : wpAny (model pr wd) B (Builtin.Slice.slicePartIndex vk) (fun c s' => c = some (-1) ∧ s' = z) Er z := HT.slicePart_ pk ⟨rfl, rfl⟩
  refine wpAny_bind (its_fields hs (wpAny_bind (wpAny_mono parts (fun c s' hc => ?_) fun _ _ e => e)))
  obtain ⟨rfl, rfl⟩ := hc
  exact wpAny_bind (slicePart_none (wpAny_bind (slicePart_none (wpAny_bind (wpAny_pure fin)))))
/-- what tuple.__getitem__ answers -/
theorem back_body {t sl : Addr} {l : List Value} {vk : Value} {R : Fin → Shared → Prop} (ht : IsTup z.heap t l.toArray) (hs : z.heap.IsSliceOf sl .none .none vk) (pk : IsPart vk (some (-1))) (hl : l.length ≤ sizeLine)
    (h : R (.done (.ret (.ref z.heap.objs.size))) { z with heap := z.heap.push { cls := .type "tuple", data := .seq l.reverse.toArray } }) : wpAny (model pr wd) B (Builtin.«tuple.__getitem__» ⟨[.ref t, .ref sl], []⟩) R Er z := by
  have hT : z.TypeIs (.ref sl) "slice" := hs.elim fun o k => ⟨o, k.1, k.2.1⟩
  have size : sizeOk (.seq l.reverse.toArray) := show l.reverse.toArray.size ≤ sizeLine by simpa using hl
  have pick : ((List.range l.toArray.size).filterMap fun (k : Nat) => l.toArray[((l.toArray.size : Int) - 1 + (k : Int) * (-1)).toNat]?).toArray = l.reverse.toArray := by
    rw [List.size_toArray, back_pick l l.length (Nat.le_refl _), List.take_of_length_le (Nat.le_of_eq List.length_reverse)]
  have step : (((l.toArray.size : Int) - 1 == 0 && (-1 : Int) == 1 && l.toArray.size == l.toArray.size) : Bool) = false := by
    rw [show ((-1 : Int) == 1) = false from rfl, Bool.and_false, Bool.false_and]
  refine wpAny_bind (m := Builtin.Tuple.tupleItemsOf (.ref t)) (tupleItemsOf_ ht (wpAny_bind (wpAny_typeOf hT ?_)))
  rw [if_pos (show (Value.type "slice" == Value.type "slice") = true from rfl)]
  refine wpAny_bind (back_applied (n := l.toArray.size) hs pk ?_)
  show wpAny (model pr wd) B (if ((l.toArray.size : Int) - 1 == 0 && (-1 : Int) == 1 && l.toArray.size == l.toArray.size) = true then _ else _) R Er z
  rw [step, if_neg Bool.false_ne_true, pick]
  first
    | exact wpAny_bind (m := Builtin.Tuple.tupleExact l.reverse.toArray) (wpAny_newObj_type (wpAny_pure h) size)
    | exact wpAny_bind (m := Builtin.Tuple.tupleExact l.reverse.toArray) (wpAny_newObj_type (wpAny_bind (wpAny_pure (wpAny_pure h))) size)
    | exact wpAny_bind (wpAny_bind (m := Builtin.Tuple.tupleExact l.reverse.toArray) (wpAny_newObj_type (wpAny_pure (wpAny_pure h)) size))
    | exact wpAny_bind (wpAny_bind (m := Builtin.Tuple.tupleExact l.reverse.toArray) (wpAny_newObj_type (wpAny_pure h) size))
theorem back_item {t sl : Addr} {l : List Value} {vk : Value} {Q : Value → Shared → Prop} (ht : IsTup z.heap t l.toArray) (hs : z.heap.IsSliceOf sl .none .none vk) (pk : IsPart vk (some (-1))) (hl : l.length ≤ sizeLine)
    (h : Q (.ref z.heap.objs.size) { z with heap := z.heap.push { cls := .type "tuple", data := .seq l.reverse.toArray } }) : wpAny (model pr wd) B (getItem (.ref t) (.ref sl)) Q Er z := by
  have road : wpAny (model pr wd) B (call (.builtin "tuple.__getitem__") [.ref t, .ref sl]) Q Er z := wpAny_call_entry PyProof.Rows.slot_tuple_getitem ht.typeIs entry_tuple_getitem (back_body ht hs pk hl ⟨_, rfl, h⟩) (args_tuple_getitem _ _)
  have found : wpAny (model pr wd) B (callSpecial? (.ref t) "__getitem__" [.ref sl]) (fun o s' => ∃ v, o = some v ∧ Q v s') Er z := wpAny_callSpecial?_slot ht.typeIs PyProof.Rows.slot_tuple_getitem (wpAny_mono road (fun v s' q => ⟨v, rfl, q⟩) fun _ _ e => e)
  unfold getItem
  first
    | refine wpAny_holding (wpAny_bind (wpAny_pure (wpAny_bind (wpAny_sequenceKey ht.typeIs (by decide) (wpAny_bind (wpAny_mono found (fun o s' q => ?_) fun _ _ e => e))))))
    | refine wpAny_bind (wpAny_pure (wpAny_bind (wpAny_sequenceKey ht.typeIs (by decide) (wpAny_bind (wpAny_mono found (fun o s' q => ?_) fun _ _ e => e)))))
    | refine wpAny_holding (wpAny_bind (wpAny_sequenceKey ht.typeIs (by decide) (wpAny_bind (wpAny_mono found (fun o s' q => ?_) fun _ _ e => e))))
    | refine wpAny_bind (wpAny_sequenceKey ht.typeIs (by decide) (wpAny_bind (wpAny_mono found (fun o s' q => ?_) fun _ _ e => e)))
  obtain ⟨v, rfl, q⟩ := q
  first
    | exact wpAny_pure q
    | exact wpAny_bind (wpAny_pure q)
end
end Rv
namespace Rg
open PySem L2 PySem.Spec PyProof.Rows
def tRevT (K : PySem.W.Frag) (te : TE) : TE := fun σ H Q => te σ H fun x H1 => ∃ a xs, x = .ref a ∧ SqT K H1 a xs ∧ ∀ p, H1 p = none → Q (.ref p) (upd H1 p (.tup xs.reverse))
section
variable {X : Cx}
theorem pe_revLX (K : PySem.W.Frag) {e : Expr} {te : TE} {k : Nat} {p1 p2 p3 pos : Pos} (he : PE X e te) (hK : X.K = K := by rfl) : PE X (.Subscript e (.Slice none none (some (.UnaryOp .USub (.Constant (.int 1) k p1) p2)) p3) pos) (tRevL K te) := by
  subst hK
  exact pe_revL he
/-- the slice object of «::-1» -/
theorem sl_back {pins : List (Addr × Obj)} {z : Shared} {σ : L2.St} {H : Hp} {R : Value → Shared → Prop} {k : Nat} {p1 p2 p3 : Pos} (I : Inv X pins σ H z)
    (h : ∀ vk z1, Inv X pins σ H z1 → IsPart vk (some (-1)) → R (.ref z1.heap.objs.size) { z1 with heap := z1.heap.push { cls := .type "slice", data := .fields #[.none, .none, vk] } }) :
    wpAny (model X.prog X.w) X.A (eval (.Slice none none (some (.UnaryOp .USub (.Constant (.int 1) k p1) p2)) p3) X.env) R X.xe z := by
  have st : PO X (some (.UnaryOp .USub (.Constant (.int 1) k p1) p2)) (tPart (tUn (rU fun i => .int (-i)) (tC (.int 1)))) := po_some (pe_un un_neg pe_int)
  have go := st.run pins z σ H (fun o H' => o = some (-1) ∧ H' = H) I ⟨1, rfl, -1, rfl, rfl, rfl⟩
  refine wpAny_Slice ?_
  rw [evalPart_none]
  refine wpAny_pure (wpAny_pure (thn go fun vk z1 hv => ?_))
  obtain ⟨o, H1, J, pk, eo, eh⟩ := hv
  subst eo eh
  exact h vk z1 J pk
theorem pe_revT (K : PySem.W.Frag) {e : Expr} {te : TE} {k : Nat} {p1 p2 p3 pos : Pos} (he : PE X e te) (hK : X.K = K := by rfl) : PE X (.Subscript e (.Slice none none (some (.UnaryOp .USub (.Constant (.int 1) k p1) p2)) p3) pos) (tRevT K te) := by
  subst hK
  constructor
  intro pins z σ H Q I hq
  refine Subscript_ (thn (he.run pins z σ H _ I hq) fun v z1 hv => ?_)
  obtain ⟨y, H1, J, ry, a, xs, rfl, hx, q⟩ := hv
  cases ry
  refine sl_back J fun vk z2 J2 pk => ?_
  have J3 : Inv X pins σ H1 { z2 with heap := z2.heap.push { cls := .type "slice", data := .fields #[.none, .none, vk] } } := J2.kept (t' := z2.toks) fun _ _ g => Heap.get?_push_of_some _ g
  obtain ⟨its, r, ht, hz⟩ := J3.tuple hx
  have hn : its.length ≤ sizeLine := r.length ▸ hz
  have made : ObjOk X.prog X.w (upd H1 (z2.heap.push { cls := .type "slice", data := .fields #[.none, .none, vk] }).objs.size (.tup xs.reverse)) ((z2.heap.push { cls := .type "slice", data := .fields #[.none, .none, vk] }).push { cls := .type "tuple", data := .seq its.reverse.toArray }) (z2.heap.push { cls := .type "slice", data := .fields #[.none, .none, vk] }).objs.size (.tup xs.reverse) :=
    ⟨by rw [List.length_reverse]; exact hz, _, r.reverse, IsTup.new _ _⟩
  have J4 := J3.laid (t' := z2.toks) (o := .tup xs.reverse) (fun _ _ g => Heap.get?_push_of_some _ g) (Nat.le_refl _) made
  exact tail_any (ops := [.ref a, .ref z2.heap.objs.size]) ht.typeIs (PyProof.Rows.slot_tuple_getitem.lookup) (Rv.back_item ht (Heap.IsSliceOf.new _ _ _ vk) pk hn ⟨.ref _, _, J4, rfl, q _ (J3.hok.fresh (Nat.le_refl _))⟩) (by with_unfolding_all rfl)
theorem revL {K : PySem.W.Frag} {te : TE} {σ : L2.St} {H : Hp} {Q : VK} (q : te σ H fun x H1 => ∃ a xs, x = .ref a ∧ SqL K H1 a xs ∧ ∀ p, H1 p = none → Q (.ref p) (upd H1 p (.lst xs.reverse))) : tRevL K te σ H Q := q
theorem revT {K : PySem.W.Frag} {te : TE} {σ : L2.St} {H : Hp} {Q : VK} (q : te σ H fun x H1 => ∃ a xs, x = .ref a ∧ SqT K H1 a xs ∧ ∀ p, H1 p = none → Q (.ref p) (upd H1 p (.tup xs.reverse))) : tRevT K te σ H Q := q
/-- x += y: ints, texts, lists -/
def ipX : TIp := fun x y H Q => (∃ i j, x = .int i ∧ y = .int j ∧ Q (.int (i + j)) H) ∨ (∃ i j, x = .str i ∧ y = .str j ∧ i.length + j.length ≤ sizeLine ∧ Q (.str (i ++ j)) H) ∨ rExt2 x y H Q
theorem ip_X : PIp X .Add ipX := by
  intro pins s σ H x y v u Q I r1 r2 h
  rcases h with h | h | h
  · exact ip_add pins s σ H x y v u Q I r1 r2 h
  · exact iop_add_str pins s σ H x y v u Q I r1 r2 h
  · exact iop_ext pins s σ H x y v u Q I r1 r2 h
theorem aug {i : Nat} {te : TE} {D : Ends} {σ : L2.St} {H : Hp} {x : V} (h : σ[i]? = some (some x)) (q : te σ H fun y H1 => ipX x y H1 fun z H2 => D.nx (σ.set i (some z)) H2) : tAug i te ipX D σ H := ⟨x, h, q⟩
theorem ipI2 {i j : Int} {H : Hp} {Q : VK} (q : Q (.int (i + j)) H) : ipX (.int i) (.int j) H Q := .inl ⟨i, j, rfl, rfl, q⟩
theorem ipS2 {i j : Str} {H : Hp} {Q : VK} (h : i.length + j.length ≤ sizeLine) (q : Q (.str (i ++ j)) H) : ipX (.str i) (.str j) H Q := .inr (.inl ⟨i, j, rfl, rfl, h, q⟩)
theorem ipL2 {l b : Addr} {xs zs : List V} {H : Hp} {Q : VK} (h : H l = some (.lst xs)) (h2 : H b = some (.lst zs)) (h3 : xs.length + zs.length ≤ sizeLine) (q : Q (.ref l) (upd H l (.lst (xs ++ zs)))) : ipX (.ref l) (.ref b) H Q := .inr (.inr ⟨l, b, xs, zs, rfl, rfl, h, h2, h3, q⟩)
theorem pa_starX (K : PySem.W.Frag) {e : Expr} {es : List Expr} {te : TE} {t : TA} {p : Pos} (he : PE X e te) (hr : PA X es t) (hK : X.K = K := by rfl) (hs : starEach (.Starred e p :: es) X.env = (true, eval e X.env) :: starEach es X.env := by rfl) : PA X (.Starred e p :: es) (StX.tStar K te t) := by
  subst hK
  exact StX.pa_star he hr hs
theorem star {K : PySem.W.Frag} {te : TE} {t : TA} {σ : L2.St} {H : Hp} {Q : List V → Hp → Prop} (q : te σ H fun x H1 => ∃ p xs, x = V.ref p ∧ (SqT K H1 p xs ∨ SqL K H1 p xs) ∧ t σ H1 fun ys H2 => Q (xs ++ ys) H2) : StX.tStar K te t σ H Q := q
theorem iT {K : PySem.W.Frag} {tl : TE} {σ : L2.St} {H : Hp} {R : It → Hp → Prop} (q : tl σ H fun x H1 => ∃ a, x = .ref a ∧ (∃ xs, SqT K H1 a xs) ∧ R (Itt K a) H1) : iTup K tl σ H R := q
theorem toV {v : V} {H : Hp} {Q : VK} {g : VK → Prop} (h : Q v H) (k : ∀ Q' : VK, Q' v H → g Q') : g Q := k Q h
theorem toH {v : V} {H : Hp} {Q : VK} {g : VK → Prop} (h : ∀ H', Same H H' → Q v H') (k : ∀ Q' : VK, (∀ H', Same H H' → Q' v H') → g Q') : g Q := k Q h
theorem S_emp (l : List Nat) : decide (SX.S l = Str.ofString "") = decide (l = []) := by
  rw [empty_S]
  refine decide_eq_decide.mpr ⟨fun h => ?_, fun h => by rw [h]⟩
  have e : (SX.S l).cps.toList = (SX.S []).cps.toList := by rw [h]
  simpa [SX.S] using e
theorem jc {t : TE} {ts : List TE} {acc : Str} {σ : L2.St} {H : Hp} {Q : Str → Hp → Prop} (q : t σ H fun x H1 => ∃ y : Str, x = .str y ∧ (acc ++ y).length ≤ sizeLine ∧ tJs ts (acc ++ y) σ H1 Q) : tJs (t :: ts) acc σ H Q := q
theorem jn {acc : Str} {σ : L2.St} {H : Hp} {Q : Str → Hp → Prop} (q : Q acc H) : tJs [] acc σ H Q := q
theorem jX {ts : List TE} {σ : L2.St} {H : Hp} {Q : VK} (q : tJs ts Str.empty σ H fun out H1 => Q (.str out) H1) : (fun (σ : L2.St) (H : Hp) (Q : VK) => tJs ts Str.empty σ H fun out H1 => Q (.str out) H1) σ H Q := q
theorem fm {te : TE} {σ : L2.St} {H : Hp} {Q : VK} (q : te σ H fun x H1 => (∃ y : Str, x = .str y ∧ y.length ≤ sizeLine ∧ Q (.str y) H1) ∨ ∃ i : Int, x = .int i ∧ i.natAbs.log2 < 1920 ∧ Q (.str (toString i)) H1) : tFmt te σ H Q := q
theorem cut_m1 (xs : List V) : cutV xs none (some (-1)) = xs.dropLast := by
  unfold cutV
  rw [List.dropLast_eq_take]
  show ((xs.drop 0).take (HT.sIx xs.length xs.length (some (-1)) - 0)) = _
  rw [List.drop_zero, Nat.sub_zero]
  congr 1
  unfold HT.sIx
  simp
  omega
theorem iteNt {A B : Prop} (h : B) : if (!true) = true then A else B := iteF h
theorem iteNf {A B : Prop} (h : A) : if (!false) = true then A else B := iteT h
theorem par3 {i j l : Nat} {aa : TA} {D : Ends} {σ : L2.St} {H : Hp} (q : aa σ H fun vs H1 => ∃ u v w, vs = [u, v, w] ∧ D.nx (((σ.set i (some u)).set j (some v)).set l (some w)) H1) : tPar3 i j l aa D σ H := q
theorem extrip {u v w : V} {R : V → V → V → Prop} (q : R u v w) : ∃ a b c, [u, v, w] = [a, b, c] ∧ R a b c := ⟨u, v, w, rfl, q⟩
theorem app {l : Addr} {xs : List V} {y : V} {H : Hp} {Q : VK} (h : H l = some (.lst xs)) (hz : xs.length < sizeLine) (q : Q .non (upd H l (.lst (xs ++ [y])))) : rAppend (.ref l) [y] H Q := ⟨l, xs, y, rfl, rfl, h, hz, q⟩
theorem popL {l : Addr} {xs : List V} {y : V} {H : Hp} {Q : VK} (h : H l = some (.lst (xs ++ [y]))) (q : Q y (upd H l (.lst xs))) : rPop (.ref l) [] H Q := by
  refine ⟨l, _, y, rfl, rfl, h, by simp, ?_⟩
  rw [List.dropLast_concat]
  exact q
theorem tyvL {K : PySem.W.Frag} {l : Addr} {xs : List V} {H : Hp} (h : H l = some (.lst xs)) : tyV K "list" (.ref l) H := .inl ⟨rfl, _, SqL.of h⟩
theorem same_mut {H H' : Hp} {x : Addr} {o : HO} (s : Same H H') (n : H x = none) : Same H (L2.upd H' x o) := fun c u e => by
  rw [upd_ne (ne_of_none e n)]
  exact s c u e
theorem atI_last {xs : List V} {y : V} : atI (xs ++ [y]) (-1) = some y := by
  have e : (xs ++ [y]).length = xs.length + 1 := by simp
  have h : ixN (xs.length + 1) (-1) = some xs.length := by
    unfold ixN
    simp
    try omega
  unfold atI
  rw [e, h]
  simp
end
end Rg


namespace Pf
open PySem L2 Rg
local macro_rules | `(tactic| k_extra "hp") => `(tactic| first
  | assumption
  | exact SqL.of (by assumption) | exact SqT.of (by assumption) | exact SqL.of upd_same | exact SqT.of upd_same
  | exact upd_same
  | exact Or.inl (SqL.of (by assumption)) | exact Or.inl (SqL.of upd_same) | exact Or.inl (by assumption) | exact Or.inr (by assumption)
  | exact Or.inr (SqT.of (by assumption)) | exact Or.inr (SqT.of upd_same))
local macro_rules | `(tactic| k_extra "sz") => `(tactic| first | assumption | exact Nat.le_of_ble_eq_true rfl | (simp only [sizeLine_eq]; omega) | (rw [sizeLine_eq]; decide) | omega | decide)
local macro_rules | `(tactic| k_extra "ar") => `(tactic| first | assumption | omega | decide | (exact ⟨by omega, by omega⟩) | (exact Or.inl ⟨by omega, by omega⟩) | (exact Or.inr ⟨by omega, by omega⟩))
local macro_rules | `(tactic| k_extra "ty") => `(tactic| first | assumption | exact .base (.str _) | exact .base (.int _) | exact .base (.bl _) | exact .base .non | exact tyx_L (by assumption) | exact tyx_T (by assumption) | exact .base (.tup (by assumption)) | exact .base (.lst (by assumption)) | exact .base (.tup upd_same) | exact .base (.lst upd_same))
local macro_rules | `(tactic| k_extra "kb") => `(tactic| first | exact kit_ty kB_NoneType_str | exact kit_ty kB_NoneType_bool | exact kit_ty kB_NoneType_int | exact kit_ty kB_NoneType_dict | exact kit_ty kB_NoneType_tuple | exact kit_ty kB_NoneType_list | exact kit_ty kB_bool_str | exact kit_ty kB_bool_bool | exact kit_ty kB_bool_int | exact kit_ty kB_bool_dict | exact kit_ty kB_bool_tuple | exact kit_ty kB_bool_list | exact kit_ty kB_int_str | exact kit_ty kB_int_bool | exact kit_ty kB_int_int | exact kit_ty kB_int_dict | exact kit_ty kB_int_tuple | exact kit_ty kB_int_list | exact kit_ty kB_str_str | exact kit_ty kB_str_bool | exact kit_ty kB_str_int | exact kit_ty kB_str_dict | exact kit_ty kB_str_tuple | exact kit_ty kB_str_list | exact kit_ty kB_list_str | exact kit_ty kB_list_bool | exact kit_ty kB_list_int | exact kit_ty kB_list_dict | exact kit_ty kB_list_tuple | exact kit_ty kB_list_list | exact kit_ty kB_tuple_str | exact kit_ty kB_tuple_bool | exact kit_ty kB_tuple_int | exact kit_ty kB_tuple_dict | exact kit_ty kB_tuple_tuple | exact kit_ty kB_tuple_list | exact kit_ty kB_dict_str | exact kit_ty kB_dict_bool | exact kit_ty kB_dict_int | exact kit_ty kB_dict_dict | exact kit_ty kB_dict_tuple | exact kit_ty kB_dict_list)
local macro_rules | `(tactic| k_extra "r1") => `(tactic| with_reducible first
  | refine Rg.mkNx ?_ | refine Rg.mkRt ?_ | refine Rg.mkCt ?_ | refine Rg.mkBk ?_
  | refine Rg.seq ?_ | refine Rg.asg ?_ | refine Rg.gname ?_ | refine Rg.cst ?_ | refine Rg.op ?_ | refine Rg.un ?_ | refine Rg.chain ?_
  | refine Rg.exbl ?_ | refine Rg.exint ?_ | refine Rg.expair ?_ | refine Rg.exstr ?_
  | refine Rg.eqI ?_ | refine Rg.neI ?_ | refine Rg.eqStr ?_ | refine Rg.neStr ?_ | refine Rg.eqB_truetrue ?_ | refine Rg.neB_truetrue ?_ | refine Rg.eqB_truefalse ?_ | refine Rg.neB_truefalse ?_ | refine Rg.eqB_falsetrue ?_ | refine Rg.neB_falsetrue ?_ | refine Rg.eqB_falsefalse ?_ | refine Rg.neB_falsefalse ?_ | refine Rg.eqB ?_ | refine Rg.neB ?_ | refine Rg.iI0 ?_ | refine Rg.iU ?_ | refine Rg.addI ?_ | refine Rg.leI ?_ | refine Rg.leS ?_ | refine Rg.inS ?_ | refine Rg.ninS ?_ | refine Rg.isN_int ?_ | refine Rg.notN_int ?_ | refine Rg.isN_str ?_ | refine Rg.notN_str ?_ | refine Rg.isN_bl ?_ | refine Rg.notN_bl ?_ | refine Rg.isN_ref ?_ | refine Rg.notN_ref ?_ | refine Rg.isN_non ?_ | refine Rg.notN_non ?_ | refine Rg.isN ?_ | refine Rg.notN ?_
  | refine Rg.sl ?_ | refine Rg.noPart ?_ | refine Rg.part ?_ | refine Rg.test ?_ | refine Rg.tb_ ?_ | refine Rg.tand ?_ | refine Rg.tor ?_ | refine Rg.tnot ?_
  | refine Rg.andV ?_ | refine Rg.orV ?_ | refine Rg.notV ?_ | refine Rg.ife ?_
  | refine Rg.nxt ?_ | refine Rg.brk ?_ | refine Rg.cnt ?_ | refine Rg.drp ?_ | refine Rg.ret ?_ | refine Rg.retN ?_ | refine Rg.ifS ?_ | refine Rg.par ?_ | refine Rg.gsub ?_
  | refine Rg.gcons ?_ | refine Rg.gnil ?_ | refine Rg.anil ?_ | refine Rg.acons ?_ | refine Rg.callC ?_ | refine Rg.callK ?_ | refine Rg.callB ?_ | refine Rg.intI ?_
  | refine Rg.lc ?_ | refine Rg.pnil ?_ | refine Rg.pcons ?_ | refine Rg.dget2 ?_ | refine Rg.tyes ?_ | refine Rg.lst_ ?_ | refine Rg.tup_ ?_ | refine Rg.m1 ?_ | refine Rg.isStr ?_ | refine Rg.for_ ?_ | refine Rg.bm ?_ | refine Rg.bm0 ?_ | refine Rg.il ?_ | refine Rg.ir1 ?_ | refine Rg.is_ ?_ | refine Rg.iz ?_
  | refine Rg.revL ?_ | refine Rg.revT ?_ | refine Rg.star ?_ | refine Rg.iT ?_ | refine Rg.ipI2 ?_ | refine Rg.par3 ?_ | refine Rg.extrip ?_ | refine Rg.fm ?_ | refine Rg.jc ?_ | refine Rg.jn ?_
  | refine iteT ?_ | refine iteF ?_ | refine Rg.iteNt ?_ | refine Rg.iteNf ?_)
local macro_rules | `(tactic| k_extra "r") => `(tactic| first
  | k_extra "r1"
  | ((with_reducible refine' Rg.var ?h ?_); (case h => exact rfl))
  | ((with_reducible refine' Rg.aug ?h ?_); (case h => exact rfl))
  | ((with_reducible refine' Rg.ipS2 ?h ?_); (case h => k_extra "sz"))
  | ((with_reducible refine' Rg.ipL2 ?h ?h2 ?h3 ?_); (case h => k_extra "hp"); (case h2 => k_extra "hp"); (case h3 => k_extra "sz"))
  | ((with_reducible refine' Rg.iI ?h ?_); (case h => k_extra "ar"))
  | ((with_reducible refine' Rg.mulI ?h ?_); (case h => k_extra "ar"))
  | ((with_reducible refine' Rg.eqS ?h ?_); (case h => exact rfl))
  | ((with_reducible refine' Rg.neS ?h ?_); (case h => exact rfl))
  | ((with_reducible refine' Rg.addS ?h ?_); (case h => k_extra "sz"))
  | ((with_reducible refine' Rg.isi ?h ?h1 ?_); (case h => k_extra "ty"); (case h1 => with_reducible k_extra "kb"))
  | ((with_reducible refine' Rg.lenS ?h ?_); (case h => k_extra "sz"))
  | ((with_reducible refine' Rg.lenL ?h ?_); (case h => k_extra "hp"))
  | ((with_reducible refine' Rg.lenT ?h ?_); (case h => k_extra "hp"))
  | ((with_reducible refine' Rg.ixL ?h ?h1 ?_); (case h => k_extra "hp"); (case h1 => exact rfl))
  | ((with_reducible refine' Rg.ixT ?h ?h1 ?_); (case h => k_extra "hp"); (case h1 => exact rfl))
  | ((with_reducible refine' Rg.setL ?h ?h1 ?_); (case h => k_extra "hp"); (case h1 => exact rfl))
  | ((with_reducible refine' Rg.slS ?h ?_); (case h => k_extra "sz"))
  | ((with_reducible refine' Rg.exl ?h ?_); (case h => exact ⟨_, by k_extra "hp"⟩))
  | ((with_reducible refine' Rg.exr1 ?h1 ?h2 ?_); (case h1 => omega); (case h2 => omega))
  | ((with_reducible refine' Rg.gtup ?h ?h1 ?_); (case h => k_extra "hp"); (case h1 => exact rfl)))
local macro_rules | `(tactic| k_extra "rr") => `(tactic| repeat (k_extra "r"))

def top (i : Nat) : Stmt := PySem.Challenge.pw_rubgrove_k07_texts_of_documents.main.body.getD i (.Pass ⟨0, 0, 0, 0⟩)
abbrev s_is_sign : Stmt := top 7
abbrev s_spaced : Stmt := top 9
abbrev s_document_text : Stmt := top 10
abbrev s_read_kind : Stmt := top 11
abbrev s_read_quoted : Stmt := top 12
abbrev s_read_document : Stmt := top 13
abbrev s_law_bag : Stmt := top 15
abbrev s_law_take : Stmt := top 16
abbrev s_law_of : Stmt := top 17
abbrev s_law_words : Stmt := top 18
abbrev s_law_names : Stmt := top 19
abbrev s_law_sign_text : Stmt := top 20
abbrev s_law_nested : Stmt := top 21
abbrev s_law_document : Stmt := top 22
abbrev s_law_alike : Stmt := top 23
abbrev s_law_text : Stmt := top 24
abbrev s_law : Stmt := top 25
theorem sc_is_sign : FnScope ["sign"] ["sign"] (defScope s_is_sign) := ⟨rfl, rfl, rfl, by decide +kernel, rfl, by decide +kernel, by decide +kernel⟩
theorem sc_spaced : FnScope ["row", "found", "node"] ["row"] (defScope s_spaced) := ⟨rfl, rfl, rfl, by decide +kernel, rfl, by decide +kernel, by decide +kernel⟩
theorem sc_document_text : FnScope ["document", "found", "left", "thing", "kind", "text", "inner"] ["document"] (defScope s_document_text) := ⟨rfl, rfl, rfl, by decide +kernel, rfl, by decide +kernel, by decide +kernel⟩
theorem sc_read_kind : FnScope ["text", "at", "end"] ["text", "at"] (defScope s_read_kind) := ⟨rfl, rfl, rfl, by decide +kernel, rfl, by decide +kernel, by decide +kernel⟩
theorem sc_read_quoted : FnScope ["text", "at", "end"] ["text", "at"] (defScope s_read_quoted) := ⟨rfl, rfl, rfl, by decide +kernel, rfl, by decide +kernel, by decide +kernel⟩
theorem sc_read_document : FnScope ["text", "rows", "heads", "at", "kind", "word", "inner"] ["text"] (defScope s_read_document) := ⟨rfl, rfl, rfl, by decide +kernel, rfl, by decide +kernel, by decide +kernel⟩
theorem sc_law_bag : FnScope ["_law_script", "_law_row", "_law_mark", "_law_cell"] ["_law_script"] (defScope s_law_bag) := ⟨rfl, rfl, rfl, by decide +kernel, rfl, by decide +kernel, by decide +kernel⟩
theorem sc_law_take : FnScope ["_law_bag_z", "_law_many", "_law_cell", "_law_mixed", "_law_found"] ["_law_bag_z", "_law_many"] (defScope s_law_take) := ⟨rfl, rfl, rfl, by decide +kernel, rfl, by decide +kernel, by decide +kernel⟩
theorem sc_law_of : FnScope ["_law_bag_z", "_law_things"] ["_law_bag_z", "_law_things"] (defScope s_law_of) := ⟨rfl, rfl, rfl, by decide +kernel, rfl, by decide +kernel, by decide +kernel⟩
theorem sc_law_words : FnScope ["_law_bag_z", "_law_many", "_law_most", "_law_letters", "_law_stem", "_law_at", "_law_start", "_law_found", "_law_fixed", "_law_k", "_law_word"] ["_law_bag_z", "_law_many", "_law_most"] (defScope s_law_words) := ⟨rfl, rfl, rfl, by decide +kernel, rfl, by decide +kernel, by decide +kernel⟩
theorem sc_law_names : FnScope ["_law_bag_z"] ["_law_bag_z"] (defScope s_law_names) := ⟨rfl, rfl, rfl, by decide +kernel, rfl, by decide +kernel, by decide +kernel⟩
theorem sc_law_sign_text : FnScope ["_law_bag_z", "_law_most", "_law_signs", "_law_k"] ["_law_bag_z", "_law_most"] (defScope s_law_sign_text) := ⟨rfl, rfl, rfl, by decide +kernel, rfl, by decide +kernel, by decide +kernel⟩
theorem sc_law_nested : FnScope ["_law_state", "_law_rows", "_law_opened", "_law_mark", "_law_inner"] ["_law_state"] (defScope s_law_nested) := ⟨rfl, rfl, rfl, by decide +kernel, rfl, by decide +kernel, by decide +kernel⟩
theorem sc_law_document : FnScope ["_law_bag_z", "_law_kinds", "_law_many", "_law_marks", "_law_opened", "_law_some", "_law_texts", "_law_k", "_law_step"] ["_law_bag_z", "_law_kinds", "_law_many"] (defScope s_law_document) := ⟨rfl, rfl, rfl, by decide +kernel, rfl, by decide +kernel, by decide +kernel⟩
theorem sc_law_alike : FnScope ["_law_found", "_law_due", "_law_key", "_law_one", "_law_two"] ["_law_found", "_law_due"] (defScope s_law_alike) := ⟨rfl, rfl, rfl, by decide +kernel, rfl, by decide +kernel, by decide +kernel⟩
theorem sc_law_text : FnScope ["_law_document_z", "_law_words_z", "_law_kind", "_law_text_z", "_law_inner", "_law_word"] ["_law_document_z"] (defScope s_law_text) := ⟨rfl, rfl, rfl, by decide +kernel, rfl, by decide +kernel, by decide +kernel⟩
theorem sc_law : FnScope ["_law_script", "_law_bag_z", "_law_names_z", "_law_turn", "_law_document_z", "_law_text_z", "_law_deep", "_law_level"] ["_law_script"] (defScope s_law) := ⟨rfl, rfl, rfl, by decide +kernel, rfl, by decide +kernel, by decide +kernel⟩
/-- what the text's names are -/
structure Txt (mg : Str → Option Value) : Prop where
  len : mg "len" = none
  int : mg "int" = none
  range : mg "range" = none
  isinstance : mg "isinstance" = none
  all : mg "all" = none
  list : mg "list" = none
  tuple : mg "tuple" = none
  str : mg "str" = none
  sorted : mg "sorted" = none
  zip : mg "zip" = none
  min : mg "min" = none
  bool : mg "bool" = none
  dict : mg "dict" = none
  g_SMALL : ∃ u, mg "SMALL" = some u ∧ RelV (.str "abcdefghijklmnopqrstuvwxyz") u
  g_MOST_LETTERS : ∃ u, mg "MOST_LETTERS" = some u ∧ RelV (.int 6) u
  g_MOST_SIGNS : ∃ u, mg "MOST_SIGNS" = some u ∧ RelV (.int 20) u
/-! ### the bag -/
def BagAt (H : Hp) (p r : Addr) : Prop := ∃ (ns : List Int) (i c m : Int), H p = some (.lst [.ref r, .int i, .int c, .int m]) ∧ H r = some (.lst (ns.map V.int)) ∧ ns.length ≤ 63 ∧ 0 ≤ i ∧ 0 ≤ c ∧ 0 ≤ m ∧ m < 2147483629
theorem bag_ne {H : Hp} {p r : Addr} {ns : List Int} {i c m : V} (h : H p = some (.lst [.ref r, i, c, m])) (h' : H r = some (.lst (ns.map V.int))) : r ≠ p := by
  rintro rfl
  rw [h] at h'
  have e := Option.some.inj h'
  injection e with e
  cases ns with
  | nil => cases e
  | cons x l =>
    rw [List.map_cons] at e
    cases e
theorem BagAt.ne_none {H : Hp} {b r p : Addr} (h : BagAt H b r) (e : H p = none) : p ≠ b ∧ p ≠ r := by
  obtain ⟨ns, i, c, m, h1, h2, _⟩ := h
  exact ⟨(ne_of_none h1 e).symm, (ne_of_none h2 e).symm⟩
theorem BagAt.ex {H : Hp} {b r : Addr} (h : BagAt H b r) : ∃ o, H b = some o := by
  obtain ⟨ns, i, c, m, h1, h2, _⟩ := h
  exact ⟨_, h1⟩
theorem BagAt.same {H H' : Hp} {b r : Addr} (h : BagAt H b r) (s : Same H H') : BagAt H' b r := by
  obtain ⟨ns, i, c, m, h1, h2, h3⟩ := h
  exact ⟨ns, i, c, m, s _ _ h1, s _ _ h2, h3⟩
theorem BagAt.new {H : Hp} {b r p : Addr} {o : HO} (h : BagAt H b r) (n : H p = none) : BagAt (upd H p o) b r := h.same (same_upd n)
/-- what was not there when the bag stood there may change -/
theorem BagAt.mut {H H1 : Hp} {b r p : Addr} {o : HO} (h : BagAt H b r) (h1 : BagAt H1 b r) (n : H1 p = none) : BagAt (upd H p o) b r := by
  obtain ⟨n1, n2⟩ := h1.ne_none n
  obtain ⟨ns, i, c, m, h1, h2, h3⟩ := h
  exact ⟨ns, i, c, m, by rw [upd_ne n1.symm]; exact h1, by rw [upd_ne n2.symm]; exact h2, h3⟩
def spBag (K : PySem.W.Frag) : Sp := fun vs H Q _ => ∃ (a : Addr) (ns : List Int), vs = [.ref a] ∧ SqL K H a (ns.map V.int) ∧ ns.length ≤ 63 ∧
  ∀ (H' : Hp) (p r : Addr), Same H H' → H p = none → BagAt H' p r → Q (.ref p) H'
def spTake : Sp := fun vs H Q _ => ∃ (b r : Addr) (many : Int), vs = [.ref b, .int many] ∧ BagAt H b r ∧ 1 ≤ many ∧ many < 1073741824 ∧
  ∀ (k : Int) (H' : Hp), But b H H' → BagAt H' b r → 0 ≤ k → k < many → Q (.int k) H'
section
variable {P : Program} {w : World} {K : PySem.W.Frag} {mg : Str → Option Value} {base : Heap} {f : Addr} {fd : FuncData}
theorem ok_law_bag (F : Fun K "_law_bag" "_law_bag" s_law_bag f fd) (T : Txt mg) : FnOk P w K mg base CX0 1 f fd ["_law_script"] (spBag K) := by
  refine F.ok sc_law_bag (fun vs H Q E h => ?_) (fun cdv A outer s H vs Q E hr h => ?_)
  · obtain ⟨a, ns, rfl, _⟩ := h
    rfl
  · obtain ⟨a, ns, rfl, hS, hl, q⟩ := h
    refine ⟨_, (pss_cons (ps_set (i := 1) sc_law_bag.nd rfl (.inl rfl) (pe_callTy (cr_list K) (by rfl) T.list (by decide +kernel) (pa_cons (pe_slice (sl_X K) (pv 0) po_none (po_some pe_int)) pa_nil)))
      (pss_cons (ps_set (i := 2) sc_law_bag.nd rfl (.inl rfl) (pe_op (op_addX K) pe_int (pe_op op_mulX pe_int (pe_callB (call_lenX K) (by rfl) T.len PySem.boot_len (pa_cons (pv 1) pa_nil)))))
      (pss_cons (ps_for PassesOwn.never rfl (pi_listX K (pv 1)) (pg_name (i := 3) sc_law_bag.nd rfl (.inl rfl)) (pss_one (ps_set (i := 2) sc_law_bag.nd rfl (.inl rfl) (pe_op op_mod (pe_callTy cr_int (by rfl) T.int (by decide +kernel) (pa_cons (pe_op (op_addX K) (pe_op (op_addX K) (pe_op op_mulX (pv 2) pe_int) (pe_op op_mod (pe_callTy cr_int (by rfl) T.int (by decide +kernel) (pa_cons (pv 3) pa_nil)) pe_int)) pe_int) pa_nil)) pe_int))))
      (pss_one (ps_ret (pe_lst (pa_cons (pv 1) (pa_cons pe_int (pa_cons pe_int (pa_cons (pv 2) pa_nil)))))))))), ?_⟩
    change (_ : TS) _ [some (V.ref a), none, none, none] _
    k_extra "rr"
    refine slL hS fun l nl => ?_
    obtain ⟨ms, em, hm⟩ := cut_map ns none (some 63)
    rw [em]
    k_extra "rr"
    refine listL (SqL.of upd_same) fun r nr => ?_
    have nrl : l ≠ r := ne_of_none upd_same nr
    have nr0 : H r = none := un0 nr
    k_extra "rr"
    have hm63 : ms.length ≤ 63 := by omega
    have elen : ((ms.map V.int).length : Int) ≤ 63 := by rw [List.length_map]; omega
    have s2 : Same H (upd (upd H l (.lst (ms.map V.int))) r (.lst (ms.map V.int))) := (same_upd nl).trans (same_upd nr)
    refine for_list (K := K) (a := r) (xs := ms.map V.int) (fun i σ H' => ∃ (m : Int) (v : Option V), σ = [some (.ref a), some (.ref r), some (.int m), v] ∧ 0 ≤ m ∧ m < 2147483629 ∧ H' = upd (upd H l (.lst (ms.map V.int))) r (.lst (ms.map V.int)))
      ⟨_, none, rfl, by omega, by omega, rfl⟩ (fun i σ H' _ ⟨_, _, _, _, _, e⟩ => by rw [e]; exact SqL.of upd_same) ?_ ?_
    · rintro i y σ H' hi ⟨m, v, rfl, m0, m1, rfl⟩
      obtain ⟨u, hu, rfl⟩ := map_at hi
      k_extra "rr"
      have h1 := Int.emod_nonneg (m * 45161 + u % 2147483423 + 11) (show (2147483549 : Int) ≠ 0 by decide)
      have h2 := Int.emod_lt_of_pos (m * 45161 + u % 2147483423 + 11) (show (0 : Int) < 2147483549 by decide)
      exact ⟨_, _, rfl, h1, by omega, rfl⟩
    · rintro σ H' ⟨m, v, rfl, m0, m1, rfl⟩
      k_extra "rr"
      refine ⟨by k_extra "sz", fun p np => ?_⟩
      k_extra "rr"
      have nrp : r ≠ p := ne_of_none upd_same np
      refine q _ p r (s2.trans (same_upd np)) (s2.free np) ⟨ms, 0, 0, m, upd_same, upd2 nrp upd_same, hm63, by decide, by decide, m0, m1⟩
end

section
variable {P : Program} {w : World} {K : PySem.W.Frag} {mg : Str → Option Value} {base : Heap} {f : Addr} {fd : FuncData}
theorem ok_law_take (F : Fun K "_law_take" "_law_take" s_law_take f fd) (T : Txt mg) : FnOk P w K mg base CX0 1 f fd ["_law_bag_z", "_law_many"] spTake := by
  refine F.ok sc_law_take (fun vs H Q E h => ?_) (fun cdv A outer s H vs Q E hr h => ?_)
  · obtain ⟨b, r, many, rfl, _⟩ := h
    rfl
  · obtain ⟨b, r, many, rfl, ⟨ns, i, c, m, hb, hn, hl, i0, c0, m0, m1⟩, k1, k2, q⟩ := h
    refine ⟨_, (C8.pss_cut (ps_if (PW.pt (pw_and (pt_cmpR (op_eqX K hr) (pe_ix (ix_X K) (pv 0) pe_int (fun _ _ => rfl)) pe_int (nomark _)) (pw_and1 (pt_cmpR op_lt (pe_ix (ix_X K) (pv 0) pe_int (fun _ _ => rfl)) (pe_callB (call_lenX K) (by rfl) T.len PySem.boot_len (pa_cons (pe_ix (ix_X K) (pv 0) pe_int (fun _ _ => rfl)) pa_nil)) (nomark _))))) (pss_cons (ps_set (i := 2) sc_law_take.nd rfl (.inl rfl) (pe_ix (ix_X K) (pe_ix (ix_X K) (pv 0) pe_int (fun _ _ => rfl)) (pe_ix (ix_X K) (pv 0) pe_int (fun _ _ => rfl)) (fun _ _ => rfl)))
      (pss_cons (ps_asg (pe_op (op_addX K) (pe_ix (ix_X K) (pv 0) pe_int (fun _ _ => rfl)) pe_int) (pg_sub (pv 0) pe_int set_list))
      (pss_one (ps_if (pt_cmpR op_ge (pv 2) (pe_op op_pow pe_int pe_int) (nomark _)) (pss_one (ps_asg (pv 2) (pg_sub (pv 0) pe_int set_list))) (pss_cons (ps_set (i := 3) sc_law_take.nd rfl (.inl rfl) (pe_op (op_addX K) (pe_op op_mulX (pe_ix (ix_X K) (pv 0) pe_int (fun _ _ => rfl)) pe_int) (pe_op op_mod (pe_callTy cr_int (by rfl) T.int (by decide +kernel) (pa_cons (pv 2) pa_nil)) pe_int)))
      (pss_one (ps_asg (pe_op op_mod (pe_callTy cr_int (by rfl) T.int (by decide +kernel) (pa_cons (pe_op (op_addX K) (pv 3) (pe_ix (ix_X K) (pv 0) pe_int (fun _ _ => rfl))) pa_nil)) pe_int) (pg_sub (pv 0) pe_int set_list)))))))) pss_nil)
      (pss_cons (ps_if (pt_cmpR op_gt (pe_ix (ix_X K) (pv 0) pe_int (fun _ _ => rfl)) pe_int (nomark _)) (pss_cons (ps_set (i := 4) sc_law_take.nd rfl (.inl rfl) (pe_op op_mod (pe_callTy cr_int (by rfl) T.int (by decide +kernel) (pa_cons (pe_ix (ix_X K) (pv 0) pe_int (fun _ _ => rfl)) pa_nil)) (pv 1)))
      (pss_cons (ps_asg (pe_op op_fdivN (pe_ix (ix_X K) (pv 0) pe_int (fun _ _ => rfl)) (pv 1)) (pg_sub (pv 0) pe_int set_list))
      (pss_one (ps_ret (pv 4))))) pss_nil)
      (pss_cons (ps_asg (pe_op op_mod (pe_callTy cr_int (by rfl) T.int (by decide +kernel) (pa_cons (pe_op (op_addX K) (pe_op op_mulX (pe_ix (ix_X K) (pv 0) pe_int (fun _ _ => rfl)) pe_int) pe_int) pa_nil)) pe_int) (pg_sub (pv 0) pe_int set_list))
      (pss_one (ps_ret (pe_op op_mod (pe_callTy cr_int (by rfl) T.int (by decide +kernel) (pa_cons (pe_op op_fdivN (pe_op op_mod (pe_callTy cr_int (by rfl) T.int (by decide +kernel) (pa_cons (pe_op op_mulX (pe_ix (ix_X K) (pv 0) pe_int (fun _ _ => rfl)) (pe_ix (ix_X K) (pv 0) pe_int (fun _ _ => rfl))) pa_nil)) pe_int) pe_int) pa_nil)) (pv 1))))))), ?_⟩
    change (_ : TS) _ [some (V.ref b), some (.int many), none, none, none] _
    have nrb := bag_ne hb hn
    refine Rg.cut (fun σ H' => ∃ (i' c' m' : Int) (v2 v3 : Option V), σ = [some (V.ref b), some (.int many), v2, v3, none] ∧ H' b = some (.lst [.ref r, .int i', .int c', .int m']) ∧ But b H H' ∧ 0 ≤ i' ∧ 0 ≤ c' ∧ 0 ≤ m' ∧ m' < 2147483629) ?_ ?_
    · k_extra "rr"
      refine iteD (fun ec => ?_) (fun ec => ?_)
      · k_extra "rr"
        refine iteD (fun ei => ?_) (fun ei => ?_)
        · k_extra "rr"
          have hin : i.toNat < ns.length := by
            rw [List.length_map] at ei
            omega
          refine ixL (SqL.of hn) (v := .int ns[i.toNat]) ?_ ?_
          · exact at_of (j := i.toNat) (by omega) (by rw [List.getElem?_map, List.getElem?_eq_getElem hin]; rfl)
          k_extra "rr"
          refine iteD (fun eb => ?_) (fun eb => ?_)
          · k_extra "rr"
            refine ⟨i + 1, ns[i.toNat], m, some (.int ns[i.toNat]), none, rfl, upd_same, But.trans But.upd But.upd, by omega, ?_, m0, m1⟩
            have e18 : (0 : Int) ≤ 10 ^ Int.toNat 18 := by decide
            omega
          · k_extra "rr"
            have h1 := Int.emod_nonneg (m * 40087 + ns[i.toNat] % 1999999913 + (i + 1)) (show (2147483629 : Int) ≠ 0 by decide)
            have h2 := Int.emod_lt_of_pos (m * 40087 + ns[i.toNat] % 1999999913 + (i + 1)) (show (0 : Int) < 2147483629 by decide)
            exact ⟨i + 1, c, _, some (.int ns[i.toNat]), some (.int (m * 40087 + ns[i.toNat] % 1999999913)), rfl, upd_same, But.trans But.upd But.upd, by omega, c0, h1, h2⟩
        · k_extra "rr"
          exact ⟨i, c, m, none, none, rfl, hb, But.refl _ _, i0, c0, m0, m1⟩
      · k_extra "rr"
        exact ⟨i, c, m, none, none, rfl, hb, But.refl _ _, i0, c0, m0, m1⟩
    · rintro σ H' ⟨i', c', m', v2, v3, rfl, hb', bb, i0', c0', m0', m1'⟩
      have hn' : H' r = some (.lst (ns.map V.int)) := bb _ _ hn nrb
      k_extra "rr"
      refine iteD (fun ec => ?_) (fun ec => ?_)
      · k_extra "rr"
        refine q (c' % many) _ (bb.trans But.upd) ⟨ns, i', c'.fdiv many, m', upd_same, upd2 nrb hn', hl, i0', ?_, m0', m1'⟩ (Int.emod_nonneg _ (by omega)) (Int.emod_lt_of_pos _ (by omega))
        rw [Int.fdiv_eq_ediv_of_nonneg _ (by omega)]
        exact Int.ediv_nonneg c0' (by omega)
      · k_extra "rr"
        have h1 := Int.emod_nonneg (m' * 48271033 + 37) (show (2147483629 : Int) ≠ 0 by decide)
        have h2 := Int.emod_lt_of_pos (m' * 48271033 + 37) (show (0 : Int) < 2147483629 by decide)
        refine q _ _ (bb.trans But.upd) ⟨ns, i', c', _, upd_same, upd2 nrb hn', hl, i0', c0', h1, h2⟩ (Int.emod_nonneg _ (by omega)) (Int.emod_lt_of_pos _ (by omega))
end

/-! ### drawn things -/
def spOf (K : PySem.W.Frag) : Sp := fun vs H Q _ => ∃ (b r : Addr) (x : V), vs = [.ref b, x] ∧ BagAt H b r ∧
  ((∃ z : Str, x = .str z ∧ 0 < z.length ∧ z.length ≤ 1000 ∧ ∀ (c : Nat) (H' : Hp), c ∈ z.cps.toList → But b H H' → BagAt H' b r → Q (.str ⟨#[c]⟩) H') ∨
   (∃ (p : Addr) (xs : List V), x = .ref p ∧ p ≠ b ∧ SqL K H p xs ∧ 0 < xs.length ∧ xs.length ≤ 1000 ∧ ∀ (i : Nat) (v : V) (H' : Hp), xs[i]? = some v → But b H H' → BagAt H' b r → Q v H'))
theorem at_str {z : Str} {k : Int} (h0 : 0 ≤ k) (h1 : k < z.length) : ∃ c, atI z.cps.toList k = some c ∧ c ∈ z.cps.toList := by
  have hl : k.toNat < z.cps.toList.length := by
    have e : z.cps.toList.length = z.length := by simp [Str.length]
    omega
  refine ⟨z.cps.toList[k.toNat], ?_, List.getElem_mem hl⟩
  have e := atI_nat (xs := z.cps.toList) (j := k.toNat) (v := z.cps.toList[k.toNat]) (List.getElem?_eq_getElem hl)
  rw [show ((k.toNat : Nat) : Int) = k by omega] at e
  exact e
theorem at_lst {xs : List V} {k : Int} (h0 : 0 ≤ k) (h1 : k < xs.length) : ∃ v, atI xs k = some v ∧ xs[k.toNat]? = some v := by
  have hl : k.toNat < xs.length := by omega
  refine ⟨xs[k.toNat], ?_, List.getElem?_eq_getElem hl⟩
  have e := atI_nat (xs := xs) (j := k.toNat) (v := xs[k.toNat]) (List.getElem?_eq_getElem hl)
  rw [show ((k.toNat : Nat) : Int) = k by omega] at e
  exact e
section
variable {P : Program} {w : World} {K : PySem.W.Frag} {mg : Str → Option Value} {base : Heap} {f : Addr} {fd : FuncData}
theorem ok_law_of (F : Fun K "_law_of" "_law_of" s_law_of f fd) (T : Txt mg) (c_law_take : Cal P w K mg base 1 "_law_take" spTake) : FnOk P w K mg base CX0 2 f fd ["_law_bag_z", "_law_things"] (spOf K) := by
  refine F.ok sc_law_of (fun vs H Q E h => ?_) (fun cdv A outer s H vs Q E hr h => ?_)
  · obtain ⟨b, r, x, rfl, _⟩ := h
    rfl
  · obtain ⟨b, r, x, rfl, hb, h⟩ := h
    refine ⟨_, (pss_one (ps_ret (pe_ix (ix_X K) (pv 1) (pe_c c_law_take hr (by omega) (by rfl) (pa_cons (pv 0) (pa_cons (pe_callB (call_lenX K) (by rfl) T.len PySem.boot_len (pa_cons (pv 1) pa_nil)) pa_nil))) (fun _ _ => rfl)))), ?_⟩
    rcases h with ⟨z, rfl, z0, z1, q⟩ | ⟨p, xs, rfl, npb, hx, z0, z1, q⟩
    · change (_ : TS) _ [some (V.ref b), some (V.str z)] _
      k_extra "rr"
      refine ⟨b, r, _, rfl, hb, by omega, by omega, fun k H' bb hb' k0 k1 => ?_⟩
      obtain ⟨c, e1, e2⟩ := at_str k0 k1
      exact ixS (by k_extra "sz") e1 (q c H' e2 bb hb')
    · change (_ : TS) _ [some (V.ref b), some (V.ref p)] _
      k_extra "rr"
      refine ⟨b, r, _, rfl, hb, by omega, by omega, fun k H' bb hb' k0 k1 => ?_⟩
      obtain ⟨v, e1, e2⟩ := at_lst k0 k1
      exact ixL (SqL.but bb npb hx) e1 (q _ v H' e2 bb hb')
end
/-! a text of letters -/
def letters : List Nat := [97, 98, 99, 100, 101, 102, 103, 104, 105, 106, 107, 108, 109, 110, 111, 112, 113, 114, 115, 116, 117, 118, 119, 120, 121, 122]
theorem letters_eq : Str.ofString "abcdefghijklmnopqrstuvwxyz" = SX.S letters := by decide +kernel
def fixW (w : Str) : Str := if w = "if" then "iff" else if w = "is" then "iss" else if w = "end" then "en" else if w = "rest" then "res" else w
/-- the k-th of the words that differ at a place -/
def wordAt (st : List Nat) (at_ s0 k : Nat) : List Nat := st.take at_ ++ [letters.getD ((s0 + 5 * k) % 26) 0] ++ st.drop at_
theorem wordAt_len (st : List Nat) (at_ s0 k : Nat) : (wordAt st at_ s0 k).length ≤ st.length + 1 := by
  unfold wordAt
  rw [List.length_append, List.length_append, List.length_take, List.length_drop, List.length_singleton]
  omega
def fixed : List (Key × V) := [(.inr "if", .str "iff"), (.inr "is", .str "iss"), (.inr "end", .str "en"), (.inr "rest", .str "res")]
theorem fixed_merge : mergeK [] fixed = fixed := by decide +kernel
theorem fixed_get (w : Str) : (valV fixed (.inr w : Key)).getD (.str w) = .str (fixW w) := by
  unfold fixed fixW
  by_cases h1 : w = "if"
  · rw [if_pos h1, valV_pos (by rw [h1])]
    rfl
  rw [if_neg h1, valV_neg (fun z => h1 (Sum.inr.inj z).symm)]
  by_cases h2 : w = "is"
  · rw [if_pos h2, valV_pos (by rw [h2])]
    rfl
  rw [if_neg h2, valV_neg (fun z => h2 (Sum.inr.inj z).symm)]
  by_cases h3 : w = "end"
  · rw [if_pos h3, valV_pos (by rw [h3])]
    rfl
  rw [if_neg h3, valV_neg (fun z => h3 (Sum.inr.inj z).symm)]
  by_cases h4 : w = "rest"
  · rw [if_pos h4, valV_pos (by rw [h4])]
    rfl
  rw [if_neg h4, valV_neg (fun z => h4 (Sum.inr.inj z).symm), valV_nil]
  rfl
def Words (many most : Int) (ws : List Str) : Prop := ∃ (st : List Nat) (at_ s0 : Nat), (st.length : Int) < most ∧ (∀ c ∈ st, c ∈ letters) ∧ at_ ≤ st.length ∧ s0 < 26 ∧
  ws = (List.range many.toNat).map fun k => fixW (SX.S (wordAt st at_ s0 k))
def spWords : Sp := fun vs H Q _ => ∃ (b r : Addr) (many most : Int), vs = [.ref b, .int many, .int most] ∧ BagAt H b r ∧ 0 ≤ many ∧ many ≤ 100 ∧ 1 ≤ most ∧ most ≤ 100 ∧
  ∀ (ws : List Str) (p : Addr) (H' : Hp), Words many most ws → But b H H' → BagAt H' b r → H p = none → H' p = some (.lst (ws.map V.str)) → p ≠ b → Q (.ref p) H'
section
variable {P : Program} {w : World} {K : PySem.W.Frag} {mg : Str → Option Value} {base : Heap} {f : Addr} {fd : FuncData}
theorem ok_law_words (F : Fun K "_law_words" "_law_words" s_law_words f fd) (T : Txt mg) (c_law_take : Cal P w K mg base 1 "_law_take" spTake) (c_law_of : Cal P w K mg base 2 "_law_of" (spOf K)) : FnOk P w K mg base CX0 3 f fd ["_law_bag_z", "_law_many", "_law_most"] spWords := by
  refine F.ok sc_law_words (fun vs H Q E h => ?_) (fun cdv A outer s H vs Q E hr h => ?_)
  · obtain ⟨b, r, many, most, rfl, _⟩ := h
    rfl
  · obtain ⟨b, r, many, most, rfl, hb, k0, k1, l0, l1, q⟩ := h
    refine ⟨_, (pss_cons (ps_set (i := 3) sc_law_words.nd rfl (.inr rfl) pe_str)
      (pss_cons (ps_set (i := 4) sc_law_words.nd rfl (.inr rfl) (pe_joinX K pe_str (pe_lc (own := [("_law_k", 9)]) (g := gName 9) (tt := tYes) (by rfl) sc_law_words.nd (pi_range1 (by rfl) T.range (pa_cons (pe_c c_law_take hr (by omega) (by rfl) (pa_cons (pv 0) (pa_cons (pv 2) pa_nil))) pa_nil)) (blkOk_by (own := [("_law_k", 9)]) (N := ["_law_bag_z", "_law_many", "_law_most", "_law_letters", "_law_stem", "_law_at", "_law_start", "_law_found", "_law_fixed", "_law_k", "_law_word"]) (sc := defScope s_law_words) (by decide +kernel)) (fun _ _ _ _ _ => pg_name (i := 9) sc_law_words.nd rfl (Or.inl rfl)) (fun _ _ _ _ _ => pts_nil) (fun _ _ _ _ _ => (pe_c c_law_of hr (by omega) (by rfl) (pa_cons (pv 0) (pa_cons (pv 3) pa_nil)))))))
      (pss_cons (ps_asg (pe_tup (pa_cons (pe_c c_law_take hr (by omega) (by rfl) (pa_cons (pv 0) (pa_cons (pe_op (op_addX K) (pe_callB (call_lenX K) (by rfl) T.len PySem.boot_len (pa_cons (pv 4) pa_nil)) pe_int) pa_nil))) (pa_cons (pe_c c_law_take hr (by omega) (by rfl) (pa_cons (pv 0) (pa_cons pe_int pa_nil))) pa_nil))) (pg_tupX K (pg_tup (n := 2) (by rfl) (pgs_cons (pg_name (i := 5) sc_law_words.nd rfl (.inr rfl)) (pgs_cons (pg_name (i := 6) sc_law_words.nd rfl (.inr rfl)) pgs_nil)))))
      (pss_cons (ps_setLc (i := 7) (own := [("_law_k", 9)]) (g := gName 9) (tt := tYes) (by rfl) sc_law_words.nd rfl rfl (sw_true rfl rfl rfl (by decide +kernel)) (pi_range1 (by rfl) T.range (pa_cons (pv 1) pa_nil)) (blkOk_by (own := [("_law_k", 9)]) (N := ["_law_bag_z", "_law_many", "_law_most", "_law_letters", "_law_stem", "_law_at", "_law_start", "_law_found", "_law_fixed", "_law_k", "_law_word"]) (sc := defScope s_law_words) (by decide +kernel)) (fun _ _ _ _ _ => pg_name (i := 9) sc_law_words.nd rfl (Or.inl rfl)) (fun _ _ _ _ _ => pts_nil) (fun _ _ _ _ _ => (pe_op (op_addX K) (pe_op (op_addX K) (pe_slice (sl_X K) (pv 4) po_none (po_some (pv 5))) (pe_ix (ix_X K) (pv 3) (pe_op op_mod (pe_callTy cr_int (by rfl) T.int (by decide +kernel) (pa_cons (pe_op (op_addX K) (pv 6) (pe_op op_mulX pe_int (pv 9))) pa_nil)) pe_int) (fun _ _ => rfl))) (pe_slice (sl_X K) (pv 4) (po_some (pv 5)) po_none))))
      (pss_cons (ps_set (i := 8) sc_law_words.nd rfl (.inr rfl) (pe_disp (pps_cons pe_str pe_str (pps_cons pe_str pe_str (pps_cons pe_str pe_str (pps_cons pe_str pe_str pps_nil)))) (by rfl) (by rfl) (fun z => by cases z) (by decide)))
      (pss_one (ps_ret (pe_lc (own := [("_law_word", 10)]) (g := gName 10) (tt := tYes) (by rfl) sc_law_words.nd (pi_listX K (pv 7)) (blkOk_by (own := [("_law_word", 10)]) (N := ["_law_bag_z", "_law_many", "_law_most", "_law_letters", "_law_stem", "_law_at", "_law_start", "_law_found", "_law_fixed", "_law_k", "_law_word"]) (sc := defScope s_law_words) (by decide +kernel)) (fun _ _ _ _ _ => pg_name (i := 10) sc_law_words.nd rfl (Or.inl rfl)) (fun _ _ _ _ _ => pts_nil) (fun _ _ _ _ _ => (pe_dget2 (hu_of hr) (pv 8) (pv 10) (pv 10) ⟨rfl, rfl, rfl, rfl⟩)))))))))), ?_⟩
    change (_ : TS) _ [some (V.ref b), some (.int many), some (.int most), none, none, none, none, none, none, none, none] _
    k_extra "rr"
    refine ⟨b, r, _, rfl, hb, l0, by omega, fun n1 H1 bb1 hb1 n10 n11 => ?_⟩
    k_extra "rr"
    intro D nD
    refine lc_range (lo := 0) (n := n1.toNat) (fun i H' => ∃ cs : List Nat, cs.length = i ∧ (∀ c ∈ cs, c ∈ letters) ∧ H' D = some (.lst (cs.map fun c => V.str ⟨#[c]⟩)) ∧ But b H1 H' ∧ BagAt H' b r)
      ⟨[], rfl, (fun _ h => by cases h), upd_same, But.new nD, hb1.new nD⟩ ?_ ?_
    · rintro i H' hi ⟨cs, ec, hc, eD, bb, hb'⟩
      k_extra "rr"
      refine ⟨rfl, ?_⟩
      k_extra "rr"
      refine ⟨b, r, _, rfl, hb', .inl ⟨_, rfl, by decide +kernel, by decide +kernel, fun c H2 hc2 bb2 hb2 => ?_⟩⟩
      obtain ⟨nDb, nDr⟩ := hb1.ne_none nD
      refine ⟨_, bb2 _ _ eD nDb, by rw [List.length_map, sizeLine_eq]; omega, cs ++ [c], by rw [List.length_append, ec]; rfl, fun d hd => ?_, ?_, (bb.trans bb2).mutNew nD, hb2.mut hb1 nD⟩
      · rcases List.mem_append.mp hd with h | h
        · exact hc d h
        · rw [List.mem_singleton.mp h]
          rw [letters_eq] at hc2
          exact hc2
      · rw [upd_same, List.map_append]
        rfl
    · rintro H' ⟨cs, ec, hc, eD, bb, hb'⟩
      have eD' : H' D = some (.lst ((cs.map fun c => (⟨#[c]⟩ : Str)).map V.str)) := by
        rw [List.map_map]
        exact eD
      rw [empty_S]
      refine joinL (SqL.of eD') (by rw [len_sg, S_len0, Nat.mul_zero]; omega) ?_
      rw [join_sg]
      have hs : (SX.S cs).length ≤ sizeLine := by rw [SX.S_len, sizeLine_eq]; omega
      k_extra "rr"
      have hs2 : (((SX.S cs).length : Nat) : Int) = cs.length := by rw [SX.S_len]
      refine ⟨b, r, _, rfl, hb', by omega, by omega, fun n2 H2 bb2 hb2 n20 n21 => ?_⟩
      k_extra "rr"
      refine ⟨b, r, _, rfl, hb2, by omega, by omega, fun n3 H3 bb3 hb3 n30 n31 => ?_⟩
      k_extra "rr"
      refine ⟨by k_extra "sz", fun p np => ?_⟩
      k_extra "rr"
      have hbP := hb3.new (o := .tup [V.int n2, V.int n3]) np
      have bbP : But b H (upd H3 p (.tup [V.int n2, V.int n3])) := ((((bb1.trans bb).trans bb2).trans bb3).trans (But.new np))
      generalize upd H3 p (.tup [V.int n2, V.int n3]) = HP at hbP bbP
      intro L nL
      refine lc_range (lo := 0) (n := many.toNat) (fun i H' => H' = upd HP L (.lst ((List.range i).map fun k => V.str (SX.S (wordAt cs n2.toNat n3.toNat k))))) rfl ?_ ?_
      · rintro i H' hi rfl
        k_extra "rr"
        refine ⟨rfl, ?_⟩
        k_extra "rr"
        rw [cut_to cs n20]
        k_extra "rr"
        have hix : ((n3 + 5 * (0 + (i : Int))) % 26) = (((n3.toNat + 5 * i) % 26 : Nat) : Int) := by omega
        have hlt : (n3.toNat + 5 * i) % 26 < letters.length := Nat.mod_lt _ (by decide)
        refine ixS (k := letters.getD ((n3.toNat + 5 * i) % 26) 0) (by decide +kernel) ?_ ?_
        · rw [hix, letters_eq]
          refine atI_nat ?_
          show letters[(n3.toNat + 5 * i) % 26]? = some (letters.getD ((n3.toNat + 5 * i) % 26) 0)
          rw [List.getElem?_eq_getElem hlt, List.getD_eq_getElem?_getD, List.getElem?_eq_getElem hlt]
          rfl
        have h1 : (SX.S (cs.take n2.toNat)).length + (⟨#[letters.getD ((n3.toNat + 5 * i) % 26) 0]⟩ : Str).length ≤ sizeLine := by
          rw [SX.S_len, List.length_take, sizeLine_eq]
          show _ + 1 ≤ _
          omega
        refine addS h1 ?_
        rw [show (⟨#[letters.getD ((n3.toNat + 5 * i) % 26) 0]⟩ : Str) = SX.S [letters.getD ((n3.toNat + 5 * i) % 26) 0] from rfl, SX.S_cat]
        k_extra "rr"
        rw [cut_from cs n20]
        refine addS ?_ ?_
        · rw [SX.S_len, SX.S_len, List.length_append, List.length_take, List.length_drop, sizeLine_eq]
          show _ + 1 + _ ≤ _
          omega
        rw [SX.S_cat]
        refine ⟨_, upd_same, ?_, ?_⟩
        · rw [List.length_map, List.length_range, sizeLine_eq]
          omega
        · rw [upd_upd, List.range_succ, List.map_append]
          rfl
      · rintro H' rfl
        k_extra "rr"
        refine disp fun d nd => ?_
        k_extra "rr"
        refine ⟨upd_same, fixed, rfl, by decide, ?_⟩
        rw [upd_upd, fixed_merge]
        have nLd : L ≠ d := ne_of_none upd_same nd
        have nd0 := un0 nd
        have eL : (upd (upd HP L (.lst ((List.range many.toNat).map fun k => V.str (SX.S (wordAt cs n2.toNat n3.toNat k))))) d (.dK fixed)) L = some (.lst ((List.range many.toNat).map fun k => V.str (SX.S (wordAt cs n2.toNat n3.toNat k)))) := upd2 nLd upd_same
        have bbL : But b H (upd HP L (.lst ((List.range many.toNat).map fun k => V.str (SX.S (wordAt cs n2.toNat n3.toNat k))))) := bbP.trans (But.new nL)
        have hbL := hbP.new (o := .lst ((List.range many.toNat).map fun k => V.str (SX.S (wordAt cs n2.toNat n3.toNat k)))) nL
        have bbD := bbL.trans (But.new (o := .dK fixed) nd)
        have hbD := hbL.new (o := .dK fixed) nd
        have eD2 : (upd (upd HP L (.lst ((List.range many.toNat).map fun k => V.str (SX.S (wordAt cs n2.toNat n3.toNat k))))) d (.dK fixed)) d = some (.dK fixed) := upd_same
        generalize upd (upd HP L (.lst ((List.range many.toNat).map fun k => V.str (SX.S (wordAt cs n2.toNat n3.toNat k))))) d (.dK fixed) = HD at eL eD2 bbD hbD
        k_extra "rr"
        intro R nR
        have nLR : L ≠ R := ne_of_none eL nR
        have ndR : d ≠ R := ne_of_none eD2 nR
        refine lc_list (K := K) (a := L) (xs := (List.range many.toNat).map fun k => V.str (SX.S (wordAt cs n2.toNat n3.toNat k))) (fun i H' => H' = upd HD R (.lst ((List.range i).map fun k => V.str (fixW (SX.S (wordAt cs n2.toNat n3.toNat k)))))) rfl ?_ ?_ ?_
        · rintro i H' _ rfl
          exact SqL.of (upd2 nLR eL)
        · rintro i x H' hi rfl
          obtain ⟨u, hu, rfl⟩ := map_at hi
          obtain ⟨hlt, rfl⟩ := List.getElem?_eq_some_iff.mp hu
          rw [List.length_range] at hlt
          rw [List.getElem_range]
          k_extra "rr"
          refine ⟨rfl, ?_⟩
          k_extra "rr"
          refine ⟨d, rfl, .inl ⟨fixed, .inl (upd2 ndR eD2)⟩, ?_⟩
          k_extra "rr"
          refine ⟨_, DGet.k (k := .inr _) (upd2 ndR eD2), ?_⟩
          rw [fixed_get]
          refine ⟨_, upd_same, ?_, ?_⟩
          · rw [List.length_map, List.length_range, sizeLine_eq]
            omega
          · rw [upd_upd, List.range_succ, List.map_append]
            rfl
        · rintro H' rfl
          k_extra "rr"
          refine q ((List.range many.toNat).map fun k => fixW (SX.S (wordAt cs n2.toNat n3.toNat k))) R _ ⟨cs, n2.toNat, n3.toNat, by omega, hc, by omega, by omega, rfl⟩ (bbD.trans (But.new nR)) (hbD.new nR) (bbD.free hbD.ex nR) ?_ (hbD.ne_none nR).1
          rw [upd_same, List.length_map, List.length_range, List.map_map]
          rfl
end

/-! ### a text of signs -/
def signsL : List Nat := [32, 33, 35, 36, 38, 39, 40, 41, 42, 43, 44, 45, 46, 47, 58, 59, 60, 61, 62, 63, 64, 91, 93, 94, 95, 123, 124, 125, 126, 48, 49, 56, 57, 65, 77, 90, 97, 109, 122]
theorem signs_eq : Str.ofString " !#$&'()*+,-./:;<=>?\x40[]^_{|}~0189AMZamz" = SX.S signsL := by decide +kernel
def spSign : Sp := fun vs H Q _ => ∃ (b r : Addr) (most : Int), vs = [.ref b, .int most] ∧ BagAt H b r ∧ 0 ≤ most ∧ most ≤ 1000 ∧
  ∀ (l : List Nat) (H' : Hp), (l.length : Int) ≤ most → (∀ c ∈ l, c ∈ signsL) → But b H H' → BagAt H' b r → Q (.str (SX.S l)) H'
section
variable {P : Program} {w : World} {K : PySem.W.Frag} {mg : Str → Option Value} {base : Heap} {f : Addr} {fd : FuncData}
theorem ok_law_sign_text (F : Fun K "_law_sign_text" "_law_sign_text" s_law_sign_text f fd) (T : Txt mg) (c_law_take : Cal P w K mg base 1 "_law_take" spTake) : FnOk P w K mg base CX0 2 f fd ["_law_bag_z", "_law_most"] spSign := by
  refine F.ok sc_law_sign_text (fun vs H Q E h => ?_) (fun cdv A outer s H vs Q E hr h => ?_)
  · obtain ⟨b, r, most, rfl, _⟩ := h
    rfl
  · obtain ⟨b, r, most, rfl, hb, k0, k1, q⟩ := h
    refine ⟨_, (pss_cons (ps_set (i := 2) sc_law_sign_text.nd rfl (.inr rfl) pe_str)
      (pss_one (ps_ret (pe_joinX K pe_str (pe_lc (own := [("_law_k", 3)]) (g := gName 3) (tt := tYes) (by rfl) sc_law_sign_text.nd (pi_range1 (by rfl) T.range (pa_cons (pe_c c_law_take hr (by omega) (by rfl) (pa_cons (pv 0) (pa_cons (pe_op (op_addX K) (pv 1) pe_int) pa_nil))) pa_nil)) (blkOk_by (own := [("_law_k", 3)]) (N := ["_law_bag_z", "_law_most", "_law_signs", "_law_k"]) (sc := defScope s_law_sign_text) (by decide +kernel)) (fun _ _ _ _ _ => pg_name (i := 3) sc_law_sign_text.nd rfl (Or.inl rfl)) (fun _ _ _ _ _ => pts_nil) (fun _ _ _ _ _ => (pe_ix (ix_X K) (pv 2) (pe_c c_law_take hr (by omega) (by rfl) (pa_cons (pv 0) (pa_cons (pe_callB (call_lenX K) (by rfl) T.len PySem.boot_len (pa_cons (pv 2) pa_nil)) pa_nil))) (fun _ _ => rfl)))))))), ?_⟩
    change (_ : TS) _ [some (V.ref b), some (.int most), none, none] _
    k_extra "rr"
    refine ⟨b, r, _, rfl, hb, by omega, by omega, fun n1 H1 bb1 hb1 n10 n11 => ?_⟩
    k_extra "rr"
    intro D nD
    obtain ⟨nDb, nDr⟩ := hb1.ne_none nD
    refine lc_range (lo := 0) (n := n1.toNat) (fun i H' => ∃ cs : List Nat, cs.length = i ∧ (∀ c ∈ cs, c ∈ signsL) ∧ H' D = some (.lst (cs.map fun c => V.str ⟨#[c]⟩)) ∧ But b H1 H' ∧ BagAt H' b r)
      ⟨[], rfl, (fun _ h => by cases h), upd_same, But.new nD, hb1.new nD⟩ ?_ ?_
    · rintro i H' hi ⟨cs, ec, hc, eD, bb, hb'⟩
      k_extra "rr"
      refine ⟨rfl, ?_⟩
      k_extra "rr"
      have hsz : (Str.ofString " !#$&'()*+,-./:;<=>?\x40[]^_{|}~0189AMZamz").length = 39 := by decide +kernel
      refine ⟨b, r, _, rfl, hb', by rw [hsz]; decide, by rw [hsz]; decide, fun n2 H2 bb2 hb2 n20 n21 => ?_⟩
      obtain ⟨c, e1, e2⟩ := at_str (z := Str.ofString " !#$&'()*+,-./:;<=>?\x40[]^_{|}~0189AMZamz") n20 n21
      refine ixS (by rw [hsz, sizeLine_eq]; decide) e1 ?_
      refine ⟨_, bb2 _ _ eD nDb, by rw [List.length_map, sizeLine_eq]; omega, cs ++ [c], by rw [List.length_append, ec]; rfl, fun d hd => ?_, ?_, (bb.trans bb2).mutNew nD, hb2.mut hb1 nD⟩
      · rcases List.mem_append.mp hd with h | h
        · exact hc d h
        · rw [List.mem_singleton.mp h]
          rw [signs_eq] at e2
          exact e2
      · rw [upd_same, List.map_append]
        rfl
    · rintro H' ⟨cs, ec, hc, eD, bb, hb'⟩
      have eD' : H' D = some (.lst ((cs.map fun c => (⟨#[c]⟩ : Str)).map V.str)) := by
        rw [List.map_map]
        exact eD
      rw [empty_S]
      refine joinL (SqL.of eD') (by rw [len_sg, S_len0, Nat.mul_zero]; omega) ?_
      rw [join_sg]
      k_extra "rr"
      exact q cs H' (by omega) hc (bb1.trans bb) hb'
end

theorem letters_get {i : Nat} (h : i < 26) : letters.getD i 0 ∈ letters := by
  rw [List.getD_eq_getElem?_getD, List.getElem?_eq_getElem (show i < letters.length from h)]
  exact List.getElem_mem h
theorem wordAt_ok {st : List Nat} {at_ s0 k : Nat} (h : ∀ c ∈ st, c ∈ letters) : (∀ c ∈ wordAt st at_ s0 k, c ∈ letters) ∧ 1 ≤ (wordAt st at_ s0 k).length ∧ (wordAt st at_ s0 k).length ≤ st.length + 1 := by
  refine ⟨fun c hc => ?_, ?_, wordAt_len st at_ s0 k⟩
  · unfold wordAt at hc
    rcases List.mem_append.mp hc with hc | hc
    · rcases List.mem_append.mp hc with hc | hc
      · exact h c (List.mem_of_mem_take hc)
      · rw [List.mem_singleton.mp hc]
        exact letters_get (Nat.mod_lt _ (by decide))
    · exact h c (List.mem_of_mem_drop hc)
  · unfold wordAt
    rw [List.length_append, List.length_append, List.length_singleton]
    omega
theorem fix_ok {l : List Nat} (h : ∀ c ∈ l, c ∈ letters) (h1 : 1 ≤ l.length) : ∃ m : List Nat, fixW (SX.S l) = SX.S m ∧ (∀ c ∈ m, c ∈ letters) ∧ 1 ≤ m.length ∧ (m.length ≤ l.length ∨ m.length = 3) := by
  unfold fixW
  by_cases h2 : SX.S l = "if"
  · rw [if_pos h2]
    exact ⟨[105, 102, 102], by decide +kernel, by decide, by decide, .inr rfl⟩
  rw [if_neg h2]
  by_cases h3 : SX.S l = "is"
  · rw [if_pos h3]
    exact ⟨[105, 115, 115], by decide +kernel, by decide, by decide, .inr rfl⟩
  rw [if_neg h3]
  by_cases h4 : SX.S l = "end"
  · rw [if_pos h4]
    have e : l = [101, 110, 100] := SX.S_inj (h4.trans (by decide +kernel))
    exact ⟨[101, 110], by decide +kernel, by decide, by decide, .inl (by rw [e]; decide)⟩
  rw [if_neg h4]
  by_cases h5 : SX.S l = "rest"
  · rw [if_pos h5]
    exact ⟨[114, 101, 115], by decide +kernel, by decide, by decide, .inr rfl⟩
  rw [if_neg h5]
  exact ⟨l, rfl, h, h1, .inl (Nat.le_refl _)⟩

/-! ### equal and of the same kinds -/
def sca : V → Bool
  | .non => true
  | .bl _ => true
  | .int _ => true
  | .str _ => true
  | _ => false
/-- equal data of the same kinds, nested below n -/
def Alk (K : PySem.W.Frag) (H : Hp) : Nat → V → V → Prop
  | 0 => fun _ _ => False
  | n + 1 => fun x y => (x = y ∧ sca x = true) ∨ ∃ a b xs ys, x = .ref a ∧ y = .ref b ∧ ((SqL K H a xs ∧ SqL K H b ys) ∨ (SqT K H a xs ∧ SqT K H b ys)) ∧ xs.length = ys.length ∧ xs.length ≤ 100000 ∧
      ∀ (i : Nat) (x y : V), xs[i]? = some x → ys[i]? = some y → Alk K H n x y
theorem Alk.same {K : PySem.W.Frag} {H H' : Hp} (s : Same H H') : ∀ {n : Nat} {x y : V}, Alk K H n x y → Alk K H' n x y
  | 0, _, _, h => h
  | n + 1, x, y, h => by
    rcases h with h | ⟨a, b, xs, ys, rfl, rfl, h, hl, hz, k⟩
    · exact .inl h
    · refine .inr ⟨a, b, xs, ys, rfl, rfl, ?_, hl, hz, fun i x y h1 h2 => Alk.same s (k i x y h1 h2)⟩
      rcases h with ⟨h1, h2⟩ | ⟨h1, h2⟩
      · exact .inl ⟨s.seq h1, s.seq h2⟩
      · exact .inr ⟨Rg.Same.seqT s h1, Rg.Same.seqT s h2⟩
def spAlike (K : PySem.W.Frag) (n : Nat) : Sp := fun vs H Q _ => ∃ (x y : V), vs = [x, y] ∧ Alk K H n x y ∧ ∀ H', Same H H' → Q (.bl true) H'
section
variable {P : Program} {w : World} {K : PySem.W.Frag} {mg : Str → Option Value} {base : Heap} {f : Addr} {fd : FuncData}
theorem ok_law_alike0 (F : Fun K "_law_alike" "_law_alike" s_law_alike f fd) : FnOk P w K mg base CX0 1 f fd ["_law_found", "_law_due"] (spAlike K 0) := by
  refine F.ok sc_law_alike (fun vs H Q E h => ?_) (fun cdv A outer s H vs Q E hr h => ?_)
  · obtain ⟨x, y, rfl, _⟩ := h
    rfl
  · obtain ⟨x, y, rfl, h, _⟩ := h
    exact h.elim
theorem ok_law_alike1 (F : Fun K "_law_alike" "_law_alike" s_law_alike f fd) (T : Txt mg) {n : Nat} (c_law_alike : Cal P w K mg base (n + 1) "_law_alike" (spAlike K n)) : FnOk P w K mg base CX0 (n + 2) f fd ["_law_found", "_law_due"] (spAlike K (n + 1)) := by
  refine F.ok sc_law_alike (fun vs H Q E h => ?_) (fun cdv A outer s H vs Q E hr h => ?_)
  · obtain ⟨x, y, rfl, _⟩ := h
    rfl
  · obtain ⟨x, y, rfl, h, q⟩ := h
    refine ⟨_, (pss_cons (ps_if (PW.pt (pw_or (pt_cmpR op_isNn (pv 1) pe_non (nomark _)) (pw_or1 (pt_cmpR op_isNn (pv 0) pe_non (nomark _))))) (pss_one (ps_ret (pe_and (pe_cmpR op_isNn (pv 1) pe_non (nomark _)) (pe_one (pe_cmpR op_isNn (pv 0) pe_non (nomark _)))))) pss_nil)
      (pss_cons (ps_if (PW.pt (pw_or (pt_val (pe_callB (cr_isi K) (by rfl) T.isinstance (by decide +kernel) (pa_cons (pv 1) (pa_cons (pe_bltn (v := .ty "bool") (by rfl) T.bool (by decide +kernel) rfl) pa_nil)))) (pw_or1 (pt_val (pe_callB (cr_isi K) (by rfl) T.isinstance (by decide +kernel) (pa_cons (pv 0) (pa_cons (pe_bltn (v := .ty "bool") (by rfl) T.bool (by decide +kernel) rfl) pa_nil))))))) (pss_one (ps_ret (pe_and (pe_callB (cr_isi K) (by rfl) T.isinstance (by decide +kernel) (pa_cons (pv 1) (pa_cons (pe_bltn (v := .ty "bool") (by rfl) T.bool (by decide +kernel) rfl) pa_nil))) (pe_and (pe_callB (cr_isi K) (by rfl) T.isinstance (by decide +kernel) (pa_cons (pv 0) (pa_cons (pe_bltn (v := .ty "bool") (by rfl) T.bool (by decide +kernel) rfl) pa_nil))) (pe_one (pe_cmpR (op_eqX K hr) (pv 0) (pv 1) (nomark _))))))) pss_nil)
      (pss_cons (ps_if (pt_val (pe_callB (cr_isiT K) (by rfl) T.isinstance (by decide +kernel) (pa_cons (pv 1) (pa_cons (pe_tup (pa_cons (pe_bltn (v := .ty "int") (by rfl) T.int (by decide +kernel) rfl) (pa_cons (pe_bltn (v := .ty "str") (by rfl) T.str (by decide +kernel) rfl) pa_nil))) pa_nil)))) (pss_one (ps_ret (pe_and (pe_callB (cr_isiT K) (by rfl) T.isinstance (by decide +kernel) (pa_cons (pv 0) (pa_cons (pe_tup (pa_cons (pe_bltn (v := .ty "int") (by rfl) T.int (by decide +kernel) rfl) (pa_cons (pe_bltn (v := .ty "str") (by rfl) T.str (by decide +kernel) rfl) pa_nil))) pa_nil))) (pe_and (pe_cmpR (op_eqX K hr) (pe_callB (cr_isi K) (by rfl) T.isinstance (by decide +kernel) (pa_cons (pv 0) (pa_cons (pe_bltn (v := .ty "int") (by rfl) T.int (by decide +kernel) rfl) pa_nil))) (pe_callB (cr_isi K) (by rfl) T.isinstance (by decide +kernel) (pa_cons (pv 1) (pa_cons (pe_bltn (v := .ty "int") (by rfl) T.int (by decide +kernel) rfl) pa_nil))) (nomark _)) (pe_one (pe_cmpR (op_eqX K hr) (pv 0) (pv 1) (nomark _))))))) pss_nil)
      (pss_cons (ps_if (pt_val (pe_callB (cr_isi K) (by rfl) T.isinstance (by decide +kernel) (pa_cons (pv 1) (pa_cons (pe_bltn (v := .ty "dict") (by rfl) T.dict (by decide +kernel) rfl) pa_nil)))) pss_never pss_nil)
      (pss_cons (ps_if (PW.pt (pw_or (pt_cmpR (op_neX K hr) (pe_callB (cr_isi K) (by rfl) T.isinstance (by decide +kernel) (pa_cons (pv 1) (pa_cons (pe_bltn (v := .ty "tuple") (by rfl) T.tuple (by decide +kernel) rfl) pa_nil))) (pe_callB (cr_isi K) (by rfl) T.isinstance (by decide +kernel) (pa_cons (pv 0) (pa_cons (pe_bltn (v := .ty "tuple") (by rfl) T.tuple (by decide +kernel) rfl) pa_nil))) (nomark _)) (pw_or1 (pt_cmpR (op_neX K hr) (pe_callB (cr_isi K) (by rfl) T.isinstance (by decide +kernel) (pa_cons (pv 1) (pa_cons (pe_bltn (v := .ty "list") (by rfl) T.list (by decide +kernel) rfl) pa_nil))) (pe_callB (cr_isi K) (by rfl) T.isinstance (by decide +kernel) (pa_cons (pv 0) (pa_cons (pe_bltn (v := .ty "list") (by rfl) T.list (by decide +kernel) rfl) pa_nil))) (nomark _))))) (pss_one (ps_ret pe_bl)) pss_nil)
      (pss_one (ps_ret (pe_and (pe_cmpR (op_eqX K hr) (pe_callB (call_lenX K) (by rfl) T.len PySem.boot_len (pa_cons (pv 0) pa_nil)) (pe_callB (call_lenX K) (by rfl) T.len PySem.boot_len (pa_cons (pv 1) pa_nil)) (nomark _)) (pe_one (pe_callB (cr_allX K (by rfl)) (by rfl) T.all (by decide +kernel) (pa_cons (pe_lc (own := [("_law_one", 3), ("_law_two", 4)])  (tt := tYes) (by rfl) sc_law_alike.nd (pi_zipX K (RZ.pi_zipA (by rfl) T.zip (pa_cons (pv 0) (pa_cons (pv 1) pa_nil)))) (blkOk_by (own := [("_law_one", 3), ("_law_two", 4)]) (N := ["_law_found", "_law_due", "_law_key", "_law_one", "_law_two"]) (sc := defScope s_law_alike) (by decide +kernel)) (fun _ _ _ _ _ => pg_tupX K (pg_tup (n := 2) (by rfl) (pgs_cons (pg_name (i := 3) sc_law_alike.nd rfl (Or.inl rfl)) (pgs_cons (pg_name (i := 4) sc_law_alike.nd rfl (Or.inl rfl)) pgs_nil)))) (fun _ _ _ _ _ => pts_nil) (fun _ _ _ _ _ => (pe_c c_law_alike hr (by omega) (by rfl) (pa_cons (pv 3) (pa_cons (pv 4) pa_nil))))) pa_nil))))))))))), ?_⟩
    rcases h with ⟨rfl, hx⟩ | ⟨a, b, xs, ys, rfl, rfl, h, hl, hz, k⟩
    · cases x with
      | non =>
        change (_ : TS) _ [some V.non, some V.non, none, none, none] _
        k_extra "rr"
        exact q H (Same.refl H)
      | bl c =>
        change (_ : TS) _ [some (V.bl c), some (V.bl c), none, none, none] _
        k_extra "rr"
        rw [decide_eq_true rfl]
        exact q H (Same.refl H)
      | int i =>
        change (_ : TS) _ [some (V.int i), some (V.int i), none, none, none] _
        k_extra "rr"
        refine ⟨by k_extra "sz", fun t nt => ?_⟩
        k_extra "rr"
        refine isiT (b := true) upd_same (cls2 _ _) (.base (.int _)) (kitAny2 kB_int_int kB_int_str) ?_
        k_extra "rr"
        refine ⟨by k_extra "sz", fun t2 nt2 => ?_⟩
        k_extra "rr"
        refine isiT (b := true) upd_same (cls2 _ _) (.base (.int _)) (kitAny2 kB_int_int kB_int_str) ?_
        k_extra "rr"
        rw [decide_eq_true rfl]
        exact q _ ((same_upd nt).trans (same_upd nt2))
      | str z =>
        change (_ : TS) _ [some (V.str z), some (V.str z), none, none, none] _
        k_extra "rr"
        refine ⟨by k_extra "sz", fun t nt => ?_⟩
        k_extra "rr"
        refine isiT (b := true) upd_same (cls2 _ _) (.base (.str _)) (kitAny2 kB_str_int kB_str_str) ?_
        k_extra "rr"
        refine ⟨by k_extra "sz", fun t2 nt2 => ?_⟩
        k_extra "rr"
        refine isiT (b := true) upd_same (cls2 _ _) (.base (.str _)) (kitAny2 kB_str_int kB_str_str) ?_
        k_extra "rr"
        rw [decide_eq_true rfl]
        exact q _ ((same_upd nt).trans (same_upd nt2))
      | byt _ => cases hx
      | flt _ => cases hx
      | ref _ => cases hx
      | ty _ => cases hx
    · rcases h with ⟨h1, h2⟩ | ⟨h1, h2⟩
      · change (_ : TS) _ [some (V.ref a), some (V.ref b), none, none, none] _
        have t1 := tyx_L h1
        have t2 := tyx_L h2
        k_extra "rr"
        refine ⟨by k_extra "sz", fun t nt => ?_⟩
        have s1 : Same H (upd H t (.tup [V.ty "int", V.ty "str"])) := same_upd nt
        have h1' := Same.seq s1 h1
        have h2' := Same.seq s1 h2
        have t1' := tyx_L h1'
        have t2' := tyx_L h2'
        k_extra "rr"
        refine isiT (b := false) upd_same (cls2 _ _) t2' (kitAny2 kB_list_int kB_list_str) ?_
        generalize upd H t (.tup [V.ty "int", V.ty "str"]) = H1 at s1 h1' h2' t1' t2'
        k_extra "rr"
        rw [hl, decide_eq_true rfl]
        k_extra "rr"
        refine ⟨a, b, xs, ys, rfl, .inl ⟨h1', h2', fun D nD => ?_⟩⟩
        refine lc_it (walk_zip (K := K) (a := a) (b := b) (xs := xs) (ys := ys) (n := xs.length) (by rw [hl, Nat.min_self])) (fun i H' => H' D = some (.lst ((List.replicate i true).map V.bl)) ∧ Same H1 H')
          ⟨upd_same, same_upd nD⟩ (fun i H' _ p => ⟨Same.seq p.2 h1', Same.seq p.2 h2'⟩) ?_ ?_
        · rintro i x H2 H3 hi ⟨eD, s2⟩ ⟨T, x1, y1, rfl, nT, rfl, e1, e2⟩
          k_extra "rr"
          refine ⟨rfl, ?_⟩
          k_extra "rr"
          have s3 : Same H2 (upd H2 T (.tup [x1, y1])) := same_upd nT
          refine ⟨x1, y1, rfl, ((k i x1 y1 e1 e2).same (s1.trans s2)).same s3, fun H4 s4 => ?_⟩
          refine ⟨_, s4 _ _ (s3 _ _ eD), ?_, ?_, fun c o hc => ?_⟩
          · rw [List.length_map, List.length_replicate]
            rw [sizeLine_eq]
            omega
          · rw [upd_same, List.replicate_succ', List.map_append]
            rfl
          · rw [upd_ne (ne_of_none hc nD)]
            exact s4 _ _ (s3 _ _ (s2 _ _ hc))
        · rintro H2 ⟨eD, s2⟩
          k_extra "rr"
          refine all_ (SqL.of eD) ?_
          rw [show (List.replicate xs.length true).all id = true from List.all_eq_true.mpr fun z hz => List.eq_of_mem_replicate hz]
          exact q H2 (s1.trans s2)
      · change (_ : TS) _ [some (V.ref a), some (V.ref b), none, none, none] _
        have t1 := tyx_T h1
        have t2 := tyx_T h2
        k_extra "rr"
        refine ⟨by k_extra "sz", fun t nt => ?_⟩
        have s1 : Same H (upd H t (.tup [V.ty "int", V.ty "str"])) := same_upd nt
        have h1' := Rg.Same.seqT s1 h1
        have h2' := Rg.Same.seqT s1 h2
        have t1' := tyx_T h1'
        have t2' := tyx_T h2'
        k_extra "rr"
        refine isiT (b := false) upd_same (cls2 _ _) t2' (kitAny2 kB_tuple_int kB_tuple_str) ?_
        generalize upd H t (.tup [V.ty "int", V.ty "str"]) = H1 at s1 h1' h2' t1' t2'
        k_extra "rr"
        rw [hl, decide_eq_true rfl]
        k_extra "rr"
        refine ⟨a, b, xs, ys, rfl, .inr ⟨h1', h2', fun D nD => ?_⟩⟩
        refine lc_it (walk_zipT (K := K) (a := a) (b := b) (xs := xs) (ys := ys) (n := xs.length) (by rw [hl, Nat.min_self])) (fun i H' => H' D = some (.lst ((List.replicate i true).map V.bl)) ∧ Same H1 H')
          ⟨upd_same, same_upd nD⟩ (fun i H' _ p => ⟨Rg.Same.seqT p.2 h1', Rg.Same.seqT p.2 h2'⟩) ?_ ?_
        · rintro i x H2 H3 hi ⟨eD, s2⟩ ⟨T, x1, y1, rfl, nT, rfl, e1, e2⟩
          k_extra "rr"
          refine ⟨rfl, ?_⟩
          k_extra "rr"
          have s3 : Same H2 (upd H2 T (.tup [x1, y1])) := same_upd nT
          refine ⟨x1, y1, rfl, ((k i x1 y1 e1 e2).same (s1.trans s2)).same s3, fun H4 s4 => ?_⟩
          refine ⟨_, s4 _ _ (s3 _ _ eD), ?_, ?_, fun c o hc => ?_⟩
          · rw [List.length_map, List.length_replicate]
            rw [sizeLine_eq]
            omega
          · rw [upd_same, List.replicate_succ', List.map_append]
            rfl
          · rw [upd_ne (ne_of_none hc nD)]
            exact s4 _ _ (s3 _ _ (s2 _ _ hc))
        · rintro H2 ⟨eD, s2⟩
          k_extra "rr"
          refine all_ (SqL.of eD) ?_
          rw [show (List.replicate xs.length true).all id = true from List.all_eq_true.mpr fun z hz => List.eq_of_mem_replicate hz]
          exact q H2 (s1.trans s2)
end

/-! ### documents -/
inductive Fo where
  | nil
  | cons (k t : List Nat) (i r : Fo)
namespace Fo
def size : Fo → Nat
  | nil => 0
  | cons _ _ i r => 1 + i.size + r.size
def depth : Fo → Nat
  | nil => 0
  | cons _ _ i r => max (i.depth + 1) r.depth
def len : Fo → Nat
  | nil => 0
  | cons _ _ _ r => r.len + 1
def All (p : List Nat → List Nat → Prop) : Fo → Prop
  | nil => True
  | cons k t i r => p k t ∧ All p i ∧ All p r
def snoc : Fo → List Nat → List Nat → Fo → Fo
  | nil, k, t, i => cons k t i nil
  | cons k' t' i' r, k, t, i => cons k' t' i' (snoc r k t i)
theorem size_snoc (k t : List Nat) (i : Fo) : ∀ f : Fo, (snoc f k t i).size = f.size + i.size + 1
  | nil => by
    show 1 + i.size + 0 = 0 + i.size + 1
    omega
  | cons k' t' i' r => by
    have := size_snoc k t i r
    show 1 + i'.size + (snoc r k t i).size = 1 + i'.size + r.size + i.size + 1
    omega
theorem all_snoc {p : List Nat → List Nat → Prop} {k t : List Nat} {i : Fo} (h : p k t) (hi : i.All p) : ∀ {f : Fo}, f.All p → (snoc f k t i).All p
  | nil, _ => ⟨h, hi, trivial⟩
  | cons _ _ _ _, ⟨h1, h2, h3⟩ => ⟨h1, h2, all_snoc h hi h3⟩
theorem All.imp {p q : List Nat → List Nat → Prop} (h : ∀ k t, p k t → q k t) : ∀ {f : Fo}, f.All p → f.All q
  | nil, _ => trivial
  | cons _ _ _ _, ⟨h1, h2, h3⟩ => ⟨h _ _ h1, All.imp h h2, All.imp h h3⟩
theorem depth_le : ∀ f : Fo, f.depth ≤ f.size
  | nil => Nat.le_refl 0
  | cons k t i r => by
    have h1 := depth_le i
    have h2 := depth_le r
    show max (i.depth + 1) r.depth ≤ 1 + i.size + r.size
    omega
theorem len_le : ∀ f : Fo, f.len ≤ f.size
  | nil => Nat.le_refl 0
  | cons k t i r => by
    have h2 := len_le r
    show r.len + 1 ≤ 1 + i.size + r.size
    omega
end Fo
/-- no tuple is lost -/
def TupLe (H H' : Hp) : Prop := ∀ c xs, H c = some (.tup xs) → H' c = some (.tup xs)
theorem TupLe.refl (H : Hp) : TupLe H H := fun _ _ h => h
theorem TupLe.trans {H H1 H2 : Hp} (a : TupLe H H1) (b : TupLe H1 H2) : TupLe H H2 := fun c xs h => b c xs (a c xs h)
theorem TupLe.same {H H' : Hp} (s : Same H H') : TupLe H H' := fun c xs h => s c _ h
theorem TupLe.but {b : Addr} {H H' : Hp} (s : But b H H') {l : List V} (h : H b = some (.lst l)) : TupLe H H' := fun c xs e => s c _ e fun z => by
  rw [z, h] at e
  cases e
theorem TupLe.new {H : Hp} {p : Addr} {o : HO} (h : H p = none) : TupLe H (upd H p o) := TupLe.same (same_upd h)
theorem TupLe.lst {H : Hp} {p : Addr} {l m : List V} (h : H p = some (.lst l)) : TupLe H (upd H p (.lst m)) := fun c xs e => by
  by_cases z : c = p
  · rw [z, h] at e
    cases e
  · rw [upd_ne z]
    exact e
def Items (H : Hp) : Fo → List V → Prop
  | .nil, xs => xs = []
  | .cons k t i r, xs => ∃ p q ys xs', xs = .ref p :: xs' ∧ H p = some (.tup [.str (SX.S k), .str (SX.S t), .ref q]) ∧ H q = some (.tup ys) ∧ Items H i ys ∧ Items H r xs'
def Doc (H : Hp) (f : Fo) (a : Addr) : Prop := ∃ xs, H a = some (.tup xs) ∧ Items H f xs
theorem Items.le {H H' : Hp} (s : TupLe H H') : ∀ {f : Fo} {xs : List V}, Items H f xs → Items H' f xs
  | .nil, _, h => h
  | .cons _ _ _ _, _, ⟨p, q, ys, xs', e, h1, h2, h3, h4⟩ => ⟨p, q, ys, xs', e, s _ _ h1, s _ _ h2, h3.le s, h4.le s⟩
theorem Doc.le {H H' : Hp} (s : TupLe H H') {f : Fo} {a : Addr} : Doc H f a → Doc H' f a := fun ⟨xs, h, i⟩ => ⟨xs, s _ _ h, i.le s⟩
theorem Items.len {H : Hp} : ∀ {f : Fo} {xs : List V}, Items H f xs → xs.length = f.len
  | .nil, _, h => by rw [show _ = _ from h]; rfl
  | .cons _ _ _ r, _, ⟨p, q, ys, xs', e, h1, h2, h3, h4⟩ => by
    rw [e, List.length_cons, h4.len]
    rfl
theorem Items.snoc {H : Hp} {k t : List Nat} {i : Fo} {p q : Addr} {ys : List V} (hp : H p = some (.tup [.str (SX.S k), .str (SX.S t), .ref q])) (hq : H q = some (.tup ys)) (hi : Items H i ys) :
    ∀ {f : Fo} {xs : List V}, Items H f xs → Items H (f.snoc k t i) (xs ++ [.ref p])
  | .nil, _, h => by
    rw [show _ = _ from h]
    exact ⟨p, q, ys, [], rfl, hp, hq, hi, rfl⟩
  | .cons _ _ _ _, _, ⟨p', q', ys', xs', e, h1, h2, h3, h4⟩ => ⟨p', q', ys', xs' ++ [.ref p], by rw [e]; rfl, h1, h2, h3, Items.snoc hp hq hi h4⟩
/-! as plain data -/
def fdata : Fo → List PyData
  | .nil => []
  | .cons k t i r => .tuple [.str (SX.S k), .str (SX.S t), .tuple (fdata i)] :: fdata r
theorem Items.dp {K : PySem.W.Frag} {H : Hp} : ∀ {f : Fo} {xs : List V}, Items H f xs → DpAll K H xs (fdata f)
  | .nil, _, h => by
    rw [show _ = _ from h]
    exact .nil
  | .cons _ _ _ _, _, ⟨p, q, ys, xs', e, h1, h2, h3, h4⟩ => by
    rw [e]
    exact .cons (.tup (SqT.of h1) (.cons (.str _) (.cons (.str _) (.cons (.tup (SqT.of h2) h3.dp) .nil)))) h4.dp
theorem Doc.dp {K : PySem.W.Frag} {H : Hp} {f : Fo} {a : Addr} : Doc H f a → Dp K H (.ref a) (.tuple (fdata f)) := fun ⟨xs, h, i⟩ => .tup (SqT.of h) i.dp
/-- two documents of one forest are alike, at twice the depth and one -/
theorem Items.alk {K : PySem.W.Frag} {H : Hp} : ∀ {f : Fo} {n : Nat} {xs ys : List V}, f.size ≤ 1000 → 2 * f.depth ≤ n → Items H f xs → Items H f ys → xs.length = ys.length ∧ xs.length ≤ 1000 ∧ ∀ (i : Nat) (x y : V), xs[i]? = some x → ys[i]? = some y → Alk K H n x y
  | .nil, n, _, _, _, _, h1, h2 => by
    rw [show _ = _ from h1, show _ = _ from h2]
    exact ⟨rfl, Nat.zero_le _, fun i x y h => by cases h⟩
  | .cons k t i r, n, _, _, hz, hn, h1, h2 => by
    have hl1 := h1.len
    have hl2 := h2.len
    have hl := Fo.len_le (.cons k t i r)
    obtain ⟨p, q, ys, xs', e, h1, h2', h3, h4⟩ := h1
    obtain ⟨p2, q2, ys2, xs2, e2, g1, g2, g3, g4⟩ := h2
    have hs : 1 + i.size + r.size ≤ 1000 := hz
    have hd : 2 * max (i.depth + 1) r.depth ≤ n := hn
    obtain ⟨a1, a2, a3⟩ := Items.alk (K := K) (n := n) (by omega) (by omega) h4 g4
    obtain ⟨m, rfl⟩ : ∃ m, n = m + 2 := ⟨n - 2, by omega⟩
    obtain ⟨b1, b2, b3⟩ := Items.alk (K := K) (n := m) (by omega) (by omega) h3 g3
    refine ⟨by rw [hl1, hl2], by rw [hl1]; omega, fun j x y hx hy => ?_⟩
    subst e e2
    cases j with
    | succ j => exact a3 j x y hx hy
    | zero =>
      cases hx
      cases hy
      refine .inr ⟨p, p2, _, _, rfl, rfl, .inr ⟨SqT.of h1, SqT.of g1⟩, rfl, (by show 3 ≤ 100000; decide), fun j x y hx hy => ?_⟩
      rcases j with _ | _ | _ | j
      · cases hx
        cases hy
        exact .inl ⟨rfl, rfl⟩
      · cases hx
        cases hy
        exact .inl ⟨rfl, rfl⟩
      · cases hx
        cases hy
        exact .inr ⟨q, q2, _, _, rfl, rfl, .inr ⟨SqT.of h2', SqT.of g2⟩, b1, by omega, b3⟩
      · cases hx
theorem Doc.alk {K : PySem.W.Frag} {H : Hp} {f : Fo} {a b : Addr} {n : Nat} (hz : f.size ≤ 1000) (hn : 2 * f.depth ≤ n) (h1 : Doc H f a) (h2 : Doc H f b) : Alk K H (n + 1) (.ref a) (.ref b) := by
  obtain ⟨xs, e1, i1⟩ := h1
  obtain ⟨ys, e2, i2⟩ := h2
  obtain ⟨l1, l2, k⟩ := Items.alk (K := K) hz hn i1 i2
  exact .inr ⟨a, b, xs, ys, rfl, rfl, .inr ⟨SqT.of e1, SqT.of e2⟩, l1, by omega, k⟩

/-! ### names -/
def GoodK (k : List Nat) : Prop := (∀ c ∈ k, c ∈ letters) ∧ 1 ≤ k.length ∧ k.length ≤ 6
theorem words_good {many most : Int} {ws : List Str} (h0 : 0 ≤ many) (h : Words many most ws) (hm : most ≤ 5) : ∃ ks : List (List Nat), ws = ks.map SX.S ∧ (∀ k ∈ ks, GoodK k) ∧ (ks.length : Int) = many := by
  obtain ⟨st, at_, s0, h1, h2, h3, h4, rfl⟩ := h
  refine ⟨((List.range many.toNat).map fun k => fixW (SX.S (wordAt st at_ s0 k))).map fun z => z.cps.toList, ?_, fun k hk => ?_, ?_⟩
  · rw [List.map_map]
    have e : (SX.S ∘ fun z : Str => z.cps.toList) = id := funext fun z => (str_S z).symm
    rw [e, List.map_id]
  · rw [List.map_map] at hk
    obtain ⟨j, hj, rfl⟩ := List.mem_map.mp hk
    obtain ⟨w1, w2, w3⟩ := wordAt_ok (at_ := at_) (s0 := s0) (k := j) h2
    obtain ⟨m, em, m1, m2, m3⟩ := fix_ok w1 w2
    show GoodK (fixW (SX.S (wordAt st at_ s0 j))).cps.toList
    rw [em]
    have e : (SX.S m).cps.toList = m := by simp [SX.S]
    rw [e]
    exact ⟨m1, m2, by omega⟩
  · rw [List.length_map, List.length_map, List.length_range]
    omega
theorem digit_len : ∀ k : Fin 10, (Str.ofString (toString ((k.val : Nat) : Int))).length ≤ 2 := by decide +kernel
theorem digit_len' {k : Int} (h0 : 0 ≤ k) (h1 : k < 10) : (Str.ofString (toString k)).length ≤ 2 := by
  have := digit_len ⟨k.toNat, by omega⟩
  have e : ((k.toNat : Nat) : Int) = k := by omega
  rw [show ((((⟨k.toNat, by omega⟩ : Fin 10).val : Nat) : Int)) = k from e] at this
  exact this
def kws (ks : List (List Nat)) : List V := ks.map fun k => V.str (SX.S k)
def spNames : Sp := fun vs H Q _ => ∃ (b r : Addr), vs = [.ref b] ∧ BagAt H b r ∧
  ∀ (p a1 a2 a3 : Addr) (k1 k2 : List (List Nat)) (n : Nat) (H' : Hp), But b H H' → BagAt H' b r → H' p = some (.lst [.ref a1, .ref a2, .ref a3]) → H' a1 = some (.lst (kws k1)) → H' a2 = some (.lst (kws k2)) →
    k1.length = 3 → k2.length = 3 → (∀ k ∈ k1, GoodK k) → (∀ k ∈ k2, GoodK k) → H p = none → H a1 = none → H a2 = none → Q (.ref p) H'
section
variable {P : Program} {w : World} {K : PySem.W.Frag} {mg : Str → Option Value} {base : Heap} {f : Addr} {fd : FuncData}
theorem ok_law_names (F : Fun K "_law_names" "_law_names" s_law_names f fd) (T : Txt mg) (c_law_take : Cal P w K mg base 1 "_law_take" spTake) (c_law_words : Cal P w K mg base 3 "_law_words" spWords) : FnOk P w K mg base CX0 4 f fd ["_law_bag_z"] spNames := by
  refine F.ok sc_law_names (fun vs H Q E h => ?_) (fun cdv A outer s H vs Q E hr h => ?_)
  · obtain ⟨b, r, rfl, _⟩ := h
    rfl
  · obtain ⟨b, r, rfl, hb, q⟩ := h
    refine ⟨_, (pss_one (ps_ret (pe_lst (pa_cons (pe_c c_law_words hr (by omega) (by rfl) (pa_cons (pv 0) (pa_cons pe_int (pa_cons pe_int pa_nil)))) (pa_cons (pe_c c_law_words hr (by omega) (by rfl) (pa_cons (pv 0) (pa_cons pe_int (pa_cons pe_int pa_nil)))) (pa_cons (pe_lst (pa_cons pe_str (pa_cons (pe_op (op_addX K) pe_str (pe_callTy call_str_int (by rfl) T.str (by decide +kernel) (pa_cons (pe_c c_law_take hr (by omega) (by rfl) (pa_cons (pv 0) (pa_cons pe_int pa_nil))) pa_nil))) pa_nil))) pa_nil)))))), ?_⟩
    change (_ : TS) _ [some (V.ref b)] _
    k_extra "rr"
    refine ⟨b, r, 3, 5, rfl, hb, by omega, by omega, by omega, by omega, fun ws1 a1 H1 hw1 bb1 hb1 n1 e1 nb1 => ?_⟩
    k_extra "rr"
    refine ⟨b, r, 3, 3, rfl, hb1, by omega, by omega, by omega, by omega, fun ws2 a2 H2 hw2 bb2 hb2 n2 e2 nb2 => ?_⟩
    k_extra "rr"
    refine ⟨b, r, 10, rfl, hb2, by omega, by omega, fun k H3 bb3 hb3 k0 k1 => ?_⟩
    k_extra "rr"
    have hd : (Str.ofString (toString k)).length ≤ 2 := digit_len' k0 k1
    refine ⟨k, rfl, (by have : k.natAbs < 2 ^ 10 := by omega
                        exact Nat.lt_of_le_of_lt (Nat.log2_le_self _) (by omega)), ?_⟩
    have z1 : (Str.ofString "t").length + (Str.ofString (toString k)).length ≤ sizeLine := by
      rw [sizeLine_eq, show (Str.ofString "t").length = 1 by decide +kernel]
      omega
    k_extra "rr"
    refine ⟨by k_extra "sz", fun a3 n3 => ?_⟩
    k_extra "rr"
    refine ⟨by k_extra "sz", fun p np => ?_⟩
    k_extra "rr"
    obtain ⟨k1, rfl, g1, l1⟩ := words_good (by omega) hw1 (by omega)
    obtain ⟨k2, rfl, g2, l2⟩ := words_good (by omega) hw2 (by omega)
    rw [List.map_map] at e1 e2
    have bb := ((bb1.trans bb2).trans bb3).trans (But.new (o := .lst [.str "", .str ("t" ++ Str.ofString (toString k))]) n3)
    exact q p a1 a2 a3 k1 k2 0 _ (bb.trans (But.new np)) ((hb3.new n3).new np) upd_same (same_upd np _ _ (same_upd n3 _ _ (bb3 _ _ (bb2 _ _ e1 nb1) nb1))) (same_upd np _ _ (same_upd n3 _ _ (bb3 _ _ e2 nb2))) (by omega) (by omega) g1 g2 (bb.free (hb3.new n3).ex np) n1 (bb1.free hb1.ex n2)
end

/-! ### _law_nested -/
def ivs (ms : List Int) : List V := ms.map V.int
/-- the rows (the last one first) and the forests that they hold -/
def RowsR (H : Hp) : List Addr → List Fo → Prop
  | [], [] => True
  | r :: rs, f :: fs => (∃ xs, H r = some (.lst xs) ∧ Items H f xs) ∧ RowsR H rs fs
  | _, _ => False
def sizes (fs : List Fo) : Nat := (fs.map Fo.size).sum
theorem RowsR.len {H : Hp} : ∀ {rs : List Addr} {fs : List Fo}, RowsR H rs fs → rs.length = fs.length
  | [], [], _ => rfl
  | _ :: _, _ :: _, h => by rw [List.length_cons, List.length_cons, h.2.len]
theorem RowsR.keep {H H' : Hp} (t : TupLe H H') : ∀ {rs : List Addr} {fs : List Fo}, (∀ r ∈ rs, ∀ xs, H r = some (.lst xs) → H' r = some (.lst xs)) → RowsR H rs fs → RowsR H' rs fs
  | [], [], _, _ => trivial
  | r :: rs, f :: fs, k, ⟨⟨xs, h, i⟩, q⟩ => ⟨⟨xs, k r (List.mem_cons_self ..) _ h, i.le t⟩, RowsR.keep t (fun r' m => k r' (List.mem_cons_of_mem _ m)) q⟩
theorem RowsR.mem {H : Hp} : ∀ {rs : List Addr} {fs : List Fo}, RowsR H rs fs → ∀ r ∈ rs, ∃ xs, H r = some (.lst xs)
  | _ :: _, _ :: _, ⟨⟨xs, h, _⟩, q⟩, r, m => by
    rcases List.mem_cons.mp m with rfl | m
    · exact ⟨xs, h⟩
    · exact q.mem r m
theorem RowsR.at {H : Hp} : ∀ {rs : List Addr} {fs : List Fo}, RowsR H rs fs → ∀ r ∈ rs, ∃ f xs, f ∈ fs ∧ H r = some (.lst xs) ∧ Items H f xs
  | _ :: _, _ :: _, ⟨⟨xs, h, i⟩, q⟩, r, m => by
    rcases List.mem_cons.mp m with rfl | m
    · exact ⟨_, xs, List.mem_cons_self .., h, i⟩
    · obtain ⟨f, ys, h1, h2, h3⟩ := q.at r m
      exact ⟨f, ys, List.mem_cons_of_mem _ h1, h2, h3⟩
theorem sizes_mem {f : Fo} : ∀ {fs : List Fo}, f ∈ fs → f.size ≤ sizes fs
  | g :: r, m => by
    have e : sizes (g :: r) = g.size + sizes r := rfl
    rcases List.mem_cons.mp m with rfl | m
    · omega
    · have := sizes_mem m
      omega
theorem ints_ne {K : PySem.W.Frag} {H : Hp} : ∀ (os : List Int), DpAll K H (ivs os) (os.map PyData.int)
  | [] => .nil
  | i :: r => .cons (.int i) (ints_ne r)
theorem lay_ints : ∀ os : List Int, PyData.canLayAll0 (os.map PyData.int) = true
  | [] => by simp [PyData.canLayAll0]
  | i :: r => by
    rw [List.map_cons]
    unfold PyData.canLayAll0
    rw [lay_ints r]
    simp [PyData.canLay0]
theorem depth_ints : ∀ os : List Int, PyData.depthAll (os.map PyData.int) = 0
  | [] => by simp [PyData.depthAll]
  | i :: r => by
    rw [List.map_cons]
    unfold PyData.depthAll
    rw [depth_ints r]
    simp [PyData.depth]
theorem shaped_ints (os : List Int) : SeqAt.shaped (.list (os.map PyData.int)) = true := by
  unfold SeqAt.shaped
  have h1 : PyData.canLay0 (.list (os.map PyData.int)) = true := by
    unfold PyData.canLay0
    exact lay_ints os
  have h2 : PyData.depth (.list (os.map PyData.int)) = 1 := by
    unfold PyData.depth
    rw [depth_ints]
  rw [h1, h2]
  rfl
theorem shaped_nilL : SeqAt.shaped (.list []) = true := by decide +kernel
theorem shaped_nilT : SeqAt.shaped (.tuple []) = true := by decide +kernel
theorem eqv_nilL : ∀ ds : List PyData, PyData.eqv (.list ds) (.list []) = ds.isEmpty
  | [] => by simp [PyData.eqv, PyData.eqvAll]
  | d :: r => by simp [PyData.eqv, PyData.eqvAll]
theorem eqv_nilT : ∀ ds : List PyData, PyData.eqv (.tuple ds) (.tuple []) = ds.isEmpty
  | [] => by simp [PyData.eqv, PyData.eqvAll]
  | d :: r => by simp [PyData.eqv, PyData.eqvAll]
theorem emp_map {α β : Type} (f : α → β) (l : List α) : (l.map f).isEmpty = l.isEmpty := by cases l <;> rfl
structure NI (H : Hp) (R O : Addr) (p : List Nat → List Nat → Prop) (i : Nat) (osr : List Int) (rs : List Addr) (fs : List Fo) (H' : Hp) : Prop where
  same : Same H H'
  fR : H R = none
  fO : H O = none
  hR : H' R = some (.lst (rs.reverse.map V.ref))
  hO : H' O = some (.lst (ivs osr.reverse))
  rows : RowsR H' rs fs
  len : rs.length = osr.length + 1
  nd : rs.Nodup
  nR : R ∉ rs
  nO : O ∉ rs
  RO : R ≠ O
  fresh : ∀ r ∈ rs, H r = none
  sz : 2 * sizes fs + osr.length ≤ i
  all : ∀ f ∈ fs, f.All p
theorem NI.new {H : Hp} {R O : Addr} {p : List Nat → List Nat → Prop} {i : Nat} {osr : List Int} {rs : List Addr} {fs : List Fo} {H' : Hp} {x : Addr} {o : HO} (h : NI H R O p i osr rs fs H') (n : H' x = none) : NI H R O p i osr rs fs (upd H' x o) :=
  { h with
    same := h.same.trans (same_upd n)
    hR := same_upd n _ _ h.hR
    hO := same_upd n _ _ h.hO
    rows := h.rows.keep (TupLe.new n) fun r _ xs e => same_upd n _ _ e }
theorem NI.open {H : Hp} {R O : Addr} {p : List Nat → List Nat → Prop} {i : Nat} {osr : List Int} {rs : List Addr} {fs : List Fo} {H' : Hp} {e : Addr} {mk : Int} (h : NI H R O p i osr rs fs H') (n : upd H' O (.lst (ivs osr.reverse ++ [.int mk])) e = none) :
    NI H R O p (i + 1) (mk :: osr) (e :: rs) (.nil :: fs) (upd (upd (upd H' O (.lst (ivs osr.reverse ++ [.int mk]))) e (.lst [])) R (.lst (rs.reverse.map V.ref ++ [.ref e]))) := by
  have n1 : H' e = none := un0 n
  have eO : e ≠ O := fun z => by
    rw [z, upd_same] at n
    cases n
  have eR : e ≠ R := (ne_of_none h.hR n1).symm
  have er : e ∉ rs := fun m => by
    obtain ⟨xs, q⟩ := h.rows.mem e m
    rw [n1] at q
    cases q
  have he : H e = none := by
    cases q : H e with
    | none => rfl
    | some o =>
      rw [h.same _ _ q] at n1
      cases n1
  have t1 : TupLe H' (upd H' O (.lst (ivs osr.reverse ++ [.int mk]))) := TupLe.lst h.hO
  have t2 := t1.trans (TupLe.new (o := .lst []) n)
  have hR2 : upd (upd H' O (.lst (ivs osr.reverse ++ [.int mk]))) e (.lst []) R = some (.lst (rs.reverse.map V.ref)) := same_upd n _ _ (upd2 h.RO h.hR)
  have t3 := t2.trans (TupLe.lst (m := rs.reverse.map V.ref ++ [.ref e]) hR2)
  refine {
    same := same_mut ((same_mut h.same h.fO).trans (same_upd n)) h.fR
    fR := h.fR
    fO := h.fO
    hR := ?_
    hO := ?_
    rows := ⟨⟨[], ?_, rfl⟩, h.rows.keep t3 fun r m xs q => ?_⟩
    len := (by rw [List.length_cons, List.length_cons, h.len])
    nd := List.nodup_cons.mpr ⟨er, h.nd⟩
    nR := fun m => ?_
    nO := fun m => ?_
    RO := h.RO
    fresh := fun r m => ?_
    sz := ?_
    all := fun f m => ?_ }
  · rw [upd_same, List.reverse_cons, List.map_append]
    rfl
  · rw [upd_ne h.RO.symm, upd_ne eO.symm, upd_same, List.reverse_cons]
    unfold ivs
    rw [List.map_append]
    rfl
  · rw [upd_ne eR, upd_same]
  · have mR : r ≠ R := fun z => h.nR (z ▸ m)
    have mO : r ≠ O := fun z => h.nO (z ▸ m)
    have me : r ≠ e := fun z => er (z ▸ m)
    rw [upd_ne mR, upd_ne me, upd_ne mO]
    exact q
  · rcases List.mem_cons.mp m with z | m
    · exact eR z.symm
    · exact h.nR m
  · rcases List.mem_cons.mp m with z | m
    · exact eO z.symm
    · exact h.nO m
  · rcases List.mem_cons.mp m with rfl | m
    · exact he
    · exact h.fresh r m
  · have := h.sz
    show 2 * (0 + sizes fs) + (osr.length + 1) ≤ i + 1
    omega
  · rcases List.mem_cons.mp m with rfl | m
    · trivial
    · exact h.all f m
theorem NI.close {H : Hp} {R O : Addr} {p : List Nat → List Nat → Prop} {i : Nat} {o : Int} {os : List Int} {rl rp : Addr} {rest : List Addr} {fl fp : Fo} {fr : List Fo} {H' : Hp} {q pn : Addr} {xl xp : List V} {k t : List Nat} (h : NI H R O p i (o :: os) (rl :: rp :: rest) (fl :: fp :: fr) H')
    (hl : H' rl = some (.lst xl)) (hp : H' rp = some (.lst xp)) (il : Items H' fl xl) (ip : Items H' fp xp) (hkt : p k t)
    (nq : upd (upd H' O (.lst (ivs os.reverse))) R (.lst ((rp :: rest).reverse.map V.ref)) q = none)
    (npn : upd (upd (upd H' O (.lst (ivs os.reverse))) R (.lst ((rp :: rest).reverse.map V.ref))) q (.tup xl) pn = none) :
    NI H R O p (i + 1) os (rp :: rest) (fp.snoc k t fl :: fr) (upd (upd (upd (upd (upd H' O (.lst (ivs os.reverse))) R (.lst ((rp :: rest).reverse.map V.ref))) q (.tup xl)) pn (.tup [.str (SX.S k), .str (SX.S t), .ref q])) rp (.lst (xp ++ [.ref pn]))) := by
  have nd := List.nodup_cons.mp h.nd
  have nd2 := List.nodup_cons.mp nd.2
  have mp_ : rp ∈ rl :: rp :: rest := List.mem_cons_of_mem _ (List.mem_cons_self ..)
  have pR : rp ≠ R := fun z => h.nR (z ▸ mp_)
  have pO : rp ≠ O := fun z => h.nO (z ▸ mp_)
  have t1 : TupLe H' (upd H' O (.lst (ivs os.reverse))) := TupLe.lst h.hO
  have hR1 : upd H' O (.lst (ivs os.reverse)) R = some (.lst ((rl :: rp :: rest).reverse.map V.ref)) := upd2 h.RO h.hR
  have t2 := t1.trans (TupLe.lst (m := (rp :: rest).reverse.map V.ref) hR1)
  have t3 := t2.trans (TupLe.new (o := .tup xl) nq)
  have t4 := t3.trans (TupLe.new (o := .tup [.str (SX.S k), .str (SX.S t), .ref q]) npn)
  have hp2 : upd (upd H' O (.lst (ivs os.reverse))) R (.lst ((rp :: rest).reverse.map V.ref)) rp = some (.lst xp) := upd2 pR (upd2 pO hp)
  have hp4 := same_upd (o := .tup [.str (SX.S k), .str (SX.S t), .ref q]) npn _ _ (same_upd (o := .tup xl) nq _ _ hp2)
  have t5 := t4.trans (TupLe.lst (m := xp ++ [.ref pn]) hp4)
  have t45 : TupLe _ _ := TupLe.lst (m := xp ++ [.ref pn]) hp4
  have hq4 : upd (upd (upd (upd H' O (.lst (ivs os.reverse))) R (.lst ((rp :: rest).reverse.map V.ref))) q (.tup xl)) pn (.tup [.str (SX.S k), .str (SX.S t), .ref q]) q = some (.tup xl) := same_upd npn _ _ upd_same
  obtain ⟨_, _, hrows⟩ := h.rows
  have qO : H O = none := h.fO
  have keepR : ∀ {c : Addr} {u : HO}, c ≠ rp → upd (upd H' O (.lst (ivs os.reverse))) R (.lst ((rp :: rest).reverse.map V.ref)) c = some u →
      upd (upd (upd (upd (upd H' O (.lst (ivs os.reverse))) R (.lst ((rp :: rest).reverse.map V.ref))) q (.tup xl)) pn (.tup [.str (SX.S k), .str (SX.S t), .ref q])) rp (.lst (xp ++ [.ref pn])) c = some u := fun nc e => upd2 nc (same_upd npn _ _ (same_upd nq _ _ e))
  refine {
    same := same_mut (((same_mut (same_mut h.same h.fO) h.fR).trans (same_upd nq)).trans (same_upd npn)) (h.fresh rp mp_)
    fR := h.fR
    fO := h.fO
    hR := keepR pR.symm upd_same
    hO := keepR pO.symm (upd2 h.RO.symm upd_same)
    rows := ⟨⟨xp ++ [.ref pn], upd_same, Items.snoc (t45 _ _ upd_same) (t45 _ _ hq4) (il.le t5) (ip.le t5)⟩, hrows.keep t5 fun r m xs e => ?_⟩
    len := ?_
    nd := nd.2
    nR := fun m => h.nR (List.mem_cons_of_mem _ m)
    nO := fun m => h.nO (List.mem_cons_of_mem _ m)
    RO := h.RO
    fresh := fun r m => h.fresh r (List.mem_cons_of_mem _ m)
    sz := ?_
    all := fun f m => ?_ }
  · have m2 : r ∈ rl :: rp :: rest := List.mem_cons_of_mem _ (List.mem_cons_of_mem _ m)
    exact keepR (fun z => nd2.1 (z ▸ m)) (upd2 (fun z => h.nR (z ▸ m2)) (upd2 (fun z => h.nO (z ▸ m2)) e))
  · have := h.len
    rw [List.length_cons, List.length_cons, List.length_cons] at this
    rw [List.length_cons]
    omega
  · have := h.sz
    have e : sizes (fl :: fp :: fr) = fl.size + (fp.size + sizes fr) := rfl
    have e2 : sizes (fp.snoc k t fl :: fr) = (fp.snoc k t fl).size + sizes fr := rfl
    rw [e, List.length_cons] at this
    rw [e2, Fo.size_snoc]
    omega
  · rcases List.mem_cons.mp m with rfl | m
    · exact Fo.all_snoc hkt (h.all fl (List.mem_cons_self ..)) (h.all fp (List.mem_cons_of_mem _ (List.mem_cons_self ..)))
    · exact h.all f (List.mem_cons_of_mem _ (List.mem_cons_of_mem _ m))
def spNested : Sp := fun vs H Q _ => ∃ (st m so tx : Addr) (ms : List Int) (ks ts : List (List Nat)) (p : List Nat → List Nat → Prop), vs = [.ref st] ∧ H st = some (.lst [.ref m, .ref so, .ref tx]) ∧ H m = some (.lst (ivs ms)) ∧ H so = some (.lst (kws ks)) ∧ H tx = some (.lst (kws ts)) ∧
  ms.length ≤ 100000 ∧ (∀ x ∈ ms, 0 ≤ x ∧ x < 2 ^ 62 ∧ ∃ k t, ks[x.toNat]? = some k ∧ ts[x.toNat]? = some t ∧ p k t) ∧
  ∀ (f : Fo) (a : Addr) (H' : Hp), Same H H' → Doc H' f a → 2 * f.size ≤ ms.length → f.All p → Q (.ref a) H'
section
variable {P : Program} {w : World} {K : PySem.W.Frag} {mg : Str → Option Value} {base : Heap} {f : Addr} {fd : FuncData}
theorem ok_law_nested (F : Fun K "_law_nested" "_law_nested" s_law_nested f fd) (T : Txt mg) : FnOk P w K mg base CX0 1 f fd ["_law_state"] spNested := by
  refine F.ok sc_law_nested (fun vs H Q E h => ?_) (fun cdv A outer s H vs Q E hr h => ?_)
  · obtain ⟨st, m, so, tx, ms, ks, ts, p, rfl, _⟩ := h
    rfl
  · obtain ⟨st, m, so, tx, ms, ks, ts, p, rfl, hst, hm, hso, htx, hl, hms, q⟩ := h
    refine ⟨_, (pss_cons (ps_par (i := 1) (j := 2) (by rfl) sc_law_nested.nd rfl rfl (by decide) rfl rfl (pa_cons (pe_lst (pa_cons (pe_lst pa_nil) pa_nil)) (pa_cons (pe_lst pa_nil) pa_nil)) (by rfl))
      (pss_cons (ps_for PassesOwn.never rfl (pi_listX K (pe_ix (ix_X K) (pv 0) pe_int (fun _ _ => rfl))) (pg_name (i := 3) sc_law_nested.nd rfl (.inl rfl)) (pss_one (ps_if (PW.pt (pw_and (pt_cmpR (op_neX K hr) (pv 2) (pe_lst pa_nil) (nomark _)) (pw_and1 (pt_cmpR (op_eqX K hr) (pe_ix (ix_X K) (pv 2) (pe_un un_neg pe_int) (fun _ _ => rfl)) (pv 3) (nomark _))))) (pss_cons (ps_expr (pe_bm0X K (pe_bm0 PySem.F.plainAttrs_list PySem.F.slot_list_pop PySem.F.type_list_pop mt_pop (pv 2))))
      (pss_cons (ps_set (i := 4) sc_law_nested.nd rfl (.inl rfl) (pe_callTy (cr_tuple K) (by rfl) T.tuple (by decide +kernel) (pa_cons (pe_bm0X K (pe_bm0 PySem.F.plainAttrs_list PySem.F.slot_list_pop PySem.F.type_list_pop mt_pop (pv 1))) pa_nil)))
      (pss_one (ps_expr (pe_bmX K (pe_bm PySem.F.plainAttrs_list PySem.F.slot_list_append PySem.F.type_list_append mt_append (pe_ix (ix_X K) (pv 1) (pe_un un_neg pe_int) (fun _ _ => rfl)) (pa_cons (pe_tup (pa_cons (pe_ix (ix_X K) (pe_ix (ix_X K) (pv 0) pe_int (fun _ _ => rfl)) (pv 3) (fun _ _ => rfl)) (pa_cons (pe_ix (ix_X K) (pe_ix (ix_X K) (pv 0) pe_int (fun _ _ => rfl)) (pv 3) (fun _ _ => rfl)) (pa_cons (pv 4) pa_nil)))) pa_nil))))))) (pss_cons (ps_expr (pe_bmX K (pe_bm PySem.F.plainAttrs_list PySem.F.slot_list_append PySem.F.type_list_append mt_append (pv 2) (pa_cons (pv 3) pa_nil))))
      (pss_one (ps_expr (pe_bmX K (pe_bm PySem.F.plainAttrs_list PySem.F.slot_list_append PySem.F.type_list_append mt_append (pv 1) (pa_cons (pe_lst pa_nil) pa_nil)))))))))
      (pss_one (ps_ret (pe_callTy (cr_tuple K) (by rfl) T.tuple (by decide +kernel) (pa_cons (pe_ix (ix_X K) (pv 1) pe_int (fun _ _ => rfl)) pa_nil)))))), ?_⟩
    change (_ : TS) _ [some (V.ref st), none, none, none, none] _
    k_extra "rr"
    refine ⟨by k_extra "sz", fun r0 nr0 => ?_⟩
    k_extra "rr"
    refine ⟨by k_extra "sz", fun R nR => ?_⟩
    k_extra "rr"
    refine ⟨by k_extra "sz", fun O nO => ?_⟩
    k_extra "rr"
    refine ixL (SqL.of (same_upd nO _ _ (same_upd nR _ _ (same_upd nr0 _ _ hst)))) rfl ?_
    have i0 : NI H R O p 0 [] [r0] [.nil] (upd (upd (upd H r0 (.lst [])) R (.lst [.ref r0])) O (.lst [])) := {
      same := ((same_upd nr0).trans (same_upd nR)).trans (same_upd nO)
      fR := un0 nR
      fO := un0 (un0 nO)
      hR := upd2 (ne_of_none upd_same nO) upd_same
      hO := upd_same
      rows := ⟨⟨[], same_upd nO _ _ (same_upd nR _ _ upd_same), rfl⟩, trivial⟩
      len := rfl
      nd := (by simp)
      nR := fun z => ne_of_none upd_same nR (List.mem_singleton.mp z).symm
      nO := fun z => ne_of_none (same_upd nR _ _ upd_same) nO (List.mem_singleton.mp z).symm
      RO := ne_of_none upd_same nO
      fresh := fun r z => (by rw [List.mem_singleton.mp z]; exact nr0)
      sz := Nat.le_refl _
      all := fun f z => (by rw [List.mem_singleton.mp z]; trivial) }
    refine ⟨m, rfl, ⟨_, SqL.of (i0.same _ _ hm)⟩, for_list (K := K) (a := m) (xs := ivs ms) (fun i σ H' => ∃ (rs : List Addr) (fs : List Fo) (osr : List Int) (v3 v4 : Option V), σ = [some (.ref st), some (.ref R), some (.ref O), v3, v4] ∧ NI H R O p i osr rs fs H')
      ⟨_, _, _, _, _, rfl, i0⟩ (fun i σ H' _ ⟨_, _, _, _, _, _, I⟩ => SqL.of (I.same _ _ hm)) ?_ ?_⟩
    · rintro i x σ H' hx ⟨rs, fs, osr, v3, v4, rfl, I⟩
      obtain ⟨mk, hmk, rfl⟩ := map_at hx
      obtain ⟨mk0, mk1, k, t, ek, et, hkt⟩ := hms mk (List.mem_of_getElem? hmk)
      k_extra "rr"
      refine ⟨by k_extra "sz", fun e0 ne0 => ?_⟩
      k_extra "rr"
      have I1 := I.new (o := .lst []) ne0
      refine neDd (d := .list (osr.reverse.map .int)) (e := .list []) (.lst (SqL.of I1.hO) (ints_ne _)) (.lst (SqL.of upd_same) .nil) (shaped_ints _) shaped_nilL ?_
      rw [eqv_nilL, emp_map]
      clear I
      have il : i < ms.length := (List.getElem?_eq_some_iff.mp hmk).1
      have hsz := I1.sz
      have hlen := I1.len
      rcases osr with _ | ⟨o, os⟩
      · rw [show (!([] : List Int).reverse.isEmpty) = false from rfl]
        rw [List.length_nil] at hsz hlen
        k_extra "rr"
        refine ⟨tyvL I1.hO, ?_⟩
        k_extra "rr"
        refine app I1.hO (by unfold ivs; rw [List.length_map, List.length_reverse, sizeLine_eq]; first | omega | (rw [List.length_nil]; omega) | (rw [List.length_cons]; omega)) ?_
        k_extra "rr"
        refine ⟨tyvL (upd2 I1.RO I1.hR), ?_⟩
        k_extra "rr"
        refine ⟨by k_extra "sz", fun e ne => ?_⟩
        k_extra "rr"
        refine app (same_upd ne _ _ (upd2 I1.RO I1.hR)) (by rw [List.length_map, List.length_reverse, sizeLine_eq]; omega) ?_
        k_extra "rr"
        exact ⟨_, _, _, _, _, rfl, I1.open ne⟩
      · rw [show (!(o :: os).reverse.isEmpty) = true by simp]
        rw [List.length_cons] at hsz hlen
        k_extra "rr"
        have hO2 : upd H' e0 (.lst []) O = some (.lst (ivs os.reverse ++ [.int o])) := by
          have := I1.hO
          rw [List.reverse_cons] at this
          unfold ivs at this
          rw [List.map_append] at this
          exact this
        refine ixL (SqL.of hO2) atI_last ?_
        k_extra "rr"
        by_cases z : o = mk
        · subst z
          rw [decide_eq_true rfl]
          k_extra "rr"
          refine ⟨tyvL hO2, popL hO2 ?_⟩
          k_extra "rr"
          obtain ⟨rl, rp, rest, rfl⟩ : ∃ rl rp rest, rs = rl :: rp :: rest := by
            match rs, hlen with
            | a :: b :: r, _ => exact ⟨a, b, r, rfl⟩
          obtain ⟨fl, fp, fr, rfl⟩ : ∃ fl fp fr, fs = fl :: fp :: fr := by
            have := I1.rows.len
            match fs, this with
            | a :: b :: r, _ => exact ⟨a, b, r, rfl⟩
          obtain ⟨⟨xl, hxl, ixl⟩, ⟨xp, hxp, ixp⟩, _⟩ := id I1.rows
          have mp_ : rp ∈ rl :: rp :: rest := List.mem_cons_of_mem _ (List.mem_cons_self ..)
          have ml_ : rl ∈ rl :: rp :: rest := List.mem_cons_self ..
          have pR : rp ≠ R := fun z => I1.nR (z ▸ mp_)
          have pO : rp ≠ O := fun z => I1.nO (z ▸ mp_)
          have lR : rl ≠ R := fun z => I1.nR (z ▸ ml_)
          have lO : rl ≠ O := fun z => I1.nO (z ▸ ml_)
          have hR1 : upd (upd H' e0 (.lst [])) O (.lst (ivs os.reverse)) R = some (.lst ((rp :: rest).reverse.map V.ref ++ [V.ref rl])) := by
            have := I1.hR
            rw [List.reverse_cons, List.map_append] at this
            exact upd2 I1.RO this
          refine ⟨tyvL hR1, popL hR1 ?_⟩
          k_extra "rr"
          refine tupL (SqL.of (upd2 lR (upd2 lO hxl))) fun q0 nq => ?_
          k_extra "rr"
          have hR3 : upd (upd (upd (upd H' e0 (.lst [])) O (.lst (ivs os.reverse))) R (.lst ((rp :: rest).reverse.map V.ref))) q0 (.tup xl) R = some (.lst (rest.reverse.map V.ref ++ [V.ref rp])) := by
            rw [same_upd nq _ _ upd_same, List.reverse_cons, List.map_append]
            rfl
          refine ixL (SqL.of hR3) atI_last ?_
          have hp3 := same_upd (o := .tup xl) nq _ _ (upd2 (o := .lst ((rp :: rest).reverse.map V.ref)) pR (upd2 (o := .lst (ivs os.reverse)) pO hxp))
          refine ⟨tyvL hp3, ?_⟩
          k_extra "rr"
          have sm : Same H (upd (upd (upd (upd H' e0 (.lst [])) O (.lst (ivs os.reverse))) R (.lst ((rp :: rest).reverse.map V.ref))) q0 (.tup xl)) := (same_mut (same_mut I1.same I1.fO) I1.fR).trans (same_upd nq)
          refine ixL (SqL.of (sm _ _ hst)) rfl ?_
          k_extra "rr"
          have ek' : atI (kws ks) o = some (.str (SX.S k)) := by
            have e := atI_nat (xs := kws ks) (j := o.toNat) (v := .str (SX.S k)) (by unfold kws; rw [List.getElem?_map, ek]; rfl)
            rw [show ((o.toNat : Nat) : Int) = o by omega] at e
            exact e
          have et' : atI (kws ts) o = some (.str (SX.S t)) := by
            have e := atI_nat (xs := kws ts) (j := o.toNat) (v := .str (SX.S t)) (by unfold kws; rw [List.getElem?_map, et]; rfl)
            rw [show ((o.toNat : Nat) : Int) = o by omega] at e
            exact e
          refine ixL (SqL.of (sm _ _ hso)) ek' ?_
          k_extra "rr"
          refine ixL (SqL.of (sm _ _ hst)) rfl ?_
          k_extra "rr"
          refine ixL (SqL.of (sm _ _ htx)) et' ?_
          k_extra "rr"
          refine ⟨by k_extra "sz", fun pn npn => ?_⟩
          k_extra "rr"
          have hlp := ixp.len
          have hfp : fp.len ≤ fp.size := Fo.len_le fp
          have hss : sizes (fl :: fp :: fr) = fl.size + (fp.size + sizes fr) := rfl
          refine app (same_upd npn _ _ hp3) (by rw [sizeLine_eq]; omega) ?_
          k_extra "rr"
          exact ⟨_, _, _, _, _, rfl, I1.close hxl hxp ixl ixp hkt nq npn⟩
        · rw [decide_eq_false z]
          k_extra "rr"
          refine ⟨tyvL I1.hO, ?_⟩
          k_extra "rr"
          refine app I1.hO (by unfold ivs; rw [List.length_map, List.length_reverse, sizeLine_eq]; first | omega | (rw [List.length_nil]; omega) | (rw [List.length_cons]; omega)) ?_
          k_extra "rr"
          refine ⟨tyvL (upd2 I1.RO I1.hR), ?_⟩
          k_extra "rr"
          refine ⟨by k_extra "sz", fun e ne => ?_⟩
          k_extra "rr"
          refine app (same_upd ne _ _ (upd2 I1.RO I1.hR)) (by rw [List.length_map, List.length_reverse, sizeLine_eq]; omega) ?_
          k_extra "rr"
          exact ⟨_, _, _, _, _, rfl, I1.open ne⟩
    · rintro σ H' ⟨rs, fs, osr, v3, v4, rfl, I⟩
      k_extra "rr"
      have hlen := I.len
      obtain ⟨g, r0', hg⟩ : ∃ g r0', rs.reverse = g :: r0' := by
        cases e : rs.reverse with
        | nil =>
          rw [List.reverse_eq_nil_iff.mp e] at hlen
          cases hlen
        | cons a l => exact ⟨a, l, rfl⟩
      have hR2 := I.hR
      rw [hg, List.map_cons] at hR2
      refine ixL (SqL.of hR2) (atI_nat (j := 0) rfl) ?_
      obtain ⟨fg, xs, hfg, hx, ix⟩ := I.rows.at g (by rw [← List.mem_reverse, hg]; exact List.mem_cons_self ..)
      refine tupL (SqL.of hx) fun a na => ?_
      have hsz := I.sz
      unfold ivs at hsz
      rw [List.length_map] at hsz
      have hs2 := sizes_mem hfg
      exact q fg a _ (I.same.trans (same_upd na)) ⟨xs, upd_same, ix.le (TupLe.new na)⟩ (by omega) (I.all fg hfg)
end

/-! ### _law_document -/
def spDocument : Sp := fun vs H Q _ => ∃ (b r ka : Addr) (many : Int) (ks : List (List Nat)), vs = [.ref b, .ref ka, .int many] ∧ BagAt H b r ∧ ka ≠ b ∧ H ka = some (.lst (kws ks)) ∧ 1 ≤ ks.length ∧ ks.length ≤ 1000 ∧ 0 ≤ many ∧ many ≤ 1000 ∧
  ∀ (f : Fo) (a : Addr) (H' : Hp), But b H H' → BagAt H' b r → Doc H' f a → (f.size : Int) ≤ many → f.All (fun k t => k ∈ ks ∧ t.length ≤ 3 ∧ ∀ c ∈ t, c ∈ signsL) → Q (.ref a) H'
structure DI (H : Hp) (b r M O S X : Addr) (ks : List (List Nat)) (j a c : Nat) (ms osr : List Int) (sk tk : List (List Nat)) (H' : Hp) : Prop where
  b0 : BagAt H b r
  but : But b H H'
  bag : BagAt H' b r
  fM : H M = none
  fO : H O = none
  fS : H S = none
  fX : H X = none
  hM : H' M = some (.lst (ivs ms))
  hO : H' O = some (.lst (ivs osr.reverse))
  hS : H' S = some (.lst (kws sk))
  hX : H' X = some (.lst (kws tk))
  MO : M ≠ O
  MS : M ≠ S
  MX : M ≠ X
  OS : O ≠ S
  OX : O ≠ X
  SX_ : S ≠ X
  cnt : ms.length + osr.length = 2 * j
  la : sk.length = a
  lc : tk.length = c
  om : ∀ x ∈ ms, 0 ≤ x ∧ x < j
  oo : ∀ x ∈ osr, 0 ≤ x ∧ x < j
  ok : ∀ k ∈ sk, k ∈ ks
  ot : ∀ t ∈ tk, t.length ≤ 3 ∧ ∀ c ∈ t, c ∈ signsL
section
variable {H H' H2 : Hp} {b r M O S X x : Addr} {ks sk tk : List (List Nat)} {j a c : Nat} {ms osr os : List Int} {o : Int} {u : HO}
theorem DI.bagged (h : DI H b r M O S X ks j a c ms osr sk tk H') (bb : But b H' H2) (hb : BagAt H2 b r) : DI H b r M O S X ks j a c ms osr sk tk H2 :=
  { h with
    but := h.but.trans bb
    bag := hb
    hM := bb _ _ h.hM (h.b0.ne_none h.fM).1
    hO := bb _ _ h.hO (h.b0.ne_none h.fO).1
    hS := bb _ _ h.hS (h.b0.ne_none h.fS).1
    hX := bb _ _ h.hX (h.b0.ne_none h.fX).1 }
theorem DI.new (h : DI H b r M O S X ks j a c ms osr sk tk H') (n : H' x = none) : DI H b r M O S X ks j a c ms osr sk tk (upd H' x u) :=
  h.bagged (But.new n) (h.bag.new n)
/-- what is new to the start may change -/
theorem bag_mut {m : List V} {l : List V} (b0 : BagAt H b r) (fx : H x = none) (hb : BagAt H' b r) (hx : H' x = some (.lst l)) : BagAt (upd H' x (.lst m)) b r := by
  obtain ⟨n1, n2⟩ := b0.ne_none fx
  obtain ⟨ns, i, c, m, h1, h2, h3⟩ := hb
  exact ⟨ns, i, c, m, upd2 n1.symm h1, upd2 n2.symm h2, h3⟩
theorem DI.move (h : DI H b r M O S X ks j a c ms (o :: os) sk tk H') : DI H b r M O S X ks j a c (ms ++ [o]) os sk tk (upd (upd H' O (.lst (ivs os.reverse))) M (.lst (ivs ms ++ [.int o]))) :=
  { h with
    but := (h.but.mutNew h.fO).mutNew h.fM
    bag := bag_mut h.b0 h.fM (bag_mut h.b0 h.fO h.bag h.hO) (upd2 h.MO h.hM)
    hM := (by rw [upd_same]; unfold ivs; rw [List.map_append]; rfl)
    hO := upd2 h.MO.symm upd_same
    hS := upd2 h.MS.symm (upd2 h.OS.symm h.hS)
    hX := upd2 h.MX.symm (upd2 h.OX.symm h.hX)
    cnt := (by
      have := h.cnt
      rw [List.length_cons] at this
      rw [List.length_append, List.length_singleton]
      omega)
    om := fun x hx => (by
      rcases List.mem_append.mp hx with hx | hx
      · exact h.om x hx
      · rw [List.mem_singleton.mp hx]
        exact h.oo o (List.mem_cons_self ..))
    oo := fun x hx => h.oo x (List.mem_cons_of_mem _ hx) }
theorem DI.mark (h : DI H b r M O S X ks j a c ms osr sk tk H') (ho : o = (j : Int)) : DI H b r M O S X ks (j + 1) a c (ms ++ [o]) (o :: osr) sk tk (upd (upd H' M (.lst (ivs ms ++ [.int o]))) O (.lst (ivs osr.reverse ++ [.int o]))) :=
  { h with
    but := (h.but.mutNew h.fM).mutNew h.fO
    bag := bag_mut h.b0 h.fO (bag_mut h.b0 h.fM h.bag h.hM) (upd2 h.MO.symm h.hO)
    hM := (by rw [upd_ne h.MO, upd_same]; unfold ivs; rw [List.map_append]; rfl)
    hO := (by rw [upd_same]; unfold ivs; rw [List.reverse_cons, List.map_append]; rfl)
    hS := upd2 h.OS.symm (upd2 h.MS.symm h.hS)
    hX := upd2 h.OX.symm (upd2 h.MX.symm h.hX)
    cnt := (by
      have := h.cnt
      rw [List.length_append, List.length_singleton, List.length_cons]
      omega)
    om := fun x hx => (by
      rcases List.mem_append.mp hx with hx | hx
      · have := h.om x hx
        omega
      · rw [List.mem_singleton.mp hx]
        omega)
    oo := fun x hx => (by
      rcases List.mem_cons.mp hx with hx | hx
      · rw [hx]
        omega
      · have := h.oo x hx
        omega) }
theorem DI.kind {k : List Nat} (h : DI H b r M O S X ks j a c ms osr sk tk H') (hk : k ∈ ks) : DI H b r M O S X ks j (a + 1) c ms osr (sk ++ [k]) tk (upd H' S (.lst (kws sk ++ [.str (SX.S k)]))) :=
  { h with
    but := h.but.mutNew h.fS
    bag := bag_mut h.b0 h.fS h.bag h.hS
    hM := upd2 h.MS h.hM
    hO := upd2 h.OS h.hO
    hS := (by rw [upd_same]; unfold kws; rw [List.map_append]; rfl)
    hX := upd2 h.SX_.symm h.hX
    la := (by rw [List.length_append, List.length_singleton, h.la])
    ok := fun x hx => (by
      rcases List.mem_append.mp hx with hx | hx
      · exact h.ok x hx
      · rw [List.mem_singleton.mp hx]
        exact hk) }
theorem DI.text {t : List Nat} (h : DI H b r M O S X ks j a c ms osr sk tk H') (ht : t.length ≤ 3 ∧ ∀ c ∈ t, c ∈ signsL) : DI H b r M O S X ks j a (c + 1) ms osr sk (tk ++ [t]) (upd H' X (.lst (kws tk ++ [.str (SX.S t)]))) :=
  { h with
    but := h.but.mutNew h.fX
    bag := bag_mut h.b0 h.fX h.bag h.hX
    hM := upd2 h.MX h.hM
    hO := upd2 h.OX h.hO
    hS := upd2 h.SX_ h.hS
    hX := (by rw [upd_same]; unfold kws; rw [List.map_append]; rfl)
    lc := (by rw [List.length_append, List.length_singleton, h.lc])
    ot := fun x hx => (by
      rcases List.mem_append.mp hx with hx | hx
      · exact h.ot x hx
      · rw [List.mem_singleton.mp hx]
        exact ht) }
end
section
variable {P : Program} {w : World} {K : PySem.W.Frag} {mg : Str → Option Value} {base : Heap} {f : Addr} {fd : FuncData}
theorem ok_law_document (F : Fun K "_law_document" "_law_document" s_law_document f fd) (T : Txt mg) (c_law_take : Cal P w K mg base 1 "_law_take" spTake) (c_law_of : Cal P w K mg base 2 "_law_of" (spOf K)) (c_law_sign_text : Cal P w K mg base 2 "_law_sign_text" spSign) (c_law_nested : Cal P w K mg base 1 "_law_nested" spNested) :
    FnOk P w K mg base CX0 3 f fd ["_law_bag_z", "_law_kinds", "_law_many"] spDocument := by
  refine F.ok sc_law_document (fun vs H Q E h => ?_) (fun cdv A outer s H vs Q E hr h => ?_)
  · obtain ⟨b, r, ka, many, ks, rfl, _⟩ := h
    rfl
  · obtain ⟨b, r, ka, many, ks, rfl, hb, nkb, hka, k0, k1, m0, m1, q⟩ := h
    refine ⟨_, (pss_cons (ps_asg (pe_tup (pa_cons (pe_lst pa_nil) (pa_cons (pe_lst pa_nil) (pa_cons (pe_lst pa_nil) (pa_cons (pe_lst pa_nil) pa_nil))))) (pg_tupX K (pg_tup (n := 4) (by rfl) (pgs_cons (pg_name (i := 3) sc_law_document.nd rfl (.inl rfl)) (pgs_cons (pg_name (i := 4) sc_law_document.nd rfl (.inl rfl)) (pgs_cons (pg_name (i := 5) sc_law_document.nd rfl (.inl rfl)) (pgs_cons (pg_name (i := 6) sc_law_document.nd rfl (.inl rfl)) pgs_nil)))))))
      (pss_cons (ps_for PassesOwn.never rfl (pi_range1 (by rfl) T.range (pa_cons (pe_c c_law_take hr (by omega) (by rfl) (pa_cons (pv 0) (pa_cons (pe_op (op_addX K) (pv 2) pe_int) pa_nil))) pa_nil)) (pg_name (i := 7) sc_law_document.nd rfl (.inl rfl)) (pss_cons (ps_for PassesOwn.never rfl (pi_range1 (by rfl) T.range (pa_cons (pe_c c_law_take hr (by omega) (by rfl) (pa_cons (pv 0) (pa_cons (pe_op (op_addX K) (pe_callB (call_lenX K) (by rfl) T.len PySem.boot_len (pa_cons (pv 4) pa_nil)) pe_int) pa_nil))) pa_nil)) (pg_name (i := 8) sc_law_document.nd rfl (.inl rfl)) (pss_one (ps_expr (pe_bmX K (pe_bm PySem.F.plainAttrs_list PySem.F.slot_list_append PySem.F.type_list_append mt_append (pv 3) (pa_cons (pe_bm0X K (pe_bm0 PySem.F.plainAttrs_list PySem.F.slot_list_pop PySem.F.type_list_pop mt_pop (pv 4))) pa_nil))))))
      (pss_cons (ps_if (pt_cmpR op_gt (pe_callB (call_lenX K) (by rfl) T.len PySem.boot_len (pa_cons (pv 4) pa_nil)) pe_int (nomark _)) (pss_one (ps_expr (pe_bmX K (pe_bm PySem.F.plainAttrs_list PySem.F.slot_list_append PySem.F.type_list_append mt_append (pv 3) (pa_cons (pe_bm0X K (pe_bm0 PySem.F.plainAttrs_list PySem.F.slot_list_pop PySem.F.type_list_pop mt_pop (pv 4))) pa_nil))))) pss_nil)
      (pss_cons (ps_expr (pe_bmX K (pe_bm PySem.F.plainAttrs_list PySem.F.slot_list_append PySem.F.type_list_append mt_append (pv 3) (pa_cons (pv 7) pa_nil))))
      (pss_cons (ps_expr (pe_bmX K (pe_bm PySem.F.plainAttrs_list PySem.F.slot_list_append PySem.F.type_list_append mt_append (pv 4) (pa_cons (pv 7) pa_nil))))
      (pss_cons (ps_expr (pe_bmX K (pe_bm PySem.F.plainAttrs_list PySem.F.slot_list_append PySem.F.type_list_append mt_append (pv 5) (pa_cons (pe_c c_law_of hr (by omega) (by rfl) (pa_cons (pv 0) (pa_cons (pv 1) pa_nil))) pa_nil))))
      (pss_one (ps_expr (pe_bmX K (pe_bm PySem.F.plainAttrs_list PySem.F.slot_list_append PySem.F.type_list_append mt_append (pv 6) (pa_cons (pe_c c_law_sign_text hr (by omega) (by rfl) (pa_cons (pv 0) (pa_cons pe_int pa_nil))) pa_nil)))))))))))
      (pss_one (ps_ret (pe_c c_law_nested hr (by omega) (by rfl) (pa_cons (pe_lst (pa_cons (pe_op (op_addX K) (pv 3) (pe_revLX K (pv 4))) (pa_cons (pv 5) (pa_cons (pv 6) pa_nil)))) pa_nil)))))), ?_⟩
    change (_ : TS) _ [some (V.ref b), some (V.ref ka), some (V.int many), none, none, none, none, none, none] _
    k_extra "rr"
    refine ⟨by k_extra "sz", fun M nM => ?_⟩
    k_extra "rr"
    refine ⟨by k_extra "sz", fun O nO => ?_⟩
    k_extra "rr"
    refine ⟨by k_extra "sz", fun S nS => ?_⟩
    k_extra "rr"
    refine ⟨by k_extra "sz", fun X nX => ?_⟩
    k_extra "rr"
    refine ⟨by k_extra "sz", fun tp ntp => ?_⟩
    have i0 : DI H b r M O S X ks 0 0 0 [] [] [] [] (upd (upd (upd (upd (upd H M (.lst [])) O (.lst [])) S (.lst [])) X (.lst [])) tp (.tup [.ref M, .ref O, .ref S, .ref X])) := by
      have nXX : upd (upd (upd H M (.lst [])) O (.lst [])) S (.lst []) X = none := nX
      refine DI.new ?_ ntp
      refine {
        b0 := hb
        but := (((But.new nM).trans (But.new nO)).trans (But.new nS)).trans (But.new nX)
        bag := (((hb.new nM).new nO).new nS).new nX
        fM := nM
        fO := un0 nO
        fS := un0 (un0 nS)
        fX := un0 (un0 (un0 nX))
        hM := same_upd nX _ _ (same_upd nS _ _ (same_upd nO _ _ upd_same))
        hO := same_upd nX _ _ (same_upd nS _ _ upd_same)
        hS := same_upd nX _ _ upd_same
        hX := upd_same
        MO := ne_of_none upd_same nO
        MS := ne_of_none (same_upd nO _ _ upd_same) nS
        MX := ne_of_none (same_upd nS _ _ (same_upd nO _ _ upd_same)) nX
        OS := ne_of_none upd_same nS
        OX := ne_of_none (same_upd nS _ _ upd_same) nX
        SX_ := ne_of_none upd_same nX
        cnt := rfl
        la := rfl
        lc := rfl
        om := fun x hx => nomatch hx
        oo := fun x hx => nomatch hx
        ok := fun x hx => nomatch hx
        ot := fun x hx => nomatch hx }
    generalize hH5 : upd (upd (upd (upd (upd H M (.lst [])) O (.lst [])) S (.lst [])) X (.lst [])) tp (.tup [.ref M, .ref O, .ref S, .ref X]) = H5 at i0
    have htp : H5 tp = some (.tup [.ref M, .ref O, .ref S, .ref X]) := by
      rw [← hH5, upd_same]
    clear hH5
    k_extra "rr"
    refine ⟨b, r, _, rfl, i0.bag, by omega, by omega, fun n H6 bb6 hb6 n0 n1 => ?_⟩
    have i1 := i0.bagged bb6 hb6
    k_extra "rr"
    refine for_range (lo := 0) (n := n.toNat) (fun i σ H' => ∃ (ms osr : List Int) (sk tk : List (List Nat)) (v7 v8 : Option V), σ = [some (.ref b), some (.ref ka), some (.int many), some (.ref M), some (.ref O), some (.ref S), some (.ref X), v7, v8] ∧ DI H b r M O S X ks i i i ms osr sk tk H')
      ⟨_, _, _, _, _, _, rfl, i1⟩ ?_ ?_
    · rintro i σ H' hi ⟨ms, osr, sk, tk, v7, v8, rfl, I⟩
      rw [Int.zero_add]
      have hil : (i : Int) ≤ many := by omega
      have lenO : ∀ os : List Int, (ivs os.reverse).length = os.length := fun os => by unfold ivs; rw [List.length_map, List.length_reverse]
      have lenM : ∀ os : List Int, (ivs os).length = os.length := fun os => by unfold ivs; rw [List.length_map]
      k_extra "rr"
      refine lenL (SqL.of I.hO) ?_
      rw [lenO]
      have hcnt := I.cnt
      k_extra "rr"
      refine ⟨b, r, _, rfl, I.bag, by omega, by omega, fun t H2 bb2 hb2 t0 t1 => ?_⟩
      have I2 := I.bagged bb2 hb2
      k_extra "rr"
      refine for_range (lo := 0) (n := t.toNat) (fun s σ H' => ∃ (ms1 osr1 : List Int) (v8 : Option V), σ = [some (.ref b), some (.ref ka), some (.int many), some (.ref M), some (.ref O), some (.ref S), some (.ref X), some (.int i), v8] ∧ osr1.length + s = osr.length ∧ DI H b r M O S X ks i i i ms1 osr1 sk tk H')
        ⟨ms, osr, _, rfl, rfl, I2⟩ ?_ ?_
      · rintro s0 σ H3 hs ⟨ms1, osr1, v8', rfl, hl, I3⟩
        have hcnt := I3.cnt
        k_extra "rr"
        refine ⟨tyvL I3.hM, ?_⟩
        k_extra "rr"
        obtain ⟨o, os, rfl⟩ : ∃ o os, osr1 = o :: os := by
          cases osr1 with
          | nil =>
            rw [List.length_nil] at hl
            omega
          | cons o os => exact ⟨o, os, rfl⟩
        have hO2 : H3 O = some (.lst (ivs os.reverse ++ [.int o])) := by
          have := I3.hO
          rw [List.reverse_cons] at this
          unfold ivs at this
          rw [List.map_append] at this
          exact this
        refine ⟨tyvL hO2, popL hO2 ?_⟩
        k_extra "rr"
        refine app (upd2 I3.MO I3.hM) (by rw [lenM, sizeLine_eq]; omega) ?_
        k_extra "rr"
        rw [List.length_cons] at hl
        exact ⟨_, _, _, rfl, by omega, I3.move⟩
      · rintro σ H3 ⟨ms1, osr1, v8', rfl, hl, I3⟩
        k_extra "rr"
        refine lenL (SqL.of I3.hO) ?_
        k_extra "rr"
        rw [lenO]
        refine iteD (fun hc => ?yes) (fun hc => ?no)
        case' yes =>
          have hcnt := I3.cnt
          k_extra "rr"
          refine ⟨tyvL I3.hM, ?_⟩
          k_extra "rr"
          obtain ⟨o, os, rfl⟩ : ∃ o os, osr1 = o :: os := by
            cases osr1 with
            | nil =>
              rw [List.length_nil] at hc
              omega
            | cons o os => exact ⟨o, os, rfl⟩
          have hO2 : H3 O = some (.lst (ivs os.reverse ++ [.int o])) := by
            have := I3.hO
            rw [List.reverse_cons] at this
            unfold ivs at this
            rw [List.map_append] at this
            exact this
          refine ⟨tyvL hO2, popL hO2 ?_⟩
          k_extra "rr"
          refine app (upd2 I3.MO I3.hM) (by rw [lenM, sizeLine_eq]; omega) ?_
          have I4 := I3.move
          generalize upd (upd H3 O (.lst (ivs os.reverse))) M (.lst (ivs ms1 ++ [.int o])) = H4 at I4
        case' no =>
          have I4 := I3
          generalize H3 = H4 at I4
        all_goals
          k_extra "rr"
          have hcnt2 := I4.cnt
          refine ⟨tyvL I4.hM, ?_⟩
          k_extra "rr"
          refine app I4.hM (by rw [lenM, sizeLine_eq]; omega) ?_
          k_extra "rr"
          refine ⟨tyvL (upd2 I4.MO.symm I4.hO), ?_⟩
          k_extra "rr"
          refine app (upd2 I4.MO.symm I4.hO) (by rw [lenO, sizeLine_eq]; omega) ?_
          k_extra "rr"
          have I5 := I4.mark (o := i) rfl
          refine ⟨tyvL I5.hS, ?_⟩
          k_extra "rr"
          refine ⟨b, r, _, rfl, I5.bag, .inr ⟨ka, _, rfl, nkb, SqL.of (I5.but _ _ hka nkb), by unfold kws; rw [List.length_map]; omega, by unfold kws; rw [List.length_map]; omega, fun i2 v2 H6 hv bb6 hb6 => ?_⟩⟩
          obtain ⟨kd, hkd, rfl⟩ := map_at hv
          have I6 := I5.bagged bb6 hb6
          have hla := I6.la
          have hlc := I6.lc
          k_extra "rr"
          refine app I6.hS (by unfold kws; rw [List.length_map, sizeLine_eq]; omega) ?_
          have I7 := I6.kind (List.mem_of_getElem? hkd)
          k_extra "rr"
          refine ⟨tyvL I7.hX, ?_⟩
          k_extra "rr"
          refine ⟨b, r, 3, rfl, I7.bag, by omega, by omega, fun lt H8 hlt hsg bb8 hb8 => ?_⟩
          have I8 := I7.bagged bb8 hb8
          k_extra "rr"
          refine app I8.hX (by unfold kws; rw [List.length_map, sizeLine_eq]; omega) ?_
          have I9 := I8.text (t := lt) ⟨by omega, hsg⟩
          k_extra "rr"
          exact ⟨_, _, _, _, _, _, rfl, I9⟩
    · rintro σ H' ⟨ms, osr, sk, tk, v7, v8, rfl, I⟩
      k_extra "rr"
      refine ⟨O, _, rfl, SqL.of I.hO, fun y ny => ?_⟩
      have I2 := I.new (u := .lst (ivs osr.reverse).reverse) ny
      have hcnt := I.cnt
      have hrr : (ivs osr.reverse).reverse = ivs osr := by unfold ivs; rw [← List.map_reverse, List.reverse_reverse]
      refine addL I2.hM upd_same (by rw [hrr]; unfold ivs; rw [List.length_map, List.length_map, sizeLine_eq]; omega) fun z nz => ?_
      have I3 := I2.new (u := .lst (ivs ms ++ (ivs osr.reverse).reverse)) nz
      k_extra "rr"
      refine ⟨by k_extra "sz", fun st nst => ?_⟩
      have I4 := I3.new (u := .lst [.ref z, .ref S, .ref X]) nst
      k_extra "rr"
      have hz : ivs ms ++ (ivs osr.reverse).reverse = ivs (ms ++ osr) := by rw [hrr]; unfold ivs; rw [List.map_append]
      refine ⟨st, z, S, X, ms ++ osr, sk, tk, fun k t => k ∈ ks ∧ t.length ≤ 3 ∧ ∀ c ∈ t, c ∈ signsL, rfl, upd_same, by rw [← hz]; exact same_upd nst _ _ upd_same, I4.hS, I4.hX, by rw [List.length_append]; omega, fun x hx => ?_, fun f a H9 s9 hd hs ha => ?_⟩
      · obtain ⟨x0, x1⟩ : 0 ≤ x ∧ x < n.toNat := by
          rcases List.mem_append.mp hx with hx | hx
          · exact I.om x hx
          · exact I.oo x hx
        have hk : x.toNat < sk.length := by rw [I.la]; omega
        have ht : x.toNat < tk.length := by rw [I.lc]; omega
        exact ⟨x0, by omega, sk[x.toNat], tk[x.toNat], List.getElem?_eq_getElem hk, List.getElem?_eq_getElem ht, I.ok _ (List.getElem_mem hk), I.ot _ (List.getElem_mem ht)⟩
      · rw [List.length_append] at hs
        exact q f a H9 (I4.but.trans (But.of_same s9)) (I4.bag.same s9) hd (by omega) ha
end

/-! ### is_sign -/
def signB (c : Nat) : Bool := decide (32 ≤ c) && (decide (c ≤ 126) && !decide (c = 34))
def spIsSign : Sp := fun vs H Q _ => ∃ (c : Nat), vs = [.str ⟨#[c]⟩] ∧ Q (.bl (signB c)) H
section
variable {P : Program} {w : World} {K : PySem.W.Frag} {mg : Str → Option Value} {base : Heap} {f : Addr} {fd : FuncData}
theorem ok_is_sign (F : Fun K "is_sign" "is_sign" s_is_sign f fd) (T : Txt mg) : FnOk P w K mg base CX0 1 f fd ["sign"] spIsSign := by
  refine F.ok sc_is_sign (fun vs H Q E h => ?_) (fun cdv A outer s H vs Q E hr h => ?_)
  · obtain ⟨c, rfl, _⟩ := h
    rfl
  · obtain ⟨c, rfl, q⟩ := h
    refine ⟨_, (pss_one (ps_ret (pe_and (pe_chain op_leX op_leX pe_str (pv 0) pe_str) (pe_one (pe_cmpR (op_neX K hr) (pv 0) pe_str (nomark _)))))), ?_⟩
    change (_ : TS) _ [some (V.str ⟨#[c]⟩)] _
    have e1 : (!decide ((⟨#[c]⟩ : Str).cps.toList < (Str.ofString " ").cps.toList)) = decide (32 ≤ c) := by
      rw [show (Str.ofString " ").cps.toList = [32] by decide +kernel]
      show (!decide (([c] : List Nat) < [32])) = _
      rw [sgn_lt, ← decide_not]
      exact decide_eq_decide.mpr (by omega)
    have e2 : (!decide ((Str.ofString "~").cps.toList < (⟨#[c]⟩ : Str).cps.toList)) = decide (c ≤ 126) := by
      rw [show (Str.ofString "~").cps.toList = [126] by decide +kernel]
      show (!decide (([126] : List Nat) < [c])) = _
      rw [sgn_lt, ← decide_not]
      exact decide_eq_decide.mpr (by omega)
    have e3 : decide ((⟨#[c]⟩ : Str) = Str.ofString "\"") = decide (c = 34) := by
      rw [show Str.ofString "\"" = (⟨#[34]⟩ : Str) by decide +kernel]
      exact sg_eq c 34
    k_extra "rr"
    rw [e1]
    refine iteD (fun h1 => ?_) (fun h1 => ?_)
    · k_extra "rr"
      rw [e2]
      cases h2 : decide (c ≤ 126) with
      | false =>
        k_extra "rr"
        have e : signB c = false := by
          unfold signB
          rw [h2, Bool.false_and, Bool.and_false]
        rw [← e]
        exact q
      | true =>
        k_extra "rr"
        rw [e3]
        have e : signB c = !decide (c = 34) := by
          unfold signB
          rw [h2, decide_eq_true h1, Bool.true_and, Bool.true_and]
        rw [← e]
        exact q
    · k_extra "rr"
      have e : signB c = false := by
        unfold signB
        rw [decide_eq_false h1, Bool.false_and]
      rw [← e]
      exact q
end

/-! ### texts of documents -/
namespace Fo
def isNil : Fo → Bool
  | nil => true
  | cons _ _ _ _ => false
def get : Fo → Nat → Option (List Nat × List Nat × Fo)
  | nil, _ => none
  | cons k t i _, 0 => some (k, t, i)
  | cons _ _ _ r, j + 1 => r.get j
end Fo
def headT (k t : List Nat) : List Nat := k ++ (if t = [] then [] else 34 :: (t ++ [34]))
def sepT : Fo → List Nat → List Nat
  | .nil, _ => []
  | .cons _ _ _ _, w => 32 :: w
def parT : Fo → List Nat → List Nat
  | .nil, _ => []
  | .cons _ _ _ _, w => 40 :: (w ++ [41])
def wr : Fo → List Nat
  | .nil => []
  | .cons k t i r => headT k t ++ parT i (wr i) ++ sepT r (wr r)
def nw (k t : List Nat) (i : Fo) : List Nat := headT k t ++ parT i (wr i)
def nws : Fo → List (List Nat)
  | .nil => []
  | .cons k t i r => nw k t i :: nws r
theorem wr_join : ∀ f : Fo, TL.joinL [32] (nws f) = wr f
  | .nil => rfl
  | .cons k t i .nil => by
    show nw k t i = nw k t i ++ []
    rw [List.append_nil]
  | .cons k t i (.cons k2 t2 i2 r2) => by
    show nw k t i ++ ([32] ++ TL.joinL [32] (nws (.cons k2 t2 i2 r2))) = nw k t i ++ 32 :: wr (.cons k2 t2 i2 r2)
    rw [wr_join (.cons k2 t2 i2 r2)]
    rfl
/-- kinds and texts as the documents have them -/
def GN (k t : List Nat) : Prop := (∀ c ∈ k, c ∈ letters) ∧ 1 ≤ k.length ∧ k.length ≤ 6 ∧ t.length ≤ 20 ∧ ∀ c ∈ t, signB c = true
abbrev GF (f : Fo) : Prop := f.All GN
theorem head_len {k t : List Nat} (h : GN k t) : (headT k t).length ≤ 28 := by
  obtain ⟨_, h1, h2, h3, _⟩ := h
  unfold headT
  rw [List.length_append]
  by_cases z : t = []
  · rw [if_pos z, List.length_nil]
    omega
  · rw [if_neg z, List.length_cons, List.length_append, List.length_singleton]
    omega
theorem wr_len : ∀ {f : Fo}, GF f → (wr f).length ≤ 31 * f.size
  | .nil, _ => Nat.le_refl 0
  | .cons k t i r, ⟨h1, h2, h3⟩ => by
    have a1 := head_len h1
    have a2 := wr_len h2
    have a3 := wr_len h3
    have b2 : (parT i (wr i)).length ≤ (wr i).length + 2 := by
      cases i with
      | nil => exact Nat.zero_le _
      | cons _ _ _ _ =>
        show (40 :: (_ ++ [41])).length ≤ _
        rw [List.length_cons, List.length_append, List.length_singleton]
        omega
    have b3 : (sepT r (wr r)).length ≤ (wr r).length + 1 := by
      cases r with
      | nil => exact Nat.zero_le _
      | cons _ _ _ _ => exact Nat.le_refl _
    show (headT k t ++ parT i (wr i) ++ sepT r (wr r)).length ≤ 31 * (1 + i.size + r.size)
    rw [List.length_append, List.length_append]
    omega
theorem nw_len {k t : List Nat} {i : Fo} (h : GN k t) (hi : GF i) : (nw k t i).length ≤ 31 * i.size + 30 := by
  have a1 := head_len h
  have a2 := wr_len hi
  unfold nw
  rw [List.length_append]
  cases i with
  | nil =>
    show _ + 0 ≤ _
    omega
  | cons _ _ _ _ =>
    show _ + (40 :: (_ ++ [41])).length ≤ _
    rw [List.length_cons, List.length_append, List.length_singleton]
    omega
theorem nws_sum : ∀ {f : Fo}, GF f → ((nws f).map List.length).sum ≤ 31 * f.size ∧ (nws f).length = f.len
  | .nil, _ => ⟨Nat.le_refl 0, rfl⟩
  | .cons k t i r, ⟨h1, h2, h3⟩ => by
    obtain ⟨a1, a2⟩ := nws_sum h3
    have a3 := nw_len h1 h2
    constructor
    · show (nw k t i).length + ((nws r).map List.length).sum ≤ 31 * (1 + i.size + r.size)
      omega
    · show (nws r).length + 1 = r.len + 1
      rw [a2]
theorem get_nws : ∀ {f : Fo} {j : Nat} {k t : List Nat} {i : Fo}, f.get j = some (k, t, i) → (nws f)[j]? = some (nw k t i)
  | .cons _ _ _ _, 0, _, _, _, h => by
    cases h
    rfl
  | .cons _ _ _ r, j + 1, _, _, _, h => get_nws (f := r) h
theorem get_depth : ∀ {f : Fo} {j : Nat} {k t : List Nat} {i : Fo}, f.get j = some (k, t, i) → i.depth + 1 ≤ f.depth ∧ i.size + 1 ≤ f.size
  | .cons _ _ i r, 0, _, _, _, h => by
    cases h
    constructor
    · show _ ≤ max (i.depth + 1) r.depth
      omega
    · show _ ≤ 1 + i.size + r.size
      omega
  | .cons _ _ i r, j + 1, _, _, i2, h => by
    obtain ⟨a, b⟩ := get_depth (f := r) h
    constructor
    · show _ ≤ max (i.depth + 1) r.depth
      omega
    · show _ ≤ 1 + i.size + r.size
      omega
theorem get_all {p : List Nat → List Nat → Prop} : ∀ {f : Fo} {j : Nat} {k t : List Nat} {i : Fo}, f.All p → f.get j = some (k, t, i) → p k t ∧ i.All p
  | .cons _ _ _ _, 0, _, _, _, ⟨h1, h2, h3⟩, h => by
    cases h
    exact ⟨h1, h2⟩
  | .cons _ _ _ r, j + 1, _, _, _, ⟨h1, h2, h3⟩, h => get_all (f := r) h3 h
theorem Items.get {H : Hp} : ∀ {f : Fo} {xs : List V} {j : Nat} {x : V}, Items H f xs → xs[j]? = some x → ∃ k t i p q, f.get j = some (k, t, i) ∧ x = .ref p ∧ H p = some (.tup [.str (SX.S k), .str (SX.S t), .ref q]) ∧ Doc H i q
  | .nil, _, _, _, h, hx => by
    rw [show _ = _ from h] at hx
    cases hx
  | .cons k t i r, _, j, _, ⟨p, q, ys, xs', e, h1, h2, h3, h4⟩, hx => by
    subst e
    cases j with
    | zero =>
      cases hx
      exact ⟨k, t, i, p, q, rfl, rfl, h1, ys, h2, h3⟩
    | succ j =>
      have e := Items.get h4 hx
      exact e
/-! shapes -/
theorem sign_small {c : Nat} (h : signB c = true) : c < 1114112 := by
  unfold signB at h
  simp only [Bool.and_eq_true, decide_eq_true_eq] at h
  omega
theorem letters_small : ∀ c ∈ letters, c < 1114112 := by decide
theorem ok_S {l : List Nat} (h : ∀ c ∈ l, c < 1114112) : PyData.strOk (SX.S l) = true := by
  unfold PyData.strOk
  show (l.toArray.all (· < 0x110000)) = true
  rw [List.all_toArray]
  exact List.all_eq_true.mpr fun c hc => decide_eq_true (h c hc)
theorem lay_fdata : ∀ {f : Fo}, GF f → PyData.canLayAll0 (fdata f) = true
  | .nil, _ => by simp [fdata, PyData.canLayAll0]
  | .cons k t i r, ⟨⟨h1, _, _, _, h2⟩, h3, h4⟩ => by
    have a1 := lay_fdata h3
    have a2 := lay_fdata h4
    have b1 := ok_S fun c hc => letters_small c (h1 c hc)
    have b2 := ok_S fun c hc => sign_small (h2 c hc)
    unfold fdata
    simp only [PyData.canLayAll0, PyData.canLay0, a1, a2, b1, b2, Bool.and_self, Bool.and_true]
theorem depth_fdata : ∀ f : Fo, PyData.depthAll (fdata f) ≤ 2 * f.depth
  | .nil => by simp [fdata, PyData.depthAll]
  | .cons k t i r => by
    have a1 := depth_fdata i
    have a2 := depth_fdata r
    unfold fdata
    simp only [PyData.depthAll, PyData.depth]
    show _ ≤ 2 * max (i.depth + 1) r.depth
    omega
theorem shaped_doc {f : Fo} (h : GF f) (hd : f.depth ≤ 31) : SeqAt.shaped (.tuple (fdata f)) = true := by
  have h1 := lay_fdata h
  have h2 := depth_fdata f
  unfold SeqAt.shaped
  simp only [PyData.canLay0, PyData.depth, h1, Bool.true_and]
  exact decide_eq_true (by omega)
theorem fdata_nil : ∀ f : Fo, (fdata f).isEmpty = f.isNil
  | .nil => rfl
  | .cons _ _ _ _ => rfl
/-! ### _law_text -/
def spLText (n : Nat) : Sp := fun vs H Q _ => ∃ (a : Addr) (f : Fo), vs = [.ref a] ∧ Doc H f a ∧ f.depth < n ∧ f.depth ≤ 31 ∧ f.size ≤ 100 ∧ GF f ∧ ∀ H', Same H H' → Q (.str (SX.S (wr f))) H'
section
variable {P : Program} {w : World} {K : PySem.W.Frag} {mg : Str → Option Value} {base : Heap} {f : Addr} {fd : FuncData}
theorem ok_law_text0 (F : Fun K "_law_text" "_law_text" s_law_text f fd) : FnOk P w K mg base CX0 1 f fd ["_law_document_z"] (spLText 0) := by
  refine F.ok sc_law_text (fun vs H Q E h => ?_) (fun cdv A outer s H vs Q E hr h => ?_)
  · obtain ⟨a, fo, rfl, _⟩ := h
    rfl
  · obtain ⟨a, fo, rfl, _, h, _⟩ := h
    exact absurd h (Nat.not_lt_zero _)
theorem ok_law_text (F : Fun K "_law_text" "_law_text" s_law_text f fd) (T : Txt mg) {n : Nat} (c_law_text : Cal P w K mg base (n + 1) "_law_text" (spLText n)) : FnOk P w K mg base CX0 (n + 2) f fd ["_law_document_z"] (spLText (n + 1)) := by
  refine F.ok sc_law_text (fun vs H Q E h => ?_) (fun cdv A outer s H vs Q E hr h => ?_)
  · obtain ⟨a, fo, rfl, _⟩ := h
    rfl
  · obtain ⟨a, fo, rfl, hd, hn, h31, hsz, hg, q⟩ := h
    refine ⟨_, (pss_cons (ps_set (i := 1) sc_law_text.nd rfl (.inl rfl) (pe_lst pa_nil))
      (pss_cons (ps_for PassesOwn.never rfl (pi_tupX K (pv 0)) (pg_tupX K (pg_tup (n := 3) (by rfl) (pgs_cons (pg_name (i := 2) sc_law_text.nd rfl (.inl rfl)) (pgs_cons (pg_name (i := 3) sc_law_text.nd rfl (.inl rfl)) (pgs_cons (pg_name (i := 4) sc_law_text.nd rfl (.inl rfl)) pgs_nil))))) (pss_cons (ps_set (i := 5) sc_law_text.nd rfl (.inl rfl) (pe_op (op_addX K) (pv 2) (pe_ifExp (pt_cmpR (op_neX K hr) (pv 3) pe_str (nomark _)) (pe_op (op_addX K) (pe_op (op_addX K) pe_str (pv 3)) pe_str) pe_str)))
      (pss_one (ps_expr (pe_bmX K (pe_bm PySem.F.plainAttrs_list PySem.F.slot_list_append PySem.F.type_list_append mt_append (pv 1) (pa_cons (pe_op (op_addX K) (pv 5) (pe_ifExp (pt_cmpR (op_neX K hr) (pv 4) (pe_tup pa_nil) (nomark _)) (pe_op (op_addX K) (pe_op (op_addX K) pe_str (pe_c c_law_text hr (by omega) (by rfl) (pa_cons (pv 4) pa_nil))) pe_str) pe_str)) pa_nil)))))))
      (pss_one (ps_ret (pe_joinX K pe_str (pv 1)))))), ?_⟩
    change (_ : TS) _ [some (V.ref a), none, none, none, none, none] _
    k_extra "rr"
    refine ⟨by k_extra "sz", fun W nW => ?_⟩
    k_extra "rr"
    obtain ⟨xs, hx, ix⟩ := hd
    refine ⟨a, rfl, ⟨_, SqT.of (same_upd nW _ _ hx)⟩, for_tup (K := K) (a := a) (xs := xs) (fun j σ H' => ∃ (v2 v3 v4 v5 : Option V), σ = [some (.ref a), some (.ref W), v2, v3, v4, v5] ∧ Same H H' ∧ H' W = some (.lst (((nws fo).take j).map fun l => V.str (SX.S l))))
      ⟨_, _, _, _, rfl, same_upd nW, upd_same⟩ (fun j σ H' _ ⟨_, _, _, _, _, s1, _⟩ => SqT.of (s1 _ _ hx)) ?_ ?_⟩
    · rintro j x σ H' hj ⟨v2, v3, v4, v5, rfl, s1, hW⟩
      obtain ⟨k, t, i, p, q0, hget, rfl, hp, hi⟩ := ix.get hj
      have hi1 := hi.le (TupLe.same s1)
      obtain ⟨gk, gi⟩ := get_all hg hget
      obtain ⟨gd, gs⟩ := get_depth hget
      have eQ : Str.ofString "\"" = SX.S [34] := by decide +kernel
      have ekl : k.length ≤ 6 := gk.2.2.1
      have etl : t.length ≤ 20 := gk.2.2.2.1
      k_extra "rr"
      have hp1 := s1 _ _ hp
      refine gtup (SqT.of hp1) rfl ?_
      iterate 9 k_extra "r"
      refine toV (v := .str (SX.S (headT k t))) (H := H') ?_ (fun Q' q' => ?_)
      · k_extra "rr"
        refine ⟨tyvL hW, ?_⟩
        iterate 1 k_extra "r"
        refine toH (v := .str (SX.S (nw k t i))) (H := H') (fun H2 s2 => ?_) (fun Q' q' => ?_)
        · k_extra "rr"
          have hW2 := s2 _ _ hW
          refine app hW2 (by
            rw [List.length_map, List.length_take, sizeLine_eq]
            have := (nws_sum hg).2
            have := Fo.len_le fo
            omega) ?_
          k_extra "rr"
          refine ⟨_, _, _, _, rfl, same_mut (s1.trans s2) nW, ?_⟩
          rw [upd_same, List.take_add_one, get_nws hget, List.map_append]
          rfl
        · k_extra "rr"
          refine ⟨by k_extra "sz", fun e ne => ?_⟩
          k_extra "rr"
          have hi2 := hi1.le (TupLe.new (o := .tup []) ne)
          refine neDd hi2.dp (.tup (SqT.of upd_same) .nil) (shaped_doc gi (by omega)) shaped_nilT ?_
          rw [eqv_nilT, fdata_nil]
          have hhl := head_len gk
          cases i with
          | nil =>
            rw [show (!Fo.nil.isNil) = false from rfl]
            k_extra "rr"
            rw [empty_S]
            have z1 : (SX.S (headT k t)).length + (SX.S []).length ≤ sizeLine := by rw [SX.S_len, SX.S_len, sizeLine_eq, List.length_nil]; omega
            k_extra "rr"
            rw [SX.S_cat]
            exact q' _ (same_upd ne)
          | cons k2 t2 i2 r2 =>
            rw [show (!(Fo.cons k2 t2 i2 r2).isNil) = true from rfl]
            k_extra "rr"
            refine ⟨q0, _, rfl, hi2, by omega, by omega, by omega, gi, fun H2 s2 => ?_⟩
            have hwl := wr_len gi
            have eo : Str.ofString "(" = SX.S [40] := by decide +kernel
            have ec : Str.ofString ")" = SX.S [41] := by decide +kernel
            rw [eo]
            have z1 : (SX.S [40]).length + (SX.S (wr (Fo.cons k2 t2 i2 r2))).length ≤ sizeLine := by rw [SX.S_len, SX.S_len, sizeLine_eq, List.length_singleton]; omega
            k_extra "rr"
            rw [SX.S_cat, ec]
            have z2 : (SX.S ([40] ++ wr (Fo.cons k2 t2 i2 r2))).length + (SX.S [41]).length ≤ sizeLine := by rw [SX.S_len, SX.S_len, sizeLine_eq, List.length_append, List.length_singleton, List.length_singleton]; omega
            k_extra "rr"
            rw [SX.S_cat]
            have z3 : (SX.S (headT k t)).length + (SX.S (([40] ++ wr (Fo.cons k2 t2 i2 r2)) ++ [41])).length ≤ sizeLine := by rw [SX.S_len, SX.S_len, sizeLine_eq, List.length_append, List.length_append, List.length_singleton, List.length_singleton]; omega
            k_extra "rr"
            rw [SX.S_cat]
            exact q' _ ((same_upd ne).trans s2)
      · k_extra "rr"
        rw [S_emp]
        refine iteN (fun hz => ?_) (fun hz => ?_)
        · rw [eQ]
          have z1 : (SX.S [34]).length + (SX.S t).length ≤ sizeLine := by rw [SX.S_len, SX.S_len, sizeLine_eq, List.length_singleton]; omega
          k_extra "rr"
          rw [SX.S_cat]
          have z2 : (SX.S ([34] ++ t)).length + (SX.S [34]).length ≤ sizeLine := by rw [SX.S_len, SX.S_len, sizeLine_eq, List.length_append, List.length_singleton]; omega
          k_extra "rr"
          rw [SX.S_cat]
          have z3 : (SX.S k).length + (SX.S (([34] ++ t) ++ [34])).length ≤ sizeLine := by rw [SX.S_len, SX.S_len, sizeLine_eq, List.length_append, List.length_append, List.length_singleton]; omega
          k_extra "rr"
          rw [SX.S_cat]
          have e : headT k t = k ++ (([34] ++ t) ++ [34]) := by
            unfold headT
            rw [if_neg hz]
            rfl
          rw [← e]
          exact q'
        · rw [empty_S]
          have z1 : (SX.S k).length + (SX.S []).length ≤ sizeLine := by rw [SX.S_len, SX.S_len, sizeLine_eq, List.length_nil]; omega
          k_extra "rr"
          rw [SX.S_cat]
          have e : headT k t = k ++ [] := by
            unfold headT
            rw [if_pos hz]
          rw [← e]
          exact q'
    · rintro σ H' ⟨v2, v3, v4, v5, rfl, s1, hW⟩
      k_extra "rr"
      rw [ix.len] at hW
      obtain ⟨n1, n2⟩ := nws_sum hg
      rw [← n2, List.take_length] at hW
      have hfl := Fo.len_le fo
      rw [show Str.ofString " " = SX.S [32] by decide +kernel]
      refine joinL (zs := (nws fo).map SX.S) (by rw [List.map_map]; exact SqL.of hW) ?_ ?_
      · rw [List.map_map, List.length_map, SX.S_len, List.length_singleton]
        have e : (Str.length ∘ SX.S) = List.length := funext fun l => SX.S_len l
        show ((nws fo).map (Str.length ∘ SX.S)).sum + _ ≤ _
        rw [e]
        omega
      · rw [SX.join_S, wr_join]
        exact q _ s1
end

/-! ### spaced, document_text -/
def spaceL (xs : List V) : List V := ((xs.reverse.map fun x => [x, V.str " "]).flatten).dropLast
def spSpaced : Sp := fun vs H Q _ => ∃ (a : Addr) (xs : List V), vs = [.ref a] ∧ H a = some (.tup xs) ∧ xs.length ≤ 1000 ∧ ∀ (p : Addr) (H' : Hp), Same H H' → H p = none → H' p = some (.lst (spaceL xs)) → Q (.ref p) H'
theorem flat_len (xs : List V) : ((xs.map fun x => [x, V.str " "]).flatten).length = 2 * xs.length := by
  induction xs with
  | nil => rfl
  | cons x r ih =>
    rw [List.map_cons, List.flatten_cons, List.length_append, ih]
    show 2 + 2 * r.length = 2 * (r.length + 1)
    omega
section
variable {P : Program} {w : World} {K : PySem.W.Frag} {mg : Str → Option Value} {base : Heap} {f : Addr} {fd : FuncData}
theorem ok_spaced (F : Fun K "spaced" "spaced" s_spaced f fd) (T : Txt mg) : FnOk P w K mg base CX0 1 f fd ["row"] spSpaced := by
  refine F.ok sc_spaced (fun vs H Q E h => ?_) (fun cdv A outer s H vs Q E hr h => ?_)
  · obtain ⟨a, xs, rfl, _⟩ := h
    rfl
  · obtain ⟨a, xs, rfl, hx, hl, q⟩ := h
    refine ⟨_, (pss_cons (ps_set (i := 1) sc_spaced.nd rfl (.inl rfl) (pe_lst pa_nil))
      (pss_cons (ps_for PassesOwn.never rfl (pi_tupX K (pe_revT K (pv 0))) (pg_name (i := 2) sc_spaced.nd rfl (.inl rfl)) (pss_one (ps_aug (i := 1) sc_spaced.nd rfl (.inl rfl) (pe_lst (pa_cons (pv 2) (pa_cons pe_str pa_nil))) ip_X)))
      (pss_one (ps_ret (pe_slice (sl_X K) (pv 1) po_none (po_some (pe_un un_neg pe_int))))))), ?_⟩
    change (_ : TS) _ [some (V.ref a), none, none] _
    k_extra "rr"
    refine ⟨by k_extra "sz", fun W nW => ?_⟩
    k_extra "rr"
    have nW0 := same_upd (o := .lst []) nW
    refine ⟨a, xs, rfl, SqT.of (nW0 _ _ hx), fun p np => ⟨p, rfl, ⟨_, SqT.of upd_same⟩, for_tup (K := K) (a := p) (xs := xs.reverse) (fun j σ H' => ∃ v2, σ = [some (.ref a), some (.ref W), v2] ∧ Same H H' ∧ H' p = some (.tup xs.reverse) ∧ H' W = some (.lst (((xs.reverse.take j).map fun x => [x, V.str " "]).flatten)))
      ⟨_, rfl, nW0.trans (same_upd np), upd_same, same_upd np _ _ upd_same⟩ (fun j σ H' _ ⟨_, _, _, h, _⟩ => SqT.of h) ?_ ?_⟩⟩
    · rintro j x σ H' hj ⟨v2, rfl, s1, h1, h2⟩
      k_extra "rr"
      refine ⟨by k_extra "sz", fun e ne => ?_⟩
      have hjl : j < xs.length := by
        have := (List.getElem?_eq_some_iff.mp hj).1
        rwa [List.length_reverse] at this
      k_extra "rr"
      refine ipL2 (same_upd ne _ _ h2) upd_same (by rw [flat_len, List.length_take, sizeLine_eq]; show _ + 2 ≤ _; omega) ?_
      k_extra "rr"
      have nWp : p ≠ W := fun z => by
        rw [z, h2] at h1
        cases h1
      refine ⟨_, rfl, same_mut (s1.trans (same_upd ne)) nW, upd2 nWp (same_upd ne _ _ h1), ?_⟩
      rw [upd_same, List.take_add_one, hj, List.map_append, List.flatten_append]
      rfl
    · rintro σ H' ⟨v2, rfl, s1, h1, h2⟩
      k_extra "rr"
      rw [List.length_reverse] at h2
      rw [show xs.reverse.take xs.length = xs.reverse from List.take_of_length_le (by rw [List.length_reverse]; exact Nat.le_refl _)] at h2
      refine slL (SqL.of h2) fun l nl => ?_
      rw [cut_m1]
      refine q l _ (s1.trans (same_upd nl)) ?_ upd_same
      cases e : H l with
      | none => rfl
      | some o =>
        rw [s1 _ _ e] at nl
        cases nl
end

/-! ### document_text: its stack -/
inductive Tk where
  | s (l : List Nat)
  | n (k t : List Nat) (i : Fo)
def TkAt (H : Hp) : Tk → V → Prop
  | .s l, v => v = .str (SX.S l)
  | .n k t i, v => ∃ p q, v = .ref p ∧ H p = some (.tup [.str (SX.S k), .str (SX.S t), .ref q]) ∧ Doc H i q
def tkT : Tk → List Nat
  | .s l => l
  | .n k t i => nw k t i
def tksT (ts : List Tk) : List Nat := (ts.map tkT).flatten
def wt : Fo → Nat
  | .nil => 0
  | .cons _ _ i r => 4 + wt i + wt r
def tkW : Tk → Nat
  | .s _ => 1
  | .n _ _ i => 3 + wt i
def tksW (ts : List Tk) : Nat := (ts.map tkW).sum
def TkG : Tk → Prop
  | .s l => l.length ≤ 1 ∧ ∀ c ∈ l, c < 1114112
  | .n k t i => GN k t ∧ GF i ∧ i.depth ≤ 30
def toks2 : Fo → List Tk
  | .nil => []
  | .cons k t i r => .s [32] :: .n k t i :: toks2 r
def toks (f : Fo) : List Tk := (toks2 f).tail
theorem toks2_T : ∀ f : Fo, tksT (toks2 f) = sepT f (wr f)
  | .nil => rfl
  | .cons k t i r => by
    have ih := toks2_T r
    show 32 :: (nw k t i ++ tksT (toks2 r)) = 32 :: (nw k t i ++ sepT r (wr r))
    rw [ih]
theorem toks_T : ∀ f : Fo, tksT (toks f) = wr f
  | .nil => rfl
  | .cons k t i r => by
    have ih := toks2_T r
    show nw k t i ++ tksT (toks2 r) = nw k t i ++ sepT r (wr r)
    rw [ih]
theorem toks2_W : ∀ f : Fo, tksW (toks2 f) = wt f
  | .nil => rfl
  | .cons k t i r => by
    have ih := toks2_W r
    show 1 + (3 + wt i + tksW (toks2 r)) = 4 + wt i + wt r
    rw [ih]
    omega
theorem toks_W : ∀ f : Fo, tksW (toks f) ≤ wt f
  | .nil => Nat.le_refl 0
  | .cons k t i r => by
    have ih := toks2_W r
    show 3 + wt i + tksW (toks2 r) ≤ 4 + wt i + wt r
    rw [ih]
    omega
theorem wt_le : ∀ f : Fo, wt f ≤ 4 * f.size
  | .nil => Nat.le_refl 0
  | .cons k t i r => by
    have h1 := wt_le i
    have h2 := wt_le r
    show 4 + wt i + wt r ≤ 4 * (1 + i.size + r.size)
    omega
theorem len_wt : ∀ f : Fo, f.len ≤ wt f
  | .nil => Nat.le_refl 0
  | .cons k t i r => by
    have h2 := len_wt r
    show r.len + 1 ≤ 4 + wt i + wt r
    omega
theorem toks2_G : ∀ {f : Fo}, GF f → f.depth ≤ 31 → ∀ t ∈ toks2 f, TkG t
  | .nil, _, _, _, h => nomatch h
  | .cons k t i r, ⟨h1, h2, h3⟩, hd, x, h => by
    have hd2 : max (i.depth + 1) r.depth ≤ 31 := hd
    rcases List.mem_cons.mp h with rfl | h
    · exact ⟨Nat.le_refl 1, by decide⟩
    · rcases List.mem_cons.mp h with rfl | h
      · exact ⟨h1, h2, by omega⟩
      · exact toks2_G h3 (by omega) x h
theorem toks_G {f : Fo} (h : GF f) (hd : f.depth ≤ 31) : ∀ t ∈ toks f, TkG t := fun t m => toks2_G h hd t (List.mem_of_mem_tail m)
theorem len_W : ∀ ts : List Tk, ts.length ≤ tksW ts
  | [] => Nat.le_refl 0
  | t :: r => by
    have := len_W r
    have h : 1 ≤ tkW t := by
      cases t with
      | s l => exact Nat.le_refl 1
      | n k t i =>
        show 1 ≤ 3 + wt i
        omega
    show r.length + 1 ≤ tkW t + tksW r
    omega
theorem TkAt.le {H H' : Hp} (s : TupLe H H') : ∀ {t : Tk} {v : V}, TkAt H t v → TkAt H' t v
  | .s _, _, h => h
  | .n _ _ _, _, ⟨p, q, e, h, d⟩ => ⟨p, q, e, s _ _ h, d.le s⟩
def TksAt (H : Hp) : List Tk → List V → Prop
  | [], [] => True
  | t :: ts, v :: vs => TkAt H t v ∧ TksAt H ts vs
  | _, _ => False
theorem TksAt.le {H H' : Hp} (s : TupLe H H') : ∀ {ts : List Tk} {vs : List V}, TksAt H ts vs → TksAt H' ts vs
  | [], [], _ => trivial
  | _ :: _, _ :: _, ⟨h, r⟩ => ⟨h.le s, r.le s⟩
theorem TksAt.len {H : Hp} : ∀ {ts : List Tk} {vs : List V}, TksAt H ts vs → vs.length = ts.length
  | [], [], _ => rfl
  | _ :: _, _ :: _, ⟨h, r⟩ => by rw [List.length_cons, List.length_cons, r.len]
theorem TksAt.app {H : Hp} : ∀ {ts us : List Tk} {vs ws : List V}, TksAt H ts vs → TksAt H us ws → TksAt H (ts ++ us) (vs ++ ws)
  | [], _, [], _, _, h => h
  | _ :: _, _, _ :: _, _, ⟨h, r⟩, q => ⟨h, r.app q⟩
theorem Items.toks2 {H : Hp} : ∀ {f : Fo} {xs : List V}, Items H f xs → TksAt H (toks2 f) ((xs.map fun x => [V.str " ", x]).flatten)
  | .nil, _, h => by
    rw [show _ = _ from h]
    trivial
  | .cons k t i r, _, ⟨p, q, ys, xs', e, h1, h2, h3, h4⟩ => by
    subst e
    exact ⟨congrArg V.str (by decide +kernel), ⟨p, q, rfl, h1, ys, h2, h3⟩, Items.toks2 h4⟩
theorem space_rev (xs : List V) : (spaceL xs).reverse = ((xs.map fun x => [V.str " ", x]).flatten).tail := by
  unfold spaceL
  rw [← List.tail_reverse]
  congr 1
  rw [List.reverse_flatten, List.map_map, List.map_reverse, List.reverse_reverse]
  rfl
theorem TksAt.tail {H : Hp} : ∀ {ts : List Tk} {vs : List V}, TksAt H ts vs → TksAt H ts.tail vs.tail
  | [], [], _ => trivial
  | _ :: _, _ :: _, ⟨_, r⟩ => r
theorem Items.toks {H : Hp} {f : Fo} {xs : List V} (h : Items H f xs) : TksAt H (toks f) (spaceL xs).reverse := by
  rw [space_rev]
  exact (Items.toks2 h).tail
/-! as plain data -/
def tkD : Tk → PyData
  | .s l => .str (SX.S l)
  | .n k t i => .tuple [.str (SX.S k), .str (SX.S t), .tuple (fdata i)]
theorem TkAt.dp {K : PySem.W.Frag} {H : Hp} : ∀ {t : Tk} {v : V}, TkAt H t v → Dp K H v (tkD t)
  | .s _, _, h => by
    rw [show _ = _ from h]
    exact .str _
  | .n _ _ _, _, ⟨p, q, e, h, d⟩ => by
    subst e
    exact .tup (SqT.of h) (.cons (.str _) (.cons (.str _) (.cons d.dp .nil)))
theorem dp_snoc {K : PySem.W.Frag} {H : Hp} {v : V} {d : PyData} (h : Dp K H v d) : ∀ {vs : List V} {ds : List PyData}, DpAll K H vs ds → DpAll K H (vs ++ [v]) (ds ++ [d])
  | _, _, .nil => .cons h .nil
  | _, _, .cons a b => .cons a (dp_snoc h b)
theorem TksAt.dp {K : PySem.W.Frag} {H : Hp} : ∀ {ts : List Tk} {vs : List V}, TksAt H ts vs → DpAll K H vs.reverse (ts.map tkD).reverse
  | [], [], _ => .nil
  | _ :: _, _ :: _, ⟨h, r⟩ => by
    rw [List.map_cons, List.reverse_cons, List.reverse_cons]
    exact dp_snoc h.dp r.dp
theorem TkG.data : ∀ {t : Tk}, TkG t → (tkD t).canLay0 = true ∧ (tkD t).depth ≤ 63
  | .s l, ⟨_, h⟩ => ⟨by
      have := ok_S h
      simpa [tkD, PyData.canLay0] using this, by simp [tkD, PyData.depth]⟩
  | .n k t i, ⟨⟨h1, _, _, _, h2⟩, h3, h4⟩ => by
    have a1 := lay_fdata h3
    have b1 := ok_S fun c hc => letters_small c (h1 c hc)
    have b2 := ok_S fun c hc => sign_small (h2 c hc)
    have a2 := depth_fdata i
    constructor
    · unfold tkD
      simp only [PyData.canLayAll0, PyData.canLay0, a1, b1, b2, Bool.and_self, Bool.and_true]
    · unfold tkD
      simp only [PyData.depthAll, PyData.depth]
      omega
theorem shaped_all : ∀ {ds : List PyData}, (∀ d ∈ ds, d.canLay0 = true ∧ d.depth ≤ 63) → PyData.canLayAll0 ds = true ∧ PyData.depthAll ds ≤ 63
  | [], _ => by simp [PyData.canLayAll0, PyData.depthAll]
  | d :: r, h => by
    obtain ⟨a1, a2⟩ := shaped_all fun x m => h x (List.mem_cons_of_mem _ m)
    obtain ⟨b1, b2⟩ := h d (List.mem_cons_self ..)
    simp only [PyData.canLayAll0, PyData.depthAll, a1, b1, Bool.and_self, true_and]
    omega
theorem shaped_list {ds : List PyData} (h : ∀ d ∈ ds, d.canLay0 = true ∧ d.depth ≤ 63) : SeqAt.shaped (.list ds) = true := by
  obtain ⟨h1, h2⟩ := shaped_all h
  unfold SeqAt.shaped
  simp only [PyData.canLay0, PyData.depth, h1, Bool.true_and]
  exact decide_eq_true (by omega)
theorem shaped_tks {ts : List Tk} (h : ∀ t ∈ ts, TkG t) : SeqAt.shaped (.list (ts.map tkD).reverse) = true := shaped_list fun d m => by
  rw [List.mem_reverse] at m
  obtain ⟨t, ht, rfl⟩ := List.mem_map.mp m
  exact (h t ht).data
def spDText : Sp := fun vs H Q _ => ∃ (a : Addr) (f : Fo), vs = [.ref a] ∧ Doc H f a ∧ f.depth ≤ 31 ∧ f.size ≤ 100 ∧ GF f ∧ ∀ H', Same H H' → Q (.str (SX.S (wr f))) H'
section
variable {P : Program} {w : World} {K : PySem.W.Frag} {mg : Str → Option Value} {base : Heap} {f : Addr} {fd : FuncData}
theorem ok_document_text (F : Fun K "document_text" "document_text" s_document_text f fd) (T : Txt mg) (c_spaced : Cal P w K mg base 1 "spaced" spSpaced) : FnOk P w K mg base CX0 2 f fd ["document"] spDText := by
  refine F.ok sc_document_text (fun vs H Q E h => ?_) (fun cdv A outer s H vs Q E hr h => ?_)
  · obtain ⟨a, fo, rfl, _⟩ := h
    rfl
  · obtain ⟨a, fo, rfl, hd, h31, hsz, hg, q⟩ := h
    refine ⟨_, (pss_cons (ps_set (i := 1) sc_document_text.nd rfl (.inl rfl) pe_str)
      (pss_cons (ps_set (i := 2) sc_document_text.nd rfl (.inl rfl) (pe_c c_spaced hr (by omega) (by rfl) (pa_cons (pv 0) pa_nil)))
      (pss_cons (ps_while PassesOwn.never (pt_cmpR (op_neX K hr) (pv 2) (pe_lst pa_nil) (nomark _)) (pss_cons (ps_set (i := 3) sc_document_text.nd rfl (.inl rfl) (pe_bm0X K (pe_bm0 PySem.F.plainAttrs_list PySem.F.slot_list_pop PySem.F.type_list_pop mt_pop (pv 2))))
      (pss_one (ps_if (pt_val (pe_callB (cr_isi K) (by rfl) T.isinstance (by decide +kernel) (pa_cons (pv 3) (pa_cons (pe_bltn (v := .ty "str") (by rfl) T.str (by decide +kernel) rfl) pa_nil)))) (pss_one (ps_aug (i := 1) sc_document_text.nd rfl (.inl rfl) (pv 3) ip_X)) (pss_cons (ps_asg (pv 3) (pg_tupX K (pg_tup (n := 3) (by rfl) (pgs_cons (pg_name (i := 4) sc_document_text.nd rfl (.inl rfl)) (pgs_cons (pg_name (i := 5) sc_document_text.nd rfl (.inl rfl)) (pgs_cons (pg_name (i := 6) sc_document_text.nd rfl (.inl rfl)) pgs_nil))))))
      (pss_cons (ps_aug (i := 1) sc_document_text.nd rfl (.inl rfl) (pe_ifExp (pt_cmpR (op_eqX K hr) (pv 5) pe_str (nomark _)) (pv 4) (pe_joined (PJ.cons (pe_fmt (pv 4)) (PJ.cons pe_str (PJ.cons (pe_fmt (pv 5)) (PJ.cons pe_str PJ.nil)))))) ip_X)
      (pss_one (ps_if (pt_cmpR (op_neX K hr) (pv 6) (pe_tup pa_nil) (nomark _)) (pss_one (ps_aug (i := 2) sc_document_text.nd rfl (.inl rfl) (pe_lst (pa_cons pe_str (pa_starX K (pe_c c_spaced hr (by omega) (by rfl) (pa_cons (pv 6) pa_nil)) (pa_cons pe_str pa_nil)))) ip_X)) pss_nil))))))))
      (pss_one (ps_ret (pv 1)))))), ?_⟩
    change (_ : TS) _ [some (V.ref a), none, none, none, none, none, none] _
    obtain ⟨xs, hx, ix⟩ := hd
    have hfl := Fo.len_le fo
    have hxl := ix.len
    k_extra "rr"
    refine ⟨a, xs, rfl, hx, by omega, fun L H1 s1 nL hL => ?_⟩
    k_extra "rr"
    refine ⟨fun m σ H' => ∃ (out : List Nat) (ts : List Tk) (vs : List V) (v3 v4 v5 v6 : Option V), σ = [some (.ref a), some (.str (SX.S out)), some (.ref L), v3, v4, v5, v6] ∧ Same H H' ∧ H' L = some (.lst vs.reverse) ∧ TksAt H' ts vs ∧ (∀ t ∈ ts, TkG t) ∧ out ++ tksT ts = wr fo ∧ tksW ts = m ∧ m ≤ 400,
      ⟨tksW (toks fo), [], toks fo, (spaceL xs).reverse, _, _, _, _, (by rw [empty_S]; rfl), s1, (by rw [List.reverse_reverse]; exact hL), ix.toks.le (TupLe.same s1), toks_G hg h31, toks_T fo, rfl, (by have := toks_W fo; have := wt_le fo; omega)⟩, ?_⟩
    rintro m σ H' ⟨out, ts, vs, v3, v4, v5, v6, rfl, s2, hL2, hT, hG, ho, hm, hm4⟩
    have hwl := wr_len hg
    have hol : out.length ≤ 3100 := by
      have := congrArg List.length ho
      rw [List.length_append] at this
      omega
    k_extra "rr"
    refine ⟨by k_extra "sz", fun e ne => ?_⟩
    have s3 : Same H (upd H' e (.lst [])) := s2.trans (same_upd ne)
    have hL3 := same_upd (o := .lst []) ne _ _ hL2
    have hT3 := hT.le (TupLe.new (o := .lst []) ne)
    k_extra "rr"
    refine neDd (d := .list (ts.map tkD).reverse) (e := .list []) (.lst (SqL.of hL3) hT3.dp) (.lst (SqL.of upd_same) .nil) (shaped_tks hG) shaped_nilL ?_
    rw [eqv_nilL]
    clear hL2 hT
    generalize upd H' e (.lst []) = H2 at s3 hL3 hT3
    match ts, vs, hT3 with
    | [], [], _ =>
      rw [show (!((([] : List Tk).map tkD).reverse).isEmpty) = false from rfl]
      k_extra "rr"
      have e : out = wr fo := by rw [← ho]; exact (List.append_nil out).symm
      rw [e]
      exact q _ s3
    | t :: ts, v :: vs, ⟨ht, hts⟩ =>
      rw [show (!(((t :: ts).map tkD).reverse).isEmpty) = true by simp]
      k_extra "rr"
      refine ⟨_, fun _ _ h => h, ?_⟩
      k_extra "rr"
      rw [List.reverse_cons] at hL3
      refine ⟨tyvL hL3, popL hL3 ?_⟩
      have s4 : Same H (upd H2 L (.lst vs.reverse)) := same_mut s3 nL
      have t4 : TupLe H2 (upd H2 L (.lst vs.reverse)) := TupLe.lst hL3
      have hts4 := hts.le t4
      have ht4 := ht.le t4
      have hl4 : upd H2 L (.lst vs.reverse) L = some (.lst vs.reverse) := upd_same
      generalize upd H2 L (.lst vs.reverse) = H4 at s4 hts4 ht4 hl4
      have hvl := hts4.len
      have hlw := len_W ts
      have hmt : tkW t + tksW ts = m := hm
      cases t with
      | s l =>
        obtain rfl : v = .str (SX.S l) := ht4
        obtain ⟨hl1, _⟩ := hG _ (List.mem_cons_self ..)
        have hm1 : 1 + tksW ts = m := hmt
        k_extra "rr"
        refine ipS2 (by rw [SX.S_len, SX.S_len, sizeLine_eq]; omega) ?_
        rw [SX.S_cat]
        k_extra "rr"
        refine ⟨tksW ts, by omega, out ++ l, ts, vs, _, _, _, _, rfl, s4, hl4, hts4, fun x m => hG x (List.mem_cons_of_mem _ m), ?_, rfl, by omega⟩
        rw [← ho, List.append_assoc]
        rfl
      | n k t i =>
        obtain ⟨p, q0, rfl, hp, hi⟩ := ht4
        obtain ⟨gk, gi, gd⟩ := hG _ (List.mem_cons_self ..)
        have hm1 : 3 + wt i + tksW ts = m := hmt
        have hhl := head_len gk
        have ekl : k.length ≤ 6 := gk.2.2.1
        have etl : t.length ≤ 20 := gk.2.2.2.1
        have eQ : Str.ofString "\"" = SX.S [34] := by decide +kernel
        k_extra "rr"
        rw [S_emp]
        refine iteD (fun hz => ?yes) (fun hz => ?no)
        case' yes =>
          k_extra "rr"
          have eh : headT k t = k := by
            unfold headT
            rw [if_pos hz, List.append_nil]
          rw [show SX.S k = SX.S (headT k t) by rw [eh]]
        case' no =>
          have eh : SX.S (headT k t) = Str.empty ++ SX.S k ++ SX.S [34] ++ SX.S t ++ SX.S [34] := by
            rw [show Str.empty = SX.S [] from empty_S, SX.S_cat, SX.S_cat, SX.S_cat, SX.S_cat]
            unfold headT
            rw [if_neg hz]
            simp
          have l1 : Str.empty ++ SX.S k = SX.S k := (congrArg (· ++ SX.S k) empty_S).trans (SX.S_cat [] k)
          have l2 : Str.empty ++ SX.S k ++ SX.S [34] = SX.S (k ++ [34]) := by rw [l1, SX.S_cat]
          have l3 : Str.empty ++ SX.S k ++ SX.S [34] ++ SX.S t = SX.S (k ++ [34] ++ t) := by rw [l2, SX.S_cat]
          rw [eQ]
          k_extra "rr"
          refine .inl ⟨_, rfl, by rw [SX.S_len, sizeLine_eq]; omega, ?_⟩
          k_extra "rr"
          refine ⟨by rw [l1, SX.S_len, sizeLine_eq]; omega, ?_⟩
          k_extra "rr"
          refine ⟨by rw [l2, SX.S_len, sizeLine_eq, List.length_append, List.length_singleton]; omega, ?_⟩
          k_extra "rr"
          refine .inl ⟨_, rfl, by rw [SX.S_len, sizeLine_eq]; omega, ?_⟩
          k_extra "rr"
          refine ⟨by rw [l3, SX.S_len, sizeLine_eq, List.length_append, List.length_append, List.length_singleton]; omega, ?_⟩
          k_extra "rr"
          refine ⟨by rw [← eh, SX.S_len, sizeLine_eq]; omega, ?_⟩
          k_extra "rr"
          rw [← eh]
        all_goals
          refine ipS2 (by rw [SX.S_len, SX.S_len, sizeLine_eq]; omega) ?_
          rw [SX.S_cat]
          k_extra "rr"
          refine ⟨by k_extra "sz", fun e ne => ?_⟩
          have hi5 := hi.le (TupLe.new (o := .tup []) ne)
          have s5 := s4.trans (same_upd (o := .tup []) ne)
          have hl5 := same_upd (o := .tup []) ne _ _ hl4
          have hts5 := hts4.le (TupLe.new (o := .tup []) ne)
          k_extra "rr"
          refine neDd hi5.dp (.tup (SqT.of upd_same) .nil) (shaped_doc gi (by omega)) shaped_nilT ?_
          rw [eqv_nilT, fdata_nil]
          generalize upd H4 e (.tup []) = H5 at hi5 s5 hl5 hts5
          cases i with
          | nil =>
            rw [show (!Fo.nil.isNil) = false from rfl]
            k_extra "rr"
            refine ⟨tksW ts, by omega, out ++ headT k t, ts, vs, _, _, _, _, rfl, s5, hl5, hts5, fun x m => hG x (List.mem_cons_of_mem _ m), ?_, rfl, by omega⟩
            rw [← ho, List.append_assoc]
            show _ = out ++ ((headT k t ++ []) ++ tksT ts)
            rw [List.append_nil]
          | cons k2 t2 i2 r2 =>
            rw [show (!(Fo.cons k2 t2 i2 r2).isNil) = true from rfl]
            k_extra "rr"
            obtain ⟨ys, hy, iy⟩ := hi5
            have hyl := iy.len
            have hyl2 := Fo.len_le (Fo.cons k2 t2 i2 r2)
            have hwt := len_wt (Fo.cons k2 t2 i2 r2)
            refine ⟨q0, ys, rfl, hy, by omega, fun p2 H6 s6 n6 h6 => ?_⟩
            refine ⟨p2, _, rfl, .inr (SqL.of h6), ?_⟩
            k_extra "rr"
            have hsl : (spaceL ys).length ≤ 2 * ys.length := by
              unfold spaceL
              rw [List.length_dropLast, flat_len, List.length_reverse]
              omega
            refine ⟨by rw [List.length_cons, List.length_append, sizeLine_eq]; show _ + 1 + 1 ≤ _; omega, fun lp nlp => ?_⟩
            k_extra "rr"
            have hl6 := same_upd (o := .lst (V.str ")" :: (spaceL ys ++ [V.str "("]))) nlp _ _ (s6 _ _ hl5)
            refine ipL2 hl6 upd_same (by rw [List.length_reverse, List.length_cons, List.length_append, sizeLine_eq]; show _ + (_ + 1 + 1) ≤ _; omega) ?_
            k_extra "rr"
            have s7 := (s5.trans s6).trans (same_upd (o := .lst (V.str ")" :: (spaceL ys ++ [V.str "("]))) nlp)
            have t7 : TupLe H5 (upd H6 lp (.lst (V.str ")" :: (spaceL ys ++ [V.str "("])))) := (TupLe.same s6).trans (TupLe.new nlp)
            have t8 := t7.trans (TupLe.lst (m := vs.reverse ++ (V.str ")" :: (spaceL ys ++ [V.str "("]))) hl6)
            have eo : Str.ofString "(" = SX.S [40] := by decide +kernel
            have ec : Str.ofString ")" = SX.S [41] := by decide +kernel
            have hwk := toks_W (Fo.cons k2 t2 i2 r2)
            have hW : tksW (Tk.s [40] :: (toks (Fo.cons k2 t2 i2 r2) ++ Tk.s [41] :: ts)) = 1 + (tksW (toks (Fo.cons k2 t2 i2 r2)) + (1 + tksW ts)) := by
              unfold tksW
              rw [List.map_cons, List.sum_cons, List.map_append, List.sum_append, List.map_cons, List.sum_cons]
              rfl
            refine ⟨_, ?_, out ++ headT k t, Tk.s [40] :: (toks (Fo.cons k2 t2 i2 r2) ++ Tk.s [41] :: ts), V.str "(" :: ((spaceL ys).reverse ++ V.str ")" :: vs), _, _, _, _, rfl, same_mut s7 nL, ?_, ⟨congrArg V.str eo, ?_⟩, fun x m => ?_, ?_, rfl, ?_⟩
            · rw [hW]
              omega
            · rw [upd_same]
              simp
            · exact (iy.toks.le t8).app ⟨congrArg V.str ec, hts5.le t8⟩
            · rcases List.mem_cons.mp m with rfl | m
              · exact ⟨Nat.le_refl 1, by decide⟩
              · rcases List.mem_append.mp m with m | m
                · exact toks_G gi (by omega) x m
                · rcases List.mem_cons.mp m with rfl | m
                  · exact ⟨Nat.le_refl 1, by decide⟩
                  · exact hG x (List.mem_cons_of_mem _ m)
            · have e1 : tksT (Tk.s [40] :: (toks (Fo.cons k2 t2 i2 r2) ++ Tk.s [41] :: ts)) = 40 :: (tksT (toks (Fo.cons k2 t2 i2 r2)) ++ 41 :: tksT ts) := by
                unfold tksT
                rw [List.map_cons, List.flatten_cons, List.map_append, List.flatten_append, List.map_cons, List.flatten_cons]
                rfl
              have e2 : tksT (Tk.n k t (Fo.cons k2 t2 i2 r2) :: ts) = (headT k t ++ 40 :: (wr (Fo.cons k2 t2 i2 r2) ++ [41])) ++ tksT ts := rfl
              rw [e1, toks_T, ← ho, e2]
              simp
            · rw [hW]
              omega
end

/-! ### read_kind, read_quoted -/
theorem cut_mid (l : List Nat) {a b : Int} {i j : Nat} (ha : a = (i : Int)) (hb : b = (j : Int)) : cutS (SX.S l) (some a) (some b) = SX.S ((l.drop i).take (j - i)) := by
  subst ha hb
  unfold cutS
  rw [HT.sIx_nat, HT.sIx_nat, SX.S_len]
  have e : (SX.S l).cps.toList = l := by simp [SX.S]
  rw [e]
  refine congrArg SX.S ?_
  by_cases h : i ≤ l.length
  · have m1 : min i l.length = i := Nat.min_eq_left h
    rw [m1]
    by_cases h2 : j ≤ l.length
    · have m2 : min j l.length = j := Nat.min_eq_left h2
      rw [m2]
    · have m2 : min j l.length = l.length := Nat.min_eq_right (by omega)
      rw [m2, List.take_of_length_le (by rw [List.length_drop]; exact Nat.le_refl _), List.take_of_length_le (by rw [List.length_drop]; omega)]
  · have m1 : min i l.length = l.length := Nat.min_eq_right (by omega)
    rw [m1, List.drop_length, List.take_nil, List.drop_eq_nil_of_le (by omega), List.take_nil]
theorem S_toList (l : List Nat) : (SX.S l).cps.toList = l := by simp [SX.S]
theorem at_mid (pre k rest : List Nat) {j : Nat} {c : Nat} (h : (k ++ rest)[j]? = some c) : atI (SX.S (pre ++ (k ++ rest))).cps.toList ((pre.length + j : Nat) : Int) = some c := by
  rw [S_toList]
  refine atI_nat ?_
  rw [List.getElem?_append_right (by omega), show pre.length + j - pre.length = j by omega]
  exact h
theorem cut_one (l : List Nat) (i : Nat) : cutS (SX.S l) (some (i : Int)) (some ((i : Int) + 1)) = SX.S ((l.drop i).take 1) := by
  rw [cut_mid l (i := i) (j := i + 1) rfl (by omega), show i + 1 - i = 1 by omega]
theorem S_one (l : List Nat) (c : Nat) : decide (SX.S (l.take 1) = SX.S [c]) = decide (l.head? = some c) := by
  refine decide_eq_decide.mpr ⟨fun h => ?_, fun h => ?_⟩
  · have e : l.take 1 = [c] := by
      have := congrArg (fun z : Str => z.cps.toList) h
      simpa [SX.S] using this
    cases l with
    | nil => cases e
    | cons d r =>
      have e2 : [d] = [c] := e
      injection e2 with e3
      rw [e3]
      rfl
  · cases l with
    | nil => cases h
    | cons d r =>
      cases h
      rfl
def spRK : Sp := fun vs H Q _ => ∃ (pre k rest : List Nat), vs = [.str (SX.S (pre ++ (k ++ rest))), .int (pre.length : Int)] ∧ (pre ++ (k ++ rest)).length ≤ 100000 ∧ (∀ c ∈ k, c ∈ letters) ∧ 1 ≤ k.length ∧ k.length ≤ 6 ∧ (∀ c, rest.head? = some c → c ∉ letters) ∧
  ∀ p H', Same H H' → H' p = some (.tup [.str (SX.S k), .int ((pre ++ k).length : Int)]) → Q (.ref p) H'
def quo (t : List Nat) : List Nat := if t = [] then [] else 34 :: (t ++ [34])
def spRQ : Sp := fun vs H Q _ => ∃ (pre t rest : List Nat), vs = [.str (SX.S (pre ++ (quo t ++ rest))), .int (pre.length : Int)] ∧ (pre ++ (quo t ++ rest)).length ≤ 100000 ∧ t.length ≤ 20 ∧ (∀ c ∈ t, signB c = true) ∧ rest.head? ≠ some 34 ∧
  ∀ p H', Same H H' → H' p = some (.tup [.str (SX.S t), .int ((pre ++ quo t).length : Int)]) → Q (.ref p) H'
section
variable {P : Program} {w : World} {K : PySem.W.Frag} {mg : Str → Option Value} {base : Heap} {f : Addr} {fd : FuncData}
theorem ok_read_kind (F : Fun K "read_kind" "read_kind" s_read_kind f fd) (T : Txt mg) : FnOk P w K mg base CX0 1 f fd ["text", "at"] spRK := by
  refine F.ok sc_read_kind (fun vs H Q E h => ?_) (fun cdv A outer s H vs Q E hr h => ?_)
  · obtain ⟨pre, k, rest, rfl, _⟩ := h
    rfl
  · obtain ⟨pre, k, rest, rfl, hl, hk, k1, k6, hrest, q⟩ := h
    refine ⟨_, (pss_cons (ps_set (i := 2) sc_read_kind.nd rfl (.inl rfl) (pv 1))
      (pss_cons (ps_while PassesOwn.never (PW.pt (pw_and (pt_cmpR op_lt (pv 2) (pe_callB (call_lenX K) (by rfl) T.len PySem.boot_len (pa_cons (pv 0) pa_nil)) (nomark _)) (pw_and1 (pt_cmpR (op_inX K) (pe_ix (ix_X K) (pv 0) (pv 2) (fun _ _ => rfl)) (pe_gc (by rfl) T.g_SMALL) (by rfl))))) (pss_one (ps_aug (i := 2) sc_read_kind.nd rfl (.inl rfl) pe_int ip_X)))
      (pss_cons (ps_if (PW.pt (pw_or (pt_cmpR (op_eqX K hr) (pv 2) (pv 1) (nomark _)) (pw_or1 (pt_cmpR op_gt (pe_op op_sub (pv 2) (pv 1)) (pe_gc (by rfl) T.g_MOST_LETTERS) (nomark _))))) pss_never pss_nil)
      (pss_one (ps_ret (pe_tup (pa_cons (pe_slice (sl_X K) (pv 0) (po_some (pv 1)) (po_some (pv 2))) (pa_cons (pv 2) pa_nil)))))))), ?_⟩
    change (_ : TS) _ [some (V.str (SX.S (pre ++ (k ++ rest)))), some (.int (pre.length : Int)), none] _
    have hsl : (SX.S (pre ++ (k ++ rest))).length ≤ sizeLine := by rw [SX.S_len, sizeLine_eq]; omega
    have hlen : (pre ++ (k ++ rest)).length = pre.length + (k.length + rest.length) := by rw [List.length_append, List.length_append]
    k_extra "rr"
    refine ⟨fun m σ H' => ∃ j, j ≤ k.length ∧ m = k.length - j ∧ σ = [some (V.str (SX.S (pre ++ (k ++ rest)))), some (.int (pre.length : Int)), some (.int ((pre.length + j : Nat) : Int))] ∧ H' = H, ⟨k.length, 0, Nat.zero_le _, rfl, rfl, rfl⟩, ?_⟩
    rintro m σ H' ⟨j, hj, rfl, rfl, rfl⟩
    k_extra "rr"
    have eS : (SX.S (pre ++ (k ++ rest))).length = pre.length + (k.length + rest.length) := by rw [SX.S_len, hlen]
    by_cases hjk : j < k.length
    · rw [decide_eq_true (by rw [eS]; omega)]
      k_extra "rr"
      refine ixS hsl (at_mid pre k rest (j := j) (c := k[j]) (by rw [List.getElem?_append_left hjk]; exact List.getElem?_eq_getElem hjk)) ?_
      k_extra "rr"
      rw [letters_eq, S_toList, decide_eq_true (hk _ (List.getElem_mem hjk))]
      k_extra "rr"
      refine ⟨_, fun _ _ h => h, ?_⟩
      k_extra "rr"
      refine ⟨k.length - (j + 1), by omega, j + 1, by omega, rfl, ?_, rfl⟩
      have e : ((pre.length + j : Nat) : Int) + 1 = ((pre.length + (j + 1) : Nat) : Int) := by omega
      rw [e]
      rfl
    · have hjk2 : j = k.length := by omega
      rcases rest with _ | ⟨c, r⟩
      case' nil =>
        rw [decide_eq_false (by rw [eS, List.length_nil]; omega)]
      case' cons =>
        rw [decide_eq_true (by rw [eS, List.length_cons]; omega)]
        k_extra "rr"
        refine ixS hsl (at_mid pre k (c :: r) (j := j) (c := c) (by rw [List.getElem?_append_right (by omega), hjk2, Nat.sub_self]; rfl)) ?_
        k_extra "rr"
        rw [letters_eq, S_toList, decide_eq_false (hrest c rfl)]
      all_goals
        k_extra "rr"
        rw [decide_eq_false (by omega)]
        k_extra "rr"
        rw [decide_eq_false (by omega)]
        k_extra "rr"
        refine ⟨by k_extra "sz", fun p np => ?_⟩
        k_extra "rr"
        refine q p _ (same_upd np) ?_
        rw [upd_same, cut_mid _ (i := pre.length) (j := pre.length + j) rfl rfl, List.drop_left, show pre.length + j - pre.length = k.length by omega, List.take_left, List.length_append, hjk2]
theorem ok_read_quoted (F : Fun K "read_quoted" "read_quoted" s_read_quoted f fd) (T : Txt mg) (c_is_sign : Cal P w K mg base 1 "is_sign" spIsSign) : FnOk P w K mg base CX0 2 f fd ["text", "at"] spRQ := by
  refine F.ok sc_read_quoted (fun vs H Q E h => ?_) (fun cdv A outer s H vs Q E hr h => ?_)
  · obtain ⟨pre, t, rest, rfl, _⟩ := h
    rfl
  · obtain ⟨pre, t, rest, rfl, hl, t20, ht, hrest, q⟩ := h
    refine ⟨_, (pss_cons (ps_if (pt_cmpR (op_neX K hr) (pe_slice (sl_X K) (pv 0) (po_some (pv 1)) (po_some (pe_op (op_addX K) (pv 1) pe_int))) pe_str (nomark _)) (pss_one (ps_ret (pe_tup (pa_cons pe_str (pa_cons (pv 1) pa_nil))))) pss_nil)
      (pss_cons (ps_set (i := 2) sc_read_quoted.nd rfl (.inl rfl) (pe_op (op_addX K) (pv 1) pe_int))
      (pss_cons (ps_while PassesOwn.never (pt_cmpR (op_neX K hr) (pe_slice (sl_X K) (pv 0) (po_some (pv 2)) (po_some (pe_op (op_addX K) (pv 2) pe_int))) pe_str (nomark _)) (pss_cons (ps_if (PW.pt (pw_or (pt_cmpR (op_eqX K hr) (pv 2) (pe_callB (call_lenX K) (by rfl) T.len PySem.boot_len (pa_cons (pv 0) pa_nil)) (nomark _)) (pw_or (pt_not (pt_val (pe_c c_is_sign hr (by omega) (by rfl) (pa_cons (pe_ix (ix_X K) (pv 0) (pv 2) (fun _ _ => rfl)) pa_nil)))) (pw_or1 (pt_cmpR op_gt (pe_op op_sub (pv 2) (pv 1)) (pe_gc (by rfl) T.g_MOST_SIGNS) (nomark _)))))) pss_never pss_nil)
      (pss_one (ps_aug (i := 2) sc_read_quoted.nd rfl (.inl rfl) pe_int ip_X))))
      (pss_cons (ps_if (pt_cmpR (op_eqX K hr) (pv 2) (pe_op (op_addX K) (pv 1) pe_int) (nomark _)) pss_never pss_nil)
      (pss_one (ps_ret (pe_tup (pa_cons (pe_slice (sl_X K) (pv 0) (po_some (pe_op (op_addX K) (pv 1) pe_int)) (po_some (pv 2))) (pa_cons (pe_op (op_addX K) (pv 2) pe_int) pa_nil))))))))), ?_⟩
    change (_ : TS) _ [some (V.str (SX.S (pre ++ (quo t ++ rest)))), some (.int (pre.length : Int)), none] _
    have hsl : (SX.S (pre ++ (quo t ++ rest))).length ≤ sizeLine := by rw [SX.S_len, sizeLine_eq]; omega
    have eQ : Str.ofString "\"" = SX.S [34] := by decide +kernel
    k_extra "rr"
    rw [cut_one, List.drop_left, eQ, S_one]
    by_cases hz : t = []
    · have hq0 : quo t = [] := by unfold quo; rw [if_pos hz]
      rw [hq0, List.nil_append, decide_eq_false hrest, Bool.not_false]
      k_extra "rr"
      refine ⟨by k_extra "sz", fun p np => ?_⟩
      k_extra "rr"
      refine q p _ (same_upd np) ?_
      rw [upd_same, hq0, hz, List.append_nil, empty_S]
    · have hq1 : quo t = 34 :: (t ++ [34]) := by unfold quo; rw [if_neg hz]
      have t1 : 1 ≤ t.length := List.length_pos_iff.mpr hz
      have hlen : (pre ++ (quo t ++ rest)).length = pre.length + (t.length + 2 + rest.length) := by
        rw [List.length_append, List.length_append, hq1, List.length_cons, List.length_append, List.length_singleton]
      rw [decide_eq_true (by rw [hq1]; rfl), Bool.not_true]
      k_extra "rr"
      refine ⟨fun m σ H' => ∃ j, j ≤ t.length ∧ m = t.length - j ∧ σ = [some (V.str (SX.S (pre ++ (quo t ++ rest)))), some (.int (pre.length : Int)), some (.int ((pre.length + 1 + j : Nat) : Int))] ∧ H' = H, ⟨t.length, 0, Nat.zero_le _, rfl, rfl, rfl⟩, ?_⟩
      rintro m σ H' ⟨j, hj, rfl, rfl, rfl⟩
      have eS : (SX.S (pre ++ (quo t ++ rest))).length = pre.length + (t.length + 2 + rest.length) := by rw [SX.S_len, hlen]
      have esp : pre ++ (quo t ++ rest) = (pre ++ [34]) ++ (t ++ (34 :: rest)) := by rw [hq1]; simp
      have epl : (pre ++ [34]).length = pre.length + 1 := by rw [List.length_append, List.length_singleton]
      k_extra "rr"
      rw [cut_one, S_one]
      have hat : ((pre ++ (quo t ++ rest)).drop (pre.length + 1 + j)).head? = (t ++ (34 :: rest))[j]? := by
        rw [esp, List.head?_drop, ← epl, List.getElem?_append_right (by omega), Nat.add_sub_cancel_left]
      rw [hat]
      by_cases hjt : j < t.length
      · have hsg := ht _ (List.getElem_mem hjt)
        have hc : (t ++ (34 :: rest))[j]? = some t[j] := by rw [List.getElem?_append_left hjt]; exact List.getElem?_eq_getElem hjt
        have hne : ¬ (some t[j] = some 34) := fun z => by
          have z2 := Option.some.inj z
          rw [z2] at hsg
          cases hsg
        rw [hc, decide_eq_false hne, Bool.not_false]
        k_extra "rr"
        refine ⟨_, fun _ _ h => h, ?_⟩
        k_extra "rr"
        rw [decide_eq_false (by rw [eS]; omega)]
        k_extra "rr"
        refine ixS hsl (k := t[j]) (by rw [esp]; have e := at_mid (pre ++ [34]) t (34 :: rest) (j := j) hc; rw [epl] at e; exact e) ?_
        k_extra "rr"
        refine ⟨t[j], rfl, ?_⟩
        rw [hsg]
        k_extra "rr"
        rw [decide_eq_false (by omega)]
        k_extra "rr"
        refine ⟨t.length - (j + 1), by omega, j + 1, by omega, rfl, ?_, rfl⟩
        have e : ((pre.length + 1 + j : Nat) : Int) + 1 = ((pre.length + 1 + (j + 1) : Nat) : Int) := by omega
        rw [e]
        rfl
      · have hjt2 : j = t.length := by omega
        have hc : (t ++ (34 :: rest))[j]? = some 34 := by rw [hjt2, List.getElem?_append_right (Nat.le_refl _), Nat.sub_self]; rfl
        rw [hc, decide_eq_true rfl, Bool.not_true]
        k_extra "rr"
        rw [decide_eq_false (by omega)]
        k_extra "rr"
        refine ⟨by k_extra "sz", fun p np => ?_⟩
        k_extra "rr"
        refine q p _ (same_upd np) ?_
        rw [upd_same, cut_mid _ (i := pre.length + 1) (j := pre.length + 1 + j) (by omega) rfl]
        have e1 : (List.take (pre.length + 1 + j - (pre.length + 1)) (List.drop (pre.length + 1) (pre ++ (quo t ++ rest)))) = t := by
          rw [esp, ← epl, List.drop_left, Nat.add_sub_cancel_left, hjt2, List.take_left]
        have e2 : ((pre.length + 1 + j : Nat) : Int) + 1 = ((pre ++ quo t).length : Int) := by
          rw [List.length_append, hq1, List.length_cons, List.length_append, List.length_singleton]
          omega
        rw [e1, e2]
end

/-! ### read_document: rows and heads -/
def HeadsAt (H : Hp) : List Addr → List (List Nat × List Nat) → Prop
  | [], [] => True
  | c :: cs, kt :: kts => H c = some (.tup [.str (SX.S kt.1), .str (SX.S kt.2)]) ∧ HeadsAt H cs kts
  | _, _ => False
theorem HeadsAt.le {H H' : Hp} (s : TupLe H H') : ∀ {cs : List Addr} {kts : List (List Nat × List Nat)}, HeadsAt H cs kts → HeadsAt H' cs kts
  | [], [], _ => trivial
  | _ :: _, _ :: _, ⟨h, r⟩ => ⟨s _ _ h, r.le s⟩
theorem HeadsAt.len {H : Hp} : ∀ {cs : List Addr} {kts : List (List Nat × List Nat)}, HeadsAt H cs kts → cs.length = kts.length
  | [], [], _ => rfl
  | _ :: _, _ :: _, ⟨h, r⟩ => by rw [List.length_cons, List.length_cons, r.len]
def ktD (kt : List Nat × List Nat) : PyData := .tuple [.str (SX.S kt.1), .str (SX.S kt.2)]
theorem HeadsAt.dp {K : PySem.W.Frag} {H : Hp} : ∀ {cs : List Addr} {kts : List (List Nat × List Nat)}, HeadsAt H cs kts → DpAll K H (cs.reverse.map V.ref) (kts.map ktD).reverse
  | [], [], _ => .nil
  | _ :: _, _ :: _, ⟨h, r⟩ => by
    rw [List.map_cons, List.reverse_cons, List.reverse_cons, List.map_append]
    exact dp_snoc (.tup (SqT.of h) (.cons (.str _) (.cons (.str _) .nil))) r.dp
theorem shaped_kts {kts : List (List Nat × List Nat)} (h : ∀ kt ∈ kts, GN kt.1 kt.2) : SeqAt.shaped (.list (kts.map ktD).reverse) = true := shaped_list fun d m => by
  rw [List.mem_reverse] at m
  obtain ⟨kt, hk, rfl⟩ := List.mem_map.mp m
  obtain ⟨h1, _, _, _, h2⟩ := h kt hk
  have b1 := ok_S fun c hc => letters_small c (h1 c hc)
  have b2 := ok_S fun c hc => sign_small (h2 c hc)
  constructor
  · unfold ktD
    simp only [PyData.canLayAll0, PyData.canLay0, b1, b2, Bool.and_self]
  · unfold ktD
    simp only [PyData.depthAll, PyData.depth]
    omega
structure RI (H : Hp) (R O : Addr) (rs : List Addr) (ds : List Fo) (cs : List Addr) (kts : List (List Nat × List Nat)) (H' : Hp) : Prop where
  same : Same H H'
  fR : H R = none
  fO : H O = none
  hR : H' R = some (.lst (rs.reverse.map V.ref))
  hO : H' O = some (.lst (cs.reverse.map V.ref))
  rows : RowsR H' rs ds
  heads : HeadsAt H' cs kts
  len : rs.length = cs.length + 1
  nd : rs.Nodup
  nR : R ∉ rs
  nO : O ∉ rs
  RO : R ≠ O
  fresh : ∀ r ∈ rs, H r = none
section
variable {H H' : Hp} {R O : Addr} {rs cs : List Addr} {ds : List Fo} {kts : List (List Nat × List Nat)} {x rl rp : Addr} {o : HO}
theorem RI.new (h : RI H R O rs ds cs kts H') (n : H' x = none) : RI H R O rs ds cs kts (upd H' x o) :=
  { h with
    same := h.same.trans (same_upd n)
    hR := same_upd n _ _ h.hR
    hO := same_upd n _ _ h.hO
    rows := h.rows.keep (TupLe.new n) fun r _ xs e => same_upd n _ _ e
    heads := h.heads.le (TupLe.new n) }
theorem RI.row (h : RI H R O rs ds cs kts H') {r : Addr} (m : r ∈ rs) : r ≠ R ∧ r ≠ O := ⟨fun z => h.nR (z ▸ m), fun z => h.nO (z ▸ m)⟩
theorem RI.opened (h : RI H R O rs ds cs kts H') {c e : Addr} {kt : List Nat × List Nat} (hc : H' c = some (.tup [.str (SX.S kt.1), .str (SX.S kt.2)])) (n : upd H' O (.lst (cs.reverse.map V.ref ++ [.ref c])) e = none) :
    RI H R O (e :: rs) (.nil :: ds) (c :: cs) (kt :: kts) (upd (upd (upd H' O (.lst (cs.reverse.map V.ref ++ [.ref c]))) e (.lst [])) R (.lst (rs.reverse.map V.ref ++ [.ref e]))) := by
  have n1 : H' e = none := un0 n
  have eO : e ≠ O := fun z => by
    rw [z, upd_same] at n
    cases n
  have eR : e ≠ R := (ne_of_none h.hR n1).symm
  have er : e ∉ rs := fun m => by
    obtain ⟨xs, q⟩ := h.rows.mem e m
    rw [n1] at q
    cases q
  have he : H e = none := by
    cases q : H e with
    | none => rfl
    | some o =>
      rw [h.same _ _ q] at n1
      cases n1
  have t1 : TupLe H' (upd H' O (.lst (cs.reverse.map V.ref ++ [.ref c]))) := TupLe.lst h.hO
  have t2 := t1.trans (TupLe.new (o := .lst []) n)
  have hR2 : upd (upd H' O (.lst (cs.reverse.map V.ref ++ [.ref c]))) e (.lst []) R = some (.lst (rs.reverse.map V.ref)) := same_upd n _ _ (upd2 h.RO h.hR)
  have t3 := t2.trans (TupLe.lst (m := rs.reverse.map V.ref ++ [.ref e]) hR2)
  refine {
    same := same_mut ((same_mut h.same h.fO).trans (same_upd n)) h.fR
    fR := h.fR
    fO := h.fO
    hR := (by rw [upd_same, List.reverse_cons, List.map_append]; rfl)
    hO := (by rw [upd_ne h.RO.symm, upd_ne eO.symm, upd_same, List.reverse_cons, List.map_append]; rfl)
    rows := ⟨⟨[], (by rw [upd_ne eR, upd_same]), rfl⟩, h.rows.keep t3 fun r m xs q => ?_⟩
    heads := ⟨t3 _ _ hc, h.heads.le t3⟩
    len := (by rw [List.length_cons, List.length_cons, h.len])
    nd := List.nodup_cons.mpr ⟨er, h.nd⟩
    nR := fun m => ?_
    nO := fun m => ?_
    RO := h.RO
    fresh := fun r m => ?_ }
  · have me : r ≠ e := fun z => er (z ▸ m)
    exact upd2 (h.row m).1 (upd2 me (upd2 (h.row m).2 q))
  · rcases List.mem_cons.mp m with z | m
    · exact eR z.symm
    · exact h.nR m
  · rcases List.mem_cons.mp m with z | m
    · exact eO z.symm
    · exact h.nO m
  · rcases List.mem_cons.mp m with rfl | m
    · exact he
    · exact h.fresh r m
theorem RI.add {i d : Fo} {k t : List Nat} {q pn : Addr} {xl ys : List V} (h : RI H R O (rl :: rs) (d :: ds) cs kts H') (hl : H' rl = some (.lst xl)) (il : Items H' d xl) (hq : H' q = some (.tup ys)) (iq : Items H' i ys) (npn : H' pn = none) :
    RI H R O (rl :: rs) (d.snoc k t i :: ds) cs kts (upd (upd H' pn (.tup [.str (SX.S k), .str (SX.S t), .ref q])) rl (.lst (xl ++ [.ref pn]))) := by
  have nd := List.nodup_cons.mp h.nd
  have ml : rl ∈ rl :: rs := List.mem_cons_self ..
  have t1 : TupLe H' (upd H' pn (.tup [.str (SX.S k), .str (SX.S t), .ref q])) := TupLe.new npn
  have hl1 := same_upd (o := .tup [.str (SX.S k), .str (SX.S t), .ref q]) npn _ _ hl
  have t12 : TupLe (upd H' pn (.tup [.str (SX.S k), .str (SX.S t), .ref q])) _ := TupLe.lst (m := xl ++ [.ref pn]) hl1
  have t2 := t1.trans t12
  obtain ⟨_, hrows⟩ := h.rows
  refine {
    same := same_mut (h.same.trans (same_upd npn)) (h.fresh rl ml)
    fR := h.fR
    fO := h.fO
    hR := upd2 (h.row ml).1.symm (same_upd npn _ _ h.hR)
    hO := upd2 (h.row ml).2.symm (same_upd npn _ _ h.hO)
    rows := ⟨⟨_, upd_same, Items.snoc (t12 _ _ upd_same) (t2 _ _ hq) (iq.le t2) (il.le t2)⟩, hrows.keep t2 fun r m xs e => ?_⟩
    heads := h.heads.le t2
    len := h.len
    nd := h.nd
    nR := h.nR
    nO := h.nO
    RO := h.RO
    fresh := h.fresh }
  exact upd2 (fun z => nd.1 (z ▸ m)) (same_upd npn _ _ e)
theorem RI.pop {c : Addr} {kt : List Nat × List Nat} {d d2 : Fo} (h : RI H R O (rl :: rp :: rs) (d :: d2 :: ds) (c :: cs) (kt :: kts) H') :
    RI H R O (rp :: rs) (d2 :: ds) cs kts (upd (upd H' O (.lst (cs.reverse.map V.ref))) R (.lst ((rp :: rs).reverse.map V.ref))) ∧ TupLe H' (upd (upd H' O (.lst (cs.reverse.map V.ref))) R (.lst ((rp :: rs).reverse.map V.ref))) := by
  have nd := List.nodup_cons.mp h.nd
  have t1 : TupLe H' (upd H' O (.lst (cs.reverse.map V.ref))) := TupLe.lst h.hO
  have t2 := t1.trans (TupLe.lst (m := (rp :: rs).reverse.map V.ref) (upd2 h.RO h.hR))
  obtain ⟨_, hrows⟩ := h.rows
  obtain ⟨_, hheads⟩ := h.heads
  refine ⟨{
    same := same_mut (same_mut h.same h.fO) h.fR
    fR := h.fR
    fO := h.fO
    hR := upd_same
    hO := upd2 h.RO.symm upd_same
    rows := hrows.keep t2 fun r m xs e => ?_
    heads := hheads.le t2
    len := ?_
    nd := nd.2
    nR := fun m => h.nR (List.mem_cons_of_mem _ m)
    nO := fun m => h.nO (List.mem_cons_of_mem _ m)
    RO := h.RO
    fresh := fun r m => h.fresh r (List.mem_cons_of_mem _ m) }, t2⟩
  · have m2 := List.mem_cons_of_mem rl m
    exact upd2 (h.row m2).1 (upd2 (h.row m2).2 e)
  · have := h.len
    rw [List.length_cons, List.length_cons, List.length_cons] at this
    rw [List.length_cons]
    omega
end
/-! what is read, what is left -/
structure Fr where
  d : Fo
  k : List Nat
  t : List Nat
  r : Fo
def Fo.app : Fo → Fo → Fo
  | .nil, g => g
  | .cons k t i r, g => .cons k t i (r.app g)
theorem Fo.app_nil : ∀ f : Fo, f.app .nil = f
  | .nil => rfl
  | .cons k t i r => by
    show Fo.cons k t i (r.app .nil) = _
    rw [Fo.app_nil r]
theorem Fo.snoc_app (k t : List Nat) (i g : Fo) : ∀ f : Fo, (f.snoc k t i).app g = f.app (.cons k t i g)
  | .nil => rfl
  | .cons k' t' i' r => by
    show Fo.cons k' t' i' ((r.snoc k t i).app g) = Fo.cons k' t' i' (r.app (.cons k t i g))
    rw [Fo.snoc_app k t i g r]
def plug : Fo → List Fr → Fo
  | c, [] => c
  | c, f :: fs => plug (f.d.app (.cons f.k f.t c f.r)) fs
def closeT : List Fr → List Nat
  | [] => []
  | f :: fs => 41 :: (sepT f.r (wr f.r) ++ closeT fs)
def frW (fs : List Fr) : Nat := (fs.map fun f => f.r.size).sum
def FrG (f : Fr) : Prop := GN f.k f.t ∧ GF f.r
theorem Fo.size_app (g : Fo) : ∀ f : Fo, (f.app g).size = f.size + g.size
  | .nil => by
    show g.size = 0 + g.size
    omega
  | .cons k t i r => by
    have := Fo.size_app g r
    show 1 + i.size + (r.app g).size = 1 + i.size + r.size + g.size
    omega
theorem plug_size : ∀ (fs : List Fr) (c : Fo), c.size + fs.length ≤ (plug c fs).size
  | [], c => Nat.le_refl _
  | f :: fs, c => by
    have h := plug_size fs (f.d.app (.cons f.k f.t c f.r))
    rw [Fo.size_app] at h
    have e : (Fo.cons f.k f.t c f.r).size = 1 + c.size + f.r.size := rfl
    show c.size + (fs.length + 1) ≤ (plug (f.d.app (.cons f.k f.t c f.r)) fs).size
    omega
theorem RI.mono {H H' H2 : Hp} {R O : Addr} {rs cs : List Addr} {ds : List Fo} {kts : List (List Nat × List Nat)} (h : RI H R O rs ds cs kts H') (s : Same H' H2) : RI H R O rs ds cs kts H2 :=
  { h with
    same := h.same.trans s
    hR := s _ _ h.hR
    hO := s _ _ h.hO
    rows := h.rows.keep (TupLe.same s) fun r _ xs e => s _ _ e
    heads := h.heads.le (TupLe.same s) }
theorem head_sep (r : Fo) (fs : List Fr) (c : Nat) (h : (sepT r (wr r) ++ closeT fs).head? = some c) : c = 32 ∨ c = 41 := by
  cases r with
  | nil =>
    cases fs with
    | nil => cases h
    | cons f fs =>
      cases h
      exact .inr rfl
  | cons _ _ _ _ =>
    cases h
    exact .inl rfl
theorem head_par (i r : Fo) (fs : List Fr) (c : Nat) (h : (parT i (wr i) ++ (sepT r (wr r) ++ closeT fs)).head? = some c) : c = 40 ∨ c = 32 ∨ c = 41 := by
  cases i with
  | nil => exact .inr (head_sep r fs c h)
  | cons _ _ _ _ =>
    cases h
    exact .inl rfl
theorem head_quo (t : List Nat) (i r : Fo) (fs : List Fr) (c : Nat) (h : (quo t ++ (parT i (wr i) ++ (sepT r (wr r) ++ closeT fs))).head? = some c) : c ∉ letters := by
  by_cases z : t = []
  · have e : quo t = [] := by unfold quo; rw [if_pos z]
    rw [e] at h
    rcases head_par i r fs c h with rfl | rfl | rfl <;> decide
  · have e : quo t = 34 :: (t ++ [34]) := by unfold quo; rw [if_neg z]
    rw [e] at h
    cases h
    decide
theorem cut1 {T pre rest : List Nat} {n : Nat} (h : T = pre ++ rest) (hn : n = pre.length) : cutS (SX.S T) (some (n : Int)) (some ((n : Int) + 1)) = SX.S (rest.take 1) := by
  rw [cut_one, h, hn, List.drop_left]
def spRD : Sp := fun vs H Q _ => ∃ (f : Fo), vs = [.str (SX.S (wr f))] ∧ GF f ∧ f.size ≤ 100 ∧ ∀ a H', Same H H' → Doc H' f a → Q (.ref a) H'

section
variable {P : Program} {w : World} {K : PySem.W.Frag} {mg : Str → Option Value} {base : Heap} {f : Addr} {fd : FuncData}
theorem ok_read_document (F : Fun K "read_document" "read_document" s_read_document f fd) (T : Txt mg) (c_read_kind : Cal P w K mg base 1 "read_kind" spRK) (c_read_quoted : Cal P w K mg base 2 "read_quoted" spRQ) : FnOk P w K mg base CX0 3 f fd ["text"] spRD := by
  refine F.ok sc_read_document (fun vs H Q E h => ?_) (fun cdv A outer s H vs Q E hr h => ?_)
  · obtain ⟨fo, rfl, _⟩ := h
    rfl
  · obtain ⟨fo, rfl, hg, hsz, q⟩ := h
    refine ⟨_, (pss_cons (ps_if (pt_cmpR (op_eqX K hr) (pv 0) pe_str (nomark _)) (pss_one (ps_ret (pe_tup pa_nil))) pss_nil)
      (pss_cons (ps_par3 (i := 1) (j := 2) (l := 3) (by rfl) sc_read_document.nd rfl rfl rfl (by decide) (by decide) (by decide) rfl rfl rfl (pa_cons (pe_lst (pa_cons (pe_lst pa_nil) pa_nil)) (pa_cons (pe_lst pa_nil) (pa_cons pe_int pa_nil))) (by rfl))
      (pss_one (ps_while PassesOwn.never (pt_val pe_bl) (pss_cons (ps_asg (pe_c c_read_kind hr (by omega) (by rfl) (pa_cons (pv 0) (pa_cons (pv 3) pa_nil))) (pg_tupX K (pg_tup (n := 2) (by rfl) (pgs_cons (pg_name (i := 4) sc_read_document.nd rfl (.inl rfl)) (pgs_cons (pg_name (i := 3) sc_read_document.nd rfl (.inl rfl)) pgs_nil)))))
      (pss_cons (ps_asg (pe_c c_read_quoted hr (by omega) (by rfl) (pa_cons (pv 0) (pa_cons (pv 3) pa_nil))) (pg_tupX K (pg_tup (n := 2) (by rfl) (pgs_cons (pg_name (i := 5) sc_read_document.nd rfl (.inl rfl)) (pgs_cons (pg_name (i := 3) sc_read_document.nd rfl (.inl rfl)) pgs_nil)))))
      (pss_cons (ps_if (pt_cmpR (op_eqX K hr) (pe_slice (sl_X K) (pv 0) (po_some (pv 3)) (po_some (pe_op (op_addX K) (pv 3) pe_int))) pe_str (nomark _)) (pss_cons (ps_expr (pe_bmX K (pe_bm PySem.F.plainAttrs_list PySem.F.slot_list_append PySem.F.type_list_append mt_append (pv 2) (pa_cons (pe_tup (pa_cons (pv 4) (pa_cons (pv 5) pa_nil))) pa_nil))))
      (pss_cons (ps_expr (pe_bmX K (pe_bm PySem.F.plainAttrs_list PySem.F.slot_list_append PySem.F.type_list_append mt_append (pv 1) (pa_cons (pe_lst pa_nil) pa_nil))))
      (pss_cons (ps_aug (i := 3) sc_read_document.nd rfl (.inl rfl) pe_int ip_X)
      (pss_one ps_continue)))) pss_nil)
      (pss_cons (ps_expr (pe_bmX K (pe_bm PySem.F.plainAttrs_list PySem.F.slot_list_append PySem.F.type_list_append mt_append (pe_ix (ix_X K) (pv 1) (pe_un un_neg pe_int) (fun _ _ => rfl)) (pa_cons (pe_tup (pa_cons (pv 4) (pa_cons (pv 5) (pa_cons (pe_tup pa_nil) pa_nil)))) pa_nil))))
      (pss_cons (ps_while PassesOwn.never (PW.pt (pw_and (pt_cmpR (op_neX K hr) (pv 2) (pe_lst pa_nil) (nomark _)) (pw_and1 (pt_cmpR (op_eqX K hr) (pe_slice (sl_X K) (pv 0) (po_some (pv 3)) (po_some (pe_op (op_addX K) (pv 3) pe_int))) pe_str (nomark _))))) (pss_cons (ps_asg (pe_bm0X K (pe_bm0 PySem.F.plainAttrs_list PySem.F.slot_list_pop PySem.F.type_list_pop mt_pop (pv 2))) (pg_tupX K (pg_tup (n := 2) (by rfl) (pgs_cons (pg_name (i := 4) sc_read_document.nd rfl (.inl rfl)) (pgs_cons (pg_name (i := 5) sc_read_document.nd rfl (.inl rfl)) pgs_nil)))))
      (pss_cons (ps_set (i := 6) sc_read_document.nd rfl (.inl rfl) (pe_callTy (cr_tuple K) (by rfl) T.tuple (by decide +kernel) (pa_cons (pe_bm0X K (pe_bm0 PySem.F.plainAttrs_list PySem.F.slot_list_pop PySem.F.type_list_pop mt_pop (pv 1))) pa_nil)))
      (pss_cons (ps_expr (pe_bmX K (pe_bm PySem.F.plainAttrs_list PySem.F.slot_list_append PySem.F.type_list_append mt_append (pe_ix (ix_X K) (pv 1) (pe_un un_neg pe_int) (fun _ _ => rfl)) (pa_cons (pe_tup (pa_cons (pv 4) (pa_cons (pv 5) (pa_cons (pv 6) pa_nil)))) pa_nil))))
      (pss_one (ps_aug (i := 3) sc_read_document.nd rfl (.inl rfl) pe_int ip_X))))))
      (pss_cons (ps_if (PW.pt (pw_and (pt_cmpR (op_eqX K hr) (pv 3) (pe_callB (call_lenX K) (by rfl) T.len PySem.boot_len (pa_cons (pv 0) pa_nil)) (nomark _)) (pw_and1 (pt_cmpR (op_eqX K hr) (pv 2) (pe_lst pa_nil) (nomark _))))) (pss_one (ps_ret (pe_callTy (cr_tuple K) (by rfl) T.tuple (by decide +kernel) (pa_cons (pe_ix (ix_X K) (pv 1) pe_int (fun _ _ => rfl)) pa_nil)))) pss_nil)
      (pss_cons (ps_if (pt_cmpR (op_neX K hr) (pe_slice (sl_X K) (pv 0) (po_some (pv 3)) (po_some (pe_op (op_addX K) (pv 3) pe_int))) pe_str (nomark _)) pss_never pss_nil)
      (pss_one (ps_aug (i := 3) sc_read_document.nd rfl (.inl rfl) pe_int ip_X))))))))))))), ?_⟩
    change (_ : TS) _ [some (V.str (SX.S (wr fo))), none, none, none, none, none, none] _
    have hwl := wr_len hg
    have hTl : (SX.S (wr fo)).length ≤ sizeLine := by rw [SX.S_len, sizeLine_eq]; omega
    k_extra "rr"
    rw [S_emp]
    by_cases hz : fo = .nil
    · subst hz
      rw [show wr Fo.nil = [] from rfl, decide_eq_true rfl]
      k_extra "rr"
      refine ⟨by k_extra "sz", fun p np => ?_⟩
      k_extra "rr"
      exact q p _ (same_upd np) ⟨[], upd_same, rfl⟩
    · have hne : ¬ wr fo = [] := by
        cases fo with
        | nil => exact absurd rfl hz
        | cons k t i r =>
          obtain ⟨⟨_, h1, _⟩, _⟩ := hg
          intro e
          have := congrArg List.length e
          rw [show wr (.cons k t i r) = k ++ (if t = [] then [] else 34 :: (t ++ [34])) ++ parT i (wr i) ++ sepT r (wr r) from rfl, List.length_append, List.length_append, List.length_append, List.length_nil] at this
          omega
      rw [decide_eq_false hne]
      k_extra "rr"
      refine ⟨by k_extra "sz", fun r0 nr0 => ?_⟩
      k_extra "rr"
      refine ⟨by k_extra "sz", fun R nR => ?_⟩
      k_extra "rr"
      refine ⟨by k_extra "sz", fun O nO => ?_⟩
      k_extra "rr"
      have i0 : RI H R O [r0] [.nil] [] [] (upd (upd (upd H r0 (.lst [])) R (.lst [.ref r0])) O (.lst [])) := {
        same := ((same_upd nr0).trans (same_upd nR)).trans (same_upd nO)
        fR := un0 nR
        fO := un0 (un0 nO)
        hR := upd2 (ne_of_none upd_same nO) upd_same
        hO := upd_same
        rows := ⟨⟨[], same_upd nO _ _ (same_upd nR _ _ upd_same), rfl⟩, trivial⟩
        heads := trivial
        len := rfl
        nd := (by simp)
        nR := fun z => ne_of_none upd_same nR (List.mem_singleton.mp z).symm
        nO := fun z => ne_of_none (same_upd nR _ _ upd_same) nO (List.mem_singleton.mp z).symm
        RO := ne_of_none upd_same nO
        fresh := fun r z => (by rw [List.mem_singleton.mp z]; exact nr0) }
      have i1 := i0
      generalize hT0 : wr fo = T0 at hwl hTl hne
      refine ⟨fun m σ H' => ∃ (pre : List Nat) (d rem : Fo) (fs : List Fr) (rs cs : List Addr) (v4 v5 v6 : Option V), σ = [some (.str (SX.S T0)), some (.ref R), some (.ref O), some (.int (pre.length : Int)), v4, v5, v6] ∧
        RI H R O rs (d :: fs.map Fr.d) cs (fs.map fun f => (f.k, f.t)) H' ∧ rem ≠ .nil ∧ plug (d.app rem) fs = fo ∧ T0 = pre ++ (wr rem ++ closeT fs) ∧ GF rem ∧ (∀ f ∈ fs, FrG f) ∧ m = rem.size + frW fs,
        ⟨_, [], .nil, fo, [], _, _, _, _, _, rfl, i1, hz, rfl, by rw [← hT0]; exact (List.append_nil _).symm, hg, fun f m => (nomatch m), rfl⟩, ?_⟩
      rintro m σ H' ⟨pre, d, rem, fs, rs, cs, v4, v5, v6, rfl, I, hrem, hplug, hT, hgr, hgf, hm⟩
      k_extra "rr"
      refine ⟨_, fun _ _ h => h, ?_⟩
      obtain ⟨k, t, i, r, rfl⟩ : ∃ k t i r, rem = .cons k t i r := by
        cases rem with
        | nil => exact absurd rfl hrem
        | cons k t i r => exact ⟨k, t, i, r, rfl⟩
      obtain ⟨gk, gi, gr⟩ := hgr
      have hT1 : T0 = pre ++ (k ++ (quo t ++ (parT i (wr i) ++ (sepT r (wr r) ++ closeT fs)))) := by
        rw [hT]
        show pre ++ (((k ++ quo t) ++ parT i (wr i) ++ sepT r (wr r)) ++ closeT fs) = _
        simp only [List.append_assoc]
      have hT2 : T0 = (pre ++ k) ++ (quo t ++ (parT i (wr i) ++ (sepT r (wr r) ++ closeT fs))) := by rw [hT1]; simp only [List.append_assoc]
      have hT3 : T0 = ((pre ++ k) ++ quo t) ++ (parT i (wr i) ++ (sepT r (wr r) ++ closeT fs)) := by rw [hT2]; simp only [List.append_assoc]
      have hps := plug_size fs (d.app (.cons k t i r))
      rw [hplug, Fo.size_app] at hps
      have hrs : (Fo.cons k t i r).size = 1 + i.size + r.size := rfl
      have hcl := I.heads.len
      rw [List.length_map] at hcl
      have hrl := I.len
      k_extra "rr"
      refine ⟨pre, k, _, by rw [← hT1], by rw [← hT1]; omega, gk.1, gk.2.1, gk.2.2.1, head_quo t i r fs, fun p1 H1 s1 h1 => ?_⟩
      k_extra "rr"
      refine ⟨pre ++ k, t, _, by rw [← hT2], by rw [← hT2]; omega, gk.2.2.2.1, gk.2.2.2.2, fun e => ?_, fun p2 H2 s2 h2 => ?_⟩
      · rcases head_par i r fs 34 e with h | h | h <;> cases h
      k_extra "rr"
      have I2 := (I.mono s1).mono s2
      have eo : Str.ofString "(" = SX.S [40] := by decide +kernel
      have ec : Str.ofString ")" = SX.S [41] := by decide +kernel
      have es : Str.ofString " " = SX.S [32] := by decide +kernel
      rw [cut1 hT3 rfl, eo, S_one]
      have hsn : ∀ l : List Addr, l.length ≤ 200 → (l.reverse.map V.ref).length < sizeLine := fun l h => by rw [List.length_map, List.length_reverse, sizeLine_eq]; omega
      generalize hA : (pre ++ k) ++ quo t = A0 at hT3 h2
      cases i with
      | cons k2 t2 i2 r2 =>
        have hyes : (parT (Fo.cons k2 t2 i2 r2) (wr (Fo.cons k2 t2 i2 r2)) ++ (sepT r (wr r) ++ closeT fs)).head? = some 40 := rfl
        rw [decide_eq_true hyes]
        k_extra "rr"
        refine ⟨tyvL I2.hO, ?_⟩
        k_extra "rr"
        refine ⟨by k_extra "sz", fun c nc => ?_⟩
        have I3 := I2.new (o := .tup [.str (SX.S k), .str (SX.S t)]) nc
        have hc3 : upd H2 c (.tup [.str (SX.S k), .str (SX.S t)]) c = some (.tup [.str (SX.S k), .str (SX.S t)]) := upd_same
        generalize upd H2 c (.tup [.str (SX.S k), .str (SX.S t)]) = H3 at I3 hc3
        k_extra "rr"
        refine app I3.hO (hsn cs (by omega)) ?_
        k_extra "rr"
        refine ⟨tyvL (upd2 I3.RO I3.hR), ?_⟩
        k_extra "rr"
        refine ⟨by k_extra "sz", fun e ne => ?_⟩
        k_extra "rr"
        refine app (same_upd ne _ _ (upd2 I3.RO I3.hR)) (hsn rs (by omega)) ?_
        k_extra "rr"
        have I4 := I3.opened (kt := (k, t)) hc3 ne
        refine ⟨_, ?_, A0 ++ [40], .nil, .cons k2 t2 i2 r2, ⟨d, k, t, r⟩ :: fs, _, _, some (.str (SX.S k)), some (.str (SX.S t)), v6, ?_, I4, (fun z => by cases z), hplug, ?_, gi, fun f m => ?_, rfl⟩
        · rw [hm]
          show (Fo.cons k2 t2 i2 r2).size + (r.size + frW fs) < 1 + (Fo.cons k2 t2 i2 r2).size + r.size + frW fs
          omega
        · have e1 : ((A0 ++ [40]).length : Int) = (A0.length : Int) + 1 := by rw [List.length_append, List.length_singleton]; omega
          rw [e1]
          rfl
        · rw [hT3]
          show A0 ++ ((40 :: (wr (Fo.cons k2 t2 i2 r2) ++ [41])) ++ (sepT r (wr r) ++ closeT fs)) = (A0 ++ [40]) ++ (wr (Fo.cons k2 t2 i2 r2) ++ (41 :: (sepT r (wr r) ++ closeT fs)))
          simp only [List.append_assoc, List.cons_append, List.nil_append]
        · rcases List.mem_cons.mp m with rfl | m
          · exact ⟨gk, gr⟩
          · exact hgf f m
      | nil =>
        have hT4 : T0 = A0 ++ (sepT r (wr r) ++ closeT fs) := hT3
        have hno : ¬ (parT .nil (wr .nil) ++ (sepT r (wr r) ++ closeT fs)).head? = some 40 := fun z => by
          rcases head_sep r fs 40 z with h | h <;> cases h
        rw [decide_eq_false hno]
        k_extra "rr"
        obtain ⟨rl, rs', rfl⟩ : ∃ rl rs', rs = rl :: rs' := by
          match rs, hrl with
          | a :: b, _ => exact ⟨a, b, rfl⟩
        have hR2 := I2.hR
        rw [List.reverse_cons, List.map_append] at hR2
        refine ixL (SqL.of hR2) atI_last ?_
        obtain ⟨⟨xl, hxl, ixl⟩, _⟩ := id I2.rows
        refine ⟨tyvL hxl, ?_⟩
        k_extra "rr"
        refine ⟨by k_extra "sz", fun q0 nq => ?_⟩
        have I3 := I2.new (o := .tup []) nq
        have hq3 : upd H2 q0 (.tup []) q0 = some (.tup []) := upd_same
        have hxl3 := same_upd (o := .tup []) nq _ _ hxl
        have ixl3 := ixl.le (TupLe.new (o := .tup []) nq)
        generalize upd H2 q0 (.tup []) = H3 at I3 hq3 hxl3 ixl3
        k_extra "rr"
        refine ⟨by k_extra "sz", fun pn npn => ?_⟩
        k_extra "rr"
        have hdl := Fo.len_le d
        have hxll := ixl.len
        refine app (same_upd npn _ _ hxl3) (by rw [sizeLine_eq]; omega) ?_
        have I4 := I3.add (k := k) (t := t) (i := .nil) hxl3 ixl3 hq3 rfl npn
        generalize upd (upd H3 pn (.tup [.str (SX.S k), .str (SX.S t), .ref q0])) rl (.lst (xl ++ [.ref pn])) = H5 at I4
        k_extra "rr"
        have hplug4 : plug ((d.snoc k t .nil).app r) fs = fo := by rw [Fo.snoc_app]; exact hplug
        have hm4 : r.size + frW fs < m := by rw [hm, hrs]; omega
        refine ⟨fun m2 σ H' => ∃ (pre : List Nat) (d r : Fo) (fs : List Fr) (rs cs : List Addr) (v4 v5 v6 : Option V), σ = [some (.str (SX.S T0)), some (.ref R), some (.ref O), some (.int (pre.length : Int)), v4, v5, v6] ∧
          RI H R O rs (d :: fs.map Fr.d) cs (fs.map fun f => (f.k, f.t)) H' ∧ plug (d.app r) fs = fo ∧ T0 = pre ++ (sepT r (wr r) ++ closeT fs) ∧ GF r ∧ (∀ f ∈ fs, FrG f) ∧ r.size + frW fs < m ∧ m2 = fs.length,
          ⟨_, A0, d.snoc k t .nil, r, fs, _, _, _, _, _, rfl, I4, hplug4, hT4, gr, hgf, hm4, rfl⟩, ?_⟩
        rintro m2 σ H' ⟨pre2, d2, r2, fs2, rs2, cs2, v4', v5', v6', rfl, J, hplug2, hU, gr2, hgf2, hm2, hmm⟩
        have hps2 := plug_size fs2 (d2.app r2)
        rw [hplug2, Fo.size_app] at hps2
        have hdl2 := Fo.len_le d2
        have hcl2 := J.heads.len
        rw [List.length_map] at hcl2
        have hrl2 := J.len
        have hgk2 : ∀ kt ∈ fs2.map (fun f => (f.k, f.t)), GN kt.1 kt.2 := fun kt m => by
          obtain ⟨f, hf, rfl⟩ := List.mem_map.mp m
          exact (hgf2 f hf).1
        k_extra "rr"
        refine ⟨by k_extra "sz", fun e ne => ?_⟩
        have J2 := J.new (o := .lst []) ne
        k_extra "rr"
        refine neDd (d := .list ((fs2.map fun f => (f.k, f.t)).map ktD).reverse) (e := .list []) (.lst (SqL.of J2.hO) J2.heads.dp) (.lst (SqL.of upd_same) .nil) (shaped_kts hgk2) shaped_nilL ?_
        rw [eqv_nilL]
        generalize upd H' e (.lst []) = H6 at J2
        cases fs2 with
        | nil =>
          rw [show (!((([] : List Fr).map fun f => (f.k, f.t)).map ktD).reverse.isEmpty) = false from rfl]
          cases r2 with
          | nil =>
            have hU2 : T0 = pre2 := by rw [hU]; exact List.append_nil _
            k_extra "rr"
            have hyl : ((pre2.length : Int) = ((SX.S T0).length : Int)) := by rw [SX.S_len, hU2]
            rw [decide_eq_true hyl]
            k_extra "rr"
            refine ⟨by k_extra "sz", fun e2 ne2 => ?_⟩
            have J3 := J2.new (o := .lst []) ne2
            k_extra "rr"
            refine eqDd (d := .list ((([] : List Fr).map fun f => (f.k, f.t)).map ktD).reverse) (e := .list []) (.lst (SqL.of J3.hO) J3.heads.dp) (.lst (SqL.of upd_same) .nil) shaped_nilL shaped_nilL ?_
            rw [eqv_nilL]
            generalize upd H6 e2 (.lst []) = H7 at J3
            rw [show ((([] : List Fr).map fun f => (f.k, f.t)).map ktD).reverse.isEmpty = true from rfl]
            k_extra "rr"
            obtain ⟨rl2, rfl⟩ : ∃ rl2, rs2 = [rl2] := by
              rw [List.length_nil] at hcl2
              match rs2, hrl2 with
              | [a], _ => exact ⟨a, rfl⟩
              | a :: b :: c, h => 
                rw [hcl2] at h
                cases h
            refine ixL (SqL.of J3.hR) (atI_nat (j := 0) rfl) ?_
            obtain ⟨⟨xl2, hxl2, ixl2⟩, _⟩ := id J3.rows
            refine tupL (SqL.of hxl2) fun a na => ?_
            have ed : d2 = fo := by rw [← hplug2]; exact (Fo.app_nil d2).symm
            rw [ed] at ixl2
            exact q a _ (J3.same.trans (same_upd na)) ⟨xl2, upd_same, ixl2.le (TupLe.new na)⟩
          | cons k3 t3 i3 r3 =>
            k_extra "rr"
            have hU2 : T0 = pre2 ++ (32 :: (wr (Fo.cons k3 t3 i3 r3) ++ closeT [])) := hU
            have hnl : ¬ ((pre2.length : Int) = ((SX.S T0).length : Int)) := fun z => by
              rw [SX.S_len] at z
              have := congrArg List.length hU2
              rw [List.length_append, List.length_cons] at this
              omega
            rw [decide_eq_false hnl]
            k_extra "rr"
            rw [cut1 hU2 rfl, es, S_one]
            have h32 : ((32 :: (wr (Fo.cons k3 t3 i3 r3) ++ closeT [])) : List Nat).head? = some 32 := rfl
            rw [decide_eq_true h32]
            k_extra "rr"
            refine ⟨_, hm2, pre2 ++ [32], d2, .cons k3 t3 i3 r3, [], _, _, v4', v5', v6', ?_, J2, (fun z => by cases z), hplug2, ?_, gr2, hgf2, rfl⟩
            · have e1 : ((pre2 ++ [32]).length : Int) = (pre2.length : Int) + 1 := by rw [List.length_append, List.length_singleton]; omega
              rw [e1]
              rfl
            · rw [hU2]
              simp only [List.append_assoc, List.cons_append, List.nil_append]
        | cons f0 fs0 =>
          rw [show (!(((f0 :: fs0).map fun f => (f.k, f.t)).map ktD).reverse.isEmpty) = true by simp]
          k_extra "rr"
          rw [cut1 hU rfl, ec, S_one]
          cases r2 with
          | cons k3 t3 i3 r3 =>
            have h41 : ¬ ((sepT (Fo.cons k3 t3 i3 r3) (wr (Fo.cons k3 t3 i3 r3)) ++ closeT (f0 :: fs0)).head? = some 41) := fun z => by cases z
            rw [decide_eq_false h41]
            k_extra "rr"
            have hU2 : T0 = pre2 ++ (32 :: (wr (Fo.cons k3 t3 i3 r3) ++ closeT (f0 :: fs0))) := hU
            have hnl : ¬ ((pre2.length : Int) = ((SX.S T0).length : Int)) := fun z => by
              rw [SX.S_len] at z
              have := congrArg List.length hU2
              rw [List.length_append, List.length_cons] at this
              omega
            rw [decide_eq_false hnl]
            k_extra "rr"
            rw [cut1 hU2 rfl, es, S_one]
            have h32 : ((32 :: (wr (Fo.cons k3 t3 i3 r3) ++ closeT (f0 :: fs0))) : List Nat).head? = some 32 := rfl
            rw [decide_eq_true h32]
            k_extra "rr"
            refine ⟨_, hm2, pre2 ++ [32], d2, .cons k3 t3 i3 r3, (f0 :: fs0), _, _, v4', v5', v6', ?_, J2, (fun z => by cases z), hplug2, ?_, gr2, hgf2, rfl⟩
            · have e1 : ((pre2 ++ [32]).length : Int) = (pre2.length : Int) + 1 := by rw [List.length_append, List.length_singleton]; omega
              rw [e1]
              rfl
            · rw [hU2]
              simp only [List.append_assoc, List.cons_append, List.nil_append]
          | nil =>
            have h41 : (sepT Fo.nil (wr Fo.nil) ++ closeT (f0 :: fs0)).head? = some 41 := rfl
            rw [decide_eq_true h41]
            k_extra "rr"
            refine ⟨_, fun _ _ h => h, ?_⟩
            k_extra "rr"
            have hUn : T0 = (pre2 ++ [41]) ++ (sepT f0.r (wr f0.r) ++ closeT fs0) := by
              rw [hU]
              show pre2 ++ (41 :: (sepT f0.r (wr f0.r) ++ closeT fs0)) = _
              simp only [List.append_assoc, List.cons_append, List.nil_append]
            obtain ⟨c, cs', rfl⟩ : ∃ c cs', cs2 = c :: cs' := by
              match cs2, hcl2 with
              | a :: b, _ => exact ⟨a, b, rfl⟩
            obtain ⟨rl2, rp, rs', rfl⟩ : ∃ rl rp rs', rs2 = rl :: rp :: rs' := by
              match rs2, hrl2 with
              | a :: b :: r, _ => exact ⟨a, b, r, rfl⟩
            have hO6 := J2.hO
            rw [List.reverse_cons, List.map_append] at hO6
            obtain ⟨hc6, _⟩ := id J2.heads
            obtain ⟨⟨xl2, hxl2, ixl2⟩, ⟨xp, hxp, ixp⟩, _⟩ := id J2.rows
            have mp_ : rp ∈ rl2 :: rp :: rs' := List.mem_cons_of_mem _ (List.mem_cons_self ..)
            have ml_ : rl2 ∈ rl2 :: rp :: rs' := List.mem_cons_self ..
            have nd2 := List.nodup_cons.mp J2.nd
            refine ⟨tyvL hO6, popL hO6 ?_⟩
            have hR7 : upd H6 O (.lst (cs'.reverse.map V.ref)) R = some (.lst ((rp :: rs').reverse.map V.ref ++ [V.ref rl2])) := by
              have := J2.hR
              rw [List.reverse_cons, List.map_append] at this
              exact upd2 J2.RO this
            have hc7 : upd H6 O (.lst (cs'.reverse.map V.ref)) c = some (.tup [.str (SX.S f0.k), .str (SX.S f0.t)]) := TupLe.lst hO6 _ _ hc6
            k_extra "rr"
            refine ⟨tyvL hR7, popL hR7 ?_⟩
            k_extra "rr"
            obtain ⟨J3, t3⟩ := J2.pop
            have hxl8 : upd (upd H6 O (.lst (cs'.reverse.map V.ref))) R (.lst ((rp :: rs').reverse.map V.ref)) rl2 = some (.lst xl2) := upd2 (J2.row ml_).1 (upd2 (J2.row ml_).2 hxl2)
            have hxp8 : upd (upd H6 O (.lst (cs'.reverse.map V.ref))) R (.lst ((rp :: rs').reverse.map V.ref)) rp = some (.lst xp) := upd2 (J2.row mp_).1 (upd2 (J2.row mp_).2 hxp)
            have ixl8 := ixl2.le t3
            have ixp8 := ixp.le t3
            clear hc7 hR7
            generalize upd (upd H6 O (.lst (cs'.reverse.map V.ref))) R (.lst ((rp :: rs').reverse.map V.ref)) = H8 at J3 t3 hxl8 hxp8 ixl8 ixp8
            refine tupL (SqL.of hxl8) fun q0 nq => ?_
            have J4 := J3.new (o := .tup xl2) nq
            have hq4 : upd H8 q0 (.tup xl2) q0 = some (.tup xl2) := upd_same
            have t4 : TupLe H8 (upd H8 q0 (.tup xl2)) := TupLe.new nq
            have hxp9 := same_upd (o := .tup xl2) nq _ _ hxp8
            have ixl9 := ixl8.le t4
            have ixp9 := ixp8.le t4
            generalize upd H8 q0 (.tup xl2) = H9 at J4 hq4 hxp9 ixl9 ixp9
            k_extra "rr"
            have hR9 := J4.hR
            rw [List.reverse_cons, List.map_append] at hR9
            refine ixL (SqL.of hR9) atI_last ?_
            refine ⟨tyvL hxp9, ?_⟩
            k_extra "rr"
            refine ⟨by k_extra "sz", fun pn npn => ?_⟩
            k_extra "rr"
            have hxpl := ixp.len
            have hpl := Fo.len_le f0.d
            have hpg : f0.d.size ≤ 100 := by
              have h1 := plug_size fs0 (f0.d.app (.cons f0.k f0.t (d2.app .nil) f0.r))
              rw [show plug (f0.d.app (.cons f0.k f0.t (d2.app .nil) f0.r)) fs0 = fo from hplug2, Fo.size_app] at h1
              omega
            refine app (same_upd npn _ _ hxp9) (by rw [sizeLine_eq]; omega) ?_
            have J5 := J4.add (k := f0.k) (t := f0.t) (i := d2) hxp9 ixp9 hq4 ixl9 npn
            k_extra "rr"
            have e1 : ((pre2 ++ [41]).length : Int) = (pre2.length : Int) + 1 := by rw [List.length_append, List.length_singleton]; omega
            refine ⟨fs0.length, by rw [hmm, List.length_cons]; omega, pre2 ++ [41], f0.d.snoc f0.k f0.t d2, f0.r, fs0, _, _, some (.str (SX.S f0.k)), some (.str (SX.S f0.t)), some (.ref q0), ?_, J5, ?_, hUn, (hgf2 f0 (List.mem_cons_self ..)).2, fun f m => hgf2 f (List.mem_cons_of_mem _ m), ?_, rfl⟩
            · rw [e1]
              rfl
            · rw [Fo.snoc_app]
              have h1 : plug (f0.d.app (.cons f0.k f0.t (d2.app .nil) f0.r)) fs0 = fo := hplug2
              rw [Fo.app_nil] at h1
              exact h1
            · have h1 : (0 : Nat) + (f0.r.size + frW fs0) < m := hm2
              omega
end

/-! ### the law -/
def deepF : Nat → Fo
  | 0 => .nil
  | i + 1 => .cons [97] (List.replicate (i % 21) 120) (deepF i) .nil
theorem deep_size : ∀ i, (deepF i).size = i
  | 0 => rfl
  | i + 1 => by
    have := deep_size i
    show 1 + (deepF i).size + 0 = i + 1
    omega
theorem deep_depth : ∀ i, (deepF i).depth = i
  | 0 => rfl
  | i + 1 => by
    have := deep_depth i
    show max ((deepF i).depth + 1) 0 = i + 1
    omega
theorem deep_GF : ∀ i, GF (deepF i)
  | 0 => trivial
  | i + 1 => ⟨⟨by decide, by decide, by decide, by rw [List.length_replicate]; omega, fun c h => by
      rw [List.eq_of_mem_replicate h]
      decide⟩, deep_GF i, trivial⟩
theorem signs_ok : ∀ c ∈ signsL, signB c = true := by decide
theorem eqv_doc {f : Fo} (h : SeqAt.shaped (.tuple (fdata f)) = true) : PyData.eqv (.tuple (fdata f)) (.tuple (fdata f)) = true := SeqAt.eqv_refl _ (SeqAt.canLay_of_shaped h)
def lastF : Fo := .cons [97, 98, 99, 100, 101, 102] [126, 32, 33] .nil .nil
theorem last_wr : Str.ofString "abcdef\"~ !\"" = SX.S (wr lastF) := by decide +kernel
theorem last_GF : GF lastF := ⟨⟨by decide, by decide, by decide, by decide, by decide⟩, trivial, trivial⟩
def spLaw (K : PySem.W.Frag) : Sp := fun vs H Q _ => ∃ (a : Addr) (ns : List Int), vs = [.ref a] ∧ SqL K H a (ns.map V.int) ∧ ns.length ≤ 63 ∧ ∀ H', Q (.bl true) H'
section
variable {P : Program} {w : World} {K : PySem.W.Frag} {mg : Str → Option Value} {base : Heap} {f : Addr} {fd : FuncData}
theorem ok_law (F : Fun K "law" "law" s_law f fd) (T : Txt mg) (c_law_bag : Cal P w K mg base 1 "_law_bag" (spBag K)) (c_law_names : Cal P w K mg base 4 "_law_names" spNames) (c_law_document : Cal P w K mg base 3 "_law_document" spDocument)
    (c_law_text : Cal P w K mg base 32 "_law_text" (spLText 31)) (c_law_alike : Cal P w K mg base 23 "_law_alike" (spAlike K 22)) (c_document_text : Cal P w K mg base 2 "document_text" spDText) (c_read_document : Cal P w K mg base 3 "read_document" spRD)
    (k_document_text_document : CalK P w K mg base 2 "document_text" ["document"] (fun us ws => us ++ ws) spDText) (k_read_document_text : CalK P w K mg base 3 "read_document" ["text"] (fun us ws => us ++ ws) spRD) :
    FnOk P w K mg base CX0 33 f fd ["_law_script"] (spLaw K) := by
  refine F.ok sc_law (fun vs H Q E h => ?_) (fun cdv A outer s H vs Q E hr h => ?_)
  · obtain ⟨a, ns, rfl, _⟩ := h
    rfl
  · obtain ⟨a, ns, rfl, hS, hl, q⟩ := h
    refine ⟨_, (pss_cons (ps_set (i := 1) sc_law.nd rfl (.inl rfl) (pe_c c_law_bag hr (by omega) (by rfl) (pa_cons (pv 0) pa_nil)))
      (pss_cons (ps_set (i := 2) sc_law.nd rfl (.inl rfl) (pe_c c_law_names hr (by omega) (by rfl) (pa_cons (pv 1) pa_nil)))
      (pss_cons (ps_for PassesOwn.never rfl (pi_range1 (by rfl) T.range (pa_cons pe_int pa_nil)) (pg_name (i := 3) sc_law.nd rfl (.inl rfl)) (pss_cons (ps_set (i := 4) sc_law.nd rfl (.inl rfl) (pe_c c_law_document hr (by omega) (by rfl) (pa_cons (pv 1) (pa_cons (pe_ix (ix_X K) (pv 2) pe_int (fun _ _ => rfl)) (pa_cons pe_int pa_nil)))))
      (pss_cons (ps_set (i := 5) sc_law.nd rfl (.inl rfl) (pe_c c_law_text hr (by omega) (by rfl) (pa_cons (pv 4) pa_nil)))
      (pss_cons (ps_if (pt_not (pt_val (pe_c c_law_alike hr (by omega) (by rfl) (pa_cons (pe_lst (pa_cons (pe_c c_document_text hr (by omega) (by rfl) (pa_cons (pv 4) pa_nil)) (pa_cons (pe_c c_read_document hr (by omega) (by rfl) (pa_cons (pv 5) pa_nil)) pa_nil))) (pa_cons (pe_lst (pa_cons (pv 5) (pa_cons (pv 4) pa_nil))) pa_nil))))) (pss_one (ps_ret pe_bl)) pss_nil)
      (pss_one (ps_if (PW.pt (pw_or (pt_cmpR (op_neX K hr) (pe_cK0 k_document_text_document hr (by omega) (by rfl) (pk_cons (pv 4) pk_nil)) (pv 5) (nomark _)) (pw_or1 (pt_cmpR (op_neX K hr) (pe_cK0 k_read_document_text hr (by omega) (by rfl) (pk_cons (pv 5) pk_nil)) (pv 4) (nomark _))))) (pss_one (ps_ret pe_bl)) pss_nil))))))
      (pss_cons (ps_set (i := 6) sc_law.nd rfl (.inl rfl) (pe_tup pa_nil))
      (pss_cons (ps_for PassesOwn.never rfl (pi_range1 (by rfl) T.range (pa_cons pe_int pa_nil)) (pg_name (i := 7) sc_law.nd rfl (.inl rfl)) (pss_one (ps_set (i := 6) sc_law.nd rfl (.inl rfl) (pe_tup (pa_cons (pe_tup (pa_cons pe_str (pa_cons (pe_op op_mulX pe_str (pe_op op_mod (pe_callTy cr_int (by rfl) T.int (by decide +kernel) (pa_cons (pv 7) pa_nil)) pe_int)) (pa_cons (pv 6) pa_nil)))) pa_nil)))))
      (pss_cons (ps_if (PW.pt (pw_or (pt_cmpR (op_neX K hr) (pe_c c_read_document hr (by omega) (by rfl) (pa_cons (pe_c c_law_text hr (by omega) (by rfl) (pa_cons (pv 6) pa_nil)) pa_nil)) (pv 6) (nomark _)) (pw_or1 (pt_cmpR (op_neX K hr) (pe_c c_document_text hr (by omega) (by rfl) (pa_cons (pv 6) pa_nil)) (pe_c c_law_text hr (by omega) (by rfl) (pa_cons (pv 6) pa_nil)) (nomark _))))) (pss_one (ps_ret pe_bl)) pss_nil)
      (pss_one (ps_ret (pe_and (pe_cmpR (op_eqX K hr) (pe_c c_document_text hr (by omega) (by rfl) (pa_cons (pe_tup pa_nil) pa_nil)) pe_str (nomark _)) (pe_and (pe_cmpR (op_eqX K hr) (pe_c c_read_document hr (by omega) (by rfl) (pa_cons pe_str pa_nil)) (pe_tup pa_nil) (nomark _)) (pe_one (pe_cmpR (op_eqX K hr) (pe_c c_read_document hr (by omega) (by rfl) (pa_cons pe_str pa_nil)) (pe_tup (pa_cons (pe_tup (pa_cons pe_str (pa_cons pe_str (pa_cons (pe_tup pa_nil) pa_nil)))) pa_nil)) (nomark _))))))))))))), ?_⟩
    change (_ : TS) _ [some (V.ref a), none, none, none, none, none, none, none] _
    k_extra "rr"
    refine ⟨a, ns, rfl, hS, hl, fun H1 b r s1 nb hb => ?_⟩
    k_extra "rr"
    refine ⟨b, r, rfl, hb, fun p a1 a2 a3 k1 k2 n H2 bb2 hb2 hp ha1 ha2 l1 l2 g1 g2 np na1 na2 => ?_⟩
    k_extra "rr"
    have n1 : a1 ≠ b := (hb.ne_none na1).1
    have n0 : p ≠ b := (hb.ne_none np).1
    refine for_range (lo := 0) (n := (6 : Int).toNat) (fun i σ H' => ∃ (v3 v4 v5 v6 v7 : Option V), σ = [some (.ref a), some (.ref b), some (.ref p), v3, v4, v5, v6, v7] ∧ BagAt H' b r ∧ H' p = some (.lst [.ref a1, .ref a2, .ref a3]) ∧ H' a1 = some (.lst (kws k1)))
      ⟨none, none, none, none, none, rfl, hb2, hp, ha1⟩ ?_ ?_
    · rintro i σ H3 hi ⟨v3, v4, v5, v6, v7, rfl, hb3, hp3, ha3⟩
      k_extra "rr"
      refine ⟨b, r, a1, 10, k1, rfl, hb3, n1, ha3, by omega, by omega, by omega, by omega, fun fo d H4 bb4 hb4 hd hsz hall => ?_⟩
      have hg : GF fo := hall.imp fun k t h => ⟨(g1 k h.1).1, (g1 k h.1).2.1, (g1 k h.1).2.2, by omega, fun c hc => signs_ok c (h.2.2 c hc)⟩
      have hdp := Fo.depth_le fo
      have hsh := shaped_doc hg (by omega)
      have hp4 := bb4 _ _ hp3 n0
      have ha4 := bb4 _ _ ha3 n1
      k_extra "rr"
      refine ⟨d, fo, rfl, hd, by omega, by omega, by omega, hg, fun H5 s5 => ?_⟩
      have hd5 := hd.le (TupLe.same s5)
      k_extra "rr"
      refine ⟨d, fo, rfl, hd5, by omega, by omega, hg, fun H6 s6 => ?_⟩
      have hd6 := hd5.le (TupLe.same s6)
      k_extra "rr"
      refine ⟨fo, rfl, hg, by omega, fun d2 H7 s7 hd7 => ?_⟩
      have hd7' := hd6.le (TupLe.same s7)
      k_extra "rr"
      refine ⟨by k_extra "sz", fun pa npa => ?_⟩
      k_extra "rr"
      refine ⟨by k_extra "sz", fun pb npb => ?_⟩
      k_extra "rr"
      have nab : pa ≠ pb := ne_of_none upd_same npb
      have sab := (same_upd (o := .lst [.str (SX.S (wr fo)), .ref d2]) npa).trans (same_upd (o := .lst [.str (SX.S (wr fo)), .ref d]) npb)
      refine ⟨_, _, rfl, .inr ⟨pa, pb, [.str (SX.S (wr fo)), .ref d2], [.str (SX.S (wr fo)), .ref d], rfl, rfl, .inl ⟨SqL.of (upd2 nab upd_same), SqL.of upd_same⟩, rfl, (by show 2 ≤ 100000; decide), fun j y z hy hz => ?_⟩, fun H8 s8 => ?_⟩
      · rcases j with _ | _ | j
        · cases hy
          cases hz
          exact .inl ⟨rfl, rfl⟩
        · cases hy
          cases hz
          exact Doc.alk (n := 20) (by omega) (by omega) (hd7.le (TupLe.same sab)) (hd7'.le (TupLe.same sab))
        · cases hy
      k_extra "rr"
      have s58 := (((s5.trans s6).trans s7).trans sab).trans s8
      have hd8 := hd.le (TupLe.same s58)
      refine ⟨d, fo, rfl, hd8, by omega, by omega, hg, fun H9 s9 => ?_⟩
      have hd9 := hd8.le (TupLe.same s9)
      k_extra "rr"
      rw [decide_eq_true rfl]
      k_extra "rr"
      refine ⟨fo, rfl, hg, by omega, fun d3 HA sA hdA => ?_⟩
      k_extra "rr"
      refine neDd hdA.dp (hd9.le (TupLe.same sA)).dp hsh hsh ?_
      rw [eqv_doc hsh]
      k_extra "rr"
      have sf := (s58.trans s9).trans sA
      exact ⟨_, _, _, _, _, rfl, hb4.same sf, sf _ _ hp4, sf _ _ ha4⟩
    · rintro σ H3 ⟨v3, v4, v5, v6, v7, rfl, hb3, hp3, ha3⟩
      k_extra "rr"
      refine ⟨by k_extra "sz", fun d0 nd0 => ?_⟩
      k_extra "rr"
      refine for_range (lo := 0) (n := (30 : Int).toNat) (fun i σ H' => ∃ (dd : Addr) (v3 v4 v5 v7 : Option V), σ = [some (.ref a), some (.ref b), some (.ref p), v3, v4, v5, some (.ref dd), v7] ∧ Doc H' (deepF i) dd)
        ⟨d0, _, _, _, _, rfl, [], upd_same, rfl⟩ ?_ ?_
      · rintro i σ H4 hi ⟨dd, v3, v4, v5, v7, rfl, hd⟩
        have hi2 : i < 30 := hi
        rw [Int.zero_add]
        k_extra "rr"
        refine mulS (by decide +kernel) (by omega) (by omega) ?_
        rw [show Str.ofString "x" = SX.S [120] by decide +kernel, mul_S 120 (by omega), show ((i : Int) % 21).toNat = i % 21 by omega, show Str.ofString "a" = SX.S [97] by decide +kernel]
        k_extra "rr"
        refine ⟨by k_extra "sz", fun pn npn => ?_⟩
        k_extra "rr"
        refine ⟨by k_extra "sz", fun po npo => ?_⟩
        k_extra "rr"
        obtain ⟨ys, hy, iy⟩ := hd
        have s2 := (same_upd (o := .tup [.str (SX.S [97]), .str (SX.S (List.replicate (i % 21) 120)), .ref dd]) npn).trans (same_upd (o := .tup [.ref pn]) npo)
        exact ⟨po, _, _, _, _, rfl, [.ref pn], upd_same, pn, dd, ys, [], rfl, same_upd npo _ _ upd_same, s2 _ _ hy, iy.le (TupLe.same s2), rfl⟩
      · rintro σ H4 ⟨dd, v3, v4, v5, v7, rfl, hd⟩
        have hsd : SeqAt.shaped (.tuple (fdata (deepF 30))) = true := shaped_doc (deep_GF 30) (by rw [deep_depth]; omega)
        have hdd := deep_depth 30
        have hds := deep_size 30
        have hdg := deep_GF 30
        have hd0 : Doc H4 (deepF 30) dd := hd
        clear hd
        generalize deepF 30 = dF at hsd hdd hds hdg hd0
        k_extra "rr"
        refine ⟨dd, dF, rfl, hd0, by omega, by omega, by omega, hdg, fun H5 s5 => ?_⟩
        have hd5 := hd0.le (TupLe.same s5)
        k_extra "rr"
        refine ⟨dF, rfl, hdg, by omega, fun d2 H6 s6 hd2 => ?_⟩
        have hd6 := hd5.le (TupLe.same s6)
        k_extra "rr"
        refine neDd hd2.dp hd6.dp hsd hsd ?_
        rw [eqv_doc hsd]
        k_extra "rr"
        refine ⟨dd, dF, rfl, hd6, by omega, by omega, hdg, fun H7 s7 => ?_⟩
        have hd7 := hd6.le (TupLe.same s7)
        k_extra "rr"
        refine ⟨dd, dF, rfl, hd7, by omega, by omega, by omega, hdg, fun H8 s8 => ?_⟩
        k_extra "rr"
        rw [decide_eq_true rfl]
        k_extra "rr"
        refine ⟨by k_extra "sz", fun e1 ne1 => ?_⟩
        k_extra "rr"
        refine ⟨e1, .nil, rfl, ⟨[], upd_same, rfl⟩, by decide, by decide, trivial, fun H9 s9 => ?_⟩
        k_extra "rr"
        rw [S_emp, show wr Fo.nil = [] from rfl, decide_eq_true rfl]
        k_extra "rr"
        refine ⟨.nil, by rw [empty_S]; rfl, trivial, by decide, fun d3 HA sA hA => ?_⟩
        k_extra "rr"
        refine ⟨by k_extra "sz", fun e2 ne2 => ?_⟩
        k_extra "rr"
        refine eqDd (hA.le (TupLe.new (o := .tup []) ne2)).dp (.tup (SqT.of upd_same) .nil) shaped_nilT shaped_nilT ?_
        rw [eqv_nilT, show (fdata Fo.nil).isEmpty = true from rfl]
        k_extra "rr"
        refine ⟨lastF, by rw [last_wr], last_GF, by decide, fun d4 HB sB hB => ?_⟩
        k_extra "rr"
        refine ⟨by k_extra "sz", fun t0 nt0 => ?_⟩
        k_extra "rr"
        refine ⟨by k_extra "sz", fun t1 nt1 => ?_⟩
        k_extra "rr"
        refine ⟨by k_extra "sz", fun t2 nt2 => ?_⟩
        k_extra "rr"
        have sl := ((same_upd (o := .tup []) nt0).trans (same_upd (o := .tup [.str "abcdef", .str "~ !", .ref t0]) nt1)).trans (same_upd (o := .tup [.ref t1]) nt2)
        have hl : Doc (upd (upd (upd HB t0 (.tup [])) t1 (.tup [.str "abcdef", .str "~ !", .ref t0])) t2 (.tup [.ref t1])) lastF t2 :=
          ⟨[.ref t1], upd_same, t1, t0, [], [], rfl, by
            rw [← show Str.ofString "abcdef" = SX.S [97, 98, 99, 100, 101, 102] by decide +kernel, ← show Str.ofString "~ !" = SX.S [126, 32, 33] by decide +kernel]
            exact same_upd nt2 _ _ upd_same, same_upd nt2 _ _ (same_upd nt1 _ _ upd_same), rfl, rfl⟩
        have hsl := shaped_doc last_GF (by decide)
        refine eqDd (hB.le (TupLe.same sl)).dp hl.dp hsl hsl ?_
        rw [eqv_doc hsl]
        k_extra "rr"
        exact q _
end

/-! ### what the top has written, and the head -/
theorem kb1 {K : PySem.W.Frag} {x p : Str} {st : Stmt} {f : Addr} {fd : FuncData} (F : Fun K x x st f fd)
    (h : ∀ (kV doc pm : Value) (an : Option Addr) (cdv ct u : Value), bindArgs (PySem.W.fnOf x x (defArgs st) (defBody st) (defScope st) .none kV doc pm an cdv ct) ⟨[], [(p, u)]⟩ = pure [(p, u)])
    (h2 : ∀ (kV doc pm : Value) (an : Option Addr) (cdv ct u : Value), bindArgs (PySem.W.fnOf x x (defArgs st) (defBody st) (defScope st) .none kV doc pm an cdv ct) ⟨[u], []⟩ = pure [(p, u)]) :
    KBinds K fd [p] [p] (fun us ws => us ++ ws) (fun us ws => us ++ ws) := by
  obtain ⟨oc, od, kV, doc, pm, an, cdv, ct, osl, rfl, lk, hcd⟩ := F.ex
  refine ⟨fun s us ws _ hl => ?_, fun a b => a.append b⟩
  match us, ws, hl with
  | [], [u], _ => exact .of_eq (h kV doc pm an cdv ct u)
  | [u], [], _ => exact .of_eq (h2 kV doc pm an cdv ct u)
theorem cal_alike {P : Program} {w : World} {K : PySem.W.Frag} {mg : Str → Option Value} {base : Heap} {f : Addr} {fd : FuncData} (F : Fun K "_law_alike" "_law_alike" s_law_alike f fd) (T : Txt mg)
    (m : mg "_law_alike" = some (.ref f)) (k : PySem.W.keepIn K (.ref f) = true) (b : Binds K fd ["_law_found", "_law_due"] []) : ∀ n, Cal P w K mg base (n + 1) "_law_alike" (spAlike K n)
  | 0 => ⟨_, _, _, ok_law_alike0 F, m, k, b⟩
  | n + 1 => ⟨_, _, _, ok_law_alike1 F T (cal_alike F T m k b n), m, k, b⟩
theorem cal_text {P : Program} {w : World} {K : PySem.W.Frag} {mg : Str → Option Value} {base : Heap} {f : Addr} {fd : FuncData} (F : Fun K "_law_text" "_law_text" s_law_text f fd) (T : Txt mg)
    (m : mg "_law_text" = some (.ref f)) (k : PySem.W.keepIn K (.ref f) = true) (b : Binds K fd ["_law_document_z"] []) : ∀ n, Cal P w K mg base (n + 1) "_law_text" (spLText n)
  | 0 => ⟨_, _, _, ok_law_text0 F, m, k, b⟩
  | n + 1 => ⟨_, _, _, ok_law_text F T (cal_text F T m k b n), m, k, b⟩
theorem all_mk {l : PySem.W.OpenLaw} {w : World} {K : PySem.W.Frag} {h : Heap} {mg : Str → Option Value} {fa f_is_sign f_spaced f_document_text f_read_kind f_read_quoted f_read_document f_law_bag f_law_take f_law_of f_law_words f_law_names f_law_sign_text f_law_nested f_law_document f_law_alike f_law_text f_law : Addr} (X : K.In h) (G : h.Ns mainGlobals mg) (hfa : mg "law" = some (.ref fa))
    {od_is_sign an_is_sign od_spaced an_spaced od_document_text an_document_text od_read_kind an_read_kind od_read_quoted an_read_quoted od_read_document an_read_document od_law_bag an_law_bag od_law_take an_law_take od_law_of an_law_of od_law_words an_law_words od_law_names an_law_names od_law_sign_text an_law_sign_text od_law_nested an_law_nested od_law_document an_law_document od_law_alike an_law_alike od_law_text an_law_text od_law an_law : Option Addr} {sl_is_sign sl_spaced sl_document_text sl_read_kind sl_read_quoted sl_read_document sl_law_bag sl_law_take sl_law_of sl_law_words sl_law_names sl_law_sign_text sl_law_nested sl_law_document sl_law_alike sl_law_text sl_law : Array (Option Value)} {oc_is_sign kV_is_sign dc_is_sign pm_is_sign cd_is_sign ct_is_sign oc_spaced kV_spaced dc_spaced pm_spaced cd_spaced ct_spaced oc_document_text kV_document_text dc_document_text pm_document_text cd_document_text ct_document_text oc_read_kind kV_read_kind dc_read_kind pm_read_kind cd_read_kind ct_read_kind oc_read_quoted kV_read_quoted dc_read_quoted pm_read_quoted cd_read_quoted ct_read_quoted oc_read_document kV_read_document dc_read_document pm_read_document cd_read_document ct_read_document oc_law_bag kV_law_bag dc_law_bag pm_law_bag cd_law_bag ct_law_bag oc_law_take kV_law_take dc_law_take pm_law_take cd_law_take ct_law_take oc_law_of kV_law_of dc_law_of pm_law_of cd_law_of ct_law_of oc_law_words kV_law_words dc_law_words pm_law_words cd_law_words ct_law_words oc_law_names kV_law_names dc_law_names pm_law_names cd_law_names ct_law_names oc_law_sign_text kV_law_sign_text dc_law_sign_text pm_law_sign_text cd_law_sign_text ct_law_sign_text oc_law_nested kV_law_nested dc_law_nested pm_law_nested cd_law_nested ct_law_nested oc_law_document kV_law_document dc_law_document pm_law_document cd_law_document ct_law_document oc_law_alike kV_law_alike dc_law_alike pm_law_alike cd_law_alike ct_law_alike oc_law_text kV_law_text dc_law_text pm_law_text cd_law_text ct_law_text oc_law kV_law dc_law pm_law cd_law ct_law : Value} {t_SMALL t_MOST_LETTERS t_MOST_SIGNS : Tok}
    (a_is_sign : PySem.W.nsIn K mainGlobals "is_sign" = some (some (.ref f_is_sign))) (l_is_sign : K.lookup f_is_sign = some ⟨oc_is_sign, od_is_sign, .func (PySem.W.fnOf "is_sign" "is_sign" (defArgs s_is_sign) (defBody s_is_sign) (defScope s_is_sign) .none kV_is_sign dc_is_sign pm_is_sign an_is_sign cd_is_sign ct_is_sign), sl_is_sign⟩) (c_is_sign : PySem.W.codeIn K cd_is_sign "is_sign" = true) (k_is_sign : PySem.W.keepIn K (.ref f_is_sign) = true)
    (a_spaced : PySem.W.nsIn K mainGlobals "spaced" = some (some (.ref f_spaced))) (l_spaced : K.lookup f_spaced = some ⟨oc_spaced, od_spaced, .func (PySem.W.fnOf "spaced" "spaced" (defArgs s_spaced) (defBody s_spaced) (defScope s_spaced) .none kV_spaced dc_spaced pm_spaced an_spaced cd_spaced ct_spaced), sl_spaced⟩) (c_spaced : PySem.W.codeIn K cd_spaced "spaced" = true) (k_spaced : PySem.W.keepIn K (.ref f_spaced) = true)
    (a_document_text : PySem.W.nsIn K mainGlobals "document_text" = some (some (.ref f_document_text))) (l_document_text : K.lookup f_document_text = some ⟨oc_document_text, od_document_text, .func (PySem.W.fnOf "document_text" "document_text" (defArgs s_document_text) (defBody s_document_text) (defScope s_document_text) .none kV_document_text dc_document_text pm_document_text an_document_text cd_document_text ct_document_text), sl_document_text⟩) (c_document_text : PySem.W.codeIn K cd_document_text "document_text" = true) (k_document_text : PySem.W.keepIn K (.ref f_document_text) = true)
    (a_read_kind : PySem.W.nsIn K mainGlobals "read_kind" = some (some (.ref f_read_kind))) (l_read_kind : K.lookup f_read_kind = some ⟨oc_read_kind, od_read_kind, .func (PySem.W.fnOf "read_kind" "read_kind" (defArgs s_read_kind) (defBody s_read_kind) (defScope s_read_kind) .none kV_read_kind dc_read_kind pm_read_kind an_read_kind cd_read_kind ct_read_kind), sl_read_kind⟩) (c_read_kind : PySem.W.codeIn K cd_read_kind "read_kind" = true) (k_read_kind : PySem.W.keepIn K (.ref f_read_kind) = true)
    (a_read_quoted : PySem.W.nsIn K mainGlobals "read_quoted" = some (some (.ref f_read_quoted))) (l_read_quoted : K.lookup f_read_quoted = some ⟨oc_read_quoted, od_read_quoted, .func (PySem.W.fnOf "read_quoted" "read_quoted" (defArgs s_read_quoted) (defBody s_read_quoted) (defScope s_read_quoted) .none kV_read_quoted dc_read_quoted pm_read_quoted an_read_quoted cd_read_quoted ct_read_quoted), sl_read_quoted⟩) (c_read_quoted : PySem.W.codeIn K cd_read_quoted "read_quoted" = true) (k_read_quoted : PySem.W.keepIn K (.ref f_read_quoted) = true)
    (a_read_document : PySem.W.nsIn K mainGlobals "read_document" = some (some (.ref f_read_document))) (l_read_document : K.lookup f_read_document = some ⟨oc_read_document, od_read_document, .func (PySem.W.fnOf "read_document" "read_document" (defArgs s_read_document) (defBody s_read_document) (defScope s_read_document) .none kV_read_document dc_read_document pm_read_document an_read_document cd_read_document ct_read_document), sl_read_document⟩) (c_read_document : PySem.W.codeIn K cd_read_document "read_document" = true) (k_read_document : PySem.W.keepIn K (.ref f_read_document) = true)
    (a_law_bag : PySem.W.nsIn K mainGlobals "_law_bag" = some (some (.ref f_law_bag))) (l_law_bag : K.lookup f_law_bag = some ⟨oc_law_bag, od_law_bag, .func (PySem.W.fnOf "_law_bag" "_law_bag" (defArgs s_law_bag) (defBody s_law_bag) (defScope s_law_bag) .none kV_law_bag dc_law_bag pm_law_bag an_law_bag cd_law_bag ct_law_bag), sl_law_bag⟩) (c_law_bag : PySem.W.codeIn K cd_law_bag "_law_bag" = true) (k_law_bag : PySem.W.keepIn K (.ref f_law_bag) = true)
    (a_law_take : PySem.W.nsIn K mainGlobals "_law_take" = some (some (.ref f_law_take))) (l_law_take : K.lookup f_law_take = some ⟨oc_law_take, od_law_take, .func (PySem.W.fnOf "_law_take" "_law_take" (defArgs s_law_take) (defBody s_law_take) (defScope s_law_take) .none kV_law_take dc_law_take pm_law_take an_law_take cd_law_take ct_law_take), sl_law_take⟩) (c_law_take : PySem.W.codeIn K cd_law_take "_law_take" = true) (k_law_take : PySem.W.keepIn K (.ref f_law_take) = true)
    (a_law_of : PySem.W.nsIn K mainGlobals "_law_of" = some (some (.ref f_law_of))) (l_law_of : K.lookup f_law_of = some ⟨oc_law_of, od_law_of, .func (PySem.W.fnOf "_law_of" "_law_of" (defArgs s_law_of) (defBody s_law_of) (defScope s_law_of) .none kV_law_of dc_law_of pm_law_of an_law_of cd_law_of ct_law_of), sl_law_of⟩) (c_law_of : PySem.W.codeIn K cd_law_of "_law_of" = true) (k_law_of : PySem.W.keepIn K (.ref f_law_of) = true)
    (a_law_words : PySem.W.nsIn K mainGlobals "_law_words" = some (some (.ref f_law_words))) (l_law_words : K.lookup f_law_words = some ⟨oc_law_words, od_law_words, .func (PySem.W.fnOf "_law_words" "_law_words" (defArgs s_law_words) (defBody s_law_words) (defScope s_law_words) .none kV_law_words dc_law_words pm_law_words an_law_words cd_law_words ct_law_words), sl_law_words⟩) (c_law_words : PySem.W.codeIn K cd_law_words "_law_words" = true) (k_law_words : PySem.W.keepIn K (.ref f_law_words) = true)
    (a_law_names : PySem.W.nsIn K mainGlobals "_law_names" = some (some (.ref f_law_names))) (l_law_names : K.lookup f_law_names = some ⟨oc_law_names, od_law_names, .func (PySem.W.fnOf "_law_names" "_law_names" (defArgs s_law_names) (defBody s_law_names) (defScope s_law_names) .none kV_law_names dc_law_names pm_law_names an_law_names cd_law_names ct_law_names), sl_law_names⟩) (c_law_names : PySem.W.codeIn K cd_law_names "_law_names" = true) (k_law_names : PySem.W.keepIn K (.ref f_law_names) = true)
    (a_law_sign_text : PySem.W.nsIn K mainGlobals "_law_sign_text" = some (some (.ref f_law_sign_text))) (l_law_sign_text : K.lookup f_law_sign_text = some ⟨oc_law_sign_text, od_law_sign_text, .func (PySem.W.fnOf "_law_sign_text" "_law_sign_text" (defArgs s_law_sign_text) (defBody s_law_sign_text) (defScope s_law_sign_text) .none kV_law_sign_text dc_law_sign_text pm_law_sign_text an_law_sign_text cd_law_sign_text ct_law_sign_text), sl_law_sign_text⟩) (c_law_sign_text : PySem.W.codeIn K cd_law_sign_text "_law_sign_text" = true) (k_law_sign_text : PySem.W.keepIn K (.ref f_law_sign_text) = true)
    (a_law_nested : PySem.W.nsIn K mainGlobals "_law_nested" = some (some (.ref f_law_nested))) (l_law_nested : K.lookup f_law_nested = some ⟨oc_law_nested, od_law_nested, .func (PySem.W.fnOf "_law_nested" "_law_nested" (defArgs s_law_nested) (defBody s_law_nested) (defScope s_law_nested) .none kV_law_nested dc_law_nested pm_law_nested an_law_nested cd_law_nested ct_law_nested), sl_law_nested⟩) (c_law_nested : PySem.W.codeIn K cd_law_nested "_law_nested" = true) (k_law_nested : PySem.W.keepIn K (.ref f_law_nested) = true)
    (a_law_document : PySem.W.nsIn K mainGlobals "_law_document" = some (some (.ref f_law_document))) (l_law_document : K.lookup f_law_document = some ⟨oc_law_document, od_law_document, .func (PySem.W.fnOf "_law_document" "_law_document" (defArgs s_law_document) (defBody s_law_document) (defScope s_law_document) .none kV_law_document dc_law_document pm_law_document an_law_document cd_law_document ct_law_document), sl_law_document⟩) (c_law_document : PySem.W.codeIn K cd_law_document "_law_document" = true) (k_law_document : PySem.W.keepIn K (.ref f_law_document) = true)
    (a_law_alike : PySem.W.nsIn K mainGlobals "_law_alike" = some (some (.ref f_law_alike))) (l_law_alike : K.lookup f_law_alike = some ⟨oc_law_alike, od_law_alike, .func (PySem.W.fnOf "_law_alike" "_law_alike" (defArgs s_law_alike) (defBody s_law_alike) (defScope s_law_alike) .none kV_law_alike dc_law_alike pm_law_alike an_law_alike cd_law_alike ct_law_alike), sl_law_alike⟩) (c_law_alike : PySem.W.codeIn K cd_law_alike "_law_alike" = true) (k_law_alike : PySem.W.keepIn K (.ref f_law_alike) = true)
    (a_law_text : PySem.W.nsIn K mainGlobals "_law_text" = some (some (.ref f_law_text))) (l_law_text : K.lookup f_law_text = some ⟨oc_law_text, od_law_text, .func (PySem.W.fnOf "_law_text" "_law_text" (defArgs s_law_text) (defBody s_law_text) (defScope s_law_text) .none kV_law_text dc_law_text pm_law_text an_law_text cd_law_text ct_law_text), sl_law_text⟩) (c_law_text : PySem.W.codeIn K cd_law_text "_law_text" = true) (k_law_text : PySem.W.keepIn K (.ref f_law_text) = true)
    (a_law : PySem.W.nsIn K mainGlobals "law" = some (some (.ref f_law))) (l_law : K.lookup f_law = some ⟨oc_law, od_law, .func (PySem.W.fnOf "law" "law" (defArgs s_law) (defBody s_law) (defScope s_law) .none kV_law dc_law pm_law an_law cd_law ct_law), sl_law⟩) (c_law : PySem.W.codeIn K cd_law "law" = true) (k_law : PySem.W.keepIn K (.ref f_law) = true)
    (z_len : PySem.W.nsIn K mainGlobals "len" = some none) (z_int : PySem.W.nsIn K mainGlobals "int" = some none) (z_range : PySem.W.nsIn K mainGlobals "range" = some none) (z_isinstance : PySem.W.nsIn K mainGlobals "isinstance" = some none) (z_all : PySem.W.nsIn K mainGlobals "all" = some none) (z_list : PySem.W.nsIn K mainGlobals "list" = some none) (z_tuple : PySem.W.nsIn K mainGlobals "tuple" = some none) (z_str : PySem.W.nsIn K mainGlobals "str" = some none) (z_sorted : PySem.W.nsIn K mainGlobals "sorted" = some none) (z_zip : PySem.W.nsIn K mainGlobals "zip" = some none) (z_min : PySem.W.nsIn K mainGlobals "min" = some none) (z_bool : PySem.W.nsIn K mainGlobals "bool" = some none) (z_dict : PySem.W.nsIn K mainGlobals "dict" = some none) (v_SMALL : PySem.W.nsIn K mainGlobals "SMALL" = some (some (.str "abcdefghijklmnopqrstuvwxyz" t_SMALL))) (v_MOST_LETTERS : PySem.W.nsIn K mainGlobals "MOST_LETTERS" = some (some (.int 6 t_MOST_LETTERS))) (v_MOST_SIGNS : PySem.W.nsIn K mainGlobals "MOST_SIGNS" = some (some (.int 20 t_MOST_SIGNS))) :
    ∃ fd : FuncData, (∀ (s : Shared) (v : Value), BindsTo s fd ⟨[v], []⟩ [("_law_script", v)]) ∧ ∀ base : Heap, K.In base → base.Ns mainGlobals mg → FnOk l.prog w K mg base CX0 33 fa fd ["_law_script"] (spLaw K) := by
  have e := hfa.symm.trans (PySem.W.mg_of X G a_law)
  cases e
  have T : Txt mg := ⟨PySem.W.mg_none_of X G z_len, PySem.W.mg_none_of X G z_int, PySem.W.mg_none_of X G z_range, PySem.W.mg_none_of X G z_isinstance, PySem.W.mg_none_of X G z_all, PySem.W.mg_none_of X G z_list, PySem.W.mg_none_of X G z_tuple, PySem.W.mg_none_of X G z_str, PySem.W.mg_none_of X G z_sorted, PySem.W.mg_none_of X G z_zip, PySem.W.mg_none_of X G z_min, PySem.W.mg_none_of X G z_bool, PySem.W.mg_none_of X G z_dict, ⟨_, PySem.W.mg_of X G v_SMALL, _, rfl⟩, ⟨_, PySem.W.mg_of X G v_MOST_LETTERS, _, rfl⟩, ⟨_, PySem.W.mg_of X G v_MOST_SIGNS, _, rfl⟩⟩
  have F_is_sign := fun_mk (st := s_is_sign) l_is_sign c_is_sign k_is_sign
  have m_is_sign := PySem.W.mg_of X G a_is_sign
  have b_is_sign := F_is_sign.binds (ps := ["sign"]) fun _ _ _ _ _ _ us hl => match us, hl with | [_], _ => rfl
  have F_spaced := fun_mk (st := s_spaced) l_spaced c_spaced k_spaced
  have m_spaced := PySem.W.mg_of X G a_spaced
  have b_spaced := F_spaced.binds (ps := ["row"]) fun _ _ _ _ _ _ us hl => match us, hl with | [_], _ => rfl
  have F_document_text := fun_mk (st := s_document_text) l_document_text c_document_text k_document_text
  have m_document_text := PySem.W.mg_of X G a_document_text
  have b_document_text := F_document_text.binds (ps := ["document"]) fun _ _ _ _ _ _ us hl => match us, hl with | [_], _ => rfl
  have F_read_kind := fun_mk (st := s_read_kind) l_read_kind c_read_kind k_read_kind
  have m_read_kind := PySem.W.mg_of X G a_read_kind
  have b_read_kind := F_read_kind.binds (ps := ["text", "at"]) fun _ _ _ _ _ _ us hl => match us, hl with | [_, _], _ => rfl
  have F_read_quoted := fun_mk (st := s_read_quoted) l_read_quoted c_read_quoted k_read_quoted
  have m_read_quoted := PySem.W.mg_of X G a_read_quoted
  have b_read_quoted := F_read_quoted.binds (ps := ["text", "at"]) fun _ _ _ _ _ _ us hl => match us, hl with | [_, _], _ => rfl
  have F_read_document := fun_mk (st := s_read_document) l_read_document c_read_document k_read_document
  have m_read_document := PySem.W.mg_of X G a_read_document
  have b_read_document := F_read_document.binds (ps := ["text"]) fun _ _ _ _ _ _ us hl => match us, hl with | [_], _ => rfl
  have F_law_bag := fun_mk (st := s_law_bag) l_law_bag c_law_bag k_law_bag
  have m_law_bag := PySem.W.mg_of X G a_law_bag
  have b_law_bag := F_law_bag.binds (ps := ["_law_script"]) fun _ _ _ _ _ _ us hl => match us, hl with | [_], _ => rfl
  have F_law_take := fun_mk (st := s_law_take) l_law_take c_law_take k_law_take
  have m_law_take := PySem.W.mg_of X G a_law_take
  have b_law_take := F_law_take.binds (ps := ["_law_bag_z", "_law_many"]) fun _ _ _ _ _ _ us hl => match us, hl with | [_, _], _ => rfl
  have F_law_of := fun_mk (st := s_law_of) l_law_of c_law_of k_law_of
  have m_law_of := PySem.W.mg_of X G a_law_of
  have b_law_of := F_law_of.binds (ps := ["_law_bag_z", "_law_things"]) fun _ _ _ _ _ _ us hl => match us, hl with | [_, _], _ => rfl
  have F_law_words := fun_mk (st := s_law_words) l_law_words c_law_words k_law_words
  have m_law_words := PySem.W.mg_of X G a_law_words
  have b_law_words := F_law_words.binds (ps := ["_law_bag_z", "_law_many", "_law_most"]) fun _ _ _ _ _ _ us hl => match us, hl with | [_, _, _], _ => rfl
  have F_law_names := fun_mk (st := s_law_names) l_law_names c_law_names k_law_names
  have m_law_names := PySem.W.mg_of X G a_law_names
  have b_law_names := F_law_names.binds (ps := ["_law_bag_z"]) fun _ _ _ _ _ _ us hl => match us, hl with | [_], _ => rfl
  have F_law_sign_text := fun_mk (st := s_law_sign_text) l_law_sign_text c_law_sign_text k_law_sign_text
  have m_law_sign_text := PySem.W.mg_of X G a_law_sign_text
  have b_law_sign_text := F_law_sign_text.binds (ps := ["_law_bag_z", "_law_most"]) fun _ _ _ _ _ _ us hl => match us, hl with | [_, _], _ => rfl
  have F_law_nested := fun_mk (st := s_law_nested) l_law_nested c_law_nested k_law_nested
  have m_law_nested := PySem.W.mg_of X G a_law_nested
  have b_law_nested := F_law_nested.binds (ps := ["_law_state"]) fun _ _ _ _ _ _ us hl => match us, hl with | [_], _ => rfl
  have F_law_document := fun_mk (st := s_law_document) l_law_document c_law_document k_law_document
  have m_law_document := PySem.W.mg_of X G a_law_document
  have b_law_document := F_law_document.binds (ps := ["_law_bag_z", "_law_kinds", "_law_many"]) fun _ _ _ _ _ _ us hl => match us, hl with | [_, _, _], _ => rfl
  have F_law_alike := fun_mk (st := s_law_alike) l_law_alike c_law_alike k_law_alike
  have m_law_alike := PySem.W.mg_of X G a_law_alike
  have b_law_alike := F_law_alike.binds (ps := ["_law_found", "_law_due"]) fun _ _ _ _ _ _ us hl => match us, hl with | [_, _], _ => rfl
  have F_law_text := fun_mk (st := s_law_text) l_law_text c_law_text k_law_text
  have m_law_text := PySem.W.mg_of X G a_law_text
  have b_law_text := F_law_text.binds (ps := ["_law_document_z"]) fun _ _ _ _ _ _ us hl => match us, hl with | [_], _ => rfl
  have F_law := fun_mk (st := s_law) l_law c_law k_law
  have m_law := PySem.W.mg_of X G a_law
  have b_law := F_law.binds (ps := ["_law_script"]) fun _ _ _ _ _ _ us hl => match us, hl with | [_], _ => rfl
  refine ⟨PySem.W.fnOf "law" "law" (defArgs s_law) (defBody s_law) (defScope s_law) .none kV_law dc_law pm_law an_law cd_law ct_law, fun s v => .of_eq rfl, fun base _ _ => ?_⟩
  have c_bag : Cal l.prog w K mg base 1 "_law_bag" (spBag K) := ⟨_, _, _, ok_law_bag F_law_bag T, m_law_bag, k_law_bag, b_law_bag⟩
  have c_take : Cal l.prog w K mg base 1 "_law_take" spTake := ⟨_, _, _, ok_law_take F_law_take T, m_law_take, k_law_take, b_law_take⟩
  have c_of : Cal l.prog w K mg base 2 "_law_of" (spOf K) := ⟨_, _, _, ok_law_of F_law_of T c_take, m_law_of, k_law_of, b_law_of⟩
  have c_words : Cal l.prog w K mg base 3 "_law_words" spWords := ⟨_, _, _, ok_law_words F_law_words T c_take c_of, m_law_words, k_law_words, b_law_words⟩
  have c_sign_text : Cal l.prog w K mg base 2 "_law_sign_text" spSign := ⟨_, _, _, ok_law_sign_text F_law_sign_text T c_take, m_law_sign_text, k_law_sign_text, b_law_sign_text⟩
  have c_names : Cal l.prog w K mg base 4 "_law_names" spNames := ⟨_, _, _, ok_law_names F_law_names T c_take c_words, m_law_names, k_law_names, b_law_names⟩
  have c_nested : Cal l.prog w K mg base 1 "_law_nested" spNested := ⟨_, _, _, ok_law_nested F_law_nested T, m_law_nested, k_law_nested, b_law_nested⟩
  have c_document : Cal l.prog w K mg base 3 "_law_document" spDocument := ⟨_, _, _, ok_law_document F_law_document T c_take c_of c_sign_text c_nested, m_law_document, k_law_document, b_law_document⟩
  have c_iss : Cal l.prog w K mg base 1 "is_sign" spIsSign := ⟨_, _, _, ok_is_sign F_is_sign T, m_is_sign, k_is_sign, b_is_sign⟩
  have c_sp : Cal l.prog w K mg base 1 "spaced" spSpaced := ⟨_, _, _, ok_spaced F_spaced T, m_spaced, k_spaced, b_spaced⟩
  have c_dt : Cal l.prog w K mg base 2 "document_text" spDText := ⟨_, _, _, ok_document_text F_document_text T c_sp, m_document_text, k_document_text, b_document_text⟩
  have c_rk : Cal l.prog w K mg base 1 "read_kind" spRK := ⟨_, _, _, ok_read_kind F_read_kind T, m_read_kind, k_read_kind, b_read_kind⟩
  have c_rq : Cal l.prog w K mg base 2 "read_quoted" spRQ := ⟨_, _, _, ok_read_quoted F_read_quoted T c_iss, m_read_quoted, k_read_quoted, b_read_quoted⟩
  have c_rd : Cal l.prog w K mg base 3 "read_document" spRD := ⟨_, _, _, ok_read_document F_read_document T c_rk c_rq, m_read_document, k_read_document, b_read_document⟩
  have q_dt : CalK l.prog w K mg base 2 "document_text" ["document"] (fun us ws => us ++ ws) spDText := ⟨_, _, _, _, ok_document_text F_document_text T c_sp, m_document_text, k_document_text, kb1 F_document_text (fun _ _ _ _ _ _ _ => rfl) (fun _ _ _ _ _ _ _ => rfl)⟩
  have q_rd : CalK l.prog w K mg base 3 "read_document" ["text"] (fun us ws => us ++ ws) spRD := ⟨_, _, _, _, ok_read_document F_read_document T c_rk c_rq, m_read_document, k_read_document, kb1 F_read_document (fun _ _ _ _ _ _ _ => rfl) (fun _ _ _ _ _ _ _ => rfl)⟩
  exact ok_law F_law T c_bag c_names c_document (cal_text F_law_text T m_law_text k_law_text b_law_text 31) (cal_alike F_law_alike T m_law_alike k_law_alike b_law_alike 22) c_dt c_rd q_dt q_rd
theorem walk {l : PySem.W.OpenLaw} {q : Program} {loose : List Str} {XP : (Str → Option Value) → Heap → Prop} {YP : World → Heap → Prop} {d : DefRec} {K : Params → PySem.W.Frag} (hn : l.most = some 63) (hdf : d.params.defaults = [])
    (hY : ∀ (w : World) (h : Heap), YP w h → (K w.params).In h)
    (F : ∀ (w : World) (mg : Str → Option Value) (fa : Addr) (h : Heap), (K w.params).In h → h.Ns mainGlobals mg → mg d.name = some (.ref fa) →
      ∃ fd : FuncData, (∀ (s : Shared) (u : Value), BindsTo s fd ⟨[u], []⟩ [("_law_script", u)]) ∧ ∀ base : Heap, (K w.params).In base → base.Ns mainGlobals mg → FnOk l.prog w (K w.params) mg base CX0 33 fa fd ["_law_script"] (spLaw (K w.params))) :
    PySem.W.WalkO q loose XP YP l.row.toRowW d [] (fun f vs => PySem.call f vs) :=
  L2.walk_of (n := 63) (k := 33) (x := "_law_script") (CX := fun _ => CX0) (sp := fun w => spLaw (K w.params)) hn (by decide) hdf ⟨rfl, by decide, by decide⟩ hY F (fun _ _ a ns hl _ hS => ⟨a, ns, rfl, hS, hl, fun _ => rfl⟩) fun _ _ _ _ _ z => z
end Pf
open PySem PySem.W PyProof.Rows
set_option maxRecDepth 100000 in
set_option maxHeartbeats 0 in
theorem PySem.Challenge.cw_rubgrove_k07_texts_of_documents_holds : PySem.Challenge.rw_rubgrove_k07_texts_of_documents.Holds := by
  w_on; o_law; k_head; (case hw => w_witness2)
  k_fill
  refine Pf.walk (l := PySem.Challenge.rw_rubgrove_k07_texts_of_documents) rfl rfl (fun w h Y => PySem.W.kIn_of Y) ?F
  case F =>
    intro w mg fa h KX G hmg
    refine' Pf.all_mk KX G hmg ?a_is_sign ?l_is_sign ?c_is_sign ?k_is_sign ?a_spaced ?l_spaced ?c_spaced ?k_spaced ?a_document_text ?l_document_text ?c_document_text ?k_document_text ?a_read_kind ?l_read_kind ?c_read_kind ?k_read_kind ?a_read_quoted ?l_read_quoted ?c_read_quoted ?k_read_quoted ?a_read_document ?l_read_document ?c_read_document ?k_read_document ?a_law_bag ?l_law_bag ?c_law_bag ?k_law_bag ?a_law_take ?l_law_take ?c_law_take ?k_law_take ?a_law_of ?l_law_of ?c_law_of ?k_law_of ?a_law_words ?l_law_words ?c_law_words ?k_law_words ?a_law_names ?l_law_names ?c_law_names ?k_law_names ?a_law_sign_text ?l_law_sign_text ?c_law_sign_text ?k_law_sign_text ?a_law_nested ?l_law_nested ?c_law_nested ?k_law_nested ?a_law_document ?l_law_document ?c_law_document ?k_law_document ?a_law_alike ?l_law_alike ?c_law_alike ?k_law_alike ?a_law_text ?l_law_text ?c_law_text ?k_law_text ?a_law ?l_law ?c_law ?k_law ?z_len ?z_int ?z_range ?z_isinstance ?z_all ?z_list ?z_tuple ?z_str ?z_sorted ?z_zip ?z_min ?z_bool ?z_dict ?v_SMALL ?v_MOST_LETTERS ?v_MOST_SIGNS
    (case a_is_sign => k_is)
    (case l_is_sign => k_is)
    (case c_is_sign => k_is)
    (case k_is_sign => k_is)
    (case a_spaced => k_is)
    (case l_spaced => k_is)
    (case c_spaced => k_is)
    (case k_spaced => k_is)
    (case a_document_text => k_is)
    (case l_document_text => k_is)
    (case c_document_text => k_is)
    (case k_document_text => k_is)
    (case a_read_kind => k_is)
    (case l_read_kind => k_is)
    (case c_read_kind => k_is)
    (case k_read_kind => k_is)
    (case a_read_quoted => k_is)
    (case l_read_quoted => k_is)
    (case c_read_quoted => k_is)
    (case k_read_quoted => k_is)
    (case a_read_document => k_is)
    (case l_read_document => k_is)
    (case c_read_document => k_is)
    (case k_read_document => k_is)
    (case a_law_bag => k_is)
    (case l_law_bag => k_is)
    (case c_law_bag => k_is)
    (case k_law_bag => k_is)
    (case a_law_take => k_is)
    (case l_law_take => k_is)
    (case c_law_take => k_is)
    (case k_law_take => k_is)
    (case a_law_of => k_is)
    (case l_law_of => k_is)
    (case c_law_of => k_is)
    (case k_law_of => k_is)
    (case a_law_words => k_is)
    (case l_law_words => k_is)
    (case c_law_words => k_is)
    (case k_law_words => k_is)
    (case a_law_names => k_is)
    (case l_law_names => k_is)
    (case c_law_names => k_is)
    (case k_law_names => k_is)
    (case a_law_sign_text => k_is)
    (case l_law_sign_text => k_is)
    (case c_law_sign_text => k_is)
    (case k_law_sign_text => k_is)
    (case a_law_nested => k_is)
    (case l_law_nested => k_is)
    (case c_law_nested => k_is)
    (case k_law_nested => k_is)
    (case a_law_document => k_is)
    (case l_law_document => k_is)
    (case c_law_document => k_is)
    (case k_law_document => k_is)
    (case a_law_alike => k_is)
    (case l_law_alike => k_is)
    (case c_law_alike => k_is)
    (case k_law_alike => k_is)
    (case a_law_text => k_is)
    (case l_law_text => k_is)
    (case c_law_text => k_is)
    (case k_law_text => k_is)
    (case a_law => k_is)
    (case l_law => k_is)
    (case c_law => k_is)
    (case k_law => k_is)
    (case z_len => k_is)
    (case z_int => k_is)
    (case z_range => k_is)
    (case z_isinstance => k_is)
    (case z_all => k_is)
    (case z_list => k_is)
    (case z_tuple => k_is)
    (case z_str => k_is)
    (case z_sorted => k_is)
    (case z_zip => k_is)
    (case z_min => k_is)
    (case z_bool => k_is)
    (case z_dict => k_is)
    (case v_SMALL => k_is)
    (case v_MOST_LETTERS => k_is)
    (case v_MOST_SIGNS => k_is)


