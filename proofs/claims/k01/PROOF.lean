import PyProof.Rows.All
import Wide.All
import OpenK.AllK
import Wide.FinOn
import HandS.ForMost
import HandS.IsInst
import HandS.Zip
import HandS.TupAny
import HandS.Flow
import HandS.Style
import HandS.Codes
import HandS.Steps
import HandS.Wide
import HandS.Walk
import PySem.Challenge.RW_rubgrove_k01_kinds_and_texts
set_option Elab.async false
set_option linter.all false
set_option maxRecDepth 100000
set_option maxHeartbeats 4000000
namespace Rg
open PySem L2

/-! ### calls of own defs -/
structure Cal (P : Program) (w : World) (K : PySem.W.Frag) (mg : Str → Option Value) (base : Heap) (k : Nat) (x : Str) (sp : Sp) : Prop where
  ex : ∃ (f : Addr) (fd : FuncData) (ps : List Str), FnOk P w K mg base CX0 k f fd ps sp ∧ mg x = some (.ref f) ∧ PySem.W.keepIn K (.ref f) = true ∧ Binds K fd ps []
structure CalK (P : Program) (w : World) (K : PySem.W.Frag) (mg : Str → Option Value) (base : Heap) (k : Nat) (x : Str) (ks : List Str) (gV : List V → List V → List V) (sp : Sp) : Prop where
  ex : ∃ (f : Addr) (fd : FuncData) (ps : List Str) (g : List Value → List Value → List Value), FnOk P w K mg base CX0 k f fd ps sp ∧ mg x = some (.ref f) ∧ PySem.W.keepIn K (.ref f) = true ∧ KBinds K fd ps ks g gV
def tCC (sp : Sp) (t : TA) : TE := fun σ H Q => t σ H fun vs H1 => sp vs H1 Q E0
def tCK (sp : Sp) (gV : List V → List V → List V) (t tk : TA) : TE := fun σ H Q => t σ H fun vs H1 => tk σ H1 fun zs H2 => sp (gV vs zs) H2 Q E0
section
variable {X : Cx} {k j : Nat} {x : Str} {sp : Sp} {p pos : Pos} {e : Expr} {es : List Expr} {t tk : TA} {ks : List Str} {gV : List V → List V → List V} {kws : List Keyword}
theorem pe_c (c : Cal X.prog X.w X.K X.mg X.base k x sp) (hr : Room j X.A) (hk : k ≤ j) (hg : Gl X x) (ha : PA X (e :: es) t) (hdb : (x == ("__debug__" : Str)) = false := by decide)
    (he : starEach (e :: es) X.env = (false, eval e X.env) :: starEach es X.env := by rfl) (hpl : (backTo pos (starEach es X.env)).any (·.1) = false := by rfl) : PE X (.Call (.Name x p) (e :: es) [] pos) (tCC sp t) := by
  obtain ⟨f, fd, ps, F, hm, hkp, hb⟩ := c.ex
  refine ⟨fun pins s σ H Q I h => ?_⟩
  refine (pe_call (dvs := []) (ds := []) F (hr.mono hk) hg hm hkp hb .nil pass0 ha hdb he hpl).run pins s σ H Q I ?_
  have e0 : (fun (vs : List V) (H1 : Hp) => sp (vs ++ []) H1 Q E0) = fun vs H1 => sp vs H1 Q E0 := by
    funext vs H1
    rw [List.append_nil]
  show t σ H (fun vs H1 => sp (vs ++ []) H1 Q E0)
  rw [e0]
  exact h
theorem pe_c0 (c : Cal X.prog X.w X.K X.mg X.base k x sp) (hr : Room j X.A) (hk : k ≤ j) (hg : Gl X x) (hdb : (x == ("__debug__" : Str)) = false := by decide) : PE X (.Call (.Name x p) [] [] pos) (tCC sp tNil) := by
  obtain ⟨f, fd, ps, F, hm, hkp, hb⟩ := c.ex
  refine ⟨fun pins s σ H Q I h => ?_⟩
  exact (pe_call0 (dvs := []) (ds := []) F (hr.mono hk) hg hm hkp hb .nil pass0 hdb).run pins s σ H Q I h
theorem pe_cK (c : CalK X.prog X.w X.K X.mg X.base k x ks gV sp) (hr : Room j X.A) (hk : k ≤ j) (hg : Gl X x) (ha : PA X (e :: es) t) (hkw : PK X kws tk) (hall : (backToKw pos (keywordEach kws X.env)).all (·.1.isSome) = true := by rfl) (hks : (backToKw pos (keywordEach kws X.env)).filterMap (·.1) = ks := by rfl)
    (hdb : (x == ("__debug__" : Str)) = false := by decide) (he : starEach (e :: es) X.env = (false, eval e X.env) :: starEach es X.env := by rfl)
    (hpl : ((backTo pos (starEach (e :: es) X.env)).any (·.1) || (backToKw pos (keywordEach kws X.env)).any (·.1.isNone)) = false := by rfl) : PE X (.Call (.Name x p) (e :: es) kws pos) (tCK sp gV t tk) := by
  obtain ⟨f, fd, ps, g, F, hm, hkp, hb⟩ := c.ex
  refine ⟨fun pins s σ H Q I h => ?_⟩
  exact (pe_callK F (hr.mono hk) hg hm hkp hb pass0 ha hkw hall hks hdb he hpl).run pins s σ H Q I h
theorem pe_cK0 (c : CalK X.prog X.w X.K X.mg X.base k x ks gV sp) (hr : Room j X.A) (hk : k ≤ j) (hg : Gl X x) (hkw : PK X kws tk) (hall : (backToKw pos (keywordEach kws X.env)).all (·.1.isSome) = true := by rfl) (hks : (backToKw pos (keywordEach kws X.env)).filterMap (·.1) = ks := by rfl)
    (hdb : (x == ("__debug__" : Str)) = false := by decide)
    (hpl : ((backTo pos (starEach [] X.env)).any (·.1) || (backToKw pos (keywordEach kws X.env)).any (·.1.isNone)) = false := by rfl) : PE X (.Call (.Name x p) [] kws pos) (tCK sp gV tNil tk) := by
  obtain ⟨f, fd, ps, g, F, hm, hkp, hb⟩ := c.ex
  refine ⟨fun pins s σ H Q I h => ?_⟩
  refine wpAny_Call_Name_kw (ld_glob I hg hm ?_ hdb)
  refine PySem.W.callWith_KW0 (h₀ := X.base) I.ok.mod.kin hkp hall ?_ hpl
  refine thn (hkw.run pos pins s σ H _ I h) fun ws s2 ⟨zs, H2, I2, rz, q2⟩ => ⟨I2.kIn, ?_⟩
  rw [hks]
  exact run_fnk (us := []) (vs := []) F (hr.mono hk) hb pass0 I2 .nil rz q2
theorem pe_gc {v : V} (hg : Gl X x) (h : ∃ u, X.mg x = some u ∧ RelV v u) (hd : (x == ("__debug__" : Str)) = false := by decide) : PE X (.Name x pos) (tC v) := by
  obtain ⟨u, hm, r⟩ := h
  exact pe_glob hg hm r hd
end

/-! ### operators for several kinds of values -/
def rMulS : R2 := fun x y H Q => ∃ (z : Str) (n : Int), x = .str z ∧ y = .int n ∧ z.length ≤ 1000 ∧ 0 ≤ n ∧ n ≤ 1000 ∧ Q (.str (Txt.mul z n)) H
theorem mulOk {z : Str} {n : Int} (h1 : z.length ≤ 1000) (h2 : 0 ≤ n) (h3 : n ≤ 1000) : MulOk z n := by
  refine ⟨?_, fun hn _ h => ?_, fun hn _ => ?_⟩
  · rw [decide_eq_false (by omega), decide_eq_false (by omega)]
    rfl
  · have h5 : (z.length : Int) * n ≤ 1000 * 1000 := by
      have a := Int.mul_le_mul (show (z.length : Int) ≤ 1000 by omega) h3 h2 (by omega)
      exact a
    have h6 : (z.length : Int) ≤ (2 ^ 63 - 1) / n := by
      rw [Int.le_ediv_iff_mul_le (by omega)]
      omega
    omega
  · have h5 : z.length * n.toNat ≤ 1000 * 1000 := Nat.mul_le_mul h1 (by omega)
    show decide (z.length * n.toNat > sizeLine) = false
    rw [decide_eq_false (by rw [sizeLine_eq]; omega)]
section
variable {X : Cx} {k : Nat}
theorem op_mulS : OpR X (binaryOp .Mult) rMulS := by
  intro pins s σ H x y v u Q I rx ry h
  obtain ⟨z, n, rfl, rfl, h1, h2, h3, q⟩ := h
  obtain ⟨t, rfl⟩ := rx
  obtain ⟨t', rfl⟩ := ry
  exact SB.mul (mulOk h1 h2 h3) fun t' k => ⟨.str _, H, I.tok _, ⟨_, rfl⟩, q⟩
def rMulX : R2 := fun x y H Q => rI CMul (fun i j => .int (i * j)) x y H Q ∨ rMulS x y H Q
theorem op_mulX : OpR X (binaryOp .Mult) rMulX := OpR.or op_mul op_mulS
def rAddS : R2 := fun x y H Q => ∃ i j, x = .str i ∧ y = .str j ∧ i.length + j.length ≤ sizeLine ∧ Q (.str (i ++ j)) H
def rAddX (K : PySem.W.Frag) : R2 := fun x y H Q => rI0 (fun i j => .int (i + j)) x y H Q ∨ rAddS x y H Q ∨ rCat x y H Q ∨ rCatA K x y H Q
theorem op_addX (K : PySem.W.Frag) (hK : X.K = K := by rfl) : OpR X (binaryOp .Add) (rAddX K) := by subst hK; exact OpR.or op_add (OpR.or op_add_str (OpR.or op_cat op_catA))
def rEqX (K : PySem.W.Frag) : R2 := fun x y H Q => rEq x y H Q ∨ rEqD K x y H Q
theorem op_eqX (K : PySem.W.Frag) (hr : Room k X.A) (hK : X.K = K := by rfl) : OpR X (compareOp .Eq) (rEqX K) := by subst hK; exact OpR.or op_eq (op_eqD hr.units)
def rNeX (K : PySem.W.Frag) : R2 := fun x y H Q => rNe x y H Q ∨ rNeD K x y H Q
theorem op_neX (K : PySem.W.Frag) (hr : Room k X.A) (hK : X.K = K := by rfl) : OpR X (compareOp .NotEq) (rNeX K) := by subst hK; exact OpR.or op_ne (op_neD hr.units)
def rInX (K : PySem.W.Frag) : R2 := fun x y H Q => rInS x y H Q ∨ rIn K false x y H Q
theorem op_inX (K : PySem.W.Frag) (hK : X.K = K := by rfl) : OpR X (compareOp .In) (rInX K) := by subst hK; exact OpR.or op_inS op_in_seq
def rNinX (K : PySem.W.Frag) : R2 := fun x y H Q => rNotInS x y H Q ∨ rIn K true x y H Q
theorem op_ninX (K : PySem.W.Frag) (hK : X.K = K := by rfl) : OpR X (compareOp .NotIn) (rNinX K) := by subst hK; exact OpR.or op_notInS op_notIn_seq
def rSlX (K : PySem.W.Frag) : V → Option Int → Option Int → Hp → VK → Prop := fun x lo hi H Q => rSlL K x lo hi H Q ∨ rSlS x lo hi H Q ∨ rSlA K x lo hi H Q
theorem sl_X (K : PySem.W.Frag) (hK : X.K = K := by rfl) : SlR X (rSlX K) := by subst hK; exact SlR.or sl_list (SlR.or sl_str sl_tupA)
theorem ix_X (K : PySem.W.Frag) (hK : X.K = K := by rfl) : IxR X (rIx K) := by subst hK; exact ix_seq
def rLenX (K : PySem.W.Frag) : List V → Hp → VK → Prop := fun xs H Q => ∃ x n, xs = [x] ∧ LenV K x H n ∧ Q (.int n) H
theorem call_lenX (K : PySem.W.Frag) (hK : X.K = K := by rfl) : CallR X (.builtin "len") (rLenX K) := by subst hK; exact call_len
def rLeStr : R2 := fun x y H Q => ∃ i j, x = .str i ∧ y = .str j ∧ Q (.bl (!decide (j.cps.toList < i.cps.toList))) H
def rLeX : R2 := fun x y H Q => rI0 (fun i j => .bl (decide (i ≤ j))) x y H Q ∨ rLeStr x y H Q
theorem op_leX : OpR X (compareOp .LtE) rLeX := OpR.or op_le op_le_str
def rListOf (K : PySem.W.Frag) : List V → Hp → VK → Prop := fun xs H Q => ∃ p ys, xs = [.ref p] ∧ (SqL K H p ys ∨ SqT K H p ys) ∧ ∀ l, H l = none → Q (.ref l) (upd H l (.lst ys))
theorem cr_list (K : PySem.W.Frag) (hK : X.K = K := by rfl) : CallR X (.type "list") (rListOf K) := by subst hK; exact call_list_of
def rTupOf (K : PySem.W.Frag) : List V → Hp → VK → Prop := fun xs H Q => ∃ p ys, xs = [.ref p] ∧ ((SqL K H p ys ∧ ∀ l, H l = none → Q (.ref l) (upd H l (.tup ys))) ∨ (SqT K H p ys ∧ Q (.ref p) H))
theorem cr_tuple (K : PySem.W.Frag) (hK : X.K = K := by rfl) : CallR X (.type "tuple") (rTupOf K) := by subst hK; exact call_tuple_of
theorem cr_allX (K : PySem.W.Frag) (hc : X.calm = true) (hK : X.K = K := by rfl) : CallR X (.builtin "all") (rAll K) := by subst hK; exact cr_all hc
theorem cr_anyX (K : PySem.W.Frag) (hc : X.calm = true) (hK : X.K = K := by rfl) : CallR X (.builtin "any") (rAny K) := by subst hK; exact cr_any hc
theorem cr_sumX (K : PySem.W.Frag) (hc : X.calm = true) (hK : X.K = K := by rfl) : CallR X (.builtin "sum") (rSum K) := by subst hK; exact cr_sum hc
theorem cr_sortedX (K : PySem.W.Frag) (hK : X.K = K := by rfl) : CallR X (.builtin "sorted") (rSortedS K) := by subst hK; exact cr_sortedS
theorem cr_isi (K : PySem.W.Frag) (hK : X.K = K := by rfl) : CallR X (.builtin "isinstance") (rIsi K) := by subst hK; exact call_isi
theorem cr_isiT (K : PySem.W.Frag) (hK : X.K = K := by rfl) : CallR X (.builtin "isinstance") (rIsiT K) := by subst hK; exact call_isiT
theorem pi_listX (K : PySem.W.Frag) {tg l : Expr} {tl : TE} (hl : PE X l tl) (hK : X.K = K := by rfl) : PI X tg l (iList K tl) := by subst hK; exact pi_list hl
theorem pi_zipX (K : PySem.W.Frag) {tg e : Expr} {ta : TA} (h : PI X tg e (RZ.iZipA X.K ta)) (hK : X.K = K := by rfl) : PI X tg e (RZ.iZipA K ta) := by subst hK; exact h
theorem pi_tupX (K : PySem.W.Frag) {tg l : Expr} {tl : TE} (hl : PE X l tl) (hK : X.K = K := by rfl) : PI X tg l (iTup K tl) := by subst hK; exact pi_tup hl
theorem pg_tupX (K : PySem.W.Frag) {es : List Expr} {kk : Nat} {pos : Pos} {n : Nat} {t : TGs} (h : PG X (.Tuple es kk pos) (gTup X.K n t)) (hK : X.K = K := by rfl) : PG X (.Tuple es kk pos) (gTup K n t) := by subst hK; exact h
theorem pe_bmX (K : PySem.W.Frag) {e : Expr} {T : String} {r : V → List V → Hp → VK → Prop} {to : TE} {t : TA} (h : PE X e (tBM X.K T r to t)) (hK : X.K = K := by rfl) : PE X e (tBM K T r to t) := by subst hK; exact h
theorem pe_bm0X (K : PySem.W.Frag) {e : Expr} {T : String} {r : V → List V → Hp → VK → Prop} {to : TE} (h : PE X e (tBM0 X.K T r to)) (hK : X.K = K := by rfl) : PE X e (tBM0 K T r to) := by subst hK; exact h
theorem pe_fldX (K : PySem.W.Frag) {e : Expr} {f : Str} {ta : TE} (h : PE X e (tFld X.K ta f)) (hK : X.K = K := by rfl) : PE X e (tFld K ta f) := by subst hK; exact h
def rIntX : List V → Hp → VK → Prop := fun xs H Q => (∃ i, xs = [.int i] ∧ Q (.int i) H) ∨ ∃ k, xs = [.bl k] ∧ Q (.int (if k then 1 else 0)) H
theorem cr_int : CallR X (.type "int") rIntX := call_int1
def rIsNn : R2 := fun x y H Q => y = .non ∧ Q (.bl (decide (x = .non))) H
theorem op_isNn : OpR X (compareOp .Is) rIsNn := op_isN
def rNotNn : R2 := fun x y H Q => y = .non ∧ Q (.bl (!decide (x = .non))) H
theorem op_notNn : OpR X (compareOp .IsNot) rNotNn := op_notN
def rJoin (K : PySem.W.Frag) : V → List V → Hp → VK → Prop := fun x xs H Q => ∃ a p, ∃ ys : List Str, x = .str a ∧ xs = [.ref p] ∧ (SqL K H p (ys.map V.str) ∨ SqT K H p (ys.map V.str)) ∧ (ys.map (·.length)).sum + ys.length * a.length ≤ 16777216 ∧ Q (.str (Txt.join a ys)) H
theorem pe_joinX (K : PySem.W.Frag) {o e : Expr} {to te : TE} {apos pos : Pos} (ho : PE X o to) (he : PE X e te) (hK : X.K = K := by rfl) (hs : starEach [e] X.env = [(false, eval e X.env)] := by rfl) (hbase : attributeBase o "join" X.env (eval o X.env) = eval o X.env := by rfl) (hline : (apos.endLine == pos.line) = true := by rfl) :
    PE X (.Call (.Attribute o "join" apos) [e] [] pos) (tM1 (rJoin K) to te) := by subst hK; exact pe_join ho he hs hbase hline
end

/-! ### the readings, a step each -/
section
variable {K : PySem.W.Frag} {σ : St} {H : Hp} {Q : VK} {QT : Bool → Hp → Prop} {QA : List V → Hp → Prop} {QO : Option Int → Hp → Prop} {QS : St → Hp → Prop} {D : Ends}
variable {te ta tb tc : TE} {tt tu : TT} {t u : TS} {aa ab : TA} {g : TG} {gs : TGs} {r r' : R2} {v x y z : V} {i j n m : Int} {b c : Bool} {vs ws : List V} {a p q : Addr} {xs ys : List V} {s1 s2 : Str} {wi : TI} {to tp : TO}
theorem var {k : Nat} (h : σ[k]? = some (some v)) (q : Q v H) : tVar k σ H Q := ⟨v, h, q⟩
theorem cst (q : Q v H) : tC v σ H Q := q
theorem op (q : ta σ H fun x H1 => tb σ H1 fun y H2 => r x y H2 Q) : tOp r ta tb σ H Q := q
theorem un {f : V → Hp → VK → Prop} (q : ta σ H fun x H1 => f x H1 Q) : tUn f ta σ H Q := q
theorem chain (q : ta σ H fun x H1 => tb σ H1 fun y H2 => r x y H2 fun z H3 => ∃ k, z = .bl k ∧ (if k = true then tc σ H3 fun w' H4 => r' y w' H4 Q else Q (.bl false) H3)) : tChain r r' ta tb tc σ H Q := q
theorem exbl {P : Bool → Prop} (q : P b) : ∃ k, V.bl b = .bl k ∧ P k := ⟨b, rfl, q⟩
theorem iI0 {f : Int → Int → V} (q : Q (f i j) H) : rI0 f (.int i) (.int j) H Q := ⟨i, j, rfl, rfl, q⟩
theorem iI {C : Int → Int → Prop} {f : Int → Int → V} (h : C i j) (q : Q (f i j) H) : rI C f (.int i) (.int j) H Q := ⟨i, j, rfl, rfl, h, q⟩
theorem iU {f : Int → V} (q : Q (f i) H) : rU f (.int i) H Q := ⟨i, rfl, q⟩
theorem eqI (q : Q (.bl (decide (i = j))) H) : rEqX K (.int i) (.int j) H Q := .inl ⟨rfl, by rw [show decide (V.int i = V.int j) = decide (i = j) from decide_eq_decide.mpr ⟨V.int.inj, congrArg _⟩]; exact q⟩
theorem neI (q : Q (.bl (!decide (i = j))) H) : rNeX K (.int i) (.int j) H Q := .inl ⟨rfl, by rw [show decide (V.int i = V.int j) = decide (i = j) from decide_eq_decide.mpr ⟨V.int.inj, congrArg _⟩]; exact q⟩
theorem eqStr (q : Q (.bl (decide (s1 = s2))) H) : rEqX K (.str s1) (.str s2) H Q := .inl ⟨rfl, by rw [show decide (V.str s1 = V.str s2) = decide (s1 = s2) from decide_eq_decide.mpr ⟨V.str.inj, congrArg _⟩]; exact q⟩
theorem neStr (q : Q (.bl (!decide (s1 = s2))) H) : rNeX K (.str s1) (.str s2) H Q := .inl ⟨rfl, by rw [show decide (V.str s1 = V.str s2) = decide (s1 = s2) from decide_eq_decide.mpr ⟨V.str.inj, congrArg _⟩]; exact q⟩
theorem eqB (q : Q (.bl (decide (b = c))) H) : rEqX K (.bl b) (.bl c) H Q := .inl ⟨rfl, by rw [show decide (V.bl b = V.bl c) = decide (b = c) from decide_eq_decide.mpr ⟨V.bl.inj, congrArg _⟩]; exact q⟩
theorem neB (q : Q (.bl (!decide (b = c))) H) : rNeX K (.bl b) (.bl c) H Q := .inl ⟨rfl, by rw [show decide (V.bl b = V.bl c) = decide (b = c) from decide_eq_decide.mpr ⟨V.bl.inj, congrArg _⟩]; exact q⟩
theorem cut (Mid : St → Hp → Prop) (q : t { nx := Mid, rt := D.rt, bk := D.bk, ct := D.ct } σ H) (k : ∀ σ' H', Mid σ' H' → u D σ' H') : C8.tCut t u D σ H := ⟨Mid, q, k⟩
theorem iteD {A B : Prop} {p : Prop} [Decidable p] (h1 : p → A) (h2 : ¬ p → B) : if decide p = true then A else B := ite2 (fun h => h1 (of_decide_eq_true h)) (fun h => h2 fun z => h (decide_eq_true z))
theorem iteN {A B : Prop} {p : Prop} [Decidable p] (h1 : ¬ p → A) (h2 : p → B) : if (!decide p) = true then A else B := by
  by_cases h : p
  · rw [decide_eq_true h]
    exact iteF (h2 h)
  · rw [decide_eq_false h]
    exact iteT (h1 h)
theorem eqS (h : scal x y = true) (q : Q (.bl (decide (x = y))) H) : rEqX K x y H Q := .inl ⟨h, q⟩
theorem neS (h : scal x y = true) (q : Q (.bl (!decide (x = y))) H) : rNeX K x y H Q := .inl ⟨h, q⟩
theorem eqDd {d e : PyData} (h1 : Dp K H x d) (h2 : Dp K H y e) (s1 : SeqAt.shaped d = true) (s2 : SeqAt.shaped e = true) (q : Q (.bl (PyData.eqv d e)) H) : rEqX K x y H Q := .inr ⟨d, e, h1, h2, s1, s2, q⟩
theorem neDd {d e : PyData} (h1 : Dp K H x d) (h2 : Dp K H y e) (s1 : SeqAt.shaped d = true) (s2 : SeqAt.shaped e = true) (q : Q (.bl (!PyData.eqv d e)) H) : rNeX K x y H Q := .inr ⟨d, e, h1, h2, s1, s2, q⟩
theorem addI (q : Q (.int (i + j)) H) : rAddX K (.int i) (.int j) H Q := .inl ⟨i, j, rfl, rfl, q⟩
theorem addS (h : s1.length + s2.length ≤ sizeLine) (q : Q (.str (s1 ++ s2)) H) : rAddX K (.str s1) (.str s2) H Q := .inr (.inl ⟨s1, s2, rfl, rfl, h, q⟩)
theorem addL (h1 : H a = some (.lst xs)) (h2 : H p = some (.lst ys)) (h : xs.length + ys.length ≤ sizeLine) (q : ∀ l, H l = none → Q (.ref l) (upd H l (.lst (xs ++ ys)))) : rAddX K (.ref a) (.ref p) H Q := .inr (.inr (.inl ⟨a, p, xs, ys, rfl, rfl, h1, h2, h, q⟩))
theorem mulI (h : CMul i j) (q : Q (.int (i * j)) H) : rMulX (.int i) (.int j) H Q := .inl ⟨i, j, rfl, rfl, h, q⟩
theorem mulS (h1 : s1.length ≤ 1000) (h2 : 0 ≤ n) (h3 : n ≤ 1000) (q : Q (.str (Txt.mul s1 n)) H) : rMulX (.str s1) (.int n) H Q := .inr ⟨s1, n, rfl, rfl, h1, h2, h3, q⟩
theorem leI (q : Q (.bl (decide (i ≤ j))) H) : rLeX (.int i) (.int j) H Q := .inl ⟨i, j, rfl, rfl, q⟩
theorem leS (q : Q (.bl (!decide (s2.cps.toList < s1.cps.toList))) H) : rLeX (.str s1) (.str s2) H Q := .inr ⟨s1, s2, rfl, rfl, q⟩
theorem inS {k : Nat} (q : Q (.bl (decide (k ∈ s2.cps.toList))) H) : rInX K (.str ⟨#[k]⟩) (.str s2) H Q := .inl ⟨k, s2, rfl, rfl, q⟩
theorem ninS {k : Nat} (q : Q (.bl (!decide (k ∈ s2.cps.toList))) H) : rNinX K (.str ⟨#[k]⟩) (.str s2) H Q := .inl ⟨k, s2, rfl, rfl, q⟩
theorem inSeq (h : SqL K H p xs ∨ SqT K H p xs) (h1 : flatV x = true) (h2 : xs.all flatV = true) (q : Q (.bl (inV x xs)) H) : rInX K x (.ref p) H Q := .inr ⟨p, xs, rfl, h, h1, h2, q⟩
theorem ninSeq (h : SqL K H p xs ∨ SqT K H p xs) (h1 : flatV x = true) (h2 : xs.all flatV = true) (q : Q (.bl (!inV x xs)) H) : rNinX K x (.ref p) H Q := .inr ⟨p, xs, rfl, h, h1, h2, q⟩
theorem isN_int (q : Q (.bl false) H) : rIsNn (.int i) .non H Q := ⟨rfl, q⟩
theorem notN_int (q : Q (.bl true) H) : rNotNn (.int i) .non H Q := ⟨rfl, q⟩
theorem isN_str (q : Q (.bl false) H) : rIsNn (.str s1) .non H Q := ⟨rfl, q⟩
theorem notN_str (q : Q (.bl true) H) : rNotNn (.str s1) .non H Q := ⟨rfl, q⟩
theorem isN_bl (q : Q (.bl false) H) : rIsNn (.bl b) .non H Q := ⟨rfl, q⟩
theorem notN_bl (q : Q (.bl true) H) : rNotNn (.bl b) .non H Q := ⟨rfl, q⟩
theorem isN_ref (q : Q (.bl false) H) : rIsNn (.ref a) .non H Q := ⟨rfl, q⟩
theorem notN_ref (q : Q (.bl true) H) : rNotNn (.ref a) .non H Q := ⟨rfl, q⟩
theorem isN_non (q : Q (.bl true) H) : rIsNn .non .non H Q := ⟨rfl, q⟩
theorem notN_non (q : Q (.bl false) H) : rNotNn .non .non H Q := ⟨rfl, q⟩
theorem eqB_truetrue (q : Q (.bl true) H) : rEqX K (.bl true) (.bl true) H Q := .inl ⟨rfl, q⟩
theorem neB_truetrue (q : Q (.bl false) H) : rNeX K (.bl true) (.bl true) H Q := .inl ⟨rfl, q⟩
theorem eqB_truefalse (q : Q (.bl false) H) : rEqX K (.bl true) (.bl false) H Q := .inl ⟨rfl, q⟩
theorem neB_truefalse (q : Q (.bl true) H) : rNeX K (.bl true) (.bl false) H Q := .inl ⟨rfl, q⟩
theorem eqB_falsetrue (q : Q (.bl false) H) : rEqX K (.bl false) (.bl true) H Q := .inl ⟨rfl, q⟩
theorem neB_falsetrue (q : Q (.bl true) H) : rNeX K (.bl false) (.bl true) H Q := .inl ⟨rfl, q⟩
theorem eqB_falsefalse (q : Q (.bl true) H) : rEqX K (.bl false) (.bl false) H Q := .inl ⟨rfl, q⟩
theorem neB_falsefalse (q : Q (.bl false) H) : rNeX K (.bl false) (.bl false) H Q := .inl ⟨rfl, q⟩
theorem isN (q : Q (.bl (decide (x = .non))) H) : rIsNn x .non H Q := ⟨rfl, q⟩
theorem notN (q : Q (.bl (!decide (x = .non))) H) : rNotNn x .non H Q := ⟨rfl, q⟩
theorem ixL (h : SqL K H p xs) (h1 : atI xs i = some v) (q : Q v H) : rIx K (.ref p) (.int i) H Q := .inl ⟨p, xs, i, v, rfl, rfl, h, h1, q⟩
theorem ixT (h : SqT K H p xs) (h1 : atI xs i = some v) (q : Q v H) : rIx K (.ref p) (.int i) H Q := .inr (.inl ⟨p, xs, i, v, rfl, rfl, h, h1, q⟩)
theorem ixS {k : Nat} (h : s1.length ≤ sizeLine) (h1 : atI s1.cps.toList i = some k) (q : Q (.str ⟨#[k]⟩) H) : rIx K (.str s1) (.int i) H Q := .inr (.inr ⟨s1, i, k, rfl, rfl, h, h1, q⟩)
theorem slS {lo hi : Option Int} (h : s1.length ≤ sizeLine) (q : Q (.str (cutS s1 lo hi)) H) : rSlX K (.str s1) lo hi H Q := .inr (.inl ⟨s1, rfl, h, q⟩)
theorem slL {lo hi : Option Int} (h : SqL K H a xs) (q : ∀ l, H l = none → Q (.ref l) (upd H l (.lst (cutV xs lo hi)))) : rSlX K (.ref a) lo hi H Q := .inl ⟨a, xs, rfl, h, q⟩
theorem slT {lo hi : Option Int} (h : SqT K H a xs) (q1 : HT.sIx xs.length 0 lo = 0 ∧ HT.sIx xs.length xs.length hi = xs.length → Q (.ref a) H) (q2 : ¬ (HT.sIx xs.length 0 lo = 0 ∧ HT.sIx xs.length xs.length hi = xs.length) → ∀ l, H l = none → Q (.ref l) (upd H l (.tup (cutV xs lo hi)))) :
    rSlX K (.ref a) lo hi H Q := .inr (.inr ⟨a, xs, rfl, h, q1, q2⟩)
theorem sl {f : V → Option Int → Option Int → Hp → VK → Prop} (q : te σ H fun x H1 => to σ H1 fun l H2 => tp σ H2 fun u H3 => f x l u H3 Q) : tSl f te to tp σ H Q := q
theorem noPart (q : QO none H) : tNoPart σ H QO := q
theorem part (q : te σ H fun x H1 => ∃ i, x = .int i ∧ QO (some i) H1) : tPart te σ H QO := q
theorem exint {P : Int → Prop} (q : P i) : ∃ k, V.int i = .int k ∧ P k := ⟨i, rfl, q⟩
theorem test (q : te σ H fun x H' => ∃ k, x = .bl k ∧ QT k H') : tTest te σ H QT := q
theorem tb_ (q : te σ H fun x H' => ∃ k, x = .bl k ∧ QT k H') : tB te σ H QT := q
theorem tand (q : tt σ H fun c H1 => if c = true then tu σ H1 QT else QT false H1) : tAnd tt tu σ H QT := q
theorem tor (q : tt σ H fun c H1 => if c = true then QT true H1 else tu σ H1 QT) : tOr tt tu σ H QT := q
theorem tnot (q : tt σ H fun c H1 => QT (!c) H1) : tNot tt σ H QT := q
theorem andV (q : ta σ H fun x H1 => ∃ c, x = .bl c ∧ if c = true then tb σ H1 Q else Q (.bl false) H1) : tAndV ta tb σ H Q := q
theorem orV (q : ta σ H fun x H1 => ∃ c, x = .bl c ∧ if c = true then Q (.bl true) H1 else tb σ H1 Q) : tOrV ta tb σ H Q := q
theorem notV (q : ta σ H fun x H1 => ∃ c, x = .bl c ∧ Q (.bl (!c)) H1) : tNotV ta σ H Q := q
theorem ife (q : tt σ H fun c H1 => if c = true then ta σ H1 Q else tb σ H1 Q) : tIf tt ta tb σ H Q := q
theorem seq (q : t { nx := u D, rt := D.rt, bk := D.bk, ct := D.ct } σ H) : tSeq t u D σ H := q
theorem nxt (q : D.nx σ H) : tNext D σ H := q
theorem brk (q : D.bk σ H) : tBreak D σ H := q
theorem cnt (q : D.ct σ H) : tCont D σ H := q
theorem drp (q : te σ H fun _ H1 => D.nx σ H1) : tDrop te D σ H := q
theorem ret (q : te σ H D.rt) : tRet te D σ H := q
theorem retN (q : D.rt .non H) : tRetN D σ H := q
theorem ifS (q : tt σ H fun b H1 => if b = true then t D σ H1 else u D σ H1) : tIfS tt t u D σ H := q
theorem asg (q : te σ H fun x H1 => g x σ H1 D.nx) : tAsg te g D σ H := q
theorem gname {k : Nat} (q : QS (σ.set k (some v)) H) : gName k v σ H QS := q
theorem par {k l : Nat} (q : aa σ H fun vs H1 => ∃ v w, vs = [v, w] ∧ D.nx ((σ.set k (some v)).set l (some w)) H1) : tPar k l aa D σ H := q
theorem expair {P : V → V → Prop} (q : P x y) : ∃ v w, [x, y] = [v, w] ∧ P v w := ⟨x, y, rfl, q⟩
theorem gsub {f : TSet} (q : ta σ H fun o H1 => tb σ H1 fun i H2 => f o i v H2 fun H3 => QS σ H3) : gSub ta tb f v σ H QS := q
theorem setL {k : Nat} {QH : Hp → Prop} (h : H p = some (.lst xs)) (h1 : ixN xs.length i = some k) (q : QH (upd H p (.lst (xs.set k v)))) : rSetL (.ref p) (.int i) v H QH := ⟨p, xs, i, k, rfl, rfl, h, h1, q⟩
theorem gtup {k : Nat} (h : SqT K H a xs) (h1 : xs.length = k) (q : gs xs σ H QS) : gTup K k gs (.ref a) σ H QS := ⟨a, xs, rfl, h, h1, q⟩
theorem gcons (q : g v σ H fun σ' H' => gs vs σ' H' QS) : gCons g gs (v :: vs) σ H QS := ⟨v, vs, rfl, q⟩
theorem gnil (q : QS σ H) : gNil [] σ H QS := ⟨rfl, q⟩
theorem anil (q : QA [] H) : tNil σ H QA := q
theorem acons (q : te σ H fun x H1 => aa σ H1 fun xs H2 => QA (x :: xs) H2) : tCons te aa σ H QA := q
theorem callC {sp : Sp} (q : aa σ H fun vs H1 => sp vs H1 Q E0) : tCC sp aa σ H Q := q
theorem callK {sp : Sp} {gV : List V → List V → List V} (q : aa σ H fun vs H1 => ab σ H1 fun zs H2 => sp (gV vs zs) H2 Q E0) : tCK sp gV aa ab σ H Q := q
theorem callB {f : List V → Hp → VK → Prop} (q : aa σ H fun vs H1 => f vs H1 Q) : tCB f aa σ H Q := q
theorem lenS (h : s1.length ≤ sizeLine) (q : Q (.int s1.length) H) : rLenX K [.str s1] H Q := ⟨.str s1, s1.length, rfl, ⟨h, rfl⟩, q⟩
theorem lenL (h : SqL K H p xs) (q : Q (.int xs.length) H) : rLenX K [.ref p] H Q := ⟨.ref p, xs.length, rfl, .inl ⟨xs, h, rfl⟩, q⟩
theorem lenT (h : SqT K H p xs) (q : Q (.int xs.length) H) : rLenX K [.ref p] H Q := ⟨.ref p, xs.length, rfl, .inr ⟨xs, h, rfl⟩, q⟩
theorem intI (q : Q (.int i) H) : rIntX [.int i] H Q := .inl ⟨i, rfl, q⟩
theorem listL (h : SqL K H p xs) (q : ∀ l, H l = none → Q (.ref l) (upd H l (.lst xs))) : rListOf K [.ref p] H Q := ⟨p, xs, rfl, .inl h, q⟩
theorem listT (h : SqT K H p xs) (q : ∀ l, H l = none → Q (.ref l) (upd H l (.lst xs))) : rListOf K [.ref p] H Q := ⟨p, xs, rfl, .inr h, q⟩
theorem tupL (h : SqL K H p xs) (q : ∀ l, H l = none → Q (.ref l) (upd H l (.tup xs))) : rTupOf K [.ref p] H Q := ⟨p, xs, rfl, .inl ⟨h, q⟩⟩
theorem all_ {bs : List Bool} (h : SqL K H p (bs.map V.bl)) (q : Q (.bl (bs.all id)) H) : rAll K [.ref p] H Q := ⟨p, bs, rfl, h, q⟩
theorem any_ {bs : List Bool} (h : SqL K H p (bs.map V.bl)) (q : Q (.bl (bs.any id)) H) : rAny K [.ref p] H Q := ⟨p, bs, rfl, h, q⟩
theorem isi {T : String} {tv : Value} (h : TyX K H x tv) (h1 : PySem.W.kitOne K tv (.type T) = some b) (q : Q (.bl b) H) : rIsi K [x, .ty T] H Q := ⟨x, .ty T, tv, .type T, b, rfl, .ty T, h, h1, q⟩
theorem isiT {tv : Value} {us : List Value} (hT : H p = some (.tup vs)) (hP : Paired ClsV vs us) (h : TyX K H x tv) (h1 : PySem.W.kitAny K tv us = some b) (q : Q (.bl b) H) : rIsiT K [x, .ref p] H Q := ⟨x, p, vs, tv, us, b, rfl, hT, hP, h, h1, q⟩
theorem lst_ (q : aa σ H fun xs H1 => xs.length ≤ sizeLine ∧ ∀ p, H1 p = none → Q (.ref p) (upd H1 p (.lst xs))) : tLst aa σ H Q := q
theorem tup_ (q : aa σ H fun xs H1 => xs.length ≤ sizeLine ∧ ∀ p, H1 p = none → Q (.ref p) (upd H1 p (.tup xs))) : tTup aa σ H Q := q
theorem m1 {f : V → List V → Hp → VK → Prop} (q : ta σ H fun x H1 => (∃ a, x = .str a) ∧ te σ H1 fun y H2 => f x [y] H2 Q) : tM1 f ta te σ H Q := q
theorem isStr {P : Prop} (q : P) : (∃ a, V.str s1 = .str a) ∧ P := ⟨⟨s1, rfl⟩, q⟩
theorem joinL {zs : List Str} (h : SqL K H p (zs.map V.str)) (h1 : (zs.map (·.length)).sum + zs.length * s1.length ≤ 16777216) (q : Q (.str (Txt.join s1 zs)) H) : rJoin K (.str s1) [.ref p] H Q := ⟨s1, p, zs, rfl, rfl, .inl h, h1, q⟩
theorem for_ (q : wi σ H fun J H1 => ∃ W : Nat → Nat → St → Hp → Prop, (∃ m, W 0 m σ H1) ∧ ∀ i m σ H, W i m σ H →
      (J.stop i H ∧ D.nx σ H) ∨ (J.go i H ∧ ∃ N : St → Hp → Prop, (∀ σ' H', N σ' H' → ∃ m', m' < m ∧ W (i + 1) m' σ' H') ∧ ∀ x H', J.yld i H x H' → g x σ H' fun σ2 H2 => t { nx := N, rt := D.rt, bk := D.nx, ct := N } σ2 H2)) : tFor wi g t D σ H := q
theorem bm {T : String} {f : V → List V → Hp → VK → Prop} (q : ta σ H fun x H1 => tyV K T x H1 ∧ aa σ H1 fun xs H2 => f x xs H2 Q) : tBM K T f ta aa σ H Q := q
theorem bm0 {T : String} {f : V → List V → Hp → VK → Prop} (q : ta σ H fun x H1 => tyV K T x H1 ∧ f x [] H1 Q) : tBM0 K T f ta σ H Q := q
theorem mkNx {A B C : St → Hp → Prop} {R : VK} (q : A σ H) : Ends.nx ⟨A, R, B, C⟩ σ H := q
theorem mkRt {A B C : St → Hp → Prop} {R : VK} (q : R v H) : Ends.rt ⟨A, R, B, C⟩ v H := q
theorem mkBk {A B C : St → Hp → Prop} {R : VK} (q : B σ H) : Ends.bk ⟨A, R, B, C⟩ σ H := q
theorem mkCt {A B C : St → Hp → Prop} {R : VK} (q : C σ H) : Ends.ct ⟨A, R, B, C⟩ σ H := q
theorem ilist (h : ∃ xs, SqL K H a xs) {R : It → Hp → Prop} (q : R (Itl K a) H) : (fun (x : V) (H1 : Hp) => ∃ a, x = .ref a ∧ (∃ xs, SqL K H1 a xs) ∧ R (Itl K a) H1) (.ref a) H := ⟨a, rfl, h, q⟩
theorem il {R : It → Hp → Prop} (q : te σ H fun x H1 => ∃ a, x = .ref a ∧ (∃ xs, SqL K H1 a xs) ∧ R (Itl K a) H1) : iList K te σ H R := q
theorem exl {R : Addr → Prop} (h : ∃ xs, SqL K H a xs) (q : R a) : ∃ b, V.ref a = .ref b ∧ (∃ xs, SqL K H b xs) ∧ R b := ⟨a, rfl, h, q⟩
theorem ir1 {R : It → Hp → Prop} (q : aa σ H fun vs H1 => ∃ j : Int, vs = [.int j] ∧ -(2 ^ 62) ≤ j ∧ j < 2 ^ 62 ∧ R (Itr 0 j.toNat) H1) : iRng1 aa σ H R := q
theorem exr1 {R : Int → Prop} (h1 : -(2 ^ 62) ≤ i) (h2 : i < 2 ^ 62) (q : R i) : ∃ j : Int, [V.int i] = [.int j] ∧ -(2 ^ 62) ≤ j ∧ j < 2 ^ 62 ∧ R j := ⟨i, rfl, h1, h2, q⟩
theorem is_ {R : It → Hp → Prop} (q : te σ H fun v H1 => ∃ x, v = .str x ∧ R (Its x) H1) : iStr te σ H R := q
theorem exstr {R : Str → Prop} (q : R s1) : ∃ x, V.str s1 = .str x ∧ R x := ⟨s1, rfl, q⟩
end

/-! ### kinds -/
theorem kB_NoneType_str : kitB "NoneType" "str" = some false := by decide +kernel
theorem kB_NoneType_bool : kitB "NoneType" "bool" = some false := by decide +kernel
theorem kB_NoneType_int : kitB "NoneType" "int" = some false := by decide +kernel
theorem kB_NoneType_dict : kitB "NoneType" "dict" = some false := by decide +kernel
theorem kB_NoneType_tuple : kitB "NoneType" "tuple" = some false := by decide +kernel
theorem kB_NoneType_list : kitB "NoneType" "list" = some false := by decide +kernel
theorem kB_bool_str : kitB "bool" "str" = some false := by decide +kernel
theorem kB_bool_bool : kitB "bool" "bool" = some true := by decide +kernel
theorem kB_bool_int : kitB "bool" "int" = some true := by decide +kernel
theorem kB_bool_dict : kitB "bool" "dict" = some false := by decide +kernel
theorem kB_bool_tuple : kitB "bool" "tuple" = some false := by decide +kernel
theorem kB_bool_list : kitB "bool" "list" = some false := by decide +kernel
theorem kB_int_str : kitB "int" "str" = some false := by decide +kernel
theorem kB_int_bool : kitB "int" "bool" = some false := by decide +kernel
theorem kB_int_int : kitB "int" "int" = some true := by decide +kernel
theorem kB_int_dict : kitB "int" "dict" = some false := by decide +kernel
theorem kB_int_tuple : kitB "int" "tuple" = some false := by decide +kernel
theorem kB_int_list : kitB "int" "list" = some false := by decide +kernel
theorem kB_str_str : kitB "str" "str" = some true := by decide +kernel
theorem kB_str_bool : kitB "str" "bool" = some false := by decide +kernel
theorem kB_str_int : kitB "str" "int" = some false := by decide +kernel
theorem kB_str_dict : kitB "str" "dict" = some false := by decide +kernel
theorem kB_str_tuple : kitB "str" "tuple" = some false := by decide +kernel
theorem kB_str_list : kitB "str" "list" = some false := by decide +kernel
theorem kB_list_str : kitB "list" "str" = some false := by decide +kernel
theorem kB_list_bool : kitB "list" "bool" = some false := by decide +kernel
theorem kB_list_int : kitB "list" "int" = some false := by decide +kernel
theorem kB_list_dict : kitB "list" "dict" = some false := by decide +kernel
theorem kB_list_tuple : kitB "list" "tuple" = some false := by decide +kernel
theorem kB_list_list : kitB "list" "list" = some true := by decide +kernel
theorem kB_tuple_str : kitB "tuple" "str" = some false := by decide +kernel
theorem kB_tuple_bool : kitB "tuple" "bool" = some false := by decide +kernel
theorem kB_tuple_int : kitB "tuple" "int" = some false := by decide +kernel
theorem kB_tuple_dict : kitB "tuple" "dict" = some false := by decide +kernel
theorem kB_tuple_tuple : kitB "tuple" "tuple" = some true := by decide +kernel
theorem kB_tuple_list : kitB "tuple" "list" = some false := by decide +kernel
theorem kB_dict_str : kitB "dict" "str" = some false := by decide +kernel
theorem kB_dict_bool : kitB "dict" "bool" = some false := by decide +kernel
theorem kB_dict_int : kitB "dict" "int" = some false := by decide +kernel
theorem kB_dict_dict : kitB "dict" "dict" = some true := by decide +kernel
theorem kB_dict_tuple : kitB "dict" "tuple" = some false := by decide +kernel
theorem kB_dict_list : kitB "dict" "list" = some false := by decide +kernel
theorem kitAny2 {K : PySem.W.Frag} {a b c : String} {r s : Bool} (h1 : kitB a b = some r) (h2 : kitB a c = some s) : PySem.W.kitAny K (.type a) [.type b, .type c] = some (r || s) := by
  refine kitAny_cons (kit_ty h1) (fun e => ?_) (fun e => ?_)
  · refine kitAny_cons (kit_ty h2) (fun e2 => ?_) (fun e2 => ?_)
    · rw [e, e2]
      rfl
    · rw [e, e2]
      rfl
  · rw [e]
    rfl
theorem cls2 (b c : String) : Paired ClsV [V.ty b, V.ty c] [.type b, .type c] := .cons (.ty b) (.cons (.ty c) .nil)
theorem tyx_L {K : PySem.W.Frag} {H : Hp} {a : Addr} {xs : List V} (h : SqL K H a xs) : TyX K H (.ref a) (.type "list") := by
  rcases h with (h | ⟨o, h⟩) | ⟨o, its, n, h, c, _⟩
  · exact .base (.lst h)
  · exact .base (.frz h)
  · exact .kList h c
theorem tyx_T {K : PySem.W.Frag} {H : Hp} {a : Addr} {xs : List V} (h : SqT K H a xs) : TyX K H (.ref a) (.type "tuple") := by
  rcases h with (h | ⟨o, h⟩) | ⟨o, its, n, h, c, _⟩
  · exact .base (.tup h)
  · exact .fTuple h
  · exact .kTuple h c
/-- zip over two tuples -/
theorem walk_zipT {K : PySem.W.Frag} {a b : Addr} {xs ys : List V} {n : Nat} (hn : n = min xs.length ys.length) : Walk (RZ.ItzT K a b) n (fun H => SqT K H a xs ∧ SqT K H b ys) (YPair (fun i => xs[i]?) (fun i => ys[i]?)) := by
  subst hn
  refine ⟨fun i H hi g => ?_, fun H g => ⟨xs, ys, g.1, g.2, by omega⟩, fun i H x H' hi g y => ?_⟩
  · have h1 : i < xs.length := by omega
    have h2 : i < ys.length := by omega
    exact ⟨xs, ys, xs[i], ys[i], g.1, g.2, List.getElem?_eq_getElem h1, List.getElem?_eq_getElem h2⟩
  · obtain ⟨T, x1, y1, e1, n1, e2, f1, f2⟩ := y
    exact ⟨T, x1, y1, e1, n1, e2, f1 xs g.1, f2 ys g.2⟩

/-! ### heaps -/
theorem same_upd {H : Hp} {p : Addr} {o : HO} (h : H p = none) : Same H (upd H p o) := fun b x e => by
  rw [upd_ne (ne_of_none e h)]
  exact e
/-- all that was tracked but what stands at b is as it was -/
def But (b : Addr) (H H' : Hp) : Prop := ∀ c o, H c = some o → c ≠ b → H' c = some o
theorem But.refl (b : Addr) (H : Hp) : But b H H := fun _ _ h _ => h
theorem But.trans {b : Addr} {H H1 H2 : Hp} (a : But b H H1) (c : But b H1 H2) : But b H H2 := fun d o h n => c d o (a d o h n) n
theorem But.of_same {b : Addr} {H H' : Hp} (s : Same H H') : But b H H' := fun c o h _ => s c o h
theorem But.upd {b : Addr} {H : Hp} {o : HO} : But b H (upd H b o) := fun c x h n => by rw [upd_ne n]; exact h
theorem But.new {b p : Addr} {H : Hp} {o : HO} (h : H p = none) : But b H (L2.upd H p o) := But.of_same (same_upd h)
theorem But.mutNew {b p : Addr} {H H' : Hp} {o : HO} (h : But b H H') (n : H p = none) : But b H (L2.upd H' p o) := fun c x e nc => by
  rw [upd_ne (ne_of_none e n)]
  exact h c x e nc
theorem But.free {b p : Addr} {H H' : Hp} (s : But b H H') (hb : ∃ o, H' b = some o) (n : H' p = none) : H p = none := by
  cases e : H p with
  | none => rfl
  | some o =>
    by_cases h : p = b
    · obtain ⟨u, hu⟩ := hb
      rw [h, hu] at n
      cases n
    · rw [s p o e h] at n
      cases n
theorem SqL.but {K : PySem.W.Frag} {b a : Addr} {H H' : Hp} {xs : List V} (s : But b H H') (n : a ≠ b) (h : SqL K H a xs) : SqL K H' a xs := by
  rcases h with (h | ⟨o, h⟩) | h
  · exact .inl (.inl (s _ _ h n))
  · exact .inl (.inr ⟨o, s _ _ h n⟩)
  · exact .inr h
theorem Same.seqT {K : PySem.W.Frag} {H H' : Hp} {a : Addr} {xs : List V} (e : Same H H') (h : SqT K H a xs) : SqT K H' a xs := by
  rcases h with (h | ⟨o, h⟩) | h
  · exact .inl (.inl (e _ _ h))
  · exact .inl (.inr ⟨o, e _ _ h⟩)
  · exact .inr h
theorem lc {σ : St} {H : Hp} {Q : VK} {wi : TI} {g : TG} {tt : TT} {te : TE} {vs : List Nat}
    (q : wi σ H fun J H1 => ∀ D, H1 D = none → ∃ W : Nat → Nat → Hp → Prop, (∃ m, W 0 m (upd H1 D (.lst []))) ∧ ∀ i m H, W i m H →
  (J.stop i H ∧ Q (.ref D) H) ∨ (J.go i H ∧ ∃ Nx : Hp → Prop, (∀ H', Nx H' → ∃ m', m' < m ∧ W (i + 1) m' H') ∧ ∀ x H', J.yld i H x H' → g x (wipe σ vs) H' fun σ2 H2 => wipe σ2 vs = wipe σ vs ∧ tt σ2 H2 fun b H3 =>
    if b = true then te σ2 H3 fun y H4 => ∃ acc, H4 D = some (.lst acc) ∧ acc.length < sizeLine ∧ Nx (upd H4 D (.lst (acc ++ [y]))) else Nx H3)) : tLc wi g tt te vs σ H Q := q
theorem disp {σ : St} {H : Hp} {Q : VK} {trs : List (TE × TE)} (q : ∀ p, H p = none → tPairs trs σ (upd H p (.dK [])) fun ps H2 => H2 p = some (.dK []) ∧ ∃ kvs : List (Key × V), ps = kvs.map (fun kv => (kV kv.1, kv.2)) ∧ kvs.length ≤ 15 ∧ Q (.ref p) (upd H2 p (.dK (mergeK [] kvs)))) : tDisp trs σ H Q := q
theorem pnil {σ : St} {H : Hp} {k : List (V × V) → Hp → Prop} (q : k [] H) : tPairs [] σ H k := q
theorem pcons {σ : St} {H : Hp} {k : List (V × V) → Hp → Prop} {tk tv : TE} {r : List (TE × TE)} (q : tk σ H fun x H1 => tv σ H1 fun y H2 => tPairs r σ H2 fun ps H3 => k ((x, y) :: ps) H3) : tPairs ((tk, tv) :: r) σ H k := q
theorem dget2 {σ : St} {H : Hp} {Q : VK} {td ty tx : TE} (q : td σ H fun x H1 => ∃ a, x = .ref a ∧ IsD H1 a ∧ ty σ H1 fun y H2 => tx σ H2 fun z H3 => ∃ o, DGet H3 a y o ∧ Q (o.getD z) H3) : tDGet2 td ty tx σ H Q := q
theorem iz {K : PySem.W.Frag} {σ : St} {H : Hp} {aa : TA} {R : It → Hp → Prop} (q : aa σ H fun vs H1 => ∃ a b xs ys, vs = [.ref a, .ref b] ∧ ((SqL K H1 a xs ∧ SqL K H1 b ys ∧ R (Itz K a b) H1) ∨ (SqT K H1 a xs ∧ SqT K H1 b ys ∧ R (RZ.ItzT K a b) H1))) : RZ.iZipA K aa σ H R := q
theorem tyes {σ : St} {H : Hp} {QT : Bool → Hp → Prop} (q : QT true H) : tYes σ H QT := q
theorem cxK {CX : CXT} {P : Program} {w : World} {K : PySem.W.Frag} {mg : Str → Option Value} {base : Heap} {N : List Str} {qual : Str} {sc : Scope} {f : Addr} {cd : Value} {A : Around} {outer : List Env} {s : Shared} {H : Hp} {E : XK} :
    (cxOf CX P w K mg base N qual sc f cd A outer s H E).nox.K = K := rfl
theorem cxKx {CX : CXT} {P : Program} {w : World} {K : PySem.W.Frag} {mg : Str → Option Value} {base : Heap} {N : List Str} {qual : Str} {sc : Scope} {f : Addr} {cd : Value} {A : Around} {outer : List Env} {s : Shared} {H : Hp} {E : XK} :
    (cxOf CX P w K mg base N qual sc f cd A outer s H E).K = K := rfl
theorem map_at {α : Type} {g : α → V} {l : List α} {i : Nat} {y : V} (h : (l.map g)[i]? = some y) : ∃ u, l[i]? = some u ∧ y = g u := by
  rw [List.getElem?_map] at h
  cases e : l[i]? with
  | none =>
    rw [e] at h
    cases h
  | some u =>
    rw [e] at h
    exact ⟨u, rfl, (Option.some.inj h).symm⟩
theorem cut_map (ns : List Int) (lo hi : Option Int) : ∃ ms : List Int, cutV (ns.map V.int) lo hi = ms.map V.int ∧ ms.length ≤ ns.length := by
  refine ⟨(ns.drop (HT.sIx (ns.map V.int).length 0 lo)).take (HT.sIx (ns.map V.int).length (ns.map V.int).length hi - HT.sIx (ns.map V.int).length 0 lo), ?_, ?_⟩
  · unfold cutV
    rw [List.map_take, List.map_drop]
  · rw [List.length_take, List.length_drop]
    omega
theorem un0 {H : Hp} {a b : Addr} {o : HO} (e : upd H a o b = none) : H b = none := by
  by_cases h : b = a
  · rw [h, upd_same] at e
    cases e
  · rw [upd_ne h] at e
    exact e
theorem upd2 {H : Hp} {a b : Addr} {o x : HO} (h : b ≠ a) (e : H b = some x) : upd H a o b = some x := by
  rw [upd_ne h]
  exact e
/-! ### texts -/
theorem cut_to (l : List Nat) {k : Int} (h : 0 ≤ k) : cutS (SX.S l) none (some k) = SX.S (l.take k.toNat) := by
  rw [C8.cutS_slice]
  exact SX.slice_to h
theorem cut_from (l : List Nat) {k : Int} (h : 0 ≤ k) : cutS (SX.S l) (some k) none = SX.S (l.drop k.toNat) := by
  rw [C8.cutS_slice]
  exact SX.slice_from h
theorem join_signs : ∀ cs : List Nat, TL.joinL [] (cs.map fun c => [c]) = cs
  | [] => rfl
  | [c] => rfl
  | c :: d :: r => by
    have ih := join_signs (d :: r)
    show [c] ++ ([] ++ TL.joinL [] ((d :: r).map fun c => [c])) = c :: d :: r
    rw [ih]
    rfl
theorem join_sg (cs : List Nat) : Txt.join (SX.S []) (cs.map fun c => (⟨#[c]⟩ : Str)) = SX.S cs := by
  have e : (cs.map fun c => (⟨#[c]⟩ : Str)) = (cs.map fun c => [c]).map SX.S := by
    rw [List.map_map]
    rfl
  rw [e, SX.join_S, join_signs]
theorem S_len0 : (SX.S []).length = 0 := rfl
theorem empty_S : Str.ofString "" = SX.S [] := by decide +kernel
theorem len_sg : ∀ cs : List Nat, ((cs.map fun c => (⟨#[c]⟩ : Str)).map (·.length)).sum = cs.length
  | [] => rfl
  | c :: r => by
    rw [List.map_cons, List.map_cons, List.sum_cons, len_sg r, List.length_cons]
    show 1 + r.length = r.length + 1
    omega
/-! ### [p(sign) for sign in text] -/
theorem lc_signs {l : List Nat} {p : Nat → Bool} {k : Nat} {te : TE} {vs : List Nat} {σ : St} {H1 : Hp} {D : Addr} {Qd : Hp → Prop}
    (hte : ∀ (c : Nat) (H' : Hp) (Q' : VK), c ∈ l → Q' (.bl (p c)) H' → te ((wipe σ vs).set k (some (.str ⟨#[c]⟩))) H' Q') (hw : ∀ v, wipe ((wipe σ vs).set k v) vs = wipe σ vs) (hl : l.length ≤ 100000)
    (hd : Qd (upd H1 D (.lst ((l.map p).map V.bl)))) :
    ∃ W : Nat → Nat → Hp → Prop, (∃ m, W 0 m (upd H1 D (.lst []))) ∧ ∀ i m H, W i m H →
      ((Its (SX.S l)).stop i H ∧ Qd H) ∨ ((Its (SX.S l)).go i H ∧ ∃ Nx : Hp → Prop, (∀ H', Nx H' → ∃ m', m' < m ∧ W (i + 1) m' H') ∧ ∀ x H', (Its (SX.S l)).yld i H x H' → gName k x (wipe σ vs) H' fun σ2 H2 => wipe σ2 vs = wipe σ vs ∧ tYes σ2 H2 fun b H3 =>
        if b = true then te σ2 H3 fun y H4 => ∃ acc, H4 D = some (.lst acc) ∧ acc.length < sizeLine ∧ Nx (upd H4 D (.lst (acc ++ [y]))) else Nx H3) := by
  have hz : (SX.S l).cps.size = l.length := by simp [SX.S]
  refine lc_it (walk_str (z := SX.S l)) (fun i H' => H' = upd H1 D (.lst (((l.take i).map p).map V.bl))) rfl (fun _ _ _ _ => trivial) ?_ ?_
  · rintro i x H H' hi rfl ⟨rfl, c, hc, rfl⟩
    have hc2 : l[i]? = some c := by
      have e : (SX.S l).cps[i]? = l[i]? := by simp [SX.S]
      rw [← e]
      exact hc
    have hm : c ∈ l := List.mem_of_getElem? hc2
    refine ⟨hw _, ?_⟩
    with_reducible refine Rg.tyes ?_
    with_reducible refine iteT ?_
    refine hte c _ _ hm ⟨_, upd_same, ?_, ?_⟩
    · rw [List.length_map, List.length_map, List.length_take, sizeLine_eq]
      omega
    · rw [upd_upd, List.take_add_one, hc2, List.map_append, List.map_append]
      rfl
  · rintro H rfl
    rw [hz, List.take_length]
    exact hd
theorem sgn_lt (a b : Nat) : decide (([a] : List Nat) < [b]) = decide (a < b) := by
  refine decide_eq_decide.mpr ⟨fun h => ?_, fun h => ?_⟩
  · cases h with
    | rel h => exact h
    | cons h => cases h
  · exact List.Lex.rel h
theorem sg_eq (a b : Nat) : decide ((⟨#[a]⟩ : Str) = ⟨#[b]⟩) = decide (a = b) := by
  refine decide_eq_decide.mpr ⟨fun h => ?_, fun h => by rw [h]⟩
  have e : ([a] : List Nat) = [b] := congrArg (fun x : Str => x.cps.toList) h
  injection e
theorem str_S (z : Str) : z = SX.S z.cps.toList := (SX.S_tl z).symm
theorem fold_rep (c : Nat) : ∀ (k : Nat) (acc : Array Nat), ((List.replicate k #[c]).foldl (· ++ ·) acc).toList = acc.toList ++ List.replicate k c
  | 0, acc => by simp
  | k + 1, acc => by
    rw [List.replicate_succ, List.foldl_cons, fold_rep c k, List.replicate_succ]
    simp
theorem mul_S (c : Nat) {n : Int} (h : 0 ≤ n) : Txt.mul (SX.S [c]) n = SX.S (List.replicate n.toNat c) := by
  unfold Txt.mul
  by_cases h1 : n < 1
  · rw [if_pos h1]
    have e : n = 0 := by omega
    subst e
    rfl
  · rw [if_neg h1]
    by_cases h2 : n = 1
    · subst h2
      rfl
    · rw [if_neg (by
        have : (SX.S [c]).length = 1 := rfl
        rw [this]
        simp [h2])]
      refine TL.ext_tl ?_
      have e := fold_rep c n.toNat #[]
      exact e
end Rg

namespace Pf
open PySem L2 Rg
local macro_rules | `(tactic| k_extra "hp") => `(tactic| first
  | assumption
  | exact SqL.of (by assumption) | exact SqT.of (by assumption) | exact SqL.of upd_same | exact SqT.of upd_same
  | exact upd_same
  | exact Or.inl (SqL.of (by assumption)) | exact Or.inl (SqL.of upd_same) | exact Or.inl (by assumption) | exact Or.inr (by assumption)
  | exact Or.inr (SqT.of (by assumption)) | exact Or.inr (SqT.of upd_same))
local macro_rules | `(tactic| k_extra "sz") => `(tactic| first | assumption | exact Nat.le_of_ble_eq_true rfl | (simp only [sizeLine_eq]; omega) | (rw [sizeLine_eq]; decide) | omega | decide)
local macro_rules | `(tactic| k_extra "ar") => `(tactic| first | assumption | omega | decide | (exact ⟨by omega, by omega⟩) | (exact Or.inl ⟨by omega, by omega⟩) | (exact Or.inr ⟨by omega, by omega⟩))
local macro_rules | `(tactic| k_extra "ty") => `(tactic| first | assumption | exact .base (.str _) | exact .base (.int _) | exact .base (.bl _) | exact .base .non | exact tyx_L (by assumption) | exact tyx_T (by assumption) | exact .base (.tup (by assumption)) | exact .base (.lst (by assumption)) | exact .base (.tup upd_same) | exact .base (.lst upd_same))
local macro_rules | `(tactic| k_extra "kb") => `(tactic| first | exact kit_ty kB_NoneType_str | exact kit_ty kB_NoneType_bool | exact kit_ty kB_NoneType_int | exact kit_ty kB_NoneType_dict | exact kit_ty kB_NoneType_tuple | exact kit_ty kB_NoneType_list | exact kit_ty kB_bool_str | exact kit_ty kB_bool_bool | exact kit_ty kB_bool_int | exact kit_ty kB_bool_dict | exact kit_ty kB_bool_tuple | exact kit_ty kB_bool_list | exact kit_ty kB_int_str | exact kit_ty kB_int_bool | exact kit_ty kB_int_int | exact kit_ty kB_int_dict | exact kit_ty kB_int_tuple | exact kit_ty kB_int_list | exact kit_ty kB_str_str | exact kit_ty kB_str_bool | exact kit_ty kB_str_int | exact kit_ty kB_str_dict | exact kit_ty kB_str_tuple | exact kit_ty kB_str_list | exact kit_ty kB_list_str | exact kit_ty kB_list_bool | exact kit_ty kB_list_int | exact kit_ty kB_list_dict | exact kit_ty kB_list_tuple | exact kit_ty kB_list_list | exact kit_ty kB_tuple_str | exact kit_ty kB_tuple_bool | exact kit_ty kB_tuple_int | exact kit_ty kB_tuple_dict | exact kit_ty kB_tuple_tuple | exact kit_ty kB_tuple_list | exact kit_ty kB_dict_str | exact kit_ty kB_dict_bool | exact kit_ty kB_dict_int | exact kit_ty kB_dict_dict | exact kit_ty kB_dict_tuple | exact kit_ty kB_dict_list)
local macro_rules | `(tactic| k_extra "r1") => `(tactic| with_reducible first
  | refine Rg.mkNx ?_ | refine Rg.mkRt ?_ | refine Rg.mkCt ?_ | refine Rg.mkBk ?_
  | refine Rg.seq ?_ | refine Rg.asg ?_ | refine Rg.gname ?_ | refine Rg.cst ?_ | refine Rg.op ?_ | refine Rg.un ?_ | refine Rg.chain ?_
  | refine Rg.exbl ?_ | refine Rg.exint ?_ | refine Rg.expair ?_ | refine Rg.exstr ?_
  | refine Rg.eqI ?_ | refine Rg.neI ?_ | refine Rg.eqStr ?_ | refine Rg.neStr ?_ | refine Rg.eqB_truetrue ?_ | refine Rg.neB_truetrue ?_ | refine Rg.eqB_truefalse ?_ | refine Rg.neB_truefalse ?_ | refine Rg.eqB_falsetrue ?_ | refine Rg.neB_falsetrue ?_ | refine Rg.eqB_falsefalse ?_ | refine Rg.neB_falsefalse ?_ | refine Rg.eqB ?_ | refine Rg.neB ?_ | refine Rg.iI0 ?_ | refine Rg.iU ?_ | refine Rg.addI ?_ | refine Rg.leI ?_ | refine Rg.leS ?_ | refine Rg.inS ?_ | refine Rg.ninS ?_ | refine Rg.isN_int ?_ | refine Rg.notN_int ?_ | refine Rg.isN_str ?_ | refine Rg.notN_str ?_ | refine Rg.isN_bl ?_ | refine Rg.notN_bl ?_ | refine Rg.isN_ref ?_ | refine Rg.notN_ref ?_ | refine Rg.isN_non ?_ | refine Rg.notN_non ?_ | refine Rg.isN ?_ | refine Rg.notN ?_
  | refine Rg.sl ?_ | refine Rg.noPart ?_ | refine Rg.part ?_ | refine Rg.test ?_ | refine Rg.tb_ ?_ | refine Rg.tand ?_ | refine Rg.tor ?_ | refine Rg.tnot ?_
  | refine Rg.andV ?_ | refine Rg.orV ?_ | refine Rg.notV ?_ | refine Rg.ife ?_
  | refine Rg.nxt ?_ | refine Rg.brk ?_ | refine Rg.cnt ?_ | refine Rg.drp ?_ | refine Rg.ret ?_ | refine Rg.retN ?_ | refine Rg.ifS ?_ | refine Rg.par ?_ | refine Rg.gsub ?_
  | refine Rg.gcons ?_ | refine Rg.gnil ?_ | refine Rg.anil ?_ | refine Rg.acons ?_ | refine Rg.callC ?_ | refine Rg.callK ?_ | refine Rg.callB ?_ | refine Rg.intI ?_
  | refine Rg.lc ?_ | refine Rg.pnil ?_ | refine Rg.pcons ?_ | refine Rg.dget2 ?_ | refine Rg.tyes ?_ | refine Rg.lst_ ?_ | refine Rg.tup_ ?_ | refine Rg.m1 ?_ | refine Rg.isStr ?_ | refine Rg.for_ ?_ | refine Rg.bm ?_ | refine Rg.bm0 ?_ | refine Rg.il ?_ | refine Rg.ir1 ?_ | refine Rg.is_ ?_ | refine Rg.iz ?_
  | refine iteT ?_ | refine iteF ?_)
local macro_rules | `(tactic| k_extra "r") => `(tactic| first
  | k_extra "r1"
  | ((with_reducible refine' Rg.var ?h ?_); (case h => exact rfl))
  | ((with_reducible refine' Rg.iI ?h ?_); (case h => k_extra "ar"))
  | ((with_reducible refine' Rg.mulI ?h ?_); (case h => k_extra "ar"))
  | ((with_reducible refine' Rg.eqS ?h ?_); (case h => exact rfl))
  | ((with_reducible refine' Rg.neS ?h ?_); (case h => exact rfl))
  | ((with_reducible refine' Rg.addS ?h ?_); (case h => k_extra "sz"))
  | ((with_reducible refine' Rg.isi ?h ?h1 ?_); (case h => k_extra "ty"); (case h1 => with_reducible k_extra "kb"))
  | ((with_reducible refine' Rg.lenS ?h ?_); (case h => k_extra "sz"))
  | ((with_reducible refine' Rg.lenL ?h ?_); (case h => k_extra "hp"))
  | ((with_reducible refine' Rg.lenT ?h ?_); (case h => k_extra "hp"))
  | ((with_reducible refine' Rg.ixL ?h ?h1 ?_); (case h => k_extra "hp"); (case h1 => exact rfl))
  | ((with_reducible refine' Rg.ixT ?h ?h1 ?_); (case h => k_extra "hp"); (case h1 => exact rfl))
  | ((with_reducible refine' Rg.setL ?h ?h1 ?_); (case h => k_extra "hp"); (case h1 => exact rfl))
  | ((with_reducible refine' Rg.slS ?h ?_); (case h => k_extra "sz"))
  | ((with_reducible refine' Rg.exl ?h ?_); (case h => exact ⟨_, by k_extra "hp"⟩))
  | ((with_reducible refine' Rg.exr1 ?h1 ?h2 ?_); (case h1 => omega); (case h2 => omega))
  | ((with_reducible refine' Rg.gtup ?h ?h1 ?_); (case h => k_extra "hp"); (case h1 => exact rfl)))
local macro_rules | `(tactic| k_extra "rr") => `(tactic| repeat (k_extra "r"))

def top (i : Nat) : Stmt := PySem.Challenge.pw_rubgrove_k01_kinds_and_texts.main.body.getD i (.Pass ⟨0, 0, 0, 0⟩)
abbrev s_is_word : Stmt := top 5
abbrev s_is_kind : Stmt := top 6
abbrev s_is_sign : Stmt := top 7
abbrev s_is_text : Stmt := top 8
abbrev s_law_bag : Stmt := top 10
abbrev s_law_take : Stmt := top 11
abbrev s_law_of : Stmt := top 12
abbrev s_law_words : Stmt := top 13
abbrev s_law_sign_text : Stmt := top 14
abbrev s_law_alike : Stmt := top 15
abbrev s_law : Stmt := top 16
theorem sc_is_word : FnScope ["value", "most", "sign"] ["value", "most"] (defScope s_is_word) := ⟨rfl, rfl, rfl, by decide +kernel, rfl, by decide +kernel, by decide +kernel⟩
theorem sc_is_kind : FnScope ["value"] ["value"] (defScope s_is_kind) := ⟨rfl, rfl, rfl, by decide +kernel, rfl, by decide +kernel, by decide +kernel⟩
theorem sc_is_sign : FnScope ["sign"] ["sign"] (defScope s_is_sign) := ⟨rfl, rfl, rfl, by decide +kernel, rfl, by decide +kernel, by decide +kernel⟩
theorem sc_is_text : FnScope ["value", "sign"] ["value"] (defScope s_is_text) := ⟨rfl, rfl, rfl, by decide +kernel, rfl, by decide +kernel, by decide +kernel⟩
theorem sc_law_bag : FnScope ["_law_script", "_law_row", "_law_mark", "_law_cell"] ["_law_script"] (defScope s_law_bag) := ⟨rfl, rfl, rfl, by decide +kernel, rfl, by decide +kernel, by decide +kernel⟩
theorem sc_law_take : FnScope ["_law_bag_z", "_law_many", "_law_cell", "_law_mixed", "_law_found"] ["_law_bag_z", "_law_many"] (defScope s_law_take) := ⟨rfl, rfl, rfl, by decide +kernel, rfl, by decide +kernel, by decide +kernel⟩
theorem sc_law_of : FnScope ["_law_bag_z", "_law_things"] ["_law_bag_z", "_law_things"] (defScope s_law_of) := ⟨rfl, rfl, rfl, by decide +kernel, rfl, by decide +kernel, by decide +kernel⟩
theorem sc_law_words : FnScope ["_law_bag_z", "_law_many", "_law_most", "_law_letters", "_law_stem", "_law_at", "_law_start", "_law_found", "_law_fixed", "_law_k", "_law_word"] ["_law_bag_z", "_law_many", "_law_most"] (defScope s_law_words) := ⟨rfl, rfl, rfl, by decide +kernel, rfl, by decide +kernel, by decide +kernel⟩
theorem sc_law_sign_text : FnScope ["_law_bag_z", "_law_most", "_law_signs", "_law_k"] ["_law_bag_z", "_law_most"] (defScope s_law_sign_text) := ⟨rfl, rfl, rfl, by decide +kernel, rfl, by decide +kernel, by decide +kernel⟩
theorem sc_law_alike : FnScope ["_law_found", "_law_due", "_law_key", "_law_one", "_law_two"] ["_law_found", "_law_due"] (defScope s_law_alike) := ⟨rfl, rfl, rfl, by decide +kernel, rfl, by decide +kernel, by decide +kernel⟩
theorem sc_law : FnScope ["_law_script", "_law_bag_z", "_law_letters", "_law_turn", "_law_word", "_law_text", "_law_odd", "_law_at", "_law_bent", "_law_value_z", "_law_is_word_z", "_law_fits_z", "_law_sign"] ["_law_script"] (defScope s_law) := ⟨rfl, rfl, rfl, by decide +kernel, rfl, by decide +kernel, by decide +kernel⟩
/-- what the text's names are -/
structure Txt (mg : Str → Option Value) : Prop where
  len : mg "len" = none
  int : mg "int" = none
  range : mg "range" = none
  isinstance : mg "isinstance" = none
  all : mg "all" = none
  list : mg "list" = none
  tuple : mg "tuple" = none
  str : mg "str" = none
  sorted : mg "sorted" = none
  zip : mg "zip" = none
  bool : mg "bool" = none
  dict : mg "dict" = none
  g_SMALL : ∃ u, mg "SMALL" = some u ∧ RelV (.str "abcdefghijklmnopqrstuvwxyz") u
  g_REST : ∃ u, mg "REST" = some u ∧ RelV (.str "rest") u
  g_MOST_LETTERS : ∃ u, mg "MOST_LETTERS" = some u ∧ RelV (.int 6) u
  g_MOST_SIGNS : ∃ u, mg "MOST_SIGNS" = some u ∧ RelV (.int 20) u
/-! ### the bag -/
def BagAt (H : Hp) (p r : Addr) : Prop := ∃ (ns : List Int) (i c m : Int), H p = some (.lst [.ref r, .int i, .int c, .int m]) ∧ H r = some (.lst (ns.map V.int)) ∧ ns.length ≤ 63 ∧ 0 ≤ i ∧ 0 ≤ c ∧ 0 ≤ m ∧ m < 2147483629
theorem bag_ne {H : Hp} {p r : Addr} {ns : List Int} {i c m : V} (h : H p = some (.lst [.ref r, i, c, m])) (h' : H r = some (.lst (ns.map V.int))) : r ≠ p := by
  rintro rfl
  rw [h] at h'
  have e := Option.some.inj h'
  injection e with e
  cases ns with
  | nil => cases e
  | cons x l =>
    rw [List.map_cons] at e
    cases e
theorem BagAt.ne_none {H : Hp} {b r p : Addr} (h : BagAt H b r) (e : H p = none) : p ≠ b ∧ p ≠ r := by
  obtain ⟨ns, i, c, m, h1, h2, _⟩ := h
  exact ⟨(ne_of_none h1 e).symm, (ne_of_none h2 e).symm⟩
theorem BagAt.ex {H : Hp} {b r : Addr} (h : BagAt H b r) : ∃ o, H b = some o := by
  obtain ⟨ns, i, c, m, h1, h2, _⟩ := h
  exact ⟨_, h1⟩
theorem BagAt.same {H H' : Hp} {b r : Addr} (h : BagAt H b r) (s : Same H H') : BagAt H' b r := by
  obtain ⟨ns, i, c, m, h1, h2, h3⟩ := h
  exact ⟨ns, i, c, m, s _ _ h1, s _ _ h2, h3⟩
theorem BagAt.new {H : Hp} {b r p : Addr} {o : HO} (h : BagAt H b r) (n : H p = none) : BagAt (upd H p o) b r := h.same (same_upd n)
/-- what was not there when the bag stood there may change -/
theorem BagAt.mut {H H1 : Hp} {b r p : Addr} {o : HO} (h : BagAt H b r) (h1 : BagAt H1 b r) (n : H1 p = none) : BagAt (upd H p o) b r := by
  obtain ⟨n1, n2⟩ := h1.ne_none n
  obtain ⟨ns, i, c, m, h1, h2, h3⟩ := h
  exact ⟨ns, i, c, m, by rw [upd_ne n1.symm]; exact h1, by rw [upd_ne n2.symm]; exact h2, h3⟩
def spBag (K : PySem.W.Frag) : Sp := fun vs H Q _ => ∃ (a : Addr) (ns : List Int), vs = [.ref a] ∧ SqL K H a (ns.map V.int) ∧ ns.length ≤ 63 ∧
  ∀ (H' : Hp) (p r : Addr), Same H H' → H p = none → BagAt H' p r → Q (.ref p) H'
def spTake : Sp := fun vs H Q _ => ∃ (b r : Addr) (many : Int), vs = [.ref b, .int many] ∧ BagAt H b r ∧ 1 ≤ many ∧ many < 1073741824 ∧
  ∀ (k : Int) (H' : Hp), But b H H' → BagAt H' b r → 0 ≤ k → k < many → Q (.int k) H'
section
variable {P : Program} {w : World} {K : PySem.W.Frag} {mg : Str → Option Value} {base : Heap} {f : Addr} {fd : FuncData}
theorem ok_law_bag (F : Fun K "_law_bag" "_law_bag" s_law_bag f fd) (T : Txt mg) : FnOk P w K mg base CX0 1 f fd ["_law_script"] (spBag K) := by
  refine F.ok sc_law_bag (fun vs H Q E h => ?_) (fun cdv A outer s H vs Q E hr h => ?_)
  · obtain ⟨a, ns, rfl, _⟩ := h
    rfl
  · obtain ⟨a, ns, rfl, hS, hl, q⟩ := h
    refine ⟨_, (pss_cons (ps_set (i := 1) sc_law_bag.nd rfl (.inl rfl) (pe_callTy (cr_list K) (by rfl) T.list (by decide +kernel) (pa_cons (pe_slice (sl_X K) (pv 0) po_none (po_some pe_int)) pa_nil)))
      (pss_cons (ps_set (i := 2) sc_law_bag.nd rfl (.inl rfl) (pe_op (op_addX K) pe_int (pe_op op_mulX pe_int (pe_callB (call_lenX K) (by rfl) T.len PySem.boot_len (pa_cons (pv 1) pa_nil)))))
      (pss_cons (ps_for PassesOwn.never rfl (pi_listX K (pv 1)) (pg_name (i := 3) sc_law_bag.nd rfl (.inl rfl)) (pss_one (ps_set (i := 2) sc_law_bag.nd rfl (.inl rfl) (pe_op op_mod (pe_callTy cr_int (by rfl) T.int (by decide +kernel) (pa_cons (pe_op (op_addX K) (pe_op (op_addX K) (pe_op op_mulX (pv 2) pe_int) (pe_op op_mod (pe_callTy cr_int (by rfl) T.int (by decide +kernel) (pa_cons (pv 3) pa_nil)) pe_int)) pe_int) pa_nil)) pe_int))))
      (pss_one (ps_ret (pe_lst (pa_cons (pv 1) (pa_cons pe_int (pa_cons pe_int (pa_cons (pv 2) pa_nil)))))))))), ?_⟩
    change (_ : TS) _ [some (V.ref a), none, none, none] _
    k_extra "rr"
    refine slL hS fun l nl => ?_
    obtain ⟨ms, em, hm⟩ := cut_map ns none (some 63)
    rw [em]
    k_extra "rr"
    refine listL (SqL.of upd_same) fun r nr => ?_
    have nrl : l ≠ r := ne_of_none upd_same nr
    have nr0 : H r = none := un0 nr
    k_extra "rr"
    have hm63 : ms.length ≤ 63 := by omega
    have elen : ((ms.map V.int).length : Int) ≤ 63 := by rw [List.length_map]; omega
    have s2 : Same H (upd (upd H l (.lst (ms.map V.int))) r (.lst (ms.map V.int))) := (same_upd nl).trans (same_upd nr)
    refine for_list (K := K) (a := r) (xs := ms.map V.int) (fun i σ H' => ∃ (m : Int) (v : Option V), σ = [some (.ref a), some (.ref r), some (.int m), v] ∧ 0 ≤ m ∧ m < 2147483629 ∧ H' = upd (upd H l (.lst (ms.map V.int))) r (.lst (ms.map V.int)))
      ⟨_, none, rfl, by omega, by omega, rfl⟩ (fun i σ H' _ ⟨_, _, _, _, _, e⟩ => by rw [e]; exact SqL.of upd_same) ?_ ?_
    · rintro i y σ H' hi ⟨m, v, rfl, m0, m1, rfl⟩
      obtain ⟨u, hu, rfl⟩ := map_at hi
      k_extra "rr"
      have h1 := Int.emod_nonneg (m * 45161 + u % 2147483423 + 11) (show (2147483549 : Int) ≠ 0 by decide)
      have h2 := Int.emod_lt_of_pos (m * 45161 + u % 2147483423 + 11) (show (0 : Int) < 2147483549 by decide)
      exact ⟨_, _, rfl, h1, by omega, rfl⟩
    · rintro σ H' ⟨m, v, rfl, m0, m1, rfl⟩
      k_extra "rr"
      refine ⟨by k_extra "sz", fun p np => ?_⟩
      k_extra "rr"
      have nrp : r ≠ p := ne_of_none upd_same np
      refine q _ p r (s2.trans (same_upd np)) (s2.free np) ⟨ms, 0, 0, m, upd_same, upd2 nrp upd_same, hm63, by decide, by decide, m0, m1⟩
end

section
variable {P : Program} {w : World} {K : PySem.W.Frag} {mg : Str → Option Value} {base : Heap} {f : Addr} {fd : FuncData}
theorem ok_law_take (F : Fun K "_law_take" "_law_take" s_law_take f fd) (T : Txt mg) : FnOk P w K mg base CX0 1 f fd ["_law_bag_z", "_law_many"] spTake := by
  refine F.ok sc_law_take (fun vs H Q E h => ?_) (fun cdv A outer s H vs Q E hr h => ?_)
  · obtain ⟨b, r, many, rfl, _⟩ := h
    rfl
  · obtain ⟨b, r, many, rfl, ⟨ns, i, c, m, hb, hn, hl, i0, c0, m0, m1⟩, k1, k2, q⟩ := h
    refine ⟨_, (C8.pss_cut (ps_if (PW.pt (pw_and (pt_cmpR (op_eqX K hr) (pe_ix (ix_X K) (pv 0) pe_int (fun _ _ => rfl)) pe_int (nomark _)) (pw_and1 (pt_cmpR op_lt (pe_ix (ix_X K) (pv 0) pe_int (fun _ _ => rfl)) (pe_callB (call_lenX K) (by rfl) T.len PySem.boot_len (pa_cons (pe_ix (ix_X K) (pv 0) pe_int (fun _ _ => rfl)) pa_nil)) (nomark _))))) (pss_cons (ps_set (i := 2) sc_law_take.nd rfl (.inl rfl) (pe_ix (ix_X K) (pe_ix (ix_X K) (pv 0) pe_int (fun _ _ => rfl)) (pe_ix (ix_X K) (pv 0) pe_int (fun _ _ => rfl)) (fun _ _ => rfl)))
      (pss_cons (ps_asg (pe_op (op_addX K) (pe_ix (ix_X K) (pv 0) pe_int (fun _ _ => rfl)) pe_int) (pg_sub (pv 0) pe_int set_list))
      (pss_one (ps_if (pt_cmpR op_ge (pv 2) (pe_op op_pow pe_int pe_int) (nomark _)) (pss_one (ps_asg (pv 2) (pg_sub (pv 0) pe_int set_list))) (pss_cons (ps_set (i := 3) sc_law_take.nd rfl (.inl rfl) (pe_op (op_addX K) (pe_op op_mulX (pe_ix (ix_X K) (pv 0) pe_int (fun _ _ => rfl)) pe_int) (pe_op op_mod (pe_callTy cr_int (by rfl) T.int (by decide +kernel) (pa_cons (pv 2) pa_nil)) pe_int)))
      (pss_one (ps_asg (pe_op op_mod (pe_callTy cr_int (by rfl) T.int (by decide +kernel) (pa_cons (pe_op (op_addX K) (pv 3) (pe_ix (ix_X K) (pv 0) pe_int (fun _ _ => rfl))) pa_nil)) pe_int) (pg_sub (pv 0) pe_int set_list)))))))) pss_nil)
      (pss_cons (ps_if (pt_cmpR op_gt (pe_ix (ix_X K) (pv 0) pe_int (fun _ _ => rfl)) pe_int (nomark _)) (pss_cons (ps_set (i := 4) sc_law_take.nd rfl (.inl rfl) (pe_op op_mod (pe_callTy cr_int (by rfl) T.int (by decide +kernel) (pa_cons (pe_ix (ix_X K) (pv 0) pe_int (fun _ _ => rfl)) pa_nil)) (pv 1)))
      (pss_cons (ps_asg (pe_op op_fdivN (pe_ix (ix_X K) (pv 0) pe_int (fun _ _ => rfl)) (pv 1)) (pg_sub (pv 0) pe_int set_list))
      (pss_one (ps_ret (pv 4))))) pss_nil)
      (pss_cons (ps_asg (pe_op op_mod (pe_callTy cr_int (by rfl) T.int (by decide +kernel) (pa_cons (pe_op (op_addX K) (pe_op op_mulX (pe_ix (ix_X K) (pv 0) pe_int (fun _ _ => rfl)) pe_int) pe_int) pa_nil)) pe_int) (pg_sub (pv 0) pe_int set_list))
      (pss_one (ps_ret (pe_op op_mod (pe_callTy cr_int (by rfl) T.int (by decide +kernel) (pa_cons (pe_op op_fdivN (pe_op op_mod (pe_callTy cr_int (by rfl) T.int (by decide +kernel) (pa_cons (pe_op op_mulX (pe_ix (ix_X K) (pv 0) pe_int (fun _ _ => rfl)) (pe_ix (ix_X K) (pv 0) pe_int (fun _ _ => rfl))) pa_nil)) pe_int) pe_int) pa_nil)) (pv 1))))))), ?_⟩
    change (_ : TS) _ [some (V.ref b), some (.int many), none, none, none] _
    have nrb := bag_ne hb hn
    refine Rg.cut (fun σ H' => ∃ (i' c' m' : Int) (v2 v3 : Option V), σ = [some (V.ref b), some (.int many), v2, v3, none] ∧ H' b = some (.lst [.ref r, .int i', .int c', .int m']) ∧ But b H H' ∧ 0 ≤ i' ∧ 0 ≤ c' ∧ 0 ≤ m' ∧ m' < 2147483629) ?_ ?_
    · k_extra "rr"
      refine iteD (fun ec => ?_) (fun ec => ?_)
      · k_extra "rr"
        refine iteD (fun ei => ?_) (fun ei => ?_)
        · k_extra "rr"
          have hin : i.toNat < ns.length := by
            rw [List.length_map] at ei
            omega
          refine ixL (SqL.of hn) (v := .int ns[i.toNat]) ?_ ?_
          · exact at_of (j := i.toNat) (by omega) (by rw [List.getElem?_map, List.getElem?_eq_getElem hin]; rfl)
          k_extra "rr"
          refine iteD (fun eb => ?_) (fun eb => ?_)
          · k_extra "rr"
            refine ⟨i + 1, ns[i.toNat], m, some (.int ns[i.toNat]), none, rfl, upd_same, But.trans But.upd But.upd, by omega, ?_, m0, m1⟩
            have e18 : (0 : Int) ≤ 10 ^ Int.toNat 18 := by decide
            omega
          · k_extra "rr"
            have h1 := Int.emod_nonneg (m * 40087 + ns[i.toNat] % 1999999913 + (i + 1)) (show (2147483629 : Int) ≠ 0 by decide)
            have h2 := Int.emod_lt_of_pos (m * 40087 + ns[i.toNat] % 1999999913 + (i + 1)) (show (0 : Int) < 2147483629 by decide)
            exact ⟨i + 1, c, _, some (.int ns[i.toNat]), some (.int (m * 40087 + ns[i.toNat] % 1999999913)), rfl, upd_same, But.trans But.upd But.upd, by omega, c0, h1, h2⟩
        · k_extra "rr"
          exact ⟨i, c, m, none, none, rfl, hb, But.refl _ _, i0, c0, m0, m1⟩
      · k_extra "rr"
        exact ⟨i, c, m, none, none, rfl, hb, But.refl _ _, i0, c0, m0, m1⟩
    · rintro σ H' ⟨i', c', m', v2, v3, rfl, hb', bb, i0', c0', m0', m1'⟩
      have hn' : H' r = some (.lst (ns.map V.int)) := bb _ _ hn nrb
      k_extra "rr"
      refine iteD (fun ec => ?_) (fun ec => ?_)
      · k_extra "rr"
        refine q (c' % many) _ (bb.trans But.upd) ⟨ns, i', c'.fdiv many, m', upd_same, upd2 nrb hn', hl, i0', ?_, m0', m1'⟩ (Int.emod_nonneg _ (by omega)) (Int.emod_lt_of_pos _ (by omega))
        rw [Int.fdiv_eq_ediv_of_nonneg _ (by omega)]
        exact Int.ediv_nonneg c0' (by omega)
      · k_extra "rr"
        have h1 := Int.emod_nonneg (m' * 48271033 + 37) (show (2147483629 : Int) ≠ 0 by decide)
        have h2 := Int.emod_lt_of_pos (m' * 48271033 + 37) (show (0 : Int) < 2147483629 by decide)
        refine q _ _ (bb.trans But.upd) ⟨ns, i', c', _, upd_same, upd2 nrb hn', hl, i0', c0', h1, h2⟩ (Int.emod_nonneg _ (by omega)) (Int.emod_lt_of_pos _ (by omega))
end

/-! ### drawn things -/
def spOf (K : PySem.W.Frag) : Sp := fun vs H Q _ => ∃ (b r : Addr) (x : V), vs = [.ref b, x] ∧ BagAt H b r ∧
  ((∃ z : Str, x = .str z ∧ 0 < z.length ∧ z.length ≤ 1000 ∧ ∀ (c : Nat) (H' : Hp), c ∈ z.cps.toList → But b H H' → BagAt H' b r → Q (.str ⟨#[c]⟩) H') ∨
   (∃ (p : Addr) (xs : List V), x = .ref p ∧ p ≠ b ∧ SqL K H p xs ∧ 0 < xs.length ∧ xs.length ≤ 1000 ∧ ∀ (i : Nat) (v : V) (H' : Hp), xs[i]? = some v → But b H H' → BagAt H' b r → Q v H'))
theorem at_str {z : Str} {k : Int} (h0 : 0 ≤ k) (h1 : k < z.length) : ∃ c, atI z.cps.toList k = some c ∧ c ∈ z.cps.toList := by
  have hl : k.toNat < z.cps.toList.length := by
    have e : z.cps.toList.length = z.length := by simp [Str.length]
    omega
  refine ⟨z.cps.toList[k.toNat], ?_, List.getElem_mem hl⟩
  have e := atI_nat (xs := z.cps.toList) (j := k.toNat) (v := z.cps.toList[k.toNat]) (List.getElem?_eq_getElem hl)
  rw [show ((k.toNat : Nat) : Int) = k by omega] at e
  exact e
theorem at_lst {xs : List V} {k : Int} (h0 : 0 ≤ k) (h1 : k < xs.length) : ∃ v, atI xs k = some v ∧ xs[k.toNat]? = some v := by
  have hl : k.toNat < xs.length := by omega
  refine ⟨xs[k.toNat], ?_, List.getElem?_eq_getElem hl⟩
  have e := atI_nat (xs := xs) (j := k.toNat) (v := xs[k.toNat]) (List.getElem?_eq_getElem hl)
  rw [show ((k.toNat : Nat) : Int) = k by omega] at e
  exact e
section
variable {P : Program} {w : World} {K : PySem.W.Frag} {mg : Str → Option Value} {base : Heap} {f : Addr} {fd : FuncData}
theorem ok_law_of (F : Fun K "_law_of" "_law_of" s_law_of f fd) (T : Txt mg) (c_law_take : Cal P w K mg base 1 "_law_take" spTake) : FnOk P w K mg base CX0 2 f fd ["_law_bag_z", "_law_things"] (spOf K) := by
  refine F.ok sc_law_of (fun vs H Q E h => ?_) (fun cdv A outer s H vs Q E hr h => ?_)
  · obtain ⟨b, r, x, rfl, _⟩ := h
    rfl
  · obtain ⟨b, r, x, rfl, hb, h⟩ := h
    refine ⟨_, (pss_one (ps_ret (pe_ix (ix_X K) (pv 1) (pe_c c_law_take hr (by omega) (by rfl) (pa_cons (pv 0) (pa_cons (pe_callB (call_lenX K) (by rfl) T.len PySem.boot_len (pa_cons (pv 1) pa_nil)) pa_nil))) (fun _ _ => rfl)))), ?_⟩
    rcases h with ⟨z, rfl, z0, z1, q⟩ | ⟨p, xs, rfl, npb, hx, z0, z1, q⟩
    · change (_ : TS) _ [some (V.ref b), some (V.str z)] _
      k_extra "rr"
      refine ⟨b, r, _, rfl, hb, by omega, by omega, fun k H' bb hb' k0 k1 => ?_⟩
      obtain ⟨c, e1, e2⟩ := at_str k0 k1
      exact ixS (by k_extra "sz") e1 (q c H' e2 bb hb')
    · change (_ : TS) _ [some (V.ref b), some (V.ref p)] _
      k_extra "rr"
      refine ⟨b, r, _, rfl, hb, by omega, by omega, fun k H' bb hb' k0 k1 => ?_⟩
      obtain ⟨v, e1, e2⟩ := at_lst k0 k1
      exact ixL (SqL.but bb npb hx) e1 (q _ v H' e2 bb hb')
end
/-! a text of letters -/
def letters : List Nat := [97, 98, 99, 100, 101, 102, 103, 104, 105, 106, 107, 108, 109, 110, 111, 112, 113, 114, 115, 116, 117, 118, 119, 120, 121, 122]
theorem letters_eq : Str.ofString "abcdefghijklmnopqrstuvwxyz" = SX.S letters := by decide +kernel
def fixW (w : Str) : Str := if w = "if" then "iff" else if w = "is" then "iss" else if w = "end" then "en" else if w = "rest" then "res" else w
/-- the k-th of the words that differ at a place -/
def wordAt (st : List Nat) (at_ s0 k : Nat) : List Nat := st.take at_ ++ [letters.getD ((s0 + 5 * k) % 26) 0] ++ st.drop at_
theorem wordAt_len (st : List Nat) (at_ s0 k : Nat) : (wordAt st at_ s0 k).length ≤ st.length + 1 := by
  unfold wordAt
  rw [List.length_append, List.length_append, List.length_take, List.length_drop, List.length_singleton]
  omega
def fixed : List (Key × V) := [(.inr "if", .str "iff"), (.inr "is", .str "iss"), (.inr "end", .str "en"), (.inr "rest", .str "res")]
theorem fixed_merge : mergeK [] fixed = fixed := by decide +kernel
theorem fixed_get (w : Str) : (valV fixed (.inr w : Key)).getD (.str w) = .str (fixW w) := by
  unfold fixed fixW
  by_cases h1 : w = "if"
  · rw [if_pos h1, valV_pos (by rw [h1])]
    rfl
  rw [if_neg h1, valV_neg (fun z => h1 (Sum.inr.inj z).symm)]
  by_cases h2 : w = "is"
  · rw [if_pos h2, valV_pos (by rw [h2])]
    rfl
  rw [if_neg h2, valV_neg (fun z => h2 (Sum.inr.inj z).symm)]
  by_cases h3 : w = "end"
  · rw [if_pos h3, valV_pos (by rw [h3])]
    rfl
  rw [if_neg h3, valV_neg (fun z => h3 (Sum.inr.inj z).symm)]
  by_cases h4 : w = "rest"
  · rw [if_pos h4, valV_pos (by rw [h4])]
    rfl
  rw [if_neg h4, valV_neg (fun z => h4 (Sum.inr.inj z).symm), valV_nil]
  rfl
def Words (many most : Int) (ws : List Str) : Prop := ∃ (st : List Nat) (at_ s0 : Nat), (st.length : Int) < most ∧ (∀ c ∈ st, c ∈ letters) ∧ at_ ≤ st.length ∧ s0 < 26 ∧
  ws = (List.range many.toNat).map fun k => fixW (SX.S (wordAt st at_ s0 k))
def spWords : Sp := fun vs H Q _ => ∃ (b r : Addr) (many most : Int), vs = [.ref b, .int many, .int most] ∧ BagAt H b r ∧ 0 ≤ many ∧ many ≤ 100 ∧ 1 ≤ most ∧ most ≤ 100 ∧
  ∀ (ws : List Str) (p : Addr) (H' : Hp), Words many most ws → But b H H' → BagAt H' b r → H p = none → H' p = some (.lst (ws.map V.str)) → p ≠ b → Q (.ref p) H'
section
variable {P : Program} {w : World} {K : PySem.W.Frag} {mg : Str → Option Value} {base : Heap} {f : Addr} {fd : FuncData}
theorem ok_law_words (F : Fun K "_law_words" "_law_words" s_law_words f fd) (T : Txt mg) (c_law_take : Cal P w K mg base 1 "_law_take" spTake) (c_law_of : Cal P w K mg base 2 "_law_of" (spOf K)) : FnOk P w K mg base CX0 3 f fd ["_law_bag_z", "_law_many", "_law_most"] spWords := by
  refine F.ok sc_law_words (fun vs H Q E h => ?_) (fun cdv A outer s H vs Q E hr h => ?_)
  · obtain ⟨b, r, many, most, rfl, _⟩ := h
    rfl
  · obtain ⟨b, r, many, most, rfl, hb, k0, k1, l0, l1, q⟩ := h
    refine ⟨_, (pss_cons (ps_set (i := 3) sc_law_words.nd rfl (.inr rfl) pe_str)
      (pss_cons (ps_set (i := 4) sc_law_words.nd rfl (.inr rfl) (pe_joinX K pe_str (pe_lc (own := [("_law_k", 9)]) (g := gName 9) (tt := tYes) (by rfl) sc_law_words.nd (pi_range1 (by rfl) T.range (pa_cons (pe_c c_law_take hr (by omega) (by rfl) (pa_cons (pv 0) (pa_cons (pv 2) pa_nil))) pa_nil)) (blkOk_by (own := [("_law_k", 9)]) (N := ["_law_bag_z", "_law_many", "_law_most", "_law_letters", "_law_stem", "_law_at", "_law_start", "_law_found", "_law_fixed", "_law_k", "_law_word"]) (sc := defScope s_law_words) (by decide +kernel)) (fun _ _ _ _ _ => pg_name (i := 9) sc_law_words.nd rfl (Or.inl rfl)) (fun _ _ _ _ _ => pts_nil) (fun _ _ _ _ _ => (pe_c c_law_of hr (by omega) (by rfl) (pa_cons (pv 0) (pa_cons (pv 3) pa_nil)))))))
      (pss_cons (ps_asg (pe_tup (pa_cons (pe_c c_law_take hr (by omega) (by rfl) (pa_cons (pv 0) (pa_cons (pe_op (op_addX K) (pe_callB (call_lenX K) (by rfl) T.len PySem.boot_len (pa_cons (pv 4) pa_nil)) pe_int) pa_nil))) (pa_cons (pe_c c_law_take hr (by omega) (by rfl) (pa_cons (pv 0) (pa_cons pe_int pa_nil))) pa_nil))) (pg_tupX K (pg_tup (n := 2) (by rfl) (pgs_cons (pg_name (i := 5) sc_law_words.nd rfl (.inr rfl)) (pgs_cons (pg_name (i := 6) sc_law_words.nd rfl (.inr rfl)) pgs_nil)))))
      (pss_cons (ps_setLc (i := 7) (own := [("_law_k", 9)]) (g := gName 9) (tt := tYes) (by rfl) sc_law_words.nd rfl rfl (sw_true rfl rfl rfl (by decide +kernel)) (pi_range1 (by rfl) T.range (pa_cons (pv 1) pa_nil)) (blkOk_by (own := [("_law_k", 9)]) (N := ["_law_bag_z", "_law_many", "_law_most", "_law_letters", "_law_stem", "_law_at", "_law_start", "_law_found", "_law_fixed", "_law_k", "_law_word"]) (sc := defScope s_law_words) (by decide +kernel)) (fun _ _ _ _ _ => pg_name (i := 9) sc_law_words.nd rfl (Or.inl rfl)) (fun _ _ _ _ _ => pts_nil) (fun _ _ _ _ _ => (pe_op (op_addX K) (pe_op (op_addX K) (pe_slice (sl_X K) (pv 4) po_none (po_some (pv 5))) (pe_ix (ix_X K) (pv 3) (pe_op op_mod (pe_callTy cr_int (by rfl) T.int (by decide +kernel) (pa_cons (pe_op (op_addX K) (pv 6) (pe_op op_mulX pe_int (pv 9))) pa_nil)) pe_int) (fun _ _ => rfl))) (pe_slice (sl_X K) (pv 4) (po_some (pv 5)) po_none))))
      (pss_cons (ps_set (i := 8) sc_law_words.nd rfl (.inr rfl) (pe_disp (pps_cons pe_str pe_str (pps_cons pe_str pe_str (pps_cons pe_str pe_str (pps_cons pe_str pe_str pps_nil)))) (by rfl) (by rfl) (fun z => by cases z) (by decide)))
      (pss_one (ps_ret (pe_lc (own := [("_law_word", 10)]) (g := gName 10) (tt := tYes) (by rfl) sc_law_words.nd (pi_listX K (pv 7)) (blkOk_by (own := [("_law_word", 10)]) (N := ["_law_bag_z", "_law_many", "_law_most", "_law_letters", "_law_stem", "_law_at", "_law_start", "_law_found", "_law_fixed", "_law_k", "_law_word"]) (sc := defScope s_law_words) (by decide +kernel)) (fun _ _ _ _ _ => pg_name (i := 10) sc_law_words.nd rfl (Or.inl rfl)) (fun _ _ _ _ _ => pts_nil) (fun _ _ _ _ _ => (pe_dget2 (hu_of hr) (pv 8) (pv 10) (pv 10) ⟨rfl, rfl, rfl, rfl⟩)))))))))), ?_⟩
    change (_ : TS) _ [some (V.ref b), some (.int many), some (.int most), none, none, none, none, none, none, none, none] _
    k_extra "rr"
    refine ⟨b, r, _, rfl, hb, l0, by omega, fun n1 H1 bb1 hb1 n10 n11 => ?_⟩
    k_extra "rr"
    intro D nD
    refine lc_range (lo := 0) (n := n1.toNat) (fun i H' => ∃ cs : List Nat, cs.length = i ∧ (∀ c ∈ cs, c ∈ letters) ∧ H' D = some (.lst (cs.map fun c => V.str ⟨#[c]⟩)) ∧ But b H1 H' ∧ BagAt H' b r)
      ⟨[], rfl, (fun _ h => by cases h), upd_same, But.new nD, hb1.new nD⟩ ?_ ?_
    · rintro i H' hi ⟨cs, ec, hc, eD, bb, hb'⟩
      k_extra "rr"
      refine ⟨rfl, ?_⟩
      k_extra "rr"
      refine ⟨b, r, _, rfl, hb', .inl ⟨_, rfl, by decide +kernel, by decide +kernel, fun c H2 hc2 bb2 hb2 => ?_⟩⟩
      obtain ⟨nDb, nDr⟩ := hb1.ne_none nD
      refine ⟨_, bb2 _ _ eD nDb, by rw [List.length_map, sizeLine_eq]; omega, cs ++ [c], by rw [List.length_append, ec]; rfl, fun d hd => ?_, ?_, (bb.trans bb2).mutNew nD, hb2.mut hb1 nD⟩
      · rcases List.mem_append.mp hd with h | h
        · exact hc d h
        · rw [List.mem_singleton.mp h]
          rw [letters_eq] at hc2
          exact hc2
      · rw [upd_same, List.map_append]
        rfl
    · rintro H' ⟨cs, ec, hc, eD, bb, hb'⟩
      have eD' : H' D = some (.lst ((cs.map fun c => (⟨#[c]⟩ : Str)).map V.str)) := by
        rw [List.map_map]
        exact eD
      rw [empty_S]
      refine joinL (SqL.of eD') (by rw [len_sg, S_len0, Nat.mul_zero]; omega) ?_
      rw [join_sg]
      have hs : (SX.S cs).length ≤ sizeLine := by rw [SX.S_len, sizeLine_eq]; omega
      k_extra "rr"
      have hs2 : (((SX.S cs).length : Nat) : Int) = cs.length := by rw [SX.S_len]
      refine ⟨b, r, _, rfl, hb', by omega, by omega, fun n2 H2 bb2 hb2 n20 n21 => ?_⟩
      k_extra "rr"
      refine ⟨b, r, _, rfl, hb2, by omega, by omega, fun n3 H3 bb3 hb3 n30 n31 => ?_⟩
      k_extra "rr"
      refine ⟨by k_extra "sz", fun p np => ?_⟩
      k_extra "rr"
      have hbP := hb3.new (o := .tup [V.int n2, V.int n3]) np
      have bbP : But b H (upd H3 p (.tup [V.int n2, V.int n3])) := ((((bb1.trans bb).trans bb2).trans bb3).trans (But.new np))
      generalize upd H3 p (.tup [V.int n2, V.int n3]) = HP at hbP bbP
      intro L nL
      refine lc_range (lo := 0) (n := many.toNat) (fun i H' => H' = upd HP L (.lst ((List.range i).map fun k => V.str (SX.S (wordAt cs n2.toNat n3.toNat k))))) rfl ?_ ?_
      · rintro i H' hi rfl
        k_extra "rr"
        refine ⟨rfl, ?_⟩
        k_extra "rr"
        rw [cut_to cs n20]
        k_extra "rr"
        have hix : ((n3 + 5 * (0 + (i : Int))) % 26) = (((n3.toNat + 5 * i) % 26 : Nat) : Int) := by omega
        have hlt : (n3.toNat + 5 * i) % 26 < letters.length := Nat.mod_lt _ (by decide)
        refine ixS (k := letters.getD ((n3.toNat + 5 * i) % 26) 0) (by decide +kernel) ?_ ?_
        · rw [hix, letters_eq]
          refine atI_nat ?_
          show letters[(n3.toNat + 5 * i) % 26]? = some (letters.getD ((n3.toNat + 5 * i) % 26) 0)
          rw [List.getElem?_eq_getElem hlt, List.getD_eq_getElem?_getD, List.getElem?_eq_getElem hlt]
          rfl
        have h1 : (SX.S (cs.take n2.toNat)).length + (⟨#[letters.getD ((n3.toNat + 5 * i) % 26) 0]⟩ : Str).length ≤ sizeLine := by
          rw [SX.S_len, List.length_take, sizeLine_eq]
          show _ + 1 ≤ _
          omega
        refine addS h1 ?_
        rw [show (⟨#[letters.getD ((n3.toNat + 5 * i) % 26) 0]⟩ : Str) = SX.S [letters.getD ((n3.toNat + 5 * i) % 26) 0] from rfl, SX.S_cat]
        k_extra "rr"
        rw [cut_from cs n20]
        refine addS ?_ ?_
        · rw [SX.S_len, SX.S_len, List.length_append, List.length_take, List.length_drop, sizeLine_eq]
          show _ + 1 + _ ≤ _
          omega
        rw [SX.S_cat]
        refine ⟨_, upd_same, ?_, ?_⟩
        · rw [List.length_map, List.length_range, sizeLine_eq]
          omega
        · rw [upd_upd, List.range_succ, List.map_append]
          rfl
      · rintro H' rfl
        k_extra "rr"
        refine disp fun d nd => ?_
        k_extra "rr"
        refine ⟨upd_same, fixed, rfl, by decide, ?_⟩
        rw [upd_upd, fixed_merge]
        have nLd : L ≠ d := ne_of_none upd_same nd
        have nd0 := un0 nd
        have eL : (upd (upd HP L (.lst ((List.range many.toNat).map fun k => V.str (SX.S (wordAt cs n2.toNat n3.toNat k))))) d (.dK fixed)) L = some (.lst ((List.range many.toNat).map fun k => V.str (SX.S (wordAt cs n2.toNat n3.toNat k)))) := upd2 nLd upd_same
        have bbL : But b H (upd HP L (.lst ((List.range many.toNat).map fun k => V.str (SX.S (wordAt cs n2.toNat n3.toNat k))))) := bbP.trans (But.new nL)
        have hbL := hbP.new (o := .lst ((List.range many.toNat).map fun k => V.str (SX.S (wordAt cs n2.toNat n3.toNat k)))) nL
        have bbD := bbL.trans (But.new (o := .dK fixed) nd)
        have hbD := hbL.new (o := .dK fixed) nd
        have eD2 : (upd (upd HP L (.lst ((List.range many.toNat).map fun k => V.str (SX.S (wordAt cs n2.toNat n3.toNat k))))) d (.dK fixed)) d = some (.dK fixed) := upd_same
        generalize upd (upd HP L (.lst ((List.range many.toNat).map fun k => V.str (SX.S (wordAt cs n2.toNat n3.toNat k))))) d (.dK fixed) = HD at eL eD2 bbD hbD
        k_extra "rr"
        intro R nR
        have nLR : L ≠ R := ne_of_none eL nR
        have ndR : d ≠ R := ne_of_none eD2 nR
        refine lc_list (K := K) (a := L) (xs := (List.range many.toNat).map fun k => V.str (SX.S (wordAt cs n2.toNat n3.toNat k))) (fun i H' => H' = upd HD R (.lst ((List.range i).map fun k => V.str (fixW (SX.S (wordAt cs n2.toNat n3.toNat k)))))) rfl ?_ ?_ ?_
        · rintro i H' _ rfl
          exact SqL.of (upd2 nLR eL)
        · rintro i x H' hi rfl
          obtain ⟨u, hu, rfl⟩ := map_at hi
          obtain ⟨hlt, rfl⟩ := List.getElem?_eq_some_iff.mp hu
          rw [List.length_range] at hlt
          rw [List.getElem_range]
          k_extra "rr"
          refine ⟨rfl, ?_⟩
          k_extra "rr"
          refine ⟨d, rfl, .inl ⟨fixed, .inl (upd2 ndR eD2)⟩, ?_⟩
          k_extra "rr"
          refine ⟨_, DGet.k (k := .inr _) (upd2 ndR eD2), ?_⟩
          rw [fixed_get]
          refine ⟨_, upd_same, ?_, ?_⟩
          · rw [List.length_map, List.length_range, sizeLine_eq]
            omega
          · rw [upd_upd, List.range_succ, List.map_append]
            rfl
        · rintro H' rfl
          k_extra "rr"
          refine q ((List.range many.toNat).map fun k => fixW (SX.S (wordAt cs n2.toNat n3.toNat k))) R _ ⟨cs, n2.toNat, n3.toNat, by omega, hc, by omega, by omega, rfl⟩ (bbD.trans (But.new nR)) (hbD.new nR) (bbD.free hbD.ex nR) ?_ (hbD.ne_none nR).1
          rw [upd_same, List.length_map, List.length_range, List.map_map]
          rfl
end

/-! ### a text of signs -/
def signsL : List Nat := [32, 33, 35, 36, 38, 39, 40, 41, 42, 43, 44, 45, 46, 47, 58, 59, 60, 61, 62, 63, 64, 91, 93, 94, 95, 123, 124, 125, 126, 48, 49, 56, 57, 65, 77, 90, 97, 109, 122]
theorem signs_eq : Str.ofString " !#$&'()*+,-./:;<=>?\x40[]^_{|}~0189AMZamz" = SX.S signsL := by decide +kernel
def spSign : Sp := fun vs H Q _ => ∃ (b r : Addr) (most : Int), vs = [.ref b, .int most] ∧ BagAt H b r ∧ 0 ≤ most ∧ most ≤ 1000 ∧
  ∀ (l : List Nat) (H' : Hp), (l.length : Int) ≤ most → (∀ c ∈ l, c ∈ signsL) → But b H H' → BagAt H' b r → Q (.str (SX.S l)) H'
section
variable {P : Program} {w : World} {K : PySem.W.Frag} {mg : Str → Option Value} {base : Heap} {f : Addr} {fd : FuncData}
theorem ok_law_sign_text (F : Fun K "_law_sign_text" "_law_sign_text" s_law_sign_text f fd) (T : Txt mg) (c_law_take : Cal P w K mg base 1 "_law_take" spTake) : FnOk P w K mg base CX0 2 f fd ["_law_bag_z", "_law_most"] spSign := by
  refine F.ok sc_law_sign_text (fun vs H Q E h => ?_) (fun cdv A outer s H vs Q E hr h => ?_)
  · obtain ⟨b, r, most, rfl, _⟩ := h
    rfl
  · obtain ⟨b, r, most, rfl, hb, k0, k1, q⟩ := h
    refine ⟨_, (pss_cons (ps_set (i := 2) sc_law_sign_text.nd rfl (.inr rfl) pe_str)
      (pss_one (ps_ret (pe_joinX K pe_str (pe_lc (own := [("_law_k", 3)]) (g := gName 3) (tt := tYes) (by rfl) sc_law_sign_text.nd (pi_range1 (by rfl) T.range (pa_cons (pe_c c_law_take hr (by omega) (by rfl) (pa_cons (pv 0) (pa_cons (pe_op (op_addX K) (pv 1) pe_int) pa_nil))) pa_nil)) (blkOk_by (own := [("_law_k", 3)]) (N := ["_law_bag_z", "_law_most", "_law_signs", "_law_k"]) (sc := defScope s_law_sign_text) (by decide +kernel)) (fun _ _ _ _ _ => pg_name (i := 3) sc_law_sign_text.nd rfl (Or.inl rfl)) (fun _ _ _ _ _ => pts_nil) (fun _ _ _ _ _ => (pe_ix (ix_X K) (pv 2) (pe_c c_law_take hr (by omega) (by rfl) (pa_cons (pv 0) (pa_cons (pe_callB (call_lenX K) (by rfl) T.len PySem.boot_len (pa_cons (pv 2) pa_nil)) pa_nil))) (fun _ _ => rfl)))))))), ?_⟩
    change (_ : TS) _ [some (V.ref b), some (.int most), none, none] _
    k_extra "rr"
    refine ⟨b, r, _, rfl, hb, by omega, by omega, fun n1 H1 bb1 hb1 n10 n11 => ?_⟩
    k_extra "rr"
    intro D nD
    obtain ⟨nDb, nDr⟩ := hb1.ne_none nD
    refine lc_range (lo := 0) (n := n1.toNat) (fun i H' => ∃ cs : List Nat, cs.length = i ∧ (∀ c ∈ cs, c ∈ signsL) ∧ H' D = some (.lst (cs.map fun c => V.str ⟨#[c]⟩)) ∧ But b H1 H' ∧ BagAt H' b r)
      ⟨[], rfl, (fun _ h => by cases h), upd_same, But.new nD, hb1.new nD⟩ ?_ ?_
    · rintro i H' hi ⟨cs, ec, hc, eD, bb, hb'⟩
      k_extra "rr"
      refine ⟨rfl, ?_⟩
      k_extra "rr"
      have hsz : (Str.ofString " !#$&'()*+,-./:;<=>?\x40[]^_{|}~0189AMZamz").length = 39 := by decide +kernel
      refine ⟨b, r, _, rfl, hb', by rw [hsz]; decide, by rw [hsz]; decide, fun n2 H2 bb2 hb2 n20 n21 => ?_⟩
      obtain ⟨c, e1, e2⟩ := at_str (z := Str.ofString " !#$&'()*+,-./:;<=>?\x40[]^_{|}~0189AMZamz") n20 n21
      refine ixS (by rw [hsz, sizeLine_eq]; decide) e1 ?_
      refine ⟨_, bb2 _ _ eD nDb, by rw [List.length_map, sizeLine_eq]; omega, cs ++ [c], by rw [List.length_append, ec]; rfl, fun d hd => ?_, ?_, (bb.trans bb2).mutNew nD, hb2.mut hb1 nD⟩
      · rcases List.mem_append.mp hd with h | h
        · exact hc d h
        · rw [List.mem_singleton.mp h]
          rw [signs_eq] at e2
          exact e2
      · rw [upd_same, List.map_append]
        rfl
    · rintro H' ⟨cs, ec, hc, eD, bb, hb'⟩
      have eD' : H' D = some (.lst ((cs.map fun c => (⟨#[c]⟩ : Str)).map V.str)) := by
        rw [List.map_map]
        exact eD
      rw [empty_S]
      refine joinL (SqL.of eD') (by rw [len_sg, S_len0, Nat.mul_zero]; omega) ?_
      rw [join_sg]
      k_extra "rr"
      exact q cs H' (by omega) hc (bb1.trans bb) hb'
end

theorem letters_get {i : Nat} (h : i < 26) : letters.getD i 0 ∈ letters := by
  rw [List.getD_eq_getElem?_getD, List.getElem?_eq_getElem (show i < letters.length from h)]
  exact List.getElem_mem h
theorem wordAt_ok {st : List Nat} {at_ s0 k : Nat} (h : ∀ c ∈ st, c ∈ letters) : (∀ c ∈ wordAt st at_ s0 k, c ∈ letters) ∧ 1 ≤ (wordAt st at_ s0 k).length ∧ (wordAt st at_ s0 k).length ≤ st.length + 1 := by
  refine ⟨fun c hc => ?_, ?_, wordAt_len st at_ s0 k⟩
  · unfold wordAt at hc
    rcases List.mem_append.mp hc with hc | hc
    · rcases List.mem_append.mp hc with hc | hc
      · exact h c (List.mem_of_mem_take hc)
      · rw [List.mem_singleton.mp hc]
        exact letters_get (Nat.mod_lt _ (by decide))
    · exact h c (List.mem_of_mem_drop hc)
  · unfold wordAt
    rw [List.length_append, List.length_append, List.length_singleton]
    omega
theorem fix_ok {l : List Nat} (h : ∀ c ∈ l, c ∈ letters) (h1 : 1 ≤ l.length) : ∃ m : List Nat, fixW (SX.S l) = SX.S m ∧ (∀ c ∈ m, c ∈ letters) ∧ 1 ≤ m.length ∧ (m.length ≤ l.length ∨ m.length = 3) := by
  unfold fixW
  by_cases h2 : SX.S l = "if"
  · rw [if_pos h2]
    exact ⟨[105, 102, 102], by decide +kernel, by decide, by decide, .inr rfl⟩
  rw [if_neg h2]
  by_cases h3 : SX.S l = "is"
  · rw [if_pos h3]
    exact ⟨[105, 115, 115], by decide +kernel, by decide, by decide, .inr rfl⟩
  rw [if_neg h3]
  by_cases h4 : SX.S l = "end"
  · rw [if_pos h4]
    have e : l = [101, 110, 100] := SX.S_inj (h4.trans (by decide +kernel))
    exact ⟨[101, 110], by decide +kernel, by decide, by decide, .inl (by rw [e]; decide)⟩
  rw [if_neg h4]
  by_cases h5 : SX.S l = "rest"
  · rw [if_pos h5]
    exact ⟨[114, 101, 115], by decide +kernel, by decide, by decide, .inr rfl⟩
  rw [if_neg h5]
  exact ⟨l, rfl, h, h1, .inl (Nat.le_refl _)⟩

/-! ### equal and of the same kinds -/
def sca : V → Bool
  | .non => true
  | .bl _ => true
  | .int _ => true
  | .str _ => true
  | _ => false
/-- equal data of the same kinds, nested below n -/
def Alk (K : PySem.W.Frag) (H : Hp) : Nat → V → V → Prop
  | 0 => fun _ _ => False
  | n + 1 => fun x y => (x = y ∧ sca x = true) ∨ ∃ a b xs ys, x = .ref a ∧ y = .ref b ∧ ((SqL K H a xs ∧ SqL K H b ys) ∨ (SqT K H a xs ∧ SqT K H b ys)) ∧ xs.length = ys.length ∧ xs.length ≤ 100000 ∧
      ∀ (i : Nat) (x y : V), xs[i]? = some x → ys[i]? = some y → Alk K H n x y
theorem Alk.same {K : PySem.W.Frag} {H H' : Hp} (s : Same H H') : ∀ {n : Nat} {x y : V}, Alk K H n x y → Alk K H' n x y
  | 0, _, _, h => h
  | n + 1, x, y, h => by
    rcases h with h | ⟨a, b, xs, ys, rfl, rfl, h, hl, hz, k⟩
    · exact .inl h
    · refine .inr ⟨a, b, xs, ys, rfl, rfl, ?_, hl, hz, fun i x y h1 h2 => Alk.same s (k i x y h1 h2)⟩
      rcases h with ⟨h1, h2⟩ | ⟨h1, h2⟩
      · exact .inl ⟨s.seq h1, s.seq h2⟩
      · exact .inr ⟨Rg.Same.seqT s h1, Rg.Same.seqT s h2⟩
def spAlike (K : PySem.W.Frag) (n : Nat) : Sp := fun vs H Q _ => ∃ (x y : V), vs = [x, y] ∧ Alk K H n x y ∧ ∀ H', Same H H' → Q (.bl true) H'
section
variable {P : Program} {w : World} {K : PySem.W.Frag} {mg : Str → Option Value} {base : Heap} {f : Addr} {fd : FuncData}
theorem ok_law_alike0 (F : Fun K "_law_alike" "_law_alike" s_law_alike f fd) : FnOk P w K mg base CX0 1 f fd ["_law_found", "_law_due"] (spAlike K 0) := by
  refine F.ok sc_law_alike (fun vs H Q E h => ?_) (fun cdv A outer s H vs Q E hr h => ?_)
  · obtain ⟨x, y, rfl, _⟩ := h
    rfl
  · obtain ⟨x, y, rfl, h, _⟩ := h
    exact h.elim
theorem ok_law_alike1 (F : Fun K "_law_alike" "_law_alike" s_law_alike f fd) (T : Txt mg) {n : Nat} (c_law_alike : Cal P w K mg base (n + 1) "_law_alike" (spAlike K n)) : FnOk P w K mg base CX0 (n + 2) f fd ["_law_found", "_law_due"] (spAlike K (n + 1)) := by
  refine F.ok sc_law_alike (fun vs H Q E h => ?_) (fun cdv A outer s H vs Q E hr h => ?_)
  · obtain ⟨x, y, rfl, _⟩ := h
    rfl
  · obtain ⟨x, y, rfl, h, q⟩ := h
    refine ⟨_, (pss_cons (ps_if (PW.pt (pw_or (pt_cmpR op_isNn (pv 1) pe_non (nomark _)) (pw_or1 (pt_cmpR op_isNn (pv 0) pe_non (nomark _))))) (pss_one (ps_ret (pe_and (pe_cmpR op_isNn (pv 1) pe_non (nomark _)) (pe_one (pe_cmpR op_isNn (pv 0) pe_non (nomark _)))))) pss_nil)
      (pss_cons (ps_if (PW.pt (pw_or (pt_val (pe_callB (cr_isi K) (by rfl) T.isinstance (by decide +kernel) (pa_cons (pv 1) (pa_cons (pe_bltn (v := .ty "bool") (by rfl) T.bool (by decide +kernel) rfl) pa_nil)))) (pw_or1 (pt_val (pe_callB (cr_isi K) (by rfl) T.isinstance (by decide +kernel) (pa_cons (pv 0) (pa_cons (pe_bltn (v := .ty "bool") (by rfl) T.bool (by decide +kernel) rfl) pa_nil))))))) (pss_one (ps_ret (pe_and (pe_callB (cr_isi K) (by rfl) T.isinstance (by decide +kernel) (pa_cons (pv 1) (pa_cons (pe_bltn (v := .ty "bool") (by rfl) T.bool (by decide +kernel) rfl) pa_nil))) (pe_and (pe_callB (cr_isi K) (by rfl) T.isinstance (by decide +kernel) (pa_cons (pv 0) (pa_cons (pe_bltn (v := .ty "bool") (by rfl) T.bool (by decide +kernel) rfl) pa_nil))) (pe_one (pe_cmpR (op_eqX K hr) (pv 0) (pv 1) (nomark _))))))) pss_nil)
      (pss_cons (ps_if (pt_val (pe_callB (cr_isiT K) (by rfl) T.isinstance (by decide +kernel) (pa_cons (pv 1) (pa_cons (pe_tup (pa_cons (pe_bltn (v := .ty "int") (by rfl) T.int (by decide +kernel) rfl) (pa_cons (pe_bltn (v := .ty "str") (by rfl) T.str (by decide +kernel) rfl) pa_nil))) pa_nil)))) (pss_one (ps_ret (pe_and (pe_callB (cr_isiT K) (by rfl) T.isinstance (by decide +kernel) (pa_cons (pv 0) (pa_cons (pe_tup (pa_cons (pe_bltn (v := .ty "int") (by rfl) T.int (by decide +kernel) rfl) (pa_cons (pe_bltn (v := .ty "str") (by rfl) T.str (by decide +kernel) rfl) pa_nil))) pa_nil))) (pe_and (pe_cmpR (op_eqX K hr) (pe_callB (cr_isi K) (by rfl) T.isinstance (by decide +kernel) (pa_cons (pv 0) (pa_cons (pe_bltn (v := .ty "int") (by rfl) T.int (by decide +kernel) rfl) pa_nil))) (pe_callB (cr_isi K) (by rfl) T.isinstance (by decide +kernel) (pa_cons (pv 1) (pa_cons (pe_bltn (v := .ty "int") (by rfl) T.int (by decide +kernel) rfl) pa_nil))) (nomark _)) (pe_one (pe_cmpR (op_eqX K hr) (pv 0) (pv 1) (nomark _))))))) pss_nil)
      (pss_cons (ps_if (pt_val (pe_callB (cr_isi K) (by rfl) T.isinstance (by decide +kernel) (pa_cons (pv 1) (pa_cons (pe_bltn (v := .ty "dict") (by rfl) T.dict (by decide +kernel) rfl) pa_nil)))) pss_never pss_nil)
      (pss_cons (ps_if (PW.pt (pw_or (pt_cmpR (op_neX K hr) (pe_callB (cr_isi K) (by rfl) T.isinstance (by decide +kernel) (pa_cons (pv 1) (pa_cons (pe_bltn (v := .ty "tuple") (by rfl) T.tuple (by decide +kernel) rfl) pa_nil))) (pe_callB (cr_isi K) (by rfl) T.isinstance (by decide +kernel) (pa_cons (pv 0) (pa_cons (pe_bltn (v := .ty "tuple") (by rfl) T.tuple (by decide +kernel) rfl) pa_nil))) (nomark _)) (pw_or1 (pt_cmpR (op_neX K hr) (pe_callB (cr_isi K) (by rfl) T.isinstance (by decide +kernel) (pa_cons (pv 1) (pa_cons (pe_bltn (v := .ty "list") (by rfl) T.list (by decide +kernel) rfl) pa_nil))) (pe_callB (cr_isi K) (by rfl) T.isinstance (by decide +kernel) (pa_cons (pv 0) (pa_cons (pe_bltn (v := .ty "list") (by rfl) T.list (by decide +kernel) rfl) pa_nil))) (nomark _))))) (pss_one (ps_ret pe_bl)) pss_nil)
      (pss_one (ps_ret (pe_and (pe_cmpR (op_eqX K hr) (pe_callB (call_lenX K) (by rfl) T.len PySem.boot_len (pa_cons (pv 0) pa_nil)) (pe_callB (call_lenX K) (by rfl) T.len PySem.boot_len (pa_cons (pv 1) pa_nil)) (nomark _)) (pe_one (pe_callB (cr_allX K (by rfl)) (by rfl) T.all (by decide +kernel) (pa_cons (pe_lc (own := [("_law_one", 3), ("_law_two", 4)])  (tt := tYes) (by rfl) sc_law_alike.nd (pi_zipX K (RZ.pi_zipA (by rfl) T.zip (pa_cons (pv 0) (pa_cons (pv 1) pa_nil)))) (blkOk_by (own := [("_law_one", 3), ("_law_two", 4)]) (N := ["_law_found", "_law_due", "_law_key", "_law_one", "_law_two"]) (sc := defScope s_law_alike) (by decide +kernel)) (fun _ _ _ _ _ => pg_tupX K (pg_tup (n := 2) (by rfl) (pgs_cons (pg_name (i := 3) sc_law_alike.nd rfl (Or.inl rfl)) (pgs_cons (pg_name (i := 4) sc_law_alike.nd rfl (Or.inl rfl)) pgs_nil)))) (fun _ _ _ _ _ => pts_nil) (fun _ _ _ _ _ => (pe_c c_law_alike hr (by omega) (by rfl) (pa_cons (pv 3) (pa_cons (pv 4) pa_nil))))) pa_nil))))))))))), ?_⟩
    rcases h with ⟨rfl, hx⟩ | ⟨a, b, xs, ys, rfl, rfl, h, hl, hz, k⟩
    · cases x with
      | non =>
        change (_ : TS) _ [some V.non, some V.non, none, none, none] _
        k_extra "rr"
        exact q H (Same.refl H)
      | bl c =>
        change (_ : TS) _ [some (V.bl c), some (V.bl c), none, none, none] _
        k_extra "rr"
        rw [decide_eq_true rfl]
        exact q H (Same.refl H)
      | int i =>
        change (_ : TS) _ [some (V.int i), some (V.int i), none, none, none] _
        k_extra "rr"
        refine ⟨by k_extra "sz", fun t nt => ?_⟩
        k_extra "rr"
        refine isiT (b := true) upd_same (cls2 _ _) (.base (.int _)) (kitAny2 kB_int_int kB_int_str) ?_
        k_extra "rr"
        refine ⟨by k_extra "sz", fun t2 nt2 => ?_⟩
        k_extra "rr"
        refine isiT (b := true) upd_same (cls2 _ _) (.base (.int _)) (kitAny2 kB_int_int kB_int_str) ?_
        k_extra "rr"
        rw [decide_eq_true rfl]
        exact q _ ((same_upd nt).trans (same_upd nt2))
      | str z =>
        change (_ : TS) _ [some (V.str z), some (V.str z), none, none, none] _
        k_extra "rr"
        refine ⟨by k_extra "sz", fun t nt => ?_⟩
        k_extra "rr"
        refine isiT (b := true) upd_same (cls2 _ _) (.base (.str _)) (kitAny2 kB_str_int kB_str_str) ?_
        k_extra "rr"
        refine ⟨by k_extra "sz", fun t2 nt2 => ?_⟩
        k_extra "rr"
        refine isiT (b := true) upd_same (cls2 _ _) (.base (.str _)) (kitAny2 kB_str_int kB_str_str) ?_
        k_extra "rr"
        rw [decide_eq_true rfl]
        exact q _ ((same_upd nt).trans (same_upd nt2))
      | byt _ => cases hx
      | flt _ => cases hx
      | ref _ => cases hx
      | ty _ => cases hx
    · rcases h with ⟨h1, h2⟩ | ⟨h1, h2⟩
      · change (_ : TS) _ [some (V.ref a), some (V.ref b), none, none, none] _
        have t1 := tyx_L h1
        have t2 := tyx_L h2
        k_extra "rr"
        refine ⟨by k_extra "sz", fun t nt => ?_⟩
        have s1 : Same H (upd H t (.tup [V.ty "int", V.ty "str"])) := same_upd nt
        have h1' := Same.seq s1 h1
        have h2' := Same.seq s1 h2
        have t1' := tyx_L h1'
        have t2' := tyx_L h2'
        k_extra "rr"
        refine isiT (b := false) upd_same (cls2 _ _) t2' (kitAny2 kB_list_int kB_list_str) ?_
        generalize upd H t (.tup [V.ty "int", V.ty "str"]) = H1 at s1 h1' h2' t1' t2'
        k_extra "rr"
        rw [hl, decide_eq_true rfl]
        k_extra "rr"
        refine ⟨a, b, xs, ys, rfl, .inl ⟨h1', h2', fun D nD => ?_⟩⟩
        refine lc_it (walk_zip (K := K) (a := a) (b := b) (xs := xs) (ys := ys) (n := xs.length) (by rw [hl, Nat.min_self])) (fun i H' => H' D = some (.lst ((List.replicate i true).map V.bl)) ∧ Same H1 H')
          ⟨upd_same, same_upd nD⟩ (fun i H' _ p => ⟨Same.seq p.2 h1', Same.seq p.2 h2'⟩) ?_ ?_
        · rintro i x H2 H3 hi ⟨eD, s2⟩ ⟨T, x1, y1, rfl, nT, rfl, e1, e2⟩
          k_extra "rr"
          refine ⟨rfl, ?_⟩
          k_extra "rr"
          have s3 : Same H2 (upd H2 T (.tup [x1, y1])) := same_upd nT
          refine ⟨x1, y1, rfl, ((k i x1 y1 e1 e2).same (s1.trans s2)).same s3, fun H4 s4 => ?_⟩
          refine ⟨_, s4 _ _ (s3 _ _ eD), ?_, ?_, fun c o hc => ?_⟩
          · rw [List.length_map, List.length_replicate]
            rw [sizeLine_eq]
            omega
          · rw [upd_same, List.replicate_succ', List.map_append]
            rfl
          · rw [upd_ne (ne_of_none hc nD)]
            exact s4 _ _ (s3 _ _ (s2 _ _ hc))
        · rintro H2 ⟨eD, s2⟩
          k_extra "rr"
          refine all_ (SqL.of eD) ?_
          rw [show (List.replicate xs.length true).all id = true from List.all_eq_true.mpr fun z hz => List.eq_of_mem_replicate hz]
          exact q H2 (s1.trans s2)
      · change (_ : TS) _ [some (V.ref a), some (V.ref b), none, none, none] _
        have t1 := tyx_T h1
        have t2 := tyx_T h2
        k_extra "rr"
        refine ⟨by k_extra "sz", fun t nt => ?_⟩
        have s1 : Same H (upd H t (.tup [V.ty "int", V.ty "str"])) := same_upd nt
        have h1' := Rg.Same.seqT s1 h1
        have h2' := Rg.Same.seqT s1 h2
        have t1' := tyx_T h1'
        have t2' := tyx_T h2'
        k_extra "rr"
        refine isiT (b := false) upd_same (cls2 _ _) t2' (kitAny2 kB_tuple_int kB_tuple_str) ?_
        generalize upd H t (.tup [V.ty "int", V.ty "str"]) = H1 at s1 h1' h2' t1' t2'
        k_extra "rr"
        rw [hl, decide_eq_true rfl]
        k_extra "rr"
        refine ⟨a, b, xs, ys, rfl, .inr ⟨h1', h2', fun D nD => ?_⟩⟩
        refine lc_it (walk_zipT (K := K) (a := a) (b := b) (xs := xs) (ys := ys) (n := xs.length) (by rw [hl, Nat.min_self])) (fun i H' => H' D = some (.lst ((List.replicate i true).map V.bl)) ∧ Same H1 H')
          ⟨upd_same, same_upd nD⟩ (fun i H' _ p => ⟨Rg.Same.seqT p.2 h1', Rg.Same.seqT p.2 h2'⟩) ?_ ?_
        · rintro i x H2 H3 hi ⟨eD, s2⟩ ⟨T, x1, y1, rfl, nT, rfl, e1, e2⟩
          k_extra "rr"
          refine ⟨rfl, ?_⟩
          k_extra "rr"
          have s3 : Same H2 (upd H2 T (.tup [x1, y1])) := same_upd nT
          refine ⟨x1, y1, rfl, ((k i x1 y1 e1 e2).same (s1.trans s2)).same s3, fun H4 s4 => ?_⟩
          refine ⟨_, s4 _ _ (s3 _ _ eD), ?_, ?_, fun c o hc => ?_⟩
          · rw [List.length_map, List.length_replicate]
            rw [sizeLine_eq]
            omega
          · rw [upd_same, List.replicate_succ', List.map_append]
            rfl
          · rw [upd_ne (ne_of_none hc nD)]
            exact s4 _ _ (s3 _ _ (s2 _ _ hc))
        · rintro H2 ⟨eD, s2⟩
          k_extra "rr"
          refine all_ (SqL.of eD) ?_
          rw [show (List.replicate xs.length true).all id = true from List.all_eq_true.mpr fun z hz => List.eq_of_mem_replicate hz]
          exact q H2 (s1.trans s2)
end

/-! ### kinds and texts -/
def letters' : List Nat := letters
/-- a value that is a text, or is known to be none -/
def StrOr (K : PySem.W.Frag) (H : Hp) (x : V) : Prop := (∃ l : List Nat, x = .str (SX.S l) ∧ l.length ≤ 100000) ∨ ((∀ z, x ≠ .str z) ∧ ∃ T, TyX K H x (.type T) ∧ kitB T "str" = some false)
def wordB (x : V) (most : Int) : Bool := match x with
  | .str z => decide (1 ≤ (z.length : Int)) && (decide ((z.length : Int) ≤ most) && (z.cps.toList.map fun c => decide (c ∈ letters)).all id)
  | _ => false
def signB (c : Nat) : Bool := decide (32 ≤ c) && (decide (c ≤ 126) && !decide (c = 34))
def textB (x : V) : Bool := match x with
  | .str z => decide ((z.length : Int) ≤ 20) && (z.cps.toList.map signB).all id
  | _ => false
theorem wordB_no {x : V} (h : ∀ z, x ≠ .str z) (m : Int) : wordB x m = false := by
  cases x with
  | str z => exact absurd rfl (h z)
  | _ => rfl
theorem textB_no {x : V} (h : ∀ z, x ≠ .str z) : textB x = false := by
  cases x with
  | str z => exact absurd rfl (h z)
  | _ => rfl
def spWord (K : PySem.W.Frag) : Sp := fun vs H Q _ => ∃ (x : V) (most : Int), vs = [x, .int most] ∧ StrOr K H x ∧ ∀ H', Same H H' → Q (.bl (wordB x most)) H'
def spKind (K : PySem.W.Frag) : Sp := fun vs H Q _ => ∃ (x : V), vs = [x] ∧ StrOr K H x ∧ ∀ H', Same H H' → Q (.bl (wordB x 6)) H'
def spIsSign : Sp := fun vs H Q _ => ∃ (c : Nat), vs = [.str ⟨#[c]⟩] ∧ Q (.bl (signB c)) H
def spText (K : PySem.W.Frag) : Sp := fun vs H Q _ => ∃ (x : V), vs = [x] ∧ StrOr K H x ∧ ∀ H', Same H H' → Q (.bl (textB x)) H'
section
variable {P : Program} {w : World} {K : PySem.W.Frag} {mg : Str → Option Value} {base : Heap} {f : Addr} {fd : FuncData}
theorem ok_is_word (F : Fun K "is_word" "is_word" s_is_word f fd) (T : Txt mg) : FnOk P w K mg base CX0 1 f fd ["value", "most"] (spWord K) := by
  refine F.ok sc_is_word (fun vs H Q E h => ?_) (fun cdv A outer s H vs Q E hr h => ?_)
  · obtain ⟨x, m, rfl, _⟩ := h
    rfl
  · obtain ⟨x, m, rfl, hx, q⟩ := h
    refine ⟨_, (pss_one (ps_ret (pe_and (pe_callB (cr_isi K) (by rfl) T.isinstance (by decide +kernel) (pa_cons (pv 0) (pa_cons (pe_bltn (v := .ty "str") (by rfl) T.str (by decide +kernel) rfl) pa_nil))) (pe_and (pe_chain op_leX op_leX pe_int (pe_callB (call_lenX K) (by rfl) T.len PySem.boot_len (pa_cons (pv 0) pa_nil)) (pv 1)) (pe_one (pe_callB (cr_allX K (by rfl)) (by rfl) T.all (by decide +kernel) (pa_cons (pe_lc (own := [("sign", 2)]) (g := gName 2) (tt := tYes) (by rfl) sc_is_word.nd (pi_str (pv 0)) (blkOk_by (own := [("sign", 2)]) (N := ["value", "most", "sign"]) (sc := defScope s_is_word) (by decide +kernel)) (fun _ _ _ _ _ => pg_name (i := 2) sc_is_word.nd rfl (Or.inl rfl)) (fun _ _ _ _ _ => pts_nil) (fun _ _ _ _ _ => (pe_cmpR (op_inX K) (pv 2) (pe_gc (by rfl) T.g_SMALL) (by rfl)))) pa_nil))))))), ?_⟩
    rcases hx with ⟨l, rfl, hl⟩ | ⟨hn, T', hT, hk⟩
    · change (_ : TS) _ [some (V.str (SX.S l)), some (.int m), none] _
      have hs : (SX.S l).length ≤ sizeLine := by rw [SX.S_len, sizeLine_eq]; omega
      k_extra "rr"
      refine iteD (fun h1 => ?_) (fun h1 => ?_)
      · k_extra "rr"
        cases h2 : decide (((SX.S l).length : Int) ≤ m) with
        | false =>
          k_extra "rr"
          have e : wordB (.str (SX.S l)) m = false := by
            show (_ && (decide (((SX.S l).length : Int) ≤ m) && _)) = false
            rw [h2, Bool.false_and, Bool.and_false]
          rw [← e]
          exact q H (Same.refl H)
        | true =>
          k_extra "rr"
          intro D nD
          refine lc_signs (p := fun c => decide (c ∈ letters)) (fun c H' Q' hc q' => ?_) (fun v => rfl) hl ?_
          · k_extra "rr"
            rw [letters_eq]
            exact q'
          · k_extra "rr"
            refine all_ (SqL.of upd_same) ?_
            have e : wordB (.str (SX.S l)) m = (l.map fun c => decide (c ∈ letters)).all id := by
              show (decide (1 ≤ ((SX.S l).length : Int)) && (decide (((SX.S l).length : Int) ≤ m) && _)) = _
              rw [h2, decide_eq_true h1, Bool.true_and, Bool.true_and]
            rw [← e]
            exact q _ (same_upd nD)
      · k_extra "rr"
        have e : wordB (.str (SX.S l)) m = false := by
          show (decide (1 ≤ ((SX.S l).length : Int)) && _) = false
          rw [decide_eq_false h1, Bool.false_and]
        rw [← e]
        exact q H (Same.refl H)
    · change (_ : TS) _ [some x, some (.int m), none] _
      k_extra "rr"
      refine isi hT (kit_ty hk) ?_
      k_extra "rr"
      rw [← wordB_no hn m]
      exact q H (Same.refl H)
theorem ok_is_kind (F : Fun K "is_kind" "is_kind" s_is_kind f fd) (T : Txt mg) (c_is_word : Cal P w K mg base 1 "is_word" (spWord K)) : FnOk P w K mg base CX0 2 f fd ["value"] (spKind K) := by
  refine F.ok sc_is_kind (fun vs H Q E h => ?_) (fun cdv A outer s H vs Q E hr h => ?_)
  · obtain ⟨x, rfl, _⟩ := h
    rfl
  · obtain ⟨x, rfl, hx, q⟩ := h
    refine ⟨_, (pss_one (ps_ret (pe_c c_is_word hr (by omega) (by rfl) (pa_cons (pv 0) (pa_cons (pe_gc (by rfl) T.g_MOST_LETTERS) pa_nil))))), ?_⟩
    change (_ : TS) _ [some x] _
    k_extra "rr"
    exact ⟨x, 6, rfl, hx, fun H' s => q H' s⟩
theorem ok_is_sign (F : Fun K "is_sign" "is_sign" s_is_sign f fd) (T : Txt mg) : FnOk P w K mg base CX0 1 f fd ["sign"] spIsSign := by
  refine F.ok sc_is_sign (fun vs H Q E h => ?_) (fun cdv A outer s H vs Q E hr h => ?_)
  · obtain ⟨c, rfl, _⟩ := h
    rfl
  · obtain ⟨c, rfl, q⟩ := h
    refine ⟨_, (pss_one (ps_ret (pe_and (pe_chain op_leX op_leX pe_str (pv 0) pe_str) (pe_one (pe_cmpR (op_neX K hr) (pv 0) pe_str (nomark _)))))), ?_⟩
    change (_ : TS) _ [some (V.str ⟨#[c]⟩)] _
    have e1 : (!decide ((⟨#[c]⟩ : Str).cps.toList < (Str.ofString " ").cps.toList)) = decide (32 ≤ c) := by
      rw [show (Str.ofString " ").cps.toList = [32] by decide +kernel]
      show (!decide (([c] : List Nat) < [32])) = _
      rw [sgn_lt, ← decide_not]
      exact decide_eq_decide.mpr (by omega)
    have e2 : (!decide ((Str.ofString "~").cps.toList < (⟨#[c]⟩ : Str).cps.toList)) = decide (c ≤ 126) := by
      rw [show (Str.ofString "~").cps.toList = [126] by decide +kernel]
      show (!decide (([126] : List Nat) < [c])) = _
      rw [sgn_lt, ← decide_not]
      exact decide_eq_decide.mpr (by omega)
    have e3 : decide ((⟨#[c]⟩ : Str) = Str.ofString "\"") = decide (c = 34) := by
      rw [show Str.ofString "\"" = (⟨#[34]⟩ : Str) by decide +kernel]
      exact sg_eq c 34
    k_extra "rr"
    rw [e1]
    refine iteD (fun h1 => ?_) (fun h1 => ?_)
    · k_extra "rr"
      rw [e2]
      cases h2 : decide (c ≤ 126) with
      | false =>
        k_extra "rr"
        have e : signB c = false := by
          unfold signB
          rw [h2, Bool.false_and, Bool.and_false]
        rw [← e]
        exact q
      | true =>
        k_extra "rr"
        rw [e3]
        have e : signB c = !decide (c = 34) := by
          unfold signB
          rw [h2, decide_eq_true h1, Bool.true_and, Bool.true_and]
        rw [← e]
        exact q
    · k_extra "rr"
      have e : signB c = false := by
        unfold signB
        rw [decide_eq_false h1, Bool.false_and]
      rw [← e]
      exact q
theorem ok_is_text (F : Fun K "is_text" "is_text" s_is_text f fd) (T : Txt mg) (c_is_sign : Cal P w K mg base 1 "is_sign" spIsSign) : FnOk P w K mg base CX0 2 f fd ["value"] (spText K) := by
  refine F.ok sc_is_text (fun vs H Q E h => ?_) (fun cdv A outer s H vs Q E hr h => ?_)
  · obtain ⟨x, rfl, _⟩ := h
    rfl
  · obtain ⟨x, rfl, hx, q⟩ := h
    refine ⟨_, (pss_one (ps_ret (pe_and (pe_callB (cr_isi K) (by rfl) T.isinstance (by decide +kernel) (pa_cons (pv 0) (pa_cons (pe_bltn (v := .ty "str") (by rfl) T.str (by decide +kernel) rfl) pa_nil))) (pe_and (pe_cmpR op_le (pe_callB (call_lenX K) (by rfl) T.len PySem.boot_len (pa_cons (pv 0) pa_nil)) (pe_gc (by rfl) T.g_MOST_SIGNS) (nomark _)) (pe_one (pe_callB (cr_allX K (by rfl)) (by rfl) T.all (by decide +kernel) (pa_cons (pe_lc (own := [("sign", 1)]) (g := gName 1) (tt := tYes) (by rfl) sc_is_text.nd (pi_str (pv 0)) (blkOk_by (own := [("sign", 1)]) (N := ["value", "sign"]) (sc := defScope s_is_text) (by decide +kernel)) (fun _ _ _ _ _ => pg_name (i := 1) sc_is_text.nd rfl (Or.inl rfl)) (fun _ _ _ _ _ => pts_nil) (fun _ _ _ _ _ => (pe_c c_is_sign hr (by omega) (by rfl) (pa_cons (pv 1) pa_nil)))) pa_nil))))))), ?_⟩
    rcases hx with ⟨l, rfl, hl⟩ | ⟨hn, T', hT, hk⟩
    · change (_ : TS) _ [some (V.str (SX.S l)), none] _
      have hs : (SX.S l).length ≤ sizeLine := by rw [SX.S_len, sizeLine_eq]; omega
      k_extra "rr"
      refine iteD (fun h1 => ?_) (fun h1 => ?_)
      · k_extra "rr"
        intro D nD
        refine lc_signs (p := signB) (fun c H' Q' hc q' => ?_) (fun v => rfl) hl ?_
        · k_extra "rr"
          exact ⟨c, rfl, q'⟩
        · k_extra "rr"
          refine all_ (SqL.of upd_same) ?_
          have e : textB (.str (SX.S l)) = (l.map signB).all id := by
            show (decide (((SX.S l).length : Int) ≤ 20) && _) = _
            rw [decide_eq_true h1, Bool.true_and]
          rw [← e]
          exact q _ (same_upd nD)
      · k_extra "rr"
        have e : textB (.str (SX.S l)) = false := by
          show (decide (((SX.S l).length : Int) ≤ 20) && _) = false
          rw [decide_eq_false h1, Bool.false_and]
        rw [← e]
        exact q H (Same.refl H)
    · change (_ : TS) _ [some x, none] _
      k_extra "rr"
      refine isi hT (kit_ty hk) ?_
      k_extra "rr"
      rw [← textB_no hn]
      exact q H (Same.refl H)
end

/-! ### the law -/
def OkC (c : Nat) : Prop := (32 ≤ c ∧ c ≤ 126) ∨ c = 10
instance : DecidablePred OkC := fun c => inferInstanceAs (Decidable ((32 ≤ c ∧ c ≤ 126) ∨ c = 10))
def GoodV (K : PySem.W.Frag) (H : Hp) (x : V) : Prop := (∃ l : List Nat, x = .str (SX.S l) ∧ l.length ≤ 1000 ∧ ∀ c ∈ l, OkC c) ∨ ((∀ z, x ≠ .str z) ∧ ∃ T, TyX K H x (.type T) ∧ kitB T "str" = some false)
theorem TyX_same {K : PySem.W.Frag} {H H' : Hp} {x : V} {t : Value} (s : Same H H') (h : TyX K H x t) : TyX K H' x t := by
  cases h with
  | base b =>
    cases b with
    | non => exact .base .non
    | bl y => exact .base (.bl y)
    | int i => exact .base (.int i)
    | str y => exact .base (.str y)
    | flt y => exact .base (.flt y)
    | lst e => exact .base (.lst (s _ _ e))
    | frz e => exact .base (.frz (s _ _ e))
    | tup e => exact .base (.tup (s _ _ e))
    | dK e => exact .base (.dK (s _ _ e))
    | dT e => exact .base (.dT (s _ _ e))
    | ins e cl ha hn htk hm => exact .base (.ins (s _ _ e) cl ha hn htk hm)
  | byt b => exact .byt b
  | set e => exact .set (s _ _ e)
  | kList e c => exact .kList e c
  | kTuple e c => exact .kTuple e c
  | kDict e c => exact .kDict e c
  | fTuple e => exact .fTuple (s _ _ e)
  | fDict e => exact .fDict (s _ _ e)
theorem GoodV.same {K : PySem.W.Frag} {H H' : Hp} {x : V} (s : Same H H') (h : GoodV K H x) : GoodV K H' x := by
  rcases h with h | ⟨n, T, h, k⟩
  · exact .inl h
  · exact .inr ⟨n, T, TyX_same s h, k⟩
theorem GoodV.or {K : PySem.W.Frag} {H : Hp} {x : V} (h : GoodV K H x) : StrOr K H x := by
  rcases h with ⟨l, e, hl, _⟩ | h
  · exact .inl ⟨l, e, by omega⟩
  · exact .inr h
theorem fits_eq {l : List Nat} (h : ∀ c ∈ l, OkC c) : (l.map signB).all id = (l.map fun c => (!decide (c = 34)) && !decide (c = 10)).all id := by
  induction l with
  | nil => rfl
  | cons c r ih =>
    rw [List.map_cons, List.map_cons, List.all_cons, List.all_cons, ih fun d hd => h d (List.mem_cons_of_mem _ hd)]
    have hc := h c (List.mem_cons_self ..)
    have e : signB c = ((!decide (c = 34)) && !decide (c = 10)) := by
      unfold signB
      rcases hc with ⟨h1, h2⟩ | h1
      · rw [decide_eq_true h1, decide_eq_true h2, Bool.true_and, Bool.true_and, decide_eq_false (show ¬ c = 10 by omega)]
        simp
      · rw [h1]
        rfl
    rw [e]
theorem toQ {H : Hp} {v : V} {Q : VK} {g : VK → Prop} (h : ∀ H', Same H H' → Q v H') (k : ∀ Q' : VK, (∀ H', Same H H' → Q' v H') → g Q') : g Q := k Q h
def spLaw (K : PySem.W.Frag) : Sp := fun vs H Q _ => ∃ (a : Addr) (ns : List Int), vs = [.ref a] ∧ SqL K H a (ns.map V.int) ∧ ns.length ≤ 63 ∧ ∀ H', Q (.bl true) H'
section
variable {P : Program} {w : World} {K : PySem.W.Frag} {mg : Str → Option Value} {base : Heap} {f : Addr} {fd : FuncData}
theorem ok_law (F : Fun K "law" "law" s_law f fd) (T : Txt mg) (c_law_bag : Cal P w K mg base 1 "_law_bag" (spBag K)) (c_law_take : Cal P w K mg base 1 "_law_take" spTake) (c_law_of : Cal P w K mg base 2 "_law_of" (spOf K))
    (c_law_words : Cal P w K mg base 3 "_law_words" spWords) (c_law_sign_text : Cal P w K mg base 2 "_law_sign_text" spSign) (c_law_alike : Cal P w K mg base 3 "_law_alike" (spAlike K 2))
    (c_is_kind : Cal P w K mg base 2 "is_kind" (spKind K)) (c_is_text : Cal P w K mg base 2 "is_text" (spText K))
    (k_is_kind_value : CalK P w K mg base 2 "is_kind" ["value"] (fun us ws => us ++ ws) (spKind K)) (k_is_text_value : CalK P w K mg base 2 "is_text" ["value"] (fun us ws => us ++ ws) (spText K)) :
    FnOk P w K mg base CX0 4 f fd ["_law_script"] (spLaw K) := by
  refine F.ok sc_law (fun vs H Q E h => ?_) (fun cdv A outer s H vs Q E hr h => ?_)
  · obtain ⟨a, ns, rfl, _⟩ := h
    rfl
  · obtain ⟨a, ns, rfl, hS, hl, q⟩ := h
    refine ⟨_, (pss_cons (ps_set (i := 1) sc_law.nd rfl (.inl rfl) (pe_c c_law_bag hr (by omega) (by rfl) (pa_cons (pv 0) pa_nil)))
      (pss_cons (ps_set (i := 2) sc_law.nd rfl (.inr rfl) pe_str)
      (pss_cons (ps_for PassesOwn.never rfl (pi_range1 (by rfl) T.range (pa_cons pe_int pa_nil)) (pg_name (i := 3) sc_law.nd rfl (.inl rfl)) (pss_cons (ps_par (i := 4) (j := 5) (by rfl) sc_law.nd rfl rfl (by decide) rfl rfl (pa_cons (pe_ix (ix_X K) (pe_c c_law_words hr (by omega) (by rfl) (pa_cons (pv 1) (pa_cons pe_int (pa_cons pe_int pa_nil)))) pe_int (fun _ _ => rfl)) (pa_cons (pe_c c_law_sign_text hr (by omega) (by rfl) (pa_cons (pv 1) (pa_cons pe_int pa_nil))) pa_nil)) (by rfl))
      (pss_cons (ps_set (i := 6) sc_law.nd rfl (.inl rfl) (pe_c c_law_of hr (by omega) (by rfl) (pa_cons (pv 1) (pa_cons (pe_lst (pa_cons pe_str (pa_cons pe_str (pa_cons pe_str (pa_cons pe_str (pa_cons pe_str (pa_cons pe_str pa_nil))))))) pa_nil))))
      (pss_cons (ps_set (i := 7) sc_law.nd rfl (.inl rfl) (pe_c c_law_take hr (by omega) (by rfl) (pa_cons (pv 1) (pa_cons (pe_op (op_addX K) (pe_callB (call_lenX K) (by rfl) T.len PySem.boot_len (pa_cons (pv 4) pa_nil)) pe_int) pa_nil))))
      (pss_cons (ps_set (i := 8) sc_law.nd rfl (.inl rfl) (pe_op (op_addX K) (pe_op (op_addX K) (pe_slice (sl_X K) (pv 4) po_none (po_some (pv 7))) (pv 6)) (pe_slice (sl_X K) (pv 4) (po_some (pv 7)) po_none)))
      (pss_one (ps_for PassesOwn.never rfl (pi_listX K (pe_lst (pa_cons (pv 4) (pa_cons (pv 8) (pa_cons (pv 5) (pa_cons (pe_op (op_addX K) (pv 5) pe_str) (pa_cons (pe_op (op_addX K) (pv 5) pe_str) (pa_cons (pe_op op_mulX pe_str (pe_c c_law_take hr (by omega) (by rfl) (pa_cons (pv 1) (pa_cons pe_int pa_nil)))) (pa_cons (pe_c c_law_of hr (by omega) (by rfl) (pa_cons (pv 1) (pa_cons (pe_lst (pa_cons pe_non (pa_cons pe_int (pa_cons pe_bl (pa_cons (pe_tup (pa_cons pe_str pa_nil)) (pa_cons (pe_lst (pa_cons pe_str pa_nil)) (pa_cons pe_str pa_nil))))))) pa_nil))) pa_nil))))))))) (pg_name (i := 9) sc_law.nd rfl (.inl rfl)) (pss_cons (ps_set (i := 10) sc_law.nd rfl (.inl rfl) (pe_and (pe_callB (cr_isi K) (by rfl) T.isinstance (by decide +kernel) (pa_cons (pv 9) (pa_cons (pe_bltn (v := .ty "str") (by rfl) T.str (by decide +kernel) rfl) pa_nil))) (pe_and (pe_chain op_leX op_leX pe_int (pe_callB (call_lenX K) (by rfl) T.len PySem.boot_len (pa_cons (pv 9) pa_nil)) pe_int) (pe_one (pe_callB (cr_allX K (by rfl)) (by rfl) T.all (by decide +kernel) (pa_cons (pe_lc (own := [("_law_sign", 12)]) (g := gName 12) (tt := tYes) (by rfl) sc_law.nd (pi_str (pv 9)) (blkOk_by (own := [("_law_sign", 12)]) (N := ["_law_script", "_law_bag_z", "_law_letters", "_law_turn", "_law_word", "_law_text", "_law_odd", "_law_at", "_law_bent", "_law_value_z", "_law_is_word_z", "_law_fits_z", "_law_sign"]) (sc := defScope s_law) (by decide +kernel)) (fun _ _ _ _ _ => pg_name (i := 12) sc_law.nd rfl (Or.inl rfl)) (fun _ _ _ _ _ => pts_nil) (fun _ _ _ _ _ => (pe_cmpR (op_inX K) (pv 12) (pv 2) (by rfl)))) pa_nil))))))
      (pss_cons (ps_set (i := 11) sc_law.nd rfl (.inl rfl) (pe_and (pe_callB (cr_isi K) (by rfl) T.isinstance (by decide +kernel) (pa_cons (pv 9) (pa_cons (pe_bltn (v := .ty "str") (by rfl) T.str (by decide +kernel) rfl) pa_nil))) (pe_and (pe_cmpR op_le (pe_callB (call_lenX K) (by rfl) T.len PySem.boot_len (pa_cons (pv 9) pa_nil)) pe_int (nomark _)) (pe_one (pe_callB (cr_allX K (by rfl)) (by rfl) T.all (by decide +kernel) (pa_cons (pe_lc (own := [("_law_sign", 12)]) (g := gName 12) (tt := tYes) (by rfl) sc_law.nd (pi_str (pv 9)) (blkOk_by (own := [("_law_sign", 12)]) (N := ["_law_script", "_law_bag_z", "_law_letters", "_law_turn", "_law_word", "_law_text", "_law_odd", "_law_at", "_law_bent", "_law_value_z", "_law_is_word_z", "_law_fits_z", "_law_sign"]) (sc := defScope s_law) (by decide +kernel)) (fun _ _ _ _ _ => pg_name (i := 12) sc_law.nd rfl (Or.inl rfl)) (fun _ _ _ _ _ => pts_nil) (fun _ _ _ _ _ => (pe_and (pe_cmpR (op_neX K hr) (pv 12) pe_str (nomark _)) (pe_one (pe_cmpR (op_neX K hr) (pv 12) pe_str (nomark _)))))) pa_nil))))))
      (pss_one (ps_if (pt_not (pt_val (pe_c c_law_alike hr (by omega) (by rfl) (pa_cons (pe_lst (pa_cons (pe_cK0 k_is_kind_value hr (by omega) (by rfl) (pk_cons (pv 9) pk_nil)) (pa_cons (pe_cK0 k_is_text_value hr (by omega) (by rfl) (pk_cons (pv 9) pk_nil)) pa_nil))) (pa_cons (pe_lst (pa_cons (pv 10) (pa_cons (pv 11) pa_nil))) pa_nil))))) (pss_one (ps_ret pe_bl)) pss_nil)))))))))))
      (pss_one (ps_ret (pe_and (pe_cmpR (op_eqX K hr) (pe_gc (by rfl) T.g_REST) pe_str (nomark _)) (pe_and (pe_c c_is_kind hr (by omega) (by rfl) (pa_cons pe_str pa_nil)) (pe_and (pe_c c_is_text hr (by omega) (by rfl) (pa_cons pe_str pa_nil)) (pe_one (pe_not (pe_c c_is_kind hr (by omega) (by rfl) (pa_cons pe_str pa_nil)))))))))))), ?_⟩
    change (_ : TS) _ [some (V.ref a), none, none, none, none, none, none, none, none, none, none, none, none] _
    k_extra "rr"
    refine ⟨a, ns, rfl, hS, hl, fun H1 b r s1 nb hb => ?_⟩
    k_extra "rr"
    refine for_range (lo := 0) (n := (6 : Int).toNat) (fun i σ H' => ∃ (v3 v4 v5 v6 v7 v8 v9 v10 v11 v12 : Option V), σ = [some (.ref a), some (.ref b), some (.str "abcdefghijklmnopqrstuvwxyz"), v3, v4, v5, v6, v7, v8, v9, v10, v11, v12] ∧ BagAt H' b r)
      ⟨none, none, none, none, none, none, none, none, none, none, rfl, hb⟩ ?_ ?_
    · rintro i σ H2 hi ⟨v3, v4, v5, v6, v7, v8, v9, v10, v11, v12, rfl, hb2⟩
      k_extra "rr"
      refine ⟨b, r, 1, 8, rfl, hb2, by omega, by omega, by omega, by omega, fun ws p H3 hw bb3 hb3 np eP npb => ?_⟩
      obtain ⟨st, at_, s0, hst, hstl, hat, hs0, rfl⟩ := hw
      obtain ⟨w1, w2, w3⟩ := wordAt_ok (at_ := at_) (s0 := s0) (k := 0) hstl
      obtain ⟨lw, ew, hw1, hw2, hw3⟩ := fix_ok w1 w2
      have hwl : lw.length ≤ 8 := by omega
      have eP' : H3 p = some (.lst [V.str (SX.S lw)]) := by
        rw [eP]
        show some (HO.lst [V.str (fixW (SX.S (wordAt st at_ s0 0)))]) = _
        rw [ew]
      clear eP
      have sw : (SX.S lw).length ≤ sizeLine := by rw [SX.S_len, sizeLine_eq]; omega
      k_extra "rr"
      refine ⟨b, r, 24, rfl, hb3, by omega, by omega, fun lt H4 hlt hsg bb4 hb4 => ?_⟩
      k_extra "rr"
      refine ⟨by k_extra "sz", fun p1 np1 => ?_⟩
      k_extra "rr"
      refine ⟨b, r, _, rfl, hb4.new np1, .inr ⟨p1, _, rfl, (hb4.ne_none np1).1, SqL.of upd_same, by decide, by decide, fun io vo H5 hvo bb5 hb5 => ?_⟩⟩
      obtain ⟨co, eo, ho⟩ : ∃ c, vo = V.str ⟨#[c]⟩ ∧ OkC c := by
        have hm := List.mem_of_getElem? hvo
        simp only [List.mem_cons, List.not_mem_nil, or_false] at hm
        rcases hm with rfl | rfl | rfl | rfl | rfl | rfl
        · exact ⟨65, by decide +kernel, .inl (by decide)⟩
        · exact ⟨49, by decide +kernel, .inl (by decide)⟩
        · exact ⟨32, by decide +kernel, .inl (by decide)⟩
        · exact ⟨95, by decide +kernel, .inl (by decide)⟩
        · exact ⟨10, by decide +kernel, .inr rfl⟩
        · exact ⟨122, by decide +kernel, .inl (by decide)⟩
      subst eo
      k_extra "rr"
      refine ⟨b, r, _, rfl, hb5, by omega, by rw [SX.S_len]; omega, fun na H6 bb6 hb6 na0 na1 => ?_⟩
      k_extra "rr"
      rw [cut_to lw na0]
      have z1 : (SX.S (lw.take na.toNat)).length + (⟨#[co]⟩ : Str).length ≤ sizeLine := by
        rw [SX.S_len, List.length_take, sizeLine_eq]
        show _ + 1 ≤ _
        omega
      k_extra "rr"
      rw [cut_from lw na0, show (⟨#[co]⟩ : Str) = SX.S [co] from rfl, SX.S_cat]
      have z2 : (SX.S (lw.take na.toNat ++ [co])).length + (SX.S (lw.drop na.toNat)).length ≤ sizeLine := by
        rw [SX.S_len, SX.S_len, List.length_append, List.length_take, List.length_drop, sizeLine_eq]
        show _ + 1 + _ ≤ _
        omega
      k_extra "rr"
      rw [SX.S_cat]
      have z3 : (SX.S lt).length + (Str.ofString "\"").length ≤ sizeLine := by
        rw [SX.S_len, sizeLine_eq, show (Str.ofString "\"").length = 1 by decide +kernel]
        omega
      have z4 : (SX.S lt).length + (Str.ofString "\n").length ≤ sizeLine := by
        rw [SX.S_len, sizeLine_eq, show (Str.ofString "\n").length = 1 by decide +kernel]
        omega
      k_extra "rr"
      refine ⟨b, r, _, rfl, hb6, by omega, by omega, fun nm H7 bb7 hb7 nm0 nm1 => ?_⟩
      refine mulS (by decide +kernel) nm0 (by omega) ?_
      rw [show Str.ofString "a" = SX.S [97] by decide +kernel, mul_S 97 nm0]
      k_extra "rr"
      refine ⟨by k_extra "sz", fun p2 np2 => ?_⟩
      k_extra "rr"
      refine ⟨by k_extra "sz", fun p3 np3 => ?_⟩
      k_extra "rr"
      refine ⟨by k_extra "sz", fun p4 np4 => ?_⟩
      k_extra "rr"
      have hb8 := (hb7.new (o := .tup [V.str (SX.S [97])]) np2)
      have n23 : p2 ≠ p3 := ne_of_none upd_same np3
      have hb9 := hb8.new (o := .lst [V.str (SX.S [97])]) np3
      have hb10 := hb9.new (o := .lst [V.non, V.int 3, V.bl true, V.ref p2, V.ref p3, V.str ""]) np4
      have n24 : p2 ≠ p4 := ne_of_none (upd2 n23 upd_same) np4
      have n34 : p3 ≠ p4 := ne_of_none upd_same np4
      refine ⟨b, r, _, rfl, hb10, .inr ⟨p4, _, rfl, (hb9.ne_none np4).1, SqL.of upd_same, (by show 0 < 6; decide), (by show 6 ≤ 1000; decide), fun ix vx H8 hvx bb8 hb11 => ?_⟩⟩
      have e2 : H8 p2 = some (.tup [V.str (SX.S [97])]) := bb8 _ _ (upd2 n24 (upd2 n23 upd_same)) (hb7.ne_none np2).1
      have e3 : H8 p3 = some (.lst [V.str (SX.S [97])]) := bb8 _ _ (upd2 n34 upd_same) (hb8.ne_none np3).1
      have gx : GoodV K H8 vx := by
        have hm := List.mem_of_getElem? hvx
        simp only [List.mem_cons, List.not_mem_nil, or_false] at hm
        rcases hm with rfl | rfl | rfl | rfl | rfl | rfl
        · exact .inr ⟨fun z e => (by cases e), _, .base .non, kB_NoneType_str⟩
        · exact .inr ⟨fun z e => (by cases e), _, .base (.int 3), kB_int_str⟩
        · exact .inr ⟨fun z e => (by cases e), _, .base (.bl true), kB_bool_str⟩
        · exact .inr ⟨fun z e => (by cases e), _, .base (.tup e2), kB_tuple_str⟩
        · exact .inr ⟨fun z e => (by cases e), _, .base (.lst e3), kB_list_str⟩
        · exact .inl ⟨[], congrArg V.str empty_S, by decide, fun c h => (by cases h)⟩
      k_extra "rr"
      refine ⟨by k_extra "sz", fun L nL => ?_⟩
      k_extra "rr"
      have okw : ∀ c ∈ letters, OkC c := by decide
      have oks : ∀ c ∈ signsL, OkC c := by decide
      have gall : ∀ x ∈ [V.str (SX.S lw), V.str (SX.S (List.take na.toNat lw ++ [co] ++ List.drop na.toNat lw)), V.str (SX.S lt), V.str (SX.S lt ++ Str.ofString "\""), V.str (SX.S lt ++ Str.ofString "\n"), V.str (SX.S (List.replicate nm.toNat 97)), vx], GoodV K H8 x := by
        intro x hm
        simp only [List.mem_cons, List.not_mem_nil, or_false] at hm
        rcases hm with rfl | rfl | rfl | rfl | rfl | rfl | rfl
        · exact .inl ⟨lw, rfl, by omega, fun c hc => okw c (hw1 c hc)⟩
        · refine .inl ⟨_, rfl, ?_, fun c hc => ?_⟩
          · rw [List.length_append, List.length_append, List.length_take, List.length_drop, List.length_singleton]
            omega
          · rcases List.mem_append.mp hc with hc | hc
            · rcases List.mem_append.mp hc with hc | hc
              · exact okw c (hw1 c (List.mem_of_mem_take hc))
              · rw [List.mem_singleton.mp hc]
                exact ho
            · exact okw c (hw1 c (List.mem_of_mem_drop hc))
        · exact .inl ⟨lt, rfl, by omega, fun c hc => oks c (hsg c hc)⟩
        · refine .inl ⟨lt ++ [34], by rw [show Str.ofString "\"" = SX.S [34] by decide +kernel, SX.S_cat], by rw [List.length_append, List.length_singleton]; omega, fun c hc => ?_⟩
          rcases List.mem_append.mp hc with hc | hc
          · exact oks c (hsg c hc)
          · rw [List.mem_singleton.mp hc]
            exact .inl (by decide)
        · refine .inl ⟨lt ++ [10], by rw [show Str.ofString "\n" = SX.S [10] by decide +kernel, SX.S_cat], by rw [List.length_append, List.length_singleton]; omega, fun c hc => ?_⟩
          rcases List.mem_append.mp hc with hc | hc
          · exact oks c (hsg c hc)
          · rw [List.mem_singleton.mp hc]
            exact .inr rfl
        · exact .inl ⟨_, rfl, by rw [List.length_replicate]; omega, fun c hc => by rw [List.eq_of_mem_replicate hc]; exact .inl (by decide)⟩
        · exact gx
      generalize hxs : [V.str (SX.S lw), V.str (SX.S (List.take na.toNat lw ++ [co] ++ List.drop na.toNat lw)), V.str (SX.S lt), V.str (SX.S lt ++ Str.ofString "\""), V.str (SX.S lt ++ Str.ofString "\n"), V.str (SX.S (List.replicate nm.toNat 97)), vx] = xs at gall
      have hb12 := hb11.new (o := .lst xs) nL
      refine for_list (K := K) (a := L) (xs := xs) (fun i' σ H' => ∃ (w3 w4 w5 w6 w7 w8 w9 w10 w11 w12 : Option V), σ = [some (.ref a), some (.ref b), some (.str "abcdefghijklmnopqrstuvwxyz"), w3, w4, w5, w6, w7, w8, w9, w10, w11, w12] ∧ Same (upd H8 L (.lst xs)) H')
        ⟨_, _, _, _, _, _, _, _, _, _, rfl, Same.refl _⟩ (fun i' σ H' _ ⟨_, _, _, _, _, _, _, _, _, _, _, s9⟩ => SqL.of (s9 _ _ upd_same)) ?_ ?_
      · rintro i' x σ H9 hx ⟨w3, w4, w5, w6, w7, w8, w9, w10, w11, w12, rfl, s9⟩
        have g1 : GoodV K H9 x := ((gall x (List.mem_of_getElem? hx)).same (same_upd nL)).same s9
        k_extra "r"
        k_extra "r"
        k_extra "r"
        refine toQ (v := .bl (wordB x 6)) (H := H9) (fun H10 s10 => ?_) (fun Q' q' => ?_)
        · k_extra "r"
          k_extra "r"
          k_extra "r"
          k_extra "r"
          refine toQ (v := .bl (textB x)) (H := H10) (fun H11 s11 => ?_) (fun Q' q' => ?_)
          · k_extra "rr"
            refine ⟨x, rfl, ((g1.same s10).same s11).or, fun H12 s12 => ?_⟩
            k_extra "rr"
            refine ⟨x, rfl, (((g1.same s10).same s11).same s12).or, fun H13 s13 => ?_⟩
            k_extra "rr"
            refine ⟨by k_extra "sz", fun pa npa => ?_⟩
            k_extra "rr"
            refine ⟨by k_extra "sz", fun pb npb => ?_⟩
            k_extra "rr"
            have nab : pa ≠ pb := ne_of_none upd_same npb
            refine ⟨_, _, rfl, .inr ⟨pa, pb, [.bl (wordB x 6), .bl (textB x)], [.bl (wordB x 6), .bl (textB x)], rfl, rfl, .inl ⟨SqL.of (upd2 nab upd_same), SqL.of upd_same⟩, rfl, (by show 2 ≤ 100000; decide), fun j y z hy hz => .inl ⟨Option.some.inj (hy.symm.trans hz), ?_⟩⟩, fun H14 s14 => ?_⟩
            · have hm := List.mem_of_getElem? hy
              simp only [List.mem_cons, List.not_mem_nil, or_false] at hm
              rcases hm with rfl | rfl <;> rfl
            · k_extra "rr"
              exact ⟨_, _, _, _, _, _, _, _, _, _, rfl, (((((s9.trans s10).trans s11).trans s12).trans s13).trans ((same_upd npa).trans (same_upd npb))).trans s14⟩
          · rcases g1 with ⟨l, rfl, hl1, hok⟩ | ⟨hn, T', hT, hk⟩
            · have hs : (SX.S l).length ≤ sizeLine := by rw [SX.S_len, sizeLine_eq]; omega
              have hl2 : l.length ≤ 100000 := by omega
              k_extra "rr"
              refine iteD (fun h1 => ?_) (fun h1 => ?_)
              · k_extra "rr"
                intro D nD
                refine lc_signs (p := fun c => (!decide (c = 34)) && !decide (c = 10)) (fun c H' Q' hc q' => ?_) (fun v => rfl) hl2 ?_
                · k_extra "rr"
                  rw [show Str.ofString "\"" = (⟨#[34]⟩ : Str) by decide +kernel, sg_eq c 34]
                  refine iteN (fun h3 => ?_) (fun h3 => ?_)
                  · k_extra "rr"
                    rw [show Str.ofString "\n" = (⟨#[10]⟩ : Str) by decide +kernel, sg_eq c 10]
                    rw [decide_eq_false h3] at q'
                    exact q'
                  · k_extra "rr"
                    rw [decide_eq_true h3] at q'
                    exact q'
                · k_extra "rr"
                  refine all_ (SqL.of upd_same) ?_
                  have e : textB (.str (SX.S l)) = (l.map fun c => (!decide (c = 34)) && !decide (c = 10)).all id := by
                    rw [← fits_eq hok]
                    show (decide (((SX.S l).length : Int) ≤ 20) && _) = _
                    rw [decide_eq_true h1, Bool.true_and]
                  rw [← e]
                  exact q' _ (same_upd nD)
              · k_extra "rr"
                have e : textB (.str (SX.S l)) = false := by
                  show (decide (((SX.S l).length : Int) ≤ 20) && _) = false
                  rw [decide_eq_false h1, Bool.false_and]
                rw [← e]
                exact q' _ (Same.refl _)
            · k_extra "rr"
              refine isi (TyX_same s10 hT) (kit_ty hk) ?_
              k_extra "rr"
              rw [← textB_no hn]
              exact q' _ (Same.refl _)
        · rcases g1 with ⟨l, rfl, hl1, hok⟩ | ⟨hn, T', hT, hk⟩
          · have hs : (SX.S l).length ≤ sizeLine := by rw [SX.S_len, sizeLine_eq]; omega
            have hl2 : l.length ≤ 100000 := by omega
            k_extra "rr"
            refine iteD (fun h1 => ?_) (fun h1 => ?_)
            · k_extra "rr"
              cases h2 : decide (((SX.S l).length : Int) ≤ 6) with
              | false =>
                k_extra "rr"
                have e : wordB (.str (SX.S l)) 6 = false := by
                  show (_ && (decide (((SX.S l).length : Int) ≤ 6) && _)) = false
                  rw [h2, Bool.false_and, Bool.and_false]
                rw [← e]
                exact q' _ (Same.refl _)
              | true =>
                k_extra "rr"
                intro D nD
                refine lc_signs (p := fun c => decide (c ∈ letters)) (fun c H' Q' hc q' => ?_) (fun v => rfl) hl2 ?_
                · k_extra "rr"
                  rw [letters_eq]
                  exact q'
                · k_extra "rr"
                  refine all_ (SqL.of upd_same) ?_
                  have e : wordB (.str (SX.S l)) 6 = (l.map fun c => decide (c ∈ letters)).all id := by
                    show (decide (1 ≤ ((SX.S l).length : Int)) && (decide (((SX.S l).length : Int) ≤ 6) && _)) = _
                    rw [h2, decide_eq_true h1, Bool.true_and, Bool.true_and]
                  rw [← e]
                  exact q' _ (same_upd nD)
            · k_extra "rr"
              have e : wordB (.str (SX.S l)) 6 = false := by
                show (decide (1 ≤ ((SX.S l).length : Int)) && _) = false
                rw [decide_eq_false h1, Bool.false_and]
              rw [← e]
              exact q' _ (Same.refl _)
          · k_extra "rr"
            refine isi hT (kit_ty hk) ?_
            k_extra "rr"
            rw [← wordB_no hn 6]
            exact q' _ (Same.refl _)
      · rintro σ H9 ⟨w3, w4, w5, w6, w7, w8, w9, w10, w11, w12, rfl, s9⟩
        k_extra "rr"
        exact ⟨_, _, _, _, _, _, _, _, _, _, rfl, hb12.same s9⟩
    · rintro σ H2 ⟨v3, v4, v5, v6, v7, v8, v9, v10, v11, v12, rfl, hb2⟩
      k_extra "rr"
      rw [decide_eq_true rfl]
      k_extra "rr"
      have er : Str.ofString "rest" = SX.S [114, 101, 115, 116] := by decide +kernel
      refine ⟨_, rfl, .inl ⟨_, congrArg V.str er, by decide⟩, fun H3 s3 => ?_⟩
      rw [show wordB (V.str "rest") 6 = true by decide +kernel]
      k_extra "rr"
      refine ⟨_, rfl, .inl ⟨_, congrArg V.str empty_S, by decide⟩, fun H4 s4 => ?_⟩
      rw [show textB (V.str "") = true by decide +kernel]
      k_extra "rr"
      refine ⟨_, rfl, .inl ⟨_, congrArg V.str empty_S, by decide⟩, fun H5 s5 => ?_⟩
      rw [show wordB (V.str "") 6 = false by decide +kernel]
      k_extra "rr"
      exact q H5
end

/-! ### what the top has written, and the head -/
theorem kb1 {K : PySem.W.Frag} {x p : Str} {st : Stmt} {f : Addr} {fd : FuncData} (F : Fun K x x st f fd)
    (h : ∀ (kV doc pm : Value) (an : Option Addr) (cdv ct u : Value), bindArgs (PySem.W.fnOf x x (defArgs st) (defBody st) (defScope st) .none kV doc pm an cdv ct) ⟨[], [(p, u)]⟩ = pure [(p, u)])
    (h2 : ∀ (kV doc pm : Value) (an : Option Addr) (cdv ct u : Value), bindArgs (PySem.W.fnOf x x (defArgs st) (defBody st) (defScope st) .none kV doc pm an cdv ct) ⟨[u], []⟩ = pure [(p, u)]) :
    KBinds K fd [p] [p] (fun us ws => us ++ ws) (fun us ws => us ++ ws) := by
  obtain ⟨oc, od, kV, doc, pm, an, cdv, ct, osl, rfl, lk, hcd⟩ := F.ex
  refine ⟨fun s us ws _ hl => ?_, fun a b => a.append b⟩
  match us, ws, hl with
  | [], [u], _ => exact .of_eq (h kV doc pm an cdv ct u)
  | [u], [], _ => exact .of_eq (h2 kV doc pm an cdv ct u)
theorem all_mk {l : PySem.W.OpenLaw} {w : World} {K : PySem.W.Frag} {h : Heap} {mg : Str → Option Value} {fa f_is_word f_is_kind f_is_sign f_is_text f_law_bag f_law_take f_law_of f_law_words f_law_sign_text f_law_alike f_law : Addr} (X : K.In h) (G : h.Ns mainGlobals mg) (hfa : mg "law" = some (.ref fa))
    {od_is_word an_is_word od_is_kind an_is_kind od_is_sign an_is_sign od_is_text an_is_text od_law_bag an_law_bag od_law_take an_law_take od_law_of an_law_of od_law_words an_law_words od_law_sign_text an_law_sign_text od_law_alike an_law_alike od_law an_law : Option Addr} {sl_is_word sl_is_kind sl_is_sign sl_is_text sl_law_bag sl_law_take sl_law_of sl_law_words sl_law_sign_text sl_law_alike sl_law : Array (Option Value)} {oc_is_word kV_is_word dc_is_word pm_is_word cd_is_word ct_is_word oc_is_kind kV_is_kind dc_is_kind pm_is_kind cd_is_kind ct_is_kind oc_is_sign kV_is_sign dc_is_sign pm_is_sign cd_is_sign ct_is_sign oc_is_text kV_is_text dc_is_text pm_is_text cd_is_text ct_is_text oc_law_bag kV_law_bag dc_law_bag pm_law_bag cd_law_bag ct_law_bag oc_law_take kV_law_take dc_law_take pm_law_take cd_law_take ct_law_take oc_law_of kV_law_of dc_law_of pm_law_of cd_law_of ct_law_of oc_law_words kV_law_words dc_law_words pm_law_words cd_law_words ct_law_words oc_law_sign_text kV_law_sign_text dc_law_sign_text pm_law_sign_text cd_law_sign_text ct_law_sign_text oc_law_alike kV_law_alike dc_law_alike pm_law_alike cd_law_alike ct_law_alike oc_law kV_law dc_law pm_law cd_law ct_law : Value} {t_SMALL t_REST t_MOST_LETTERS t_MOST_SIGNS : Tok}
    (a_is_word : PySem.W.nsIn K mainGlobals "is_word" = some (some (.ref f_is_word))) (l_is_word : K.lookup f_is_word = some ⟨oc_is_word, od_is_word, .func (PySem.W.fnOf "is_word" "is_word" (defArgs s_is_word) (defBody s_is_word) (defScope s_is_word) .none kV_is_word dc_is_word pm_is_word an_is_word cd_is_word ct_is_word), sl_is_word⟩) (c_is_word : PySem.W.codeIn K cd_is_word "is_word" = true) (k_is_word : PySem.W.keepIn K (.ref f_is_word) = true)
    (a_is_kind : PySem.W.nsIn K mainGlobals "is_kind" = some (some (.ref f_is_kind))) (l_is_kind : K.lookup f_is_kind = some ⟨oc_is_kind, od_is_kind, .func (PySem.W.fnOf "is_kind" "is_kind" (defArgs s_is_kind) (defBody s_is_kind) (defScope s_is_kind) .none kV_is_kind dc_is_kind pm_is_kind an_is_kind cd_is_kind ct_is_kind), sl_is_kind⟩) (c_is_kind : PySem.W.codeIn K cd_is_kind "is_kind" = true) (k_is_kind : PySem.W.keepIn K (.ref f_is_kind) = true)
    (a_is_sign : PySem.W.nsIn K mainGlobals "is_sign" = some (some (.ref f_is_sign))) (l_is_sign : K.lookup f_is_sign = some ⟨oc_is_sign, od_is_sign, .func (PySem.W.fnOf "is_sign" "is_sign" (defArgs s_is_sign) (defBody s_is_sign) (defScope s_is_sign) .none kV_is_sign dc_is_sign pm_is_sign an_is_sign cd_is_sign ct_is_sign), sl_is_sign⟩) (c_is_sign : PySem.W.codeIn K cd_is_sign "is_sign" = true) (k_is_sign : PySem.W.keepIn K (.ref f_is_sign) = true)
    (a_is_text : PySem.W.nsIn K mainGlobals "is_text" = some (some (.ref f_is_text))) (l_is_text : K.lookup f_is_text = some ⟨oc_is_text, od_is_text, .func (PySem.W.fnOf "is_text" "is_text" (defArgs s_is_text) (defBody s_is_text) (defScope s_is_text) .none kV_is_text dc_is_text pm_is_text an_is_text cd_is_text ct_is_text), sl_is_text⟩) (c_is_text : PySem.W.codeIn K cd_is_text "is_text" = true) (k_is_text : PySem.W.keepIn K (.ref f_is_text) = true)
    (a_law_bag : PySem.W.nsIn K mainGlobals "_law_bag" = some (some (.ref f_law_bag))) (l_law_bag : K.lookup f_law_bag = some ⟨oc_law_bag, od_law_bag, .func (PySem.W.fnOf "_law_bag" "_law_bag" (defArgs s_law_bag) (defBody s_law_bag) (defScope s_law_bag) .none kV_law_bag dc_law_bag pm_law_bag an_law_bag cd_law_bag ct_law_bag), sl_law_bag⟩) (c_law_bag : PySem.W.codeIn K cd_law_bag "_law_bag" = true) (k_law_bag : PySem.W.keepIn K (.ref f_law_bag) = true)
    (a_law_take : PySem.W.nsIn K mainGlobals "_law_take" = some (some (.ref f_law_take))) (l_law_take : K.lookup f_law_take = some ⟨oc_law_take, od_law_take, .func (PySem.W.fnOf "_law_take" "_law_take" (defArgs s_law_take) (defBody s_law_take) (defScope s_law_take) .none kV_law_take dc_law_take pm_law_take an_law_take cd_law_take ct_law_take), sl_law_take⟩) (c_law_take : PySem.W.codeIn K cd_law_take "_law_take" = true) (k_law_take : PySem.W.keepIn K (.ref f_law_take) = true)
    (a_law_of : PySem.W.nsIn K mainGlobals "_law_of" = some (some (.ref f_law_of))) (l_law_of : K.lookup f_law_of = some ⟨oc_law_of, od_law_of, .func (PySem.W.fnOf "_law_of" "_law_of" (defArgs s_law_of) (defBody s_law_of) (defScope s_law_of) .none kV_law_of dc_law_of pm_law_of an_law_of cd_law_of ct_law_of), sl_law_of⟩) (c_law_of : PySem.W.codeIn K cd_law_of "_law_of" = true) (k_law_of : PySem.W.keepIn K (.ref f_law_of) = true)
    (a_law_words : PySem.W.nsIn K mainGlobals "_law_words" = some (some (.ref f_law_words))) (l_law_words : K.lookup f_law_words = some ⟨oc_law_words, od_law_words, .func (PySem.W.fnOf "_law_words" "_law_words" (defArgs s_law_words) (defBody s_law_words) (defScope s_law_words) .none kV_law_words dc_law_words pm_law_words an_law_words cd_law_words ct_law_words), sl_law_words⟩) (c_law_words : PySem.W.codeIn K cd_law_words "_law_words" = true) (k_law_words : PySem.W.keepIn K (.ref f_law_words) = true)
    (a_law_sign_text : PySem.W.nsIn K mainGlobals "_law_sign_text" = some (some (.ref f_law_sign_text))) (l_law_sign_text : K.lookup f_law_sign_text = some ⟨oc_law_sign_text, od_law_sign_text, .func (PySem.W.fnOf "_law_sign_text" "_law_sign_text" (defArgs s_law_sign_text) (defBody s_law_sign_text) (defScope s_law_sign_text) .none kV_law_sign_text dc_law_sign_text pm_law_sign_text an_law_sign_text cd_law_sign_text ct_law_sign_text), sl_law_sign_text⟩) (c_law_sign_text : PySem.W.codeIn K cd_law_sign_text "_law_sign_text" = true) (k_law_sign_text : PySem.W.keepIn K (.ref f_law_sign_text) = true)
    (a_law_alike : PySem.W.nsIn K mainGlobals "_law_alike" = some (some (.ref f_law_alike))) (l_law_alike : K.lookup f_law_alike = some ⟨oc_law_alike, od_law_alike, .func (PySem.W.fnOf "_law_alike" "_law_alike" (defArgs s_law_alike) (defBody s_law_alike) (defScope s_law_alike) .none kV_law_alike dc_law_alike pm_law_alike an_law_alike cd_law_alike ct_law_alike), sl_law_alike⟩) (c_law_alike : PySem.W.codeIn K cd_law_alike "_law_alike" = true) (k_law_alike : PySem.W.keepIn K (.ref f_law_alike) = true)
    (a_law : PySem.W.nsIn K mainGlobals "law" = some (some (.ref f_law))) (l_law : K.lookup f_law = some ⟨oc_law, od_law, .func (PySem.W.fnOf "law" "law" (defArgs s_law) (defBody s_law) (defScope s_law) .none kV_law dc_law pm_law an_law cd_law ct_law), sl_law⟩) (c_law : PySem.W.codeIn K cd_law "law" = true) (k_law : PySem.W.keepIn K (.ref f_law) = true)
    (z_len : PySem.W.nsIn K mainGlobals "len" = some none) (z_int : PySem.W.nsIn K mainGlobals "int" = some none) (z_range : PySem.W.nsIn K mainGlobals "range" = some none) (z_isinstance : PySem.W.nsIn K mainGlobals "isinstance" = some none) (z_all : PySem.W.nsIn K mainGlobals "all" = some none) (z_list : PySem.W.nsIn K mainGlobals "list" = some none) (z_tuple : PySem.W.nsIn K mainGlobals "tuple" = some none) (z_str : PySem.W.nsIn K mainGlobals "str" = some none) (z_sorted : PySem.W.nsIn K mainGlobals "sorted" = some none) (z_zip : PySem.W.nsIn K mainGlobals "zip" = some none) (z_bool : PySem.W.nsIn K mainGlobals "bool" = some none) (z_dict : PySem.W.nsIn K mainGlobals "dict" = some none) (v_SMALL : PySem.W.nsIn K mainGlobals "SMALL" = some (some (.str "abcdefghijklmnopqrstuvwxyz" t_SMALL))) (v_REST : PySem.W.nsIn K mainGlobals "REST" = some (some (.str "rest" t_REST))) (v_MOST_LETTERS : PySem.W.nsIn K mainGlobals "MOST_LETTERS" = some (some (.int 6 t_MOST_LETTERS))) (v_MOST_SIGNS : PySem.W.nsIn K mainGlobals "MOST_SIGNS" = some (some (.int 20 t_MOST_SIGNS))) :
    ∃ fd : FuncData, (∀ (s : Shared) (v : Value), BindsTo s fd ⟨[v], []⟩ [("_law_script", v)]) ∧ ∀ base : Heap, K.In base → base.Ns mainGlobals mg → FnOk l.prog w K mg base CX0 4 fa fd ["_law_script"] (spLaw K) := by
  have e := hfa.symm.trans (PySem.W.mg_of X G a_law)
  cases e
  have T : Txt mg := ⟨PySem.W.mg_none_of X G z_len, PySem.W.mg_none_of X G z_int, PySem.W.mg_none_of X G z_range, PySem.W.mg_none_of X G z_isinstance, PySem.W.mg_none_of X G z_all, PySem.W.mg_none_of X G z_list, PySem.W.mg_none_of X G z_tuple, PySem.W.mg_none_of X G z_str, PySem.W.mg_none_of X G z_sorted, PySem.W.mg_none_of X G z_zip, PySem.W.mg_none_of X G z_bool, PySem.W.mg_none_of X G z_dict, ⟨_, PySem.W.mg_of X G v_SMALL, _, rfl⟩, ⟨_, PySem.W.mg_of X G v_REST, _, rfl⟩, ⟨_, PySem.W.mg_of X G v_MOST_LETTERS, _, rfl⟩, ⟨_, PySem.W.mg_of X G v_MOST_SIGNS, _, rfl⟩⟩
  have F_is_word := fun_mk (st := s_is_word) l_is_word c_is_word k_is_word
  have m_is_word := PySem.W.mg_of X G a_is_word
  have b_is_word := F_is_word.binds (ps := ["value", "most"]) fun _ _ _ _ _ _ us hl => match us, hl with | [_, _], _ => rfl
  have F_is_kind := fun_mk (st := s_is_kind) l_is_kind c_is_kind k_is_kind
  have m_is_kind := PySem.W.mg_of X G a_is_kind
  have b_is_kind := F_is_kind.binds (ps := ["value"]) fun _ _ _ _ _ _ us hl => match us, hl with | [_], _ => rfl
  have F_is_sign := fun_mk (st := s_is_sign) l_is_sign c_is_sign k_is_sign
  have m_is_sign := PySem.W.mg_of X G a_is_sign
  have b_is_sign := F_is_sign.binds (ps := ["sign"]) fun _ _ _ _ _ _ us hl => match us, hl with | [_], _ => rfl
  have F_is_text := fun_mk (st := s_is_text) l_is_text c_is_text k_is_text
  have m_is_text := PySem.W.mg_of X G a_is_text
  have b_is_text := F_is_text.binds (ps := ["value"]) fun _ _ _ _ _ _ us hl => match us, hl with | [_], _ => rfl
  have F_law_bag := fun_mk (st := s_law_bag) l_law_bag c_law_bag k_law_bag
  have m_law_bag := PySem.W.mg_of X G a_law_bag
  have b_law_bag := F_law_bag.binds (ps := ["_law_script"]) fun _ _ _ _ _ _ us hl => match us, hl with | [_], _ => rfl
  have F_law_take := fun_mk (st := s_law_take) l_law_take c_law_take k_law_take
  have m_law_take := PySem.W.mg_of X G a_law_take
  have b_law_take := F_law_take.binds (ps := ["_law_bag_z", "_law_many"]) fun _ _ _ _ _ _ us hl => match us, hl with | [_, _], _ => rfl
  have F_law_of := fun_mk (st := s_law_of) l_law_of c_law_of k_law_of
  have m_law_of := PySem.W.mg_of X G a_law_of
  have b_law_of := F_law_of.binds (ps := ["_law_bag_z", "_law_things"]) fun _ _ _ _ _ _ us hl => match us, hl with | [_, _], _ => rfl
  have F_law_words := fun_mk (st := s_law_words) l_law_words c_law_words k_law_words
  have m_law_words := PySem.W.mg_of X G a_law_words
  have b_law_words := F_law_words.binds (ps := ["_law_bag_z", "_law_many", "_law_most"]) fun _ _ _ _ _ _ us hl => match us, hl with | [_, _, _], _ => rfl
  have F_law_sign_text := fun_mk (st := s_law_sign_text) l_law_sign_text c_law_sign_text k_law_sign_text
  have m_law_sign_text := PySem.W.mg_of X G a_law_sign_text
  have b_law_sign_text := F_law_sign_text.binds (ps := ["_law_bag_z", "_law_most"]) fun _ _ _ _ _ _ us hl => match us, hl with | [_, _], _ => rfl
  have F_law_alike := fun_mk (st := s_law_alike) l_law_alike c_law_alike k_law_alike
  have m_law_alike := PySem.W.mg_of X G a_law_alike
  have b_law_alike := F_law_alike.binds (ps := ["_law_found", "_law_due"]) fun _ _ _ _ _ _ us hl => match us, hl with | [_, _], _ => rfl
  have F_law := fun_mk (st := s_law) l_law c_law k_law
  have m_law := PySem.W.mg_of X G a_law
  have b_law := F_law.binds (ps := ["_law_script"]) fun _ _ _ _ _ _ us hl => match us, hl with | [_], _ => rfl
  refine ⟨PySem.W.fnOf "law" "law" (defArgs s_law) (defBody s_law) (defScope s_law) .none kV_law dc_law pm_law an_law cd_law ct_law, fun s v => .of_eq rfl, fun base _ _ => ?_⟩
  have c_bag : Cal l.prog w K mg base 1 "_law_bag" (spBag K) := ⟨_, _, _, ok_law_bag F_law_bag T, m_law_bag, k_law_bag, b_law_bag⟩
  have c_take : Cal l.prog w K mg base 1 "_law_take" spTake := ⟨_, _, _, ok_law_take F_law_take T, m_law_take, k_law_take, b_law_take⟩
  have c_of : Cal l.prog w K mg base 2 "_law_of" (spOf K) := ⟨_, _, _, ok_law_of F_law_of T c_take, m_law_of, k_law_of, b_law_of⟩
  have c_words : Cal l.prog w K mg base 3 "_law_words" spWords := ⟨_, _, _, ok_law_words F_law_words T c_take c_of, m_law_words, k_law_words, b_law_words⟩
  have c_sign_text : Cal l.prog w K mg base 2 "_law_sign_text" spSign := ⟨_, _, _, ok_law_sign_text F_law_sign_text T c_take, m_law_sign_text, k_law_sign_text, b_law_sign_text⟩
  have c_al0 : Cal l.prog w K mg base 1 "_law_alike" (spAlike K 0) := ⟨_, _, _, ok_law_alike0 F_law_alike, m_law_alike, k_law_alike, b_law_alike⟩
  have c_al1 : Cal l.prog w K mg base 2 "_law_alike" (spAlike K 1) := ⟨_, _, _, ok_law_alike1 F_law_alike T c_al0, m_law_alike, k_law_alike, b_law_alike⟩
  have c_al2 : Cal l.prog w K mg base 3 "_law_alike" (spAlike K 2) := ⟨_, _, _, ok_law_alike1 F_law_alike T c_al1, m_law_alike, k_law_alike, b_law_alike⟩
  have c_isw : Cal l.prog w K mg base 1 "is_word" (spWord K) := ⟨_, _, _, ok_is_word F_is_word T, m_is_word, k_is_word, b_is_word⟩
  have c_isk : Cal l.prog w K mg base 2 "is_kind" (spKind K) := ⟨_, _, _, ok_is_kind F_is_kind T c_isw, m_is_kind, k_is_kind, b_is_kind⟩
  have c_iss : Cal l.prog w K mg base 1 "is_sign" spIsSign := ⟨_, _, _, ok_is_sign F_is_sign T, m_is_sign, k_is_sign, b_is_sign⟩
  have c_ist : Cal l.prog w K mg base 2 "is_text" (spText K) := ⟨_, _, _, ok_is_text F_is_text T c_iss, m_is_text, k_is_text, b_is_text⟩
  have q_isk : CalK l.prog w K mg base 2 "is_kind" ["value"] (fun us ws => us ++ ws) (spKind K) := ⟨_, _, _, _, ok_is_kind F_is_kind T c_isw, m_is_kind, k_is_kind, kb1 F_is_kind (fun _ _ _ _ _ _ _ => rfl) (fun _ _ _ _ _ _ _ => rfl)⟩
  have q_ist : CalK l.prog w K mg base 2 "is_text" ["value"] (fun us ws => us ++ ws) (spText K) := ⟨_, _, _, _, ok_is_text F_is_text T c_iss, m_is_text, k_is_text, kb1 F_is_text (fun _ _ _ _ _ _ _ => rfl) (fun _ _ _ _ _ _ _ => rfl)⟩
  exact ok_law F_law T c_bag c_take c_of c_words c_sign_text c_al2 c_isk c_ist q_isk q_ist
theorem walk {l : PySem.W.OpenLaw} {q : Program} {loose : List Str} {XP : (Str → Option Value) → Heap → Prop} {YP : World → Heap → Prop} {d : DefRec} {K : Params → PySem.W.Frag} (hn : l.most = some 63) (hdf : d.params.defaults = [])
    (hY : ∀ (w : World) (h : Heap), YP w h → (K w.params).In h)
    (F : ∀ (w : World) (mg : Str → Option Value) (fa : Addr) (h : Heap), (K w.params).In h → h.Ns mainGlobals mg → mg d.name = some (.ref fa) →
      ∃ fd : FuncData, (∀ (s : Shared) (u : Value), BindsTo s fd ⟨[u], []⟩ [("_law_script", u)]) ∧ ∀ base : Heap, (K w.params).In base → base.Ns mainGlobals mg → FnOk l.prog w (K w.params) mg base CX0 4 fa fd ["_law_script"] (spLaw (K w.params))) :
    PySem.W.WalkO q loose XP YP l.row.toRowW d [] (fun f vs => PySem.call f vs) :=
  L2.walk_of (n := 63) (k := 4) (x := "_law_script") (CX := fun _ => CX0) (sp := fun w => spLaw (K w.params)) hn (by decide) hdf ⟨rfl, by decide, by decide⟩ hY F (fun _ _ a ns hl _ hS => ⟨a, ns, rfl, hS, hl, fun _ => rfl⟩) fun _ _ _ _ _ z => z
end Pf
open PySem PySem.W PyProof.Rows
set_option maxRecDepth 100000 in
set_option maxHeartbeats 0 in
theorem PySem.Challenge.cw_rubgrove_k01_kinds_and_texts_holds : PySem.Challenge.rw_rubgrove_k01_kinds_and_texts.Holds := by
  w_on; o_law; k_head; (case hw => w_witness2)
  k_fill
  refine Pf.walk (l := PySem.Challenge.rw_rubgrove_k01_kinds_and_texts) rfl rfl (fun w h Y => PySem.W.kIn_of Y) ?F
  case F =>
    intro w mg fa h KX G hmg
    refine' Pf.all_mk KX G hmg ?a_is_word ?l_is_word ?c_is_word ?k_is_word ?a_is_kind ?l_is_kind ?c_is_kind ?k_is_kind ?a_is_sign ?l_is_sign ?c_is_sign ?k_is_sign ?a_is_text ?l_is_text ?c_is_text ?k_is_text ?a_law_bag ?l_law_bag ?c_law_bag ?k_law_bag ?a_law_take ?l_law_take ?c_law_take ?k_law_take ?a_law_of ?l_law_of ?c_law_of ?k_law_of ?a_law_words ?l_law_words ?c_law_words ?k_law_words ?a_law_sign_text ?l_law_sign_text ?c_law_sign_text ?k_law_sign_text ?a_law_alike ?l_law_alike ?c_law_alike ?k_law_alike ?a_law ?l_law ?c_law ?k_law ?z_len ?z_int ?z_range ?z_isinstance ?z_all ?z_list ?z_tuple ?z_str ?z_sorted ?z_zip ?z_bool ?z_dict ?v_SMALL ?v_REST ?v_MOST_LETTERS ?v_MOST_SIGNS
    (case a_is_word => k_is)
    (case l_is_word => k_is)
    (case c_is_word => k_is)
    (case k_is_word => k_is)
    (case a_is_kind => k_is)
    (case l_is_kind => k_is)
    (case c_is_kind => k_is)
    (case k_is_kind => k_is)
    (case a_is_sign => k_is)
    (case l_is_sign => k_is)
    (case c_is_sign => k_is)
    (case k_is_sign => k_is)
    (case a_is_text => k_is)
    (case l_is_text => k_is)
    (case c_is_text => k_is)
    (case k_is_text => k_is)
    (case a_law_bag => k_is)
    (case l_law_bag => k_is)
    (case c_law_bag => k_is)
    (case k_law_bag => k_is)
    (case a_law_take => k_is)
    (case l_law_take => k_is)
    (case c_law_take => k_is)
    (case k_law_take => k_is)
    (case a_law_of => k_is)
    (case l_law_of => k_is)
    (case c_law_of => k_is)
    (case k_law_of => k_is)
    (case a_law_words => k_is)
    (case l_law_words => k_is)
    (case c_law_words => k_is)
    (case k_law_words => k_is)
    (case a_law_sign_text => k_is)
    (case l_law_sign_text => k_is)
    (case c_law_sign_text => k_is)
    (case k_law_sign_text => k_is)
    (case a_law_alike => k_is)
    (case l_law_alike => k_is)
    (case c_law_alike => k_is)
    (case k_law_alike => k_is)
    (case a_law => k_is)
    (case l_law => k_is)
    (case c_law => k_is)
    (case k_law => k_is)
    (case z_len => k_is)
    (case z_int => k_is)
    (case z_range => k_is)
    (case z_isinstance => k_is)
    (case z_all => k_is)
    (case z_list => k_is)
    (case z_tuple => k_is)
    (case z_str => k_is)
    (case z_sorted => k_is)
    (case z_zip => k_is)
    (case z_bool => k_is)
    (case z_dict => k_is)
    (case v_SMALL => k_is)
    (case v_REST => k_is)
    (case v_MOST_LETTERS => k_is)
    (case v_MOST_SIGNS => k_is)


