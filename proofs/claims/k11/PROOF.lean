import PyProof.Rows.All
import Wide.All
import OpenK.AllK
import Wide.FinOn
import HandS.ForMost
import HandS.IsInst
import HandS.Zip
import HandS.TupAny
import HandS.Flow
import HandS.Style
import HandS.Codes
import HandS.Steps
import HandS.Wide
import HandS.Walk
import HandS.Star
import HandS.FStr
import HandS.ExcCtx
import HandS.ExcField
import HandS.HotCalls
import HandS.ExcInit
import HandS.Lambda
import HandS.EndTab
import HandS.WordsExc
import KE.GoesMore
import KE.KDflt
import KE.KUnpackStar
import HandS.ClsMeth
import HandS.Defaults
import PyProof.Draws
import HandS.TryOnly
import HandS.SetBool
import HandS.DictComp
import HandS.Conv
import HandS.Strs
import HandS.MakeKw
import PySem.Challenge.RW_rubgrove_k11_lines_checked
set_option Elab.async false
set_option linter.all false
set_option maxRecDepth 100000
set_option maxHeartbeats 4000000
namespace Rg
open PySem L2

/-! ### calls of own defs -/
structure Cal (P : Program) (w : World) (K : PySem.W.Frag) (mg : Str → Option Value) (base : Heap) (k : Nat) (x : Str) (sp : Sp) : Prop where
  ex : ∃ (f : Addr) (fd : FuncData) (ps : List Str), FnOk P w K mg base CX0 k f fd ps sp ∧ mg x = some (.ref f) ∧ PySem.W.keepIn K (.ref f) = true ∧ Binds K fd ps []
structure CalK (P : Program) (w : World) (K : PySem.W.Frag) (mg : Str → Option Value) (base : Heap) (k : Nat) (x : Str) (ks : List Str) (gV : List V → List V → List V) (sp : Sp) : Prop where
  ex : ∃ (f : Addr) (fd : FuncData) (ps : List Str) (g : List Value → List Value → List Value), FnOk P w K mg base CX0 k f fd ps sp ∧ mg x = some (.ref f) ∧ PySem.W.keepIn K (.ref f) = true ∧ KBinds K fd ps ks g gV
def tCC (sp : Sp) (t : TA) : TE := fun σ H Q => t σ H fun vs H1 => sp vs H1 Q E0
def tCK (sp : Sp) (gV : List V → List V → List V) (t tk : TA) : TE := fun σ H Q => t σ H fun vs H1 => tk σ H1 fun zs H2 => sp (gV vs zs) H2 Q E0
section
variable {X : Cx} {k j : Nat} {x : Str} {sp : Sp} {p pos : Pos} {e : Expr} {es : List Expr} {t tk : TA} {ks : List Str} {gV : List V → List V → List V} {kws : List Keyword}
theorem pe_c (c : Cal X.prog X.w X.K X.mg X.base k x sp) (hr : Room j X.A) (hk : k ≤ j) (hg : Gl X x) (ha : PA X (e :: es) t) (hdb : (x == ("__debug__" : Str)) = false := by decide)
    (he : starEach (e :: es) X.env = (false, eval e X.env) :: starEach es X.env := by rfl) (hpl : (backTo pos (starEach es X.env)).any (·.1) = false := by rfl) : PE X (.Call (.Name x p) (e :: es) [] pos) (tCC sp t) := by
  obtain ⟨f, fd, ps, F, hm, hkp, hb⟩ := c.ex
  refine ⟨fun pins s σ H Q I h => ?_⟩
  refine (pe_call (dvs := []) (ds := []) F (hr.mono hk) hg hm hkp hb .nil pass0 ha hdb he hpl).run pins s σ H Q I ?_
  have e0 : (fun (vs : List V) (H1 : Hp) => sp (vs ++ []) H1 Q E0) = fun vs H1 => sp vs H1 Q E0 := by
    funext vs H1
    rw [List.append_nil]
  show t σ H (fun vs H1 => sp (vs ++ []) H1 Q E0)
  rw [e0]
  exact h
theorem pe_gc {v : V} (hg : Gl X x) (h : ∃ u, X.mg x = some u ∧ RelV v u) (hd : (x == ("__debug__" : Str)) = false := by decide) : PE X (.Name x pos) (tC v) := by
  obtain ⟨u, hm, r⟩ := h
  exact pe_glob hg hm r hd
end

/-! ### operators for several kinds of values -/
def rMulS : R2 := fun x y H Q => ∃ (z : Str) (n : Int), x = .str z ∧ y = .int n ∧ z.length ≤ 1000 ∧ 0 ≤ n ∧ n ≤ 1000 ∧ Q (.str (Txt.mul z n)) H
theorem mulOk {z : Str} {n : Int} (h1 : z.length ≤ 1000) (h2 : 0 ≤ n) (h3 : n ≤ 1000) : MulOk z n := by
  refine ⟨?_, fun hn _ h => ?_, fun hn _ => ?_⟩
  · rw [decide_eq_false (by omega), decide_eq_false (by omega)]
    rfl
  · have h5 : (z.length : Int) * n ≤ 1000 * 1000 := by
      have a := Int.mul_le_mul (show (z.length : Int) ≤ 1000 by omega) h3 h2 (by omega)
      exact a
    have h6 : (z.length : Int) ≤ (2 ^ 63 - 1) / n := by
      rw [Int.le_ediv_iff_mul_le (by omega)]
      omega
    omega
  · have h5 : z.length * n.toNat ≤ 1000 * 1000 := Nat.mul_le_mul h1 (by omega)
    show decide (z.length * n.toNat > sizeLine) = false
    rw [decide_eq_false (by rw [sizeLine_eq]; omega)]
section
variable {X : Cx} {k : Nat}
theorem op_mulS : OpR X (binaryOp .Mult) rMulS := by
  intro pins s σ H x y v u Q I rx ry h
  obtain ⟨z, n, rfl, rfl, h1, h2, h3, q⟩ := h
  obtain ⟨t, rfl⟩ := rx
  obtain ⟨t', rfl⟩ := ry
  exact SB.mul (mulOk h1 h2 h3) fun t' k => ⟨.str _, H, I.tok _, ⟨_, rfl⟩, q⟩
def rMulX : R2 := fun x y H Q => rI CMul (fun i j => .int (i * j)) x y H Q ∨ rMulS x y H Q
theorem op_mulX : OpR X (binaryOp .Mult) rMulX := OpR.or op_mul op_mulS
def rAddS : R2 := fun x y H Q => ∃ i j, x = .str i ∧ y = .str j ∧ i.length + j.length ≤ sizeLine ∧ Q (.str (i ++ j)) H
def rAddX (K : PySem.W.Frag) : R2 := fun x y H Q => rI0 (fun i j => .int (i + j)) x y H Q ∨ rAddS x y H Q ∨ rCat x y H Q ∨ rCatA K x y H Q
theorem op_addX (K : PySem.W.Frag) (hK : X.K = K := by rfl) : OpR X (binaryOp .Add) (rAddX K) := by subst hK; exact OpR.or op_add (OpR.or op_add_str (OpR.or op_cat op_catA))
def rEqX (K : PySem.W.Frag) : R2 := fun x y H Q => rEq x y H Q ∨ rEqD K x y H Q
theorem op_eqX (K : PySem.W.Frag) (hr : Room k X.A) (hK : X.K = K := by rfl) : OpR X (compareOp .Eq) (rEqX K) := by subst hK; exact OpR.or op_eq (op_eqD hr.units)
def rNeX (K : PySem.W.Frag) : R2 := fun x y H Q => rNe x y H Q ∨ rNeD K x y H Q
theorem op_neX (K : PySem.W.Frag) (hr : Room k X.A) (hK : X.K = K := by rfl) : OpR X (compareOp .NotEq) (rNeX K) := by subst hK; exact OpR.or op_ne (op_neD hr.units)
def rInX (K : PySem.W.Frag) : R2 := fun x y H Q => rInS x y H Q ∨ rIn K false x y H Q
theorem op_inX (K : PySem.W.Frag) (hK : X.K = K := by rfl) : OpR X (compareOp .In) (rInX K) := by subst hK; exact OpR.or op_inS op_in_seq
def rNinX (K : PySem.W.Frag) : R2 := fun x y H Q => rNotInS x y H Q ∨ rIn K true x y H Q
theorem op_ninX (K : PySem.W.Frag) (hK : X.K = K := by rfl) : OpR X (compareOp .NotIn) (rNinX K) := by subst hK; exact OpR.or op_notInS op_notIn_seq
def rSlX (K : PySem.W.Frag) : V → Option Int → Option Int → Hp → VK → Prop := fun x lo hi H Q => rSlL K x lo hi H Q ∨ rSlS x lo hi H Q ∨ rSlA K x lo hi H Q
theorem sl_X (K : PySem.W.Frag) (hK : X.K = K := by rfl) : SlR X (rSlX K) := by subst hK; exact SlR.or sl_list (SlR.or sl_str sl_tupA)
theorem ix_X (K : PySem.W.Frag) (hK : X.K = K := by rfl) : IxR X (rIx K) := by subst hK; exact ix_seq
def rLenX (K : PySem.W.Frag) : List V → Hp → VK → Prop := fun xs H Q => ∃ x n, xs = [x] ∧ LenV K x H n ∧ Q (.int n) H
theorem call_lenX (K : PySem.W.Frag) (hK : X.K = K := by rfl) : CallR X (.builtin "len") (rLenX K) := by subst hK; exact call_len
def rLeStr : R2 := fun x y H Q => ∃ i j, x = .str i ∧ y = .str j ∧ Q (.bl (!decide (j.cps.toList < i.cps.toList))) H
def rLeX : R2 := fun x y H Q => rI0 (fun i j => .bl (decide (i ≤ j))) x y H Q ∨ rLeStr x y H Q
theorem op_leX : OpR X (compareOp .LtE) rLeX := OpR.or op_le op_le_str
def rListOf (K : PySem.W.Frag) : List V → Hp → VK → Prop := fun xs H Q => ∃ p ys, xs = [.ref p] ∧ (SqL K H p ys ∨ SqT K H p ys) ∧ ∀ l, H l = none → Q (.ref l) (upd H l (.lst ys))
theorem cr_list (K : PySem.W.Frag) (hK : X.K = K := by rfl) : CallR X (.type "list") (rListOf K) := by subst hK; exact call_list_of
def rTupOf (K : PySem.W.Frag) : List V → Hp → VK → Prop := fun xs H Q => ∃ p ys, xs = [.ref p] ∧ ((SqL K H p ys ∧ ∀ l, H l = none → Q (.ref l) (upd H l (.tup ys))) ∨ (SqT K H p ys ∧ Q (.ref p) H))
theorem cr_tuple (K : PySem.W.Frag) (hK : X.K = K := by rfl) : CallR X (.type "tuple") (rTupOf K) := by subst hK; exact call_tuple_of
theorem cr_allX (K : PySem.W.Frag) (hc : X.calm = true) (hK : X.K = K := by rfl) : CallR X (.builtin "all") (rAll K) := by subst hK; exact cr_all hc
theorem cr_isi (K : PySem.W.Frag) (hK : X.K = K := by rfl) : CallR X (.builtin "isinstance") (rIsi K) := by subst hK; exact call_isi
theorem cr_isiT (K : PySem.W.Frag) (hK : X.K = K := by rfl) : CallR X (.builtin "isinstance") (rIsiT K) := by subst hK; exact call_isiT
theorem pi_listX (K : PySem.W.Frag) {tg l : Expr} {tl : TE} (hl : PE X l tl) (hK : X.K = K := by rfl) : PI X tg l (iList K tl) := by subst hK; exact pi_list hl
theorem pi_zipX (K : PySem.W.Frag) {tg e : Expr} {ta : TA} (h : PI X tg e (RZ.iZipA X.K ta)) (hK : X.K = K := by rfl) : PI X tg e (RZ.iZipA K ta) := by subst hK; exact h
theorem pi_tupX (K : PySem.W.Frag) {tg l : Expr} {tl : TE} (hl : PE X l tl) (hK : X.K = K := by rfl) : PI X tg l (iTup K tl) := by subst hK; exact pi_tup hl
theorem pg_tupX (K : PySem.W.Frag) {es : List Expr} {kk : Nat} {pos : Pos} {n : Nat} {t : TGs} (h : PG X (.Tuple es kk pos) (gTup X.K n t)) (hK : X.K = K := by rfl) : PG X (.Tuple es kk pos) (gTup K n t) := by subst hK; exact h
theorem pe_bmX (K : PySem.W.Frag) {e : Expr} {T : String} {r : V → List V → Hp → VK → Prop} {to : TE} {t : TA} (h : PE X e (tBM X.K T r to t)) (hK : X.K = K := by rfl) : PE X e (tBM K T r to t) := by subst hK; exact h
theorem pe_fldX (K : PySem.W.Frag) {e : Expr} {f : Str} {ta : TE} (h : PE X e (tFld X.K ta f)) (hK : X.K = K := by rfl) : PE X e (tFld K ta f) := by subst hK; exact h
def rIntX : List V → Hp → VK → Prop := fun xs H Q => (∃ i, xs = [.int i] ∧ Q (.int i) H) ∨ ∃ k, xs = [.bl k] ∧ Q (.int (if k then 1 else 0)) H
theorem cr_int : CallR X (.type "int") rIntX := call_int1
def rIsNn : R2 := fun x y H Q => y = .non ∧ Q (.bl (decide (x = .non))) H
theorem op_isNn : OpR X (compareOp .Is) rIsNn := op_isN
def rNotNn : R2 := fun x y H Q => y = .non ∧ Q (.bl (!decide (x = .non))) H
def rJoin (K : PySem.W.Frag) : V → List V → Hp → VK → Prop := fun x xs H Q => ∃ a p, ∃ ys : List Str, x = .str a ∧ xs = [.ref p] ∧ (SqL K H p (ys.map V.str) ∨ SqT K H p (ys.map V.str)) ∧ (ys.map (·.length)).sum + ys.length * a.length ≤ 16777216 ∧ Q (.str (Txt.join a ys)) H
theorem pe_joinX (K : PySem.W.Frag) {o e : Expr} {to te : TE} {apos pos : Pos} (ho : PE X o to) (he : PE X e te) (hK : X.K = K := by rfl) (hs : starEach [e] X.env = [(false, eval e X.env)] := by rfl) (hbase : attributeBase o "join" X.env (eval o X.env) = eval o X.env := by rfl) (hline : (apos.endLine == pos.line) = true := by rfl) :
    PE X (.Call (.Attribute o "join" apos) [e] [] pos) (tM1 (rJoin K) to te) := by subst hK; exact pe_join ho he hs hbase hline
end

/-! ### the readings, a step each -/
section
variable {K : PySem.W.Frag} {σ : St} {H : Hp} {Q : VK} {QT : Bool → Hp → Prop} {QA : List V → Hp → Prop} {QO : Option Int → Hp → Prop} {QS : St → Hp → Prop} {D : Ends}
variable {te ta tb tc : TE} {tt tu : TT} {t u : TS} {aa ab : TA} {g : TG} {gs : TGs} {r r' : R2} {v x y z : V} {i j n m : Int} {b c : Bool} {vs ws : List V} {a p q : Addr} {xs ys : List V} {s1 s2 : Str} {wi : TI} {to tp : TO}
theorem var {k : Nat} (h : σ[k]? = some (some v)) (q : Q v H) : tVar k σ H Q := ⟨v, h, q⟩
theorem cst (q : Q v H) : tC v σ H Q := q
theorem op (q : ta σ H fun x H1 => tb σ H1 fun y H2 => r x y H2 Q) : tOp r ta tb σ H Q := q
theorem un {f : V → Hp → VK → Prop} (q : ta σ H fun x H1 => f x H1 Q) : tUn f ta σ H Q := q
theorem chain (q : ta σ H fun x H1 => tb σ H1 fun y H2 => r x y H2 fun z H3 => ∃ k, z = .bl k ∧ (if k = true then tc σ H3 fun w' H4 => r' y w' H4 Q else Q (.bl false) H3)) : tChain r r' ta tb tc σ H Q := q
theorem exbl {P : Bool → Prop} (q : P b) : ∃ k, V.bl b = .bl k ∧ P k := ⟨b, rfl, q⟩
theorem iI0 {f : Int → Int → V} (q : Q (f i j) H) : rI0 f (.int i) (.int j) H Q := ⟨i, j, rfl, rfl, q⟩
theorem iI {C : Int → Int → Prop} {f : Int → Int → V} (h : C i j) (q : Q (f i j) H) : rI C f (.int i) (.int j) H Q := ⟨i, j, rfl, rfl, h, q⟩
theorem iU {f : Int → V} (q : Q (f i) H) : rU f (.int i) H Q := ⟨i, rfl, q⟩
theorem eqI (q : Q (.bl (decide (i = j))) H) : rEqX K (.int i) (.int j) H Q := .inl ⟨rfl, by rw [show decide (V.int i = V.int j) = decide (i = j) from decide_eq_decide.mpr ⟨V.int.inj, congrArg _⟩]; exact q⟩
theorem neI (q : Q (.bl (!decide (i = j))) H) : rNeX K (.int i) (.int j) H Q := .inl ⟨rfl, by rw [show decide (V.int i = V.int j) = decide (i = j) from decide_eq_decide.mpr ⟨V.int.inj, congrArg _⟩]; exact q⟩
theorem eqStr (q : Q (.bl (decide (s1 = s2))) H) : rEqX K (.str s1) (.str s2) H Q := .inl ⟨rfl, by rw [show decide (V.str s1 = V.str s2) = decide (s1 = s2) from decide_eq_decide.mpr ⟨V.str.inj, congrArg _⟩]; exact q⟩
theorem neStr (q : Q (.bl (!decide (s1 = s2))) H) : rNeX K (.str s1) (.str s2) H Q := .inl ⟨rfl, by rw [show decide (V.str s1 = V.str s2) = decide (s1 = s2) from decide_eq_decide.mpr ⟨V.str.inj, congrArg _⟩]; exact q⟩
theorem eqB (q : Q (.bl (decide (b = c))) H) : rEqX K (.bl b) (.bl c) H Q := .inl ⟨rfl, by rw [show decide (V.bl b = V.bl c) = decide (b = c) from decide_eq_decide.mpr ⟨V.bl.inj, congrArg _⟩]; exact q⟩
theorem neB (q : Q (.bl (!decide (b = c))) H) : rNeX K (.bl b) (.bl c) H Q := .inl ⟨rfl, by rw [show decide (V.bl b = V.bl c) = decide (b = c) from decide_eq_decide.mpr ⟨V.bl.inj, congrArg _⟩]; exact q⟩
theorem cut (Mid : St → Hp → Prop) (q : t { nx := Mid, rt := D.rt, bk := D.bk, ct := D.ct } σ H) (k : ∀ σ' H', Mid σ' H' → u D σ' H') : C8.tCut t u D σ H := ⟨Mid, q, k⟩
theorem iteD {A B : Prop} {p : Prop} [Decidable p] (h1 : p → A) (h2 : ¬ p → B) : if decide p = true then A else B := ite2 (fun h => h1 (of_decide_eq_true h)) (fun h => h2 fun z => h (decide_eq_true z))
theorem eqS (h : scal x y = true) (q : Q (.bl (decide (x = y))) H) : rEqX K x y H Q := .inl ⟨h, q⟩
theorem neS (h : scal x y = true) (q : Q (.bl (!decide (x = y))) H) : rNeX K x y H Q := .inl ⟨h, q⟩
theorem eqDd {d e : PyData} (h1 : Dp K H x d) (h2 : Dp K H y e) (s1 : SeqAt.shaped d = true) (s2 : SeqAt.shaped e = true) (q : Q (.bl (PyData.eqv d e)) H) : rEqX K x y H Q := .inr ⟨d, e, h1, h2, s1, s2, q⟩
theorem addI (q : Q (.int (i + j)) H) : rAddX K (.int i) (.int j) H Q := .inl ⟨i, j, rfl, rfl, q⟩
theorem addS (h : s1.length + s2.length ≤ sizeLine) (q : Q (.str (s1 ++ s2)) H) : rAddX K (.str s1) (.str s2) H Q := .inr (.inl ⟨s1, s2, rfl, rfl, h, q⟩)
theorem mulI (h : CMul i j) (q : Q (.int (i * j)) H) : rMulX (.int i) (.int j) H Q := .inl ⟨i, j, rfl, rfl, h, q⟩
theorem mulS (h1 : s1.length ≤ 1000) (h2 : 0 ≤ n) (h3 : n ≤ 1000) (q : Q (.str (Txt.mul s1 n)) H) : rMulX (.str s1) (.int n) H Q := .inr ⟨s1, n, rfl, rfl, h1, h2, h3, q⟩
theorem leI (q : Q (.bl (decide (i ≤ j))) H) : rLeX (.int i) (.int j) H Q := .inl ⟨i, j, rfl, rfl, q⟩
theorem leS (q : Q (.bl (!decide (s2.cps.toList < s1.cps.toList))) H) : rLeX (.str s1) (.str s2) H Q := .inr ⟨s1, s2, rfl, rfl, q⟩
theorem inS {k : Nat} (q : Q (.bl (decide (k ∈ s2.cps.toList))) H) : rInX K (.str ⟨#[k]⟩) (.str s2) H Q := .inl ⟨k, s2, rfl, rfl, q⟩
theorem ninS {k : Nat} (q : Q (.bl (!decide (k ∈ s2.cps.toList))) H) : rNinX K (.str ⟨#[k]⟩) (.str s2) H Q := .inl ⟨k, s2, rfl, rfl, q⟩
theorem inSeq (h : SqL K H p xs ∨ SqT K H p xs) (h1 : flatV x = true) (h2 : xs.all flatV = true) (q : Q (.bl (inV x xs)) H) : rInX K x (.ref p) H Q := .inr ⟨p, xs, rfl, h, h1, h2, q⟩
theorem ninSeq (h : SqL K H p xs ∨ SqT K H p xs) (h1 : flatV x = true) (h2 : xs.all flatV = true) (q : Q (.bl (!inV x xs)) H) : rNinX K x (.ref p) H Q := .inr ⟨p, xs, rfl, h, h1, h2, q⟩
theorem isN_int (q : Q (.bl false) H) : rIsNn (.int i) .non H Q := ⟨rfl, q⟩
theorem notN_int (q : Q (.bl true) H) : rNotNn (.int i) .non H Q := ⟨rfl, q⟩
theorem isN_str (q : Q (.bl false) H) : rIsNn (.str s1) .non H Q := ⟨rfl, q⟩
theorem notN_str (q : Q (.bl true) H) : rNotNn (.str s1) .non H Q := ⟨rfl, q⟩
theorem isN_bl (q : Q (.bl false) H) : rIsNn (.bl b) .non H Q := ⟨rfl, q⟩
theorem notN_bl (q : Q (.bl true) H) : rNotNn (.bl b) .non H Q := ⟨rfl, q⟩
theorem isN_ref (q : Q (.bl false) H) : rIsNn (.ref a) .non H Q := ⟨rfl, q⟩
theorem notN_ref (q : Q (.bl true) H) : rNotNn (.ref a) .non H Q := ⟨rfl, q⟩
theorem isN_non (q : Q (.bl true) H) : rIsNn .non .non H Q := ⟨rfl, q⟩
theorem notN_non (q : Q (.bl false) H) : rNotNn .non .non H Q := ⟨rfl, q⟩
theorem eqB_truetrue (q : Q (.bl true) H) : rEqX K (.bl true) (.bl true) H Q := .inl ⟨rfl, q⟩
theorem neB_truetrue (q : Q (.bl false) H) : rNeX K (.bl true) (.bl true) H Q := .inl ⟨rfl, q⟩
theorem eqB_truefalse (q : Q (.bl false) H) : rEqX K (.bl true) (.bl false) H Q := .inl ⟨rfl, q⟩
theorem neB_truefalse (q : Q (.bl true) H) : rNeX K (.bl true) (.bl false) H Q := .inl ⟨rfl, q⟩
theorem eqB_falsetrue (q : Q (.bl false) H) : rEqX K (.bl false) (.bl true) H Q := .inl ⟨rfl, q⟩
theorem neB_falsetrue (q : Q (.bl true) H) : rNeX K (.bl false) (.bl true) H Q := .inl ⟨rfl, q⟩
theorem eqB_falsefalse (q : Q (.bl true) H) : rEqX K (.bl false) (.bl false) H Q := .inl ⟨rfl, q⟩
theorem neB_falsefalse (q : Q (.bl false) H) : rNeX K (.bl false) (.bl false) H Q := .inl ⟨rfl, q⟩
theorem isN (q : Q (.bl (decide (x = .non))) H) : rIsNn x .non H Q := ⟨rfl, q⟩
theorem notN (q : Q (.bl (!decide (x = .non))) H) : rNotNn x .non H Q := ⟨rfl, q⟩
theorem ixL (h : SqL K H p xs) (h1 : atI xs i = some v) (q : Q v H) : rIx K (.ref p) (.int i) H Q := .inl ⟨p, xs, i, v, rfl, rfl, h, h1, q⟩
theorem ixT (h : SqT K H p xs) (h1 : atI xs i = some v) (q : Q v H) : rIx K (.ref p) (.int i) H Q := .inr (.inl ⟨p, xs, i, v, rfl, rfl, h, h1, q⟩)
theorem ixS {k : Nat} (h : s1.length ≤ sizeLine) (h1 : atI s1.cps.toList i = some k) (q : Q (.str ⟨#[k]⟩) H) : rIx K (.str s1) (.int i) H Q := .inr (.inr ⟨s1, i, k, rfl, rfl, h, h1, q⟩)
theorem slS {lo hi : Option Int} (h : s1.length ≤ sizeLine) (q : Q (.str (cutS s1 lo hi)) H) : rSlX K (.str s1) lo hi H Q := .inr (.inl ⟨s1, rfl, h, q⟩)
theorem slL {lo hi : Option Int} (h : SqL K H a xs) (q : ∀ l, H l = none → Q (.ref l) (upd H l (.lst (cutV xs lo hi)))) : rSlX K (.ref a) lo hi H Q := .inl ⟨a, xs, rfl, h, q⟩
theorem slT {lo hi : Option Int} (h : SqT K H a xs) (q1 : HT.sIx xs.length 0 lo = 0 ∧ HT.sIx xs.length xs.length hi = xs.length → Q (.ref a) H) (q2 : ¬ (HT.sIx xs.length 0 lo = 0 ∧ HT.sIx xs.length xs.length hi = xs.length) → ∀ l, H l = none → Q (.ref l) (upd H l (.tup (cutV xs lo hi)))) :
    rSlX K (.ref a) lo hi H Q := .inr (.inr ⟨a, xs, rfl, h, q1, q2⟩)
theorem sl {f : V → Option Int → Option Int → Hp → VK → Prop} (q : te σ H fun x H1 => to σ H1 fun l H2 => tp σ H2 fun u H3 => f x l u H3 Q) : tSl f te to tp σ H Q := q
theorem noPart (q : QO none H) : tNoPart σ H QO := q
theorem part (q : te σ H fun x H1 => ∃ i, x = .int i ∧ QO (some i) H1) : tPart te σ H QO := q
theorem exint {P : Int → Prop} (q : P i) : ∃ k, V.int i = .int k ∧ P k := ⟨i, rfl, q⟩
theorem test (q : te σ H fun x H' => ∃ k, x = .bl k ∧ QT k H') : tTest te σ H QT := q
theorem tb_ (q : te σ H fun x H' => ∃ k, x = .bl k ∧ QT k H') : tB te σ H QT := q
theorem tand (q : tt σ H fun c H1 => if c = true then tu σ H1 QT else QT false H1) : tAnd tt tu σ H QT := q
theorem tor (q : tt σ H fun c H1 => if c = true then QT true H1 else tu σ H1 QT) : tOr tt tu σ H QT := q
theorem tnot (q : tt σ H fun c H1 => QT (!c) H1) : tNot tt σ H QT := q
theorem andV (q : ta σ H fun x H1 => ∃ c, x = .bl c ∧ if c = true then tb σ H1 Q else Q (.bl false) H1) : tAndV ta tb σ H Q := q
theorem orV (q : ta σ H fun x H1 => ∃ c, x = .bl c ∧ if c = true then Q (.bl true) H1 else tb σ H1 Q) : tOrV ta tb σ H Q := q
theorem notV (q : ta σ H fun x H1 => ∃ c, x = .bl c ∧ Q (.bl (!c)) H1) : tNotV ta σ H Q := q
theorem ife (q : tt σ H fun c H1 => if c = true then ta σ H1 Q else tb σ H1 Q) : tIf tt ta tb σ H Q := q
theorem seq (q : t { nx := u D, rt := D.rt, bk := D.bk, ct := D.ct } σ H) : tSeq t u D σ H := q
theorem nxt (q : D.nx σ H) : tNext D σ H := q
theorem brk (q : D.bk σ H) : tBreak D σ H := q
theorem cnt (q : D.ct σ H) : tCont D σ H := q
theorem drp (q : te σ H fun _ H1 => D.nx σ H1) : tDrop te D σ H := q
theorem ret (q : te σ H D.rt) : tRet te D σ H := q
theorem retN (q : D.rt .non H) : tRetN D σ H := q
theorem ifS (q : tt σ H fun b H1 => if b = true then t D σ H1 else u D σ H1) : tIfS tt t u D σ H := q
theorem asg (q : te σ H fun x H1 => g x σ H1 D.nx) : tAsg te g D σ H := q
theorem gname {k : Nat} (q : QS (σ.set k (some v)) H) : gName k v σ H QS := q
theorem par {k l : Nat} (q : aa σ H fun vs H1 => ∃ v w, vs = [v, w] ∧ D.nx ((σ.set k (some v)).set l (some w)) H1) : tPar k l aa D σ H := q
theorem expair {P : V → V → Prop} (q : P x y) : ∃ v w, [x, y] = [v, w] ∧ P v w := ⟨x, y, rfl, q⟩
theorem gsub {f : TSet} (q : ta σ H fun o H1 => tb σ H1 fun i H2 => f o i v H2 fun H3 => QS σ H3) : gSub ta tb f v σ H QS := q
theorem setL {k : Nat} {QH : Hp → Prop} (h : H p = some (.lst xs)) (h1 : ixN xs.length i = some k) (q : QH (upd H p (.lst (xs.set k v)))) : rSetL (.ref p) (.int i) v H QH := ⟨p, xs, i, k, rfl, rfl, h, h1, q⟩
theorem gtup {k : Nat} (h : SqT K H a xs) (h1 : xs.length = k) (q : gs xs σ H QS) : gTup K k gs (.ref a) σ H QS := ⟨a, xs, rfl, h, h1, q⟩
theorem gcons (q : g v σ H fun σ' H' => gs vs σ' H' QS) : gCons g gs (v :: vs) σ H QS := ⟨v, vs, rfl, q⟩
theorem gnil (q : QS σ H) : gNil [] σ H QS := ⟨rfl, q⟩
theorem anil (q : QA [] H) : tNil σ H QA := q
theorem acons (q : te σ H fun x H1 => aa σ H1 fun xs H2 => QA (x :: xs) H2) : tCons te aa σ H QA := q
theorem callC {sp : Sp} (q : aa σ H fun vs H1 => sp vs H1 Q E0) : tCC sp aa σ H Q := q
theorem callK {sp : Sp} {gV : List V → List V → List V} (q : aa σ H fun vs H1 => ab σ H1 fun zs H2 => sp (gV vs zs) H2 Q E0) : tCK sp gV aa ab σ H Q := q
theorem callB {f : List V → Hp → VK → Prop} (q : aa σ H fun vs H1 => f vs H1 Q) : tCB f aa σ H Q := q
theorem lenS (h : s1.length ≤ sizeLine) (q : Q (.int s1.length) H) : rLenX K [.str s1] H Q := ⟨.str s1, s1.length, rfl, ⟨h, rfl⟩, q⟩
theorem lenL (h : SqL K H p xs) (q : Q (.int xs.length) H) : rLenX K [.ref p] H Q := ⟨.ref p, xs.length, rfl, .inl ⟨xs, h, rfl⟩, q⟩
theorem lenT (h : SqT K H p xs) (q : Q (.int xs.length) H) : rLenX K [.ref p] H Q := ⟨.ref p, xs.length, rfl, .inr ⟨xs, h, rfl⟩, q⟩
theorem intI (q : Q (.int i) H) : rIntX [.int i] H Q := .inl ⟨i, rfl, q⟩
theorem listL (h : SqL K H p xs) (q : ∀ l, H l = none → Q (.ref l) (upd H l (.lst xs))) : rListOf K [.ref p] H Q := ⟨p, xs, rfl, .inl h, q⟩
theorem listT (h : SqT K H p xs) (q : ∀ l, H l = none → Q (.ref l) (upd H l (.lst xs))) : rListOf K [.ref p] H Q := ⟨p, xs, rfl, .inr h, q⟩
theorem tupL (h : SqL K H p xs) (q : ∀ l, H l = none → Q (.ref l) (upd H l (.tup xs))) : rTupOf K [.ref p] H Q := ⟨p, xs, rfl, .inl ⟨h, q⟩⟩
theorem all_ {bs : List Bool} (h : SqL K H p (bs.map V.bl)) (q : Q (.bl (bs.all id)) H) : rAll K [.ref p] H Q := ⟨p, bs, rfl, h, q⟩
theorem isi {T : String} {tv : Value} (h : TyX K H x tv) (h1 : PySem.W.kitOne K tv (.type T) = some b) (q : Q (.bl b) H) : rIsi K [x, .ty T] H Q := ⟨x, .ty T, tv, .type T, b, rfl, .ty T, h, h1, q⟩
theorem isiT {tv : Value} {us : List Value} (hT : H p = some (.tup vs)) (hP : Paired ClsV vs us) (h : TyX K H x tv) (h1 : PySem.W.kitAny K tv us = some b) (q : Q (.bl b) H) : rIsiT K [x, .ref p] H Q := ⟨x, p, vs, tv, us, b, rfl, hT, hP, h, h1, q⟩
theorem lst_ (q : aa σ H fun xs H1 => xs.length ≤ sizeLine ∧ ∀ p, H1 p = none → Q (.ref p) (upd H1 p (.lst xs))) : tLst aa σ H Q := q
theorem tup_ (q : aa σ H fun xs H1 => xs.length ≤ sizeLine ∧ ∀ p, H1 p = none → Q (.ref p) (upd H1 p (.tup xs))) : tTup aa σ H Q := q
theorem m1 {f : V → List V → Hp → VK → Prop} (q : ta σ H fun x H1 => (∃ a, x = .str a) ∧ te σ H1 fun y H2 => f x [y] H2 Q) : tM1 f ta te σ H Q := q
theorem isStr {P : Prop} (q : P) : (∃ a, V.str s1 = .str a) ∧ P := ⟨⟨s1, rfl⟩, q⟩
theorem joinL {zs : List Str} (h : SqL K H p (zs.map V.str)) (h1 : (zs.map (·.length)).sum + zs.length * s1.length ≤ 16777216) (q : Q (.str (Txt.join s1 zs)) H) : rJoin K (.str s1) [.ref p] H Q := ⟨s1, p, zs, rfl, rfl, .inl h, h1, q⟩
theorem for_ (q : wi σ H fun J H1 => ∃ W : Nat → Nat → St → Hp → Prop, (∃ m, W 0 m σ H1) ∧ ∀ i m σ H, W i m σ H →
      (J.stop i H ∧ D.nx σ H) ∨ (J.go i H ∧ ∃ N : St → Hp → Prop, (∀ σ' H', N σ' H' → ∃ m', m' < m ∧ W (i + 1) m' σ' H') ∧ ∀ x H', J.yld i H x H' → g x σ H' fun σ2 H2 => t { nx := N, rt := D.rt, bk := D.nx, ct := N } σ2 H2)) : tFor wi g t D σ H := q
theorem bm {T : String} {f : V → List V → Hp → VK → Prop} (q : ta σ H fun x H1 => tyV K T x H1 ∧ aa σ H1 fun xs H2 => f x xs H2 Q) : tBM K T f ta aa σ H Q := q
theorem bm0 {T : String} {f : V → List V → Hp → VK → Prop} (q : ta σ H fun x H1 => tyV K T x H1 ∧ f x [] H1 Q) : tBM0 K T f ta σ H Q := q
theorem mkNx {A B C : St → Hp → Prop} {R : VK} (h : D = ⟨A, R, B, C⟩) (q : A σ H) : Ends.nx D σ H := by subst h; exact q
theorem mkRt {A B C : St → Hp → Prop} {R : VK} (h : D = ⟨A, R, B, C⟩) (q : R v H) : Ends.rt D v H := by subst h; exact q
theorem mkBk {A B C : St → Hp → Prop} {R : VK} (h : D = ⟨A, R, B, C⟩) (q : B σ H) : Ends.bk D σ H := by subst h; exact q
theorem mkCt {A B C : St → Hp → Prop} {R : VK} (h : D = ⟨A, R, B, C⟩) (q : C σ H) : Ends.ct D σ H := by subst h; exact q
theorem il {R : It → Hp → Prop} (q : te σ H fun x H1 => ∃ a, x = .ref a ∧ (∃ xs, SqL K H1 a xs) ∧ R (Itl K a) H1) : iList K te σ H R := q
theorem exl {R : Addr → Prop} (h : ∃ xs, SqL K H a xs) (q : R a) : ∃ b, V.ref a = .ref b ∧ (∃ xs, SqL K H b xs) ∧ R b := ⟨a, rfl, h, q⟩
theorem ir1 {R : It → Hp → Prop} (q : aa σ H fun vs H1 => ∃ j : Int, vs = [.int j] ∧ -(2 ^ 62) ≤ j ∧ j < 2 ^ 62 ∧ R (Itr 0 j.toNat) H1) : iRng1 aa σ H R := q
theorem exr1 {R : Int → Prop} (h1 : -(2 ^ 62) ≤ i) (h2 : i < 2 ^ 62) (q : R i) : ∃ j : Int, [V.int i] = [.int j] ∧ -(2 ^ 62) ≤ j ∧ j < 2 ^ 62 ∧ R j := ⟨i, rfl, h1, h2, q⟩
theorem is_ {R : It → Hp → Prop} (q : te σ H fun v H1 => ∃ x, v = .str x ∧ R (Its x) H1) : iStr te σ H R := q
theorem exstr {R : Str → Prop} (q : R s1) : ∃ x, V.str s1 = .str x ∧ R x := ⟨s1, rfl, q⟩
end

/-! ### kinds -/
theorem kB_NoneType_str : kitB "NoneType" "str" = some false := by decide +kernel
theorem kB_NoneType_bool : kitB "NoneType" "bool" = some false := by decide +kernel
theorem kB_NoneType_int : kitB "NoneType" "int" = some false := by decide +kernel
theorem kB_NoneType_dict : kitB "NoneType" "dict" = some false := by decide +kernel
theorem kB_NoneType_tuple : kitB "NoneType" "tuple" = some false := by decide +kernel
theorem kB_NoneType_list : kitB "NoneType" "list" = some false := by decide +kernel
theorem kB_bool_str : kitB "bool" "str" = some false := by decide +kernel
theorem kB_bool_bool : kitB "bool" "bool" = some true := by decide +kernel
theorem kB_bool_int : kitB "bool" "int" = some true := by decide +kernel
theorem kB_bool_dict : kitB "bool" "dict" = some false := by decide +kernel
theorem kB_bool_tuple : kitB "bool" "tuple" = some false := by decide +kernel
theorem kB_bool_list : kitB "bool" "list" = some false := by decide +kernel
theorem kB_int_str : kitB "int" "str" = some false := by decide +kernel
theorem kB_int_bool : kitB "int" "bool" = some false := by decide +kernel
theorem kB_int_int : kitB "int" "int" = some true := by decide +kernel
theorem kB_int_dict : kitB "int" "dict" = some false := by decide +kernel
theorem kB_int_tuple : kitB "int" "tuple" = some false := by decide +kernel
theorem kB_int_list : kitB "int" "list" = some false := by decide +kernel
theorem kB_str_str : kitB "str" "str" = some true := by decide +kernel
theorem kB_str_bool : kitB "str" "bool" = some false := by decide +kernel
theorem kB_str_int : kitB "str" "int" = some false := by decide +kernel
theorem kB_str_dict : kitB "str" "dict" = some false := by decide +kernel
theorem kB_str_tuple : kitB "str" "tuple" = some false := by decide +kernel
theorem kB_str_list : kitB "str" "list" = some false := by decide +kernel
theorem kB_list_str : kitB "list" "str" = some false := by decide +kernel
theorem kB_list_bool : kitB "list" "bool" = some false := by decide +kernel
theorem kB_list_int : kitB "list" "int" = some false := by decide +kernel
theorem kB_list_dict : kitB "list" "dict" = some false := by decide +kernel
theorem kB_list_tuple : kitB "list" "tuple" = some false := by decide +kernel
theorem kB_list_list : kitB "list" "list" = some true := by decide +kernel
theorem kB_tuple_str : kitB "tuple" "str" = some false := by decide +kernel
theorem kB_tuple_bool : kitB "tuple" "bool" = some false := by decide +kernel
theorem kB_tuple_int : kitB "tuple" "int" = some false := by decide +kernel
theorem kB_tuple_dict : kitB "tuple" "dict" = some false := by decide +kernel
theorem kB_tuple_tuple : kitB "tuple" "tuple" = some true := by decide +kernel
theorem kB_tuple_list : kitB "tuple" "list" = some false := by decide +kernel
theorem kB_dict_str : kitB "dict" "str" = some false := by decide +kernel
theorem kB_dict_bool : kitB "dict" "bool" = some false := by decide +kernel
theorem kB_dict_int : kitB "dict" "int" = some false := by decide +kernel
theorem kB_dict_dict : kitB "dict" "dict" = some true := by decide +kernel
theorem kB_dict_tuple : kitB "dict" "tuple" = some false := by decide +kernel
theorem kB_dict_list : kitB "dict" "list" = some false := by decide +kernel
theorem kitAny2 {K : PySem.W.Frag} {a b c : String} {r s : Bool} (h1 : kitB a b = some r) (h2 : kitB a c = some s) : PySem.W.kitAny K (.type a) [.type b, .type c] = some (r || s) := by
  refine kitAny_cons (kit_ty h1) (fun e => ?_) (fun e => ?_)
  · refine kitAny_cons (kit_ty h2) (fun e2 => ?_) (fun e2 => ?_)
    · rw [e, e2]
      rfl
    · rw [e, e2]
      rfl
  · rw [e]
    rfl
theorem cls2 (b c : String) : Paired ClsV [V.ty b, V.ty c] [.type b, .type c] := .cons (.ty b) (.cons (.ty c) .nil)
theorem tyx_L {K : PySem.W.Frag} {H : Hp} {a : Addr} {xs : List V} (h : SqL K H a xs) : TyX K H (.ref a) (.type "list") := by
  rcases h with (h | ⟨o, h⟩) | ⟨o, its, n, h, c, _⟩
  · exact .base (.lst h)
  · exact .base (.frz h)
  · exact .kList h c
theorem tyx_T {K : PySem.W.Frag} {H : Hp} {a : Addr} {xs : List V} (h : SqT K H a xs) : TyX K H (.ref a) (.type "tuple") := by
  rcases h with (h | ⟨o, h⟩) | ⟨o, its, n, h, c, _⟩
  · exact .base (.tup h)
  · exact .fTuple h
  · exact .kTuple h c
theorem walk_zipT {K : PySem.W.Frag} {a b : Addr} {xs ys : List V} {n : Nat} (hn : n = min xs.length ys.length) : Walk (RZ.ItzT K a b) n (fun H => SqT K H a xs ∧ SqT K H b ys) (YPair (fun i => xs[i]?) (fun i => ys[i]?)) := by
  subst hn
  refine ⟨fun i H hi g => ?_, fun H g => ⟨xs, ys, g.1, g.2, by omega⟩, fun i H x H' hi g y => ?_⟩
  · have h1 : i < xs.length := by omega
    have h2 : i < ys.length := by omega
    exact ⟨xs, ys, xs[i], ys[i], g.1, g.2, List.getElem?_eq_getElem h1, List.getElem?_eq_getElem h2⟩
  · obtain ⟨T, x1, y1, e1, n1, e2, f1, f2⟩ := y
    exact ⟨T, x1, y1, e1, n1, e2, f1 xs g.1, f2 ys g.2⟩

/-! ### heaps -/
theorem same_upd {H : Hp} {p : Addr} {o : HO} (h : H p = none) : Same H (upd H p o) := fun b x e => by
  rw [upd_ne (ne_of_none e h)]
  exact e
def But (b : Addr) (H H' : Hp) : Prop := ∀ c o, H c = some o → c ≠ b → H' c = some o
theorem But.refl (b : Addr) (H : Hp) : But b H H := fun _ _ h _ => h
theorem But.trans {b : Addr} {H H1 H2 : Hp} (a : But b H H1) (c : But b H1 H2) : But b H H2 := fun d o h n => c d o (a d o h n) n
theorem But.of_same {b : Addr} {H H' : Hp} (s : Same H H') : But b H H' := fun c o h _ => s c o h
theorem But.upd {b : Addr} {H : Hp} {o : HO} : But b H (upd H b o) := fun c x h n => by rw [upd_ne n]; exact h
theorem But.new {b p : Addr} {H : Hp} {o : HO} (h : H p = none) : But b H (L2.upd H p o) := But.of_same (same_upd h)
theorem But.mutNew {b p : Addr} {H H' : Hp} {o : HO} (h : But b H H') (n : H p = none) : But b H (L2.upd H' p o) := fun c x e nc => by
  rw [upd_ne (ne_of_none e n)]
  exact h c x e nc
theorem But.free {b p : Addr} {H H' : Hp} (s : But b H H') (hb : ∃ o, H' b = some o) (n : H' p = none) : H p = none := by
  cases e : H p with
  | none => rfl
  | some o =>
    by_cases h : p = b
    · obtain ⟨u, hu⟩ := hb
      rw [h, hu] at n
      cases n
    · rw [s p o e h] at n
      cases n
theorem SqL.but {K : PySem.W.Frag} {b a : Addr} {H H' : Hp} {xs : List V} (s : But b H H') (n : a ≠ b) (h : SqL K H a xs) : SqL K H' a xs := by
  rcases h with (h | ⟨o, h⟩) | h
  · exact .inl (.inl (s _ _ h n))
  · exact .inl (.inr ⟨o, s _ _ h n⟩)
  · exact .inr h
theorem Same.seqT {K : PySem.W.Frag} {H H' : Hp} {a : Addr} {xs : List V} (e : Same H H') (h : SqT K H a xs) : SqT K H' a xs := by
  rcases h with (h | ⟨o, h⟩) | h
  · exact .inl (.inl (e _ _ h))
  · exact .inl (.inr ⟨o, e _ _ h⟩)
  · exact .inr h
theorem lc {σ : St} {H : Hp} {Q : VK} {wi : TI} {g : TG} {tt : TT} {te : TE} {vs : List Nat}
    (q : wi σ H fun J H1 => ∀ D, H1 D = none → ∃ W : Nat → Nat → Hp → Prop, (∃ m, W 0 m (upd H1 D (.lst []))) ∧ ∀ i m H, W i m H →
  (J.stop i H ∧ Q (.ref D) H) ∨ (J.go i H ∧ ∃ Nx : Hp → Prop, (∀ H', Nx H' → ∃ m', m' < m ∧ W (i + 1) m' H') ∧ ∀ x H', J.yld i H x H' → g x (wipe σ vs) H' fun σ2 H2 => wipe σ2 vs = wipe σ vs ∧ tt σ2 H2 fun b H3 =>
    if b = true then te σ2 H3 fun y H4 => ∃ acc, H4 D = some (.lst acc) ∧ acc.length < sizeLine ∧ Nx (upd H4 D (.lst (acc ++ [y]))) else Nx H3)) : tLc wi g tt te vs σ H Q := q
theorem disp {σ : St} {H : Hp} {Q : VK} {trs : List (TE × TE)} (q : ∀ p, H p = none → tPairs trs σ (upd H p (.dK [])) fun ps H2 => H2 p = some (.dK []) ∧ ∃ kvs : List (Key × V), ps = kvs.map (fun kv => (kV kv.1, kv.2)) ∧ kvs.length ≤ 15 ∧ Q (.ref p) (upd H2 p (.dK (mergeK [] kvs)))) : tDisp trs σ H Q := q
theorem pnil {σ : St} {H : Hp} {k : List (V × V) → Hp → Prop} (q : k [] H) : tPairs [] σ H k := q
theorem pcons {σ : St} {H : Hp} {k : List (V × V) → Hp → Prop} {tk tv : TE} {r : List (TE × TE)} (q : tk σ H fun x H1 => tv σ H1 fun y H2 => tPairs r σ H2 fun ps H3 => k ((x, y) :: ps) H3) : tPairs ((tk, tv) :: r) σ H k := q
theorem dget2 {σ : St} {H : Hp} {Q : VK} {td ty tx : TE} (q : td σ H fun x H1 => ∃ a, x = .ref a ∧ IsD H1 a ∧ ty σ H1 fun y H2 => tx σ H2 fun z H3 => ∃ o, DGet H3 a y o ∧ Q (o.getD z) H3) : tDGet2 td ty tx σ H Q := q
theorem iz {K : PySem.W.Frag} {σ : St} {H : Hp} {aa : TA} {R : It → Hp → Prop} (q : aa σ H fun vs H1 => ∃ a b xs ys, vs = [.ref a, .ref b] ∧ ((SqL K H1 a xs ∧ SqL K H1 b ys ∧ R (Itz K a b) H1) ∨ (SqT K H1 a xs ∧ SqT K H1 b ys ∧ R (RZ.ItzT K a b) H1))) : RZ.iZipA K aa σ H R := q
theorem tyes {σ : St} {H : Hp} {QT : Bool → Hp → Prop} (q : QT true H) : tYes σ H QT := q
theorem map_at {α : Type} {g : α → V} {l : List α} {i : Nat} {y : V} (h : (l.map g)[i]? = some y) : ∃ u, l[i]? = some u ∧ y = g u := by
  rw [List.getElem?_map] at h
  cases e : l[i]? with
  | none =>
    rw [e] at h
    cases h
  | some u =>
    rw [e] at h
    exact ⟨u, rfl, (Option.some.inj h).symm⟩
theorem cut_map (ns : List Int) (lo hi : Option Int) : ∃ ms : List Int, cutV (ns.map V.int) lo hi = ms.map V.int ∧ ms.length ≤ ns.length := by
  refine ⟨(ns.drop (HT.sIx (ns.map V.int).length 0 lo)).take (HT.sIx (ns.map V.int).length (ns.map V.int).length hi - HT.sIx (ns.map V.int).length 0 lo), ?_, ?_⟩
  · unfold cutV
    rw [List.map_take, List.map_drop]
  · rw [List.length_take, List.length_drop]
    omega
theorem un0 {H : Hp} {a b : Addr} {o : HO} (e : upd H a o b = none) : H b = none := by
  by_cases h : b = a
  · rw [h, upd_same] at e
    cases e
  · rw [upd_ne h] at e
    exact e
theorem upd2 {H : Hp} {a b : Addr} {o x : HO} (h : b ≠ a) (e : H b = some x) : upd H a o b = some x := by
  rw [upd_ne h]
  exact e
/-! ### texts -/
theorem cut_to (l : List Nat) {k : Int} (h : 0 ≤ k) : cutS (SX.S l) none (some k) = SX.S (l.take k.toNat) := by
  rw [C8.cutS_slice]
  exact SX.slice_to h
theorem cut_from (l : List Nat) {k : Int} (h : 0 ≤ k) : cutS (SX.S l) (some k) none = SX.S (l.drop k.toNat) := by
  rw [C8.cutS_slice]
  exact SX.slice_from h
theorem join_signs : ∀ cs : List Nat, TL.joinL [] (cs.map fun c => [c]) = cs
  | [] => rfl
  | [c] => rfl
  | c :: d :: r => by
    have ih := join_signs (d :: r)
    show [c] ++ ([] ++ TL.joinL [] ((d :: r).map fun c => [c])) = c :: d :: r
    rw [ih]
    rfl
theorem join_sg (cs : List Nat) : Txt.join (SX.S []) (cs.map fun c => (⟨#[c]⟩ : Str)) = SX.S cs := by
  have e : (cs.map fun c => (⟨#[c]⟩ : Str)) = (cs.map fun c => [c]).map SX.S := by
    rw [List.map_map]
    rfl
  rw [e, SX.join_S, join_signs]
theorem S_len0 : (SX.S []).length = 0 := rfl
theorem empty_S : Str.ofString "" = SX.S [] := by decide +kernel
theorem len_sg : ∀ cs : List Nat, ((cs.map fun c => (⟨#[c]⟩ : Str)).map (·.length)).sum = cs.length
  | [] => rfl
  | c :: r => by
    rw [List.map_cons, List.map_cons, List.sum_cons, len_sg r, List.length_cons]
    show 1 + r.length = r.length + 1
    omega
/-! ### [p(sign) for sign in text] -/
theorem lc_signs {l : List Nat} {p : Nat → Bool} {k : Nat} {te : TE} {vs : List Nat} {σ : St} {H1 : Hp} {D : Addr} {Qd : Hp → Prop}
    (hte : ∀ (c : Nat) (H' : Hp) (Q' : VK), c ∈ l → Q' (.bl (p c)) H' → te ((wipe σ vs).set k (some (.str ⟨#[c]⟩))) H' Q') (hw : ∀ v, wipe ((wipe σ vs).set k v) vs = wipe σ vs) (hl : l.length ≤ 100000)
    (hd : Qd (upd H1 D (.lst ((l.map p).map V.bl)))) :
    ∃ W : Nat → Nat → Hp → Prop, (∃ m, W 0 m (upd H1 D (.lst []))) ∧ ∀ i m H, W i m H →
      ((Its (SX.S l)).stop i H ∧ Qd H) ∨ ((Its (SX.S l)).go i H ∧ ∃ Nx : Hp → Prop, (∀ H', Nx H' → ∃ m', m' < m ∧ W (i + 1) m' H') ∧ ∀ x H', (Its (SX.S l)).yld i H x H' → gName k x (wipe σ vs) H' fun σ2 H2 => wipe σ2 vs = wipe σ vs ∧ tYes σ2 H2 fun b H3 =>
        if b = true then te σ2 H3 fun y H4 => ∃ acc, H4 D = some (.lst acc) ∧ acc.length < sizeLine ∧ Nx (upd H4 D (.lst (acc ++ [y]))) else Nx H3) := by
  have hz : (SX.S l).cps.size = l.length := by simp [SX.S]
  refine lc_it (walk_str (z := SX.S l)) (fun i H' => H' = upd H1 D (.lst (((l.take i).map p).map V.bl))) rfl (fun _ _ _ _ => trivial) ?_ ?_
  · rintro i x H H' hi rfl ⟨rfl, c, hc, rfl⟩
    have hc2 : l[i]? = some c := by
      have e : (SX.S l).cps[i]? = l[i]? := by simp [SX.S]
      rw [← e]
      exact hc
    have hm : c ∈ l := List.mem_of_getElem? hc2
    refine ⟨hw _, ?_⟩
    with_reducible refine Rg.tyes ?_
    with_reducible refine iteT ?_
    refine hte c _ _ hm ⟨_, upd_same, ?_, ?_⟩
    · rw [List.length_map, List.length_map, List.length_take, sizeLine_eq]
      omega
    · rw [upd_upd, List.take_add_one, hc2, List.map_append, List.map_append]
      rfl
  · rintro H rfl
    rw [hz, List.take_length]
    exact hd
theorem sgn_lt (a b : Nat) : decide (([a] : List Nat) < [b]) = decide (a < b) := by
  refine decide_eq_decide.mpr ⟨fun h => ?_, fun h => ?_⟩
  · cases h with
    | rel h => exact h
    | cons h => cases h
  · exact List.Lex.rel h
theorem sg_eq (a b : Nat) : decide ((⟨#[a]⟩ : Str) = ⟨#[b]⟩) = decide (a = b) := by
  refine decide_eq_decide.mpr ⟨fun h => ?_, fun h => by rw [h]⟩
  have e : ([a] : List Nat) = [b] := congrArg (fun x : Str => x.cps.toList) h
  injection e
theorem str_S (z : Str) : z = SX.S z.cps.toList := (SX.S_tl z).symm
end Rg

set_option Elab.async false
set_option linter.all false
set_option maxRecDepth 100000
set_option maxHeartbeats 4000000
/-! ### t[::-1] of a tuple -/
namespace Rv
open PySem PyProof.Rows
section
variable {pr : Program} {wd : World} {B : Around} {Er : Value → Shared → Prop} {z : Shared}
end
end Rv
namespace Rg
open PySem L2 PySem.Spec PyProof.Rows
def tRevT (K : PySem.W.Frag) (te : TE) : TE := fun σ H Q => te σ H fun x H1 => ∃ a xs, x = .ref a ∧ SqT K H1 a xs ∧ ∀ p, H1 p = none → Q (.ref p) (upd H1 p (.tup xs.reverse))
section
variable {X : Cx}
theorem revL {K : PySem.W.Frag} {te : TE} {σ : L2.St} {H : Hp} {Q : VK} (q : te σ H fun x H1 => ∃ a xs, x = .ref a ∧ SqL K H1 a xs ∧ ∀ p, H1 p = none → Q (.ref p) (upd H1 p (.lst xs.reverse))) : tRevL K te σ H Q := q
theorem revT {K : PySem.W.Frag} {te : TE} {σ : L2.St} {H : Hp} {Q : VK} (q : te σ H fun x H1 => ∃ a xs, x = .ref a ∧ SqT K H1 a xs ∧ ∀ p, H1 p = none → Q (.ref p) (upd H1 p (.tup xs.reverse))) : tRevT K te σ H Q := q
def ipX : TIp := fun x y H Q => (∃ i j, x = .int i ∧ y = .int j ∧ Q (.int (i + j)) H) ∨ (∃ i j, x = .str i ∧ y = .str j ∧ i.length + j.length ≤ sizeLine ∧ Q (.str (i ++ j)) H) ∨ rExt2 x y H Q
theorem aug {i : Nat} {te : TE} {D : Ends} {σ : L2.St} {H : Hp} {x : V} (h : σ[i]? = some (some x)) (q : te σ H fun y H1 => ipX x y H1 fun z H2 => D.nx (σ.set i (some z)) H2) : tAug i te ipX D σ H := ⟨x, h, q⟩
theorem ipI2 {i j : Int} {H : Hp} {Q : VK} (q : Q (.int (i + j)) H) : ipX (.int i) (.int j) H Q := .inl ⟨i, j, rfl, rfl, q⟩
theorem ipS2 {i j : Str} {H : Hp} {Q : VK} (h : i.length + j.length ≤ sizeLine) (q : Q (.str (i ++ j)) H) : ipX (.str i) (.str j) H Q := .inr (.inl ⟨i, j, rfl, rfl, h, q⟩)
theorem ipL2 {l b : Addr} {xs zs : List V} {H : Hp} {Q : VK} (h : H l = some (.lst xs)) (h2 : H b = some (.lst zs)) (h3 : xs.length + zs.length ≤ sizeLine) (q : Q (.ref l) (upd H l (.lst (xs ++ zs)))) : ipX (.ref l) (.ref b) H Q := .inr (.inr ⟨l, b, xs, zs, rfl, rfl, h, h2, h3, q⟩)
theorem star {K : PySem.W.Frag} {te : TE} {t : TA} {σ : L2.St} {H : Hp} {Q : List V → Hp → Prop} (q : te σ H fun x H1 => ∃ p xs, x = V.ref p ∧ (SqT K H1 p xs ∨ SqL K H1 p xs) ∧ t σ H1 fun ys H2 => Q (xs ++ ys) H2) : StX.tStar K te t σ H Q := q
theorem iT {K : PySem.W.Frag} {tl : TE} {σ : L2.St} {H : Hp} {R : It → Hp → Prop} (q : tl σ H fun x H1 => ∃ a, x = .ref a ∧ (∃ xs, SqT K H1 a xs) ∧ R (Itt K a) H1) : iTup K tl σ H R := q
theorem jc {t : TE} {ts : List TE} {acc : Str} {σ : L2.St} {H : Hp} {Q : Str → Hp → Prop} (q : t σ H fun x H1 => ∃ y : Str, x = .str y ∧ (acc ++ y).length ≤ sizeLine ∧ tJs ts (acc ++ y) σ H1 Q) : tJs (t :: ts) acc σ H Q := q
theorem jn {acc : Str} {σ : L2.St} {H : Hp} {Q : Str → Hp → Prop} (q : Q acc H) : tJs [] acc σ H Q := q
theorem fm {te : TE} {σ : L2.St} {H : Hp} {Q : VK} (q : te σ H fun x H1 => (∃ y : Str, x = .str y ∧ y.length ≤ sizeLine ∧ Q (.str y) H1) ∨ ∃ i : Int, x = .int i ∧ i.natAbs.log2 < 1920 ∧ Q (.str (toString i)) H1) : tFmt te σ H Q := q
theorem iteNt {A B : Prop} (h : B) : if (!true) = true then A else B := iteF h
theorem iteNf {A B : Prop} (h : A) : if (!false) = true then A else B := iteT h
theorem par3 {i j l : Nat} {aa : TA} {D : Ends} {σ : L2.St} {H : Hp} (q : aa σ H fun vs H1 => ∃ u v w, vs = [u, v, w] ∧ D.nx (((σ.set i (some u)).set j (some v)).set l (some w)) H1) : tPar3 i j l aa D σ H := q
theorem extrip {u v w : V} {R : V → V → V → Prop} (q : R u v w) : ∃ a b c, [u, v, w] = [a, b, c] ∧ R a b c := ⟨u, v, w, rfl, q⟩
theorem app {l : Addr} {xs : List V} {y : V} {H : Hp} {Q : VK} (h : H l = some (.lst xs)) (hz : xs.length < sizeLine) (q : Q .non (upd H l (.lst (xs ++ [y])))) : rAppend (.ref l) [y] H Q := ⟨l, xs, y, rfl, rfl, h, hz, q⟩
theorem tyvL {K : PySem.W.Frag} {l : Addr} {xs : List V} {H : Hp} (h : H l = some (.lst xs)) : tyV K "list" (.ref l) H := .inl ⟨rfl, _, SqL.of h⟩
theorem same_mut {H H' : Hp} {x : Addr} {o : HO} (s : Same H H') (n : H x = none) : Same H (L2.upd H' x o) := fun c u e => by
  rw [upd_ne (ne_of_none e n)]
  exact s c u e
theorem atI_last {xs : List V} {y : V} : atI (xs ++ [y]) (-1) = some y := by
  have e : (xs ++ [y]).length = xs.length + 1 := by simp
  have h : ixN (xs.length + 1) (-1) = some xs.length := by
    unfold ixN
    simp
    try omega
  unfold atI
  rw [e, h]
  simp
end
end Rg

set_option Elab.async false
set_option linter.all false
set_option maxRecDepth 100000
set_option maxHeartbeats 4000000
/-! ### defs that an except suite calls with its exception -/
namespace Rg
open PySem PySem.Spec PyProof.Rows L2 HotX
abbrev SpE := Addr → Value → Option Addr → Sp
structure FnE (P : Program) (w : World) (K : PySem.W.Frag) (mg : Str → Option Value) (base : Heap) (CX : CXT) (k : Nat) (f : Addr) (fd : FuncData) (ps : List Str) (sp : SpE) : Prop where
  many : ∀ {a : Addr} {c : Value} {d : Option Addr} {vs : List V} {H : Hp} {Q : VK} {E : XK}, sp a c d vs H Q E → vs.length = ps.length
  goes : ∀ {A : Around} {outer : List Env} {z : Shared} {H : Hp} {args : Args} {us : List Value} {vs : List V} {Q : VK} {E : XK} {p : Addr × Obj} {c : Value} {d : Option Addr},
    Zc c d p.2 → (∃ ws, p.2.data = .fields ws) → L2H.RoomH k A → L2H.PinOk outer H z p → Env0 P w K mg base A outer z H → BindsTo z fd args (ps.zip us) → Vals vs us → sp p.1 c d vs H Q E → codeAny (model P w) A (.call (.ref f) args) (CR CX outer P w H z Q E) z
section
variable {CX : CXT} {P : Program} {w : World} {K : PySem.W.Frag} {mg : Str → Option Value} {base : Heap} {k : Nat} {f : Addr}
theorem FnE.of {x qual : Str} {params : Arguments} {body : List Stmt} {scope : Scope} {dV kV doc pm cdv ct oc : Value} {an od : Option Addr} {osl : Array (Option Value)} {N ps : List Str} {sp : SpE}
    (known : K.lookup f = some ⟨oc, od, .func (PySem.W.fnOf x qual params body scope dV kV doc pm an cdv ct), osl⟩) (code : PySem.W.codeIn K cdv qual = true) (S : FnScope N ps scope)
    (many : ∀ {a : Addr} {c : Value} {d : Option Addr} {vs : List V} {H : Hp} {Q : VK} {E : XK}, sp a c d vs H Q E → vs.length = ps.length)
    (runs : ∀ {A : Around} {outer : List Env} {z : Shared} {H : Hp} {vs : List V} {Q : VK} {E : XK} {p : Addr × Obj} {c : Value} {d : Option Addr}, Zc c d p.2 → (∃ ws, p.2.data = .fields ws) → L2H.RoomH k (A.deeper (envOfC qual scope z.heap.objs.size f cdv)) → sp p.1 c d vs H Q E →
      ∃ t, PSs (L2H.cxH CX P w K mg base N qual scope f cdv A outer z H E p) body t ∧ t { nx := fun _ H' => Q .non H', rt := Q } (L2.start N vs) H) :
    FnE P w K mg base CX (k + 1) f (PySem.W.fnOf x qual params body scope dV kV doc pm an cdv ct) ps sp where
  many := many
  goes := by
    intro A outer z H args us vs Q E p c d hz data room pin e0 binds rel promise
    have kept : ∀ b o, base.get? b = some o → z.heap.get? b = some o := fun b o g => (e0.bs b o g).1
    have inZ : K.In z.heap := e0.mod.kin.keeps kept
    have plain : ∀ y ∈ ps.zip us, scope.names.lookup y.1 = some .local ∨ (scope.names.lookup y.1 = some .cell ∧ ((cellsFrom (z.heap.objs.size + 1) scope.names []).lookup y.1).isSome = true) := by
      rintro ⟨n, u⟩ hy
      exact (S.par n (List.of_mem_zip hy).1).imp id fun c => ⟨c, PySem.W.cellsFrom_some _ _ _ (.inl c)⟩
    refine codeAny_call_function room.depth (inZ _ _ known) rfl S.co S.gen rfl (PySem.W.codeRec_of inZ code) (binds _ _ _ _ (wpAny_newFunctionEnv_cells S.kind plain fun env he z1 begun => ?_))
    cases he
    obtain ⟨t, ht, now⟩ := runs hz data (room.deeper _) promise
    have I := L2H.inv_startH (CX := CX) (E := E) (cd := cdv) S pin e0 (many promise) rel begun
    refine ⟨(e0.mod.nolimit.keeps kept).keeps begun.toInCall.keep, codeAny_func (wpAny_mono (ht.run [] z1 _ H _ I now) (fun way z2 done => ?_) fun _ _ out => out)⟩
    cases way with
    | ret u => exact done.elim fun v h => h.elim fun _ h => h.elim fun H2 h => ⟨v, H2, h.1.os, h.1.bare, h.1.base, h.1.hok, h.2.1, h.2.2⟩
    | next => exact done.elim fun _ h => h.elim fun H2 h => ⟨.non, H2, h.1.os, h.1.bare, h.1.base, h.1.hok, rfl, h.2⟩
    | brk => exact (done.elim fun _ h => h.elim fun _ h => h.2 : False).elim
    | cont => exact (done.elim fun _ h => h.elim fun _ h => h.2 : False).elim
end
section
variable {X : Cx} {CX : CXT} {k : Nat} {f : Addr} {fd : FuncData} {ps : List Str} {sp : SpE} {E : L2.St → XK} {x : Str} {pn pos : Pos} {e : Expr} {es : List Expr} {t : TA} {p : Addr × Obj} {c : Value} {d : Option Addr}
def tCE (sp : SpE) (a : Addr) (c : Value) (d : Option Addr) (E : L2.St → XK) (t : TA) : TE := fun σ H Q => t σ H fun vs H1 => sp a c d vs H1 Q (E σ)
theorem pe_callE (F : FnE X.prog X.w X.K X.mg X.base CX k f fd ps sp) (room : L2H.RoomH k X.A) (hz : Zc c d p.2) (data : ∃ ws, p.2.data = .fields ws) (here : p ∈ X.pn) (hg : Gl X x) (hm : X.mg x = some (.ref f)) (hk : PySem.W.keepIn X.K (.ref f) = true) (hb : Binds X.K fd ps []) (out : ∀ σ, PassesAt CX X σ (E σ))
    (ha : PA X (e :: es) t) (nod : (x == ("__debug__" : Str)) = false := by decide) (each : starEach (e :: es) X.env = (false, eval e X.env) :: starEach es X.env := by rfl) (nostar : (backTo pos (starEach es X.env)).any (·.1) = false := by rfl) :
    PE X (.Call (.Name x pn) (e :: es) [] pos) (tCE sp p.1 c d E t) := by
  constructor
  intro pins z σ H Q I h
  have args := ha.run pos pins z σ H _ I h
  refine wpAny_Call_Name_kw (ld_glob I hg hm (PySem.W.callWith_K (h₀ := X.base) I.ok.mod.kin hk (thn args fun us z1 got => ?_) each nostar) nod)
  obtain ⟨vs, H1, J, rel, promise⟩ := got
  have lens : us.length = ps.length := rel.length ▸ F.many promise
  have bind : BindsTo z1 fd ⟨us, []⟩ (ps.zip us) := by
    have b := hb z1 us J.kIn (by rw [List.append_nil, lens])
    rwa [List.append_nil] at b
  obtain ⟨g1, g2, g3, g4, g5⟩ := J.pin p (List.mem_append_left _ here)
  have pin : L2H.PinOk X.stack H1 z1 p := ⟨g1, g2, fun m => (List.mem_cons.mp (J.stkSub p.1 m)).elim g3 g4, g5⟩
  refine ⟨J.kIn, wpAny_call (codeAny_mono (F.goes hz data room pin J.env0 bind rel promise) fun way z2 done => ?_)⟩
  match way, done with
  | .error er, done => exact out σ pins H1 z1 er z2 J done
  | .ok (.ret u), done => exact J.after done
def tXfE (K : PySem.W.Frag) (a : Addr) (cls : Value) (d : Option Addr) (f : Str) (te : TE) : TE := fun σ H Q => te σ H fun x H1 => x = .ref a ∧ ∃ (C dd : Addr) (fs : List (Str × V)) (v : V), cls = .ref C ∧ d = some dd ∧ XfC K C ∧ PySem.W.findIn K (.ref C) f = some none ∧ H1 dd = some (.xd fs) ∧ fs.lookup f = some v ∧ Q v H1
theorem pe_xfE {te : TE} {n : Str} (hz : Zc c d p.2) (data : ∃ vs, p.2.data = .fields vs) (here : p ∈ X.pn) (he : PE X e te) (plain : attributeBase e n X.env (eval e X.env) = eval e X.env := by rfl) : PE X (.Attribute e n pos) (tXfE X.K p.1 c d n te) := by
  constructor
  intro pins z σ H Q I h
  refine attr_of plain (thn (he.run pins z σ H _ I h) fun u z1 got => ?_)
  obtain ⟨y, H1, J, ry, rfl, C, dd, fs, v, rfl, rfl, T, none_, hd, hv, q⟩ := got
  cases (show u = Value.ref p.1 from ry)
  have stands := (J.pin p (List.mem_append_left _ here)).1
  obtain ⟨m, ns, rel⟩ := (show ObjOk X.prog X.w H1 z1.heap dd (.xd fs) from J.hok dd _ hd)
  obtain ⟨od, ho, look⟩ := lookIn_ns ns
  obtain ⟨u, hu, ru⟩ := RelO.some_of (v := v) (o := m n) (hv ▸ rel n)
  obtain ⟨vs, hvs⟩ := data
  have inst : PySem.W.InstAt z1.heap p.1 p.2 C (some od) := ⟨stands, hz.1, (by unfold PySem.W.notCls; rw [hvs] <;> rfl), (by rw [hz.2]; exact ho)⟩
  exact HandSPX.exc_get J.kIn inst T.ga T.gg T.exC (PySem.W.findObj_own T.hdC none_ rfl (by rw [look, hu])) (handed_of ru) ⟨v, H1, J.tok _, ru, q⟩
end
end Rg
namespace Rg
open PySem L2
theorem op_eqU {X : Cx} (K : PySem.W.Frag) (hu : X.A.units + 64 < cLine) (hK : X.K = K := by rfl) : OpR X (compareOp .Eq) (rEqX K) := by
  subst hK
  exact OpR.or op_eq (op_eqD hu)
theorem xfI {K : PySem.W.Frag} {C dd a : Addr} {fs : List (Str × V)} {f : Str} {v : V} {σ : L2.St} {H : Hp} {Q : VK} {i : Nat} (hT : XfC K C) (hn : PySem.W.findIn K (.ref C) f = some none) (hd : H dd = some (.xd fs)) (hl : fs.lookup f = some v) (hs : σ[i]? = some (some (.ref a))) (q : Q v H) :
    tXfE K a (.ref C) (some dd) f (tVar i) σ H Q := ⟨_, hs, rfl, C, dd, fs, v, rfl, rfl, hT, hn, hd, hl, q⟩
end Rg
/-! ### try: .. except (x, y, z) as n: .. -/
namespace Rg
open PySem PySem.Spec PyProof.Rows L2
theorem flies_on {B h h2 : Heap} {l : List Env} {a : Addr} {Z : Obj → Prop} (kept : ∀ b o, h.get? b = some o → h2.get? b = some o) : HandSPX.FlyingZ B l a Z h → HandSPX.FlyingZ B l a Z h2
  | ⟨st, nb, fr, oe, vs, T, oT, ts, g, z, dt, r⟩ => ⟨fun b o e => kept b o (st b o e), nb, fr.of_keeps fun b o e _ => ⟨o, kept b o e, rfl⟩, oe, vs, T, oT, ts, kept _ _ g, z, dt, r.1, r.2.1, r.2.2.1, kept _ _ r.2.2.2.1, r.2.2.2.2⟩
def wAs3 (K : PySem.W.Frag) (c1 c2 c3 : Value) (i : Nat) (ts : Addr → Value → Option Addr → TS) (out : WX) (D : Ends) : WX := fun cls d σ H => ∃ b, PySem.W.exmAny K cls [c1, c2, c3] = some b ∧
  (b = false → out cls d σ H) ∧ (b = true → i < σ.length → ∀ a, H a = none → ts a cls d { nx := fun σ2 H2 => D.nx (σ2.set i none) H2, rt := D.rt, bk := fun σ2 H2 => D.bk (σ2.set i none) H2, ct := fun σ2 H2 => D.ct (σ2.set i none) H2 } (σ.set i (some (.ref a))) H)
section
variable {X : Cx} {x1 x2 x3 n : Str} {c1 c2 c3 : Value} {i kt : Nat} {b₀ : Stmt} {body suite : List Stmt} {q1 q2 q3 qt qh pos : Pos} {tb : WX → TS} {ts : Addr → Value → Option Addr → TS} {out : WX}
theorem ld_name {pins : List (Addr × Obj)} {z : Shared} {σ : L2.St} {H : Hp} {x : Str} {c : Value} {np : Pos} {Q Er : Value → Shared → Prop} (I : Inv X pins σ H z) (N : Names X x c) (h : Q c z) : wpAny (model X.prog X.w) X.A (eval (.Name x np) X.env) Q Er z :=
  N.2.2.elim (fun m => ld_glob I N.1 m h N.2.1) fun m => ld_blt I N.1 m.1 m.2.1 h m.2.2 N.2.1
theorem ld_three {pins : List (Addr × Obj)} {z : Shared} {σ : L2.St} {H : Hp} {Q Er : Value → Shared → Prop} (I : Inv X pins σ H z) (N1 : Names X x1 c1) (N2 : Names X x2 c2) (N3 : Names X x3 c3)
    (h : Q (.ref z.heap.objs.size) { z with heap := z.heap.push { cls := .type "tuple", data := .seq [c1, c2, c3].toArray } }) : wpAny (model X.prog X.w) X.A (eval (.Tuple [.Name x1 q1, .Name x2 q2, .Name x3 q3] kt qt) X.env) Q Er z := by
  have three : ([c1, c2, c3] : List Value).length ≤ sizeLine := by
    rw [sizeLine_eq]
    show 3 ≤ 16777216
    decide
  exact wpAny_Tuple_spliced (Calls.spliced_cons (ld_name I N1 (Calls.spliced_cons (ld_name I N2 (Calls.spliced_cons (ld_name I N3 (Calls.spliced_nil ⟨three, h⟩)))))))
theorem suite_done {pins : List (Addr × Obj)} {a : Addr} {oe : Obj} {D : Ends} {way : Flow} {z : Shared} (ok : X.Ok) (hN : X.N.Nodup) (hi : X.N[i]? = some n) (hln : X.env.kindOf n = some .local)
    (h : SP (X.suite a ((a, oe) :: (X.pn ++ pins))) [] { nx := fun σ2 H2 => D.nx (σ2.set i none) H2, rt := D.rt, bk := fun σ2 H2 => D.bk (σ2.set i none) H2, ct := fun σ2 H2 => D.ct (σ2.set i none) H2 } way z) :
    wpAny (model X.prog X.w) X.A (do bindName X.env n .none; unbindBehindTheSuite X.env n qh) (fun _ z2 => SP X pins D way z2) X.xe z := by
  have gone : ∀ {σ2 : L2.St} {H2 : Hp} {R : Shared → Prop}, Inv (X.suite a ((a, oe) :: (X.pn ++ pins))) [] σ2 H2 z → (∀ z2, Inv X pins (σ2.set i none) H2 z2 → R z2) → wpAny (model X.prog X.w) X.A (do bindName X.env n .none; unbindBehindTheSuite X.env n qh) (fun _ z2 => R z2) X.xe z :=
    fun J r => gone_ok (J.unsuite ok) hN hi hln r
  match way, h with
  | .ret _, ⟨v, _, _, J, r, q⟩ => exact gone J fun _ J2 => ⟨v, _, _, J2, r, q⟩
  | .next, ⟨_, _, J, q⟩ => exact gone J fun _ J2 => ⟨_, _, J2, q⟩
  | .brk, ⟨_, _, J, q⟩ => exact gone J fun _ J2 => ⟨_, _, J2, q⟩
  | .cont, ⟨_, _, J, q⟩ => exact gone J fun _ J2 => ⟨_, _, J2, q⟩
theorem ps_try_as3 (frames : X.stack = X.env :: X.outer) (lives : X.env.frame = some X.env.locals) (hN : X.N.Nodup) (hi : X.N[i]? = some n) (hln : X.env.kindOf n = some .local) (N1 : Names X x1 c1) (N2 : Names X x2 c2) (N3 : Names X x3 c3) (tk : Takes X out)
    (runs : ∀ (W : WX) (pn : List (Addr × Obj)) (xe : Value → Shared → Prop), Takes (X.tr pn xe) W → PassesOwn (model X.prog X.w) X.A X.env xe → PSs (X.tr pn xe) body (tb W))
    (held : ∀ (a : Addr) (oe : Obj) (cls : Value) (d : Option Addr) (pn : List (Addr × Obj)), Zc cls d oe → (∃ vs, oe.data = .fields vs) → PSs (X.suite a ((a, oe) :: pn)) (b₀ :: suite) (ts a cls d)) :
    PS X (.Try body [.ExceptHandler (some (.Tuple [.Name x1 q1, .Name x2 q2, .Name x3 q3] kt qt)) (some n) (b₀ :: suite) qh] [] [] pos) (fun D σ H => tb (wAs3 X.K c1 c2 c3 i ts out D) D σ H) := by
  constructor
  intro pins z σ H D I h
  have ok := I.ok
  have ours : X.A.frames = some (X.env :: X.outer) := frames ▸ ok.frames
  have takes : Takes (X.tr (X.pn ++ pins) fun e z1 => wpAny (model X.prog X.w) X.A (noteFrame e X.env) (fun _ z2 => wpAny (model X.prog X.w) X.A (setFlight e none) (fun _ z3 =>
      wpAny (model X.prog X.w) X.A (handleBy e X.env [.ExceptHandler (some (.Tuple [.Name x1 q1, .Name x2 q2, .Name x3 q3] kt qt)) (some n) (b₀ :: suite) qh]) (SP X pins D) X.xe z3) X.xe z2) X.xe z1) (wAs3 X.K c1 c2 c3 i ts out D) := by
    rintro _ z1 ⟨a, B, z0, pins0, σ1, H1, cls, d, rfl, J0, base_, slots, sky, na, os, bare, b, hb, no, yes⟩
    have J : Inv X pins σ1 H1 z0 := J0.ofTry ok
    rw [← show X.stack = X.env :: X.outer from frames] at ours
    refine Sky.land Zc.steady (frames ▸ ours) lives (frames ▸ sky) fun h2 flies up2 => ?_
    have J2 : Inv X pins σ1 H1 { z1 with heap := h2 } := J.landed base_ flies.1 (slots.trans up2) os bare
    have apart : ∀ {hh : Heap}, HandSPX.FlyingZ B (X.env :: X.outer) a (Zc cls d) hh → a ∉ frs (X.env :: X.outer) := fun fl m => by
      obtain ⟨oe, vs, g, _, dt⟩ := fl.there
      obtain ⟨_, o, g2, no_⟩ := fl.2.2.1.mem m
      cases g.symm.trans g2
      exact no_ vs dt
    have nL : a ≠ X.env.locals := fun e => apart flies (List.mem_filterMap.mpr ⟨X.env, List.mem_cons_self, lives.trans (congrArg some e.symm)⟩)
    have nF : a ∉ X.fs := fun m => by
      obtain ⟨e, he, q⟩ := List.mem_filterMap.mp m
      exact apart flies (List.mem_filterMap.mpr ⟨e, List.mem_cons_of_mem _ he, q⟩)
    obtain ⟨oe, vs, stands, hz, dt⟩ := flies.there
    -- the clause's test
    have push : ∀ b o, h2.get? b = some o → (h2.push { cls := .type "tuple", data := .seq [c1, c2, c3].toArray }).get? b = some o := fun _ _ g => Heap.get?_push_of_some _ g
    have flies3 := flies_on push flies
    have up3 := slots.trans (up2.trans (Heap.UpToSlots.of_keeps push))
    have J3 : Inv X pins σ1 H1 { z1 with heap := h2.push { cls := .type "tuple", data := .seq [c1, c2, c3].toArray } } := J.landed base_ flies3.1 up3 os bare
    have kind : PySem.W.Looks (model X.prog X.w) (h2.push { cls := .type "tuple", data := .seq [c1, c2, c3].toArray }) (typeOf (.ref a)) cls := fun _ _ _ _ k q => wpAny_typeOf_ref (k _ _ (push _ _ stands)) (by rw [hz.1]; exact q)
    have asked := PySem.W.exm_tup3 (M := model X.prog X.w) J3.kIn kind (Heap.get?_push_size h2 rfl) hb
    refine wpAny_handleBy_cons (codeAny_handlers_test ?_) (fun q => by cases q)
    refine ld_three (X := X.suite a ((a, oe) :: (X.pn ++ pins))) (J2.suite stands dt na nL nF) N1 N2 N3 ?_
    refine asked.here ?_
    cases b with
    | false =>
      show wpAny _ X.A (handleBy (.ref a) X.env []) _ _ _
      refine wpAny_handleBy_nil ?_
      have on : wpAny (model X.prog X.w) X.A (setFlight (.ref a) X.env.frame) (fun _ z4 => wpAny (model X.prog X.w) X.A (throw (.ref a) : Sem Flow) (SP X pins D) X.xe z4) X.xe { z1 with heap := h2.push { cls := .type "tuple", data := .seq [c1, c2, c3].toArray } } := by
        rw [lives]
        exact HandSPX.setFlight_upZ flies3 fun h4 hh4 up4 => wpAny_throw (tk _ _ ⟨a, B, z0, pins, σ1, H1, cls, d, rfl, J, base_, up3.trans up4, .inr (.inr (frames ▸ hh4)), na, os, bare, no rfl⟩)
      obtain ⟨_, _, _, o5, v5, T, _, _, g5, _, d5, f5, _⟩ := id flies3
      unfold PySem.passOn
      refine wpAny_bind (wpAny_field g5 d5 f5 ?_)
      rw [if_neg (show ¬ ((Value.ref T == Value.none) = true) from fun q => by cases q)]
      first
        | exact wpAny_bind on
        | exact wpAny_bind (wpAny_pure (wpAny_bind on))
    | true =>
      refine codeAny_handlers_suite_as (HandSPX.lands_againZ flies3 fun h4 flies4 up4 => ?_)
      obtain ⟨o4, v4, g4, z4, d4⟩ := flies4.there
      have J4 : Inv X pins σ1 H1 { z1 with heap := h4 } := J.landed base_ flies4.1 (up3.trans up4) os bare
      refine store_ok (X := X.suite a ((a, o4) :: (X.pn ++ pins))) (v := .ref a) (J4.suite g4 d4 na nL nF) hN hi (.inl hln) rfl (fun z5 J5 => ?_) (.inr hln)
      exact wpAny_mono ((held a o4 cls d (X.pn ++ pins) z4 ⟨_, d4⟩).run [] z5 _ H1 _ J5 (yes rfl (by rw [J4.len]; exact (List.getElem?_eq_some_iff.mp hi).1) a na)) (fun way z6 done => suite_done ok hN hi hln done) fun _ _ never => never.elim
  refine wpAny_Try_except (wpAny_mono ((runs _ _ _ takes PassesOwn.looking).run [] z σ H D (I.toTry _) h) (fun way z1 done => ?_) fun _ _ e => e)
  match way, done with
  | .next, ⟨_, _, J, q⟩ => exact wpAny_execs_nil ⟨_, _, J.ofTry ok, q⟩
  | .ret _, ⟨v, _, _, J, r, q⟩ => exact ⟨v, _, _, J.ofTry ok, r, q⟩
  | .brk, ⟨_, _, J, q⟩ => exact ⟨_, _, J.ofTry ok, q⟩
  | .cont, ⟨_, _, J, q⟩ => exact ⟨_, _, J.ofTry ok, q⟩
end
end Rg

set_option Elab.async false
set_option linter.all false
set_option maxRecDepth 100000
set_option maxHeartbeats 4000000
/-! ### for i, x in enumerate(a tuple) -/
namespace EnT
open PySem PySem.Spec PyProof.Rows L2
abbrev itO (t : Addr) : Obj := { cls := .type "tuple_iterator", data := .fields #[.ref t, .int 0 0] }
abbrev enO (j : Addr) : Obj := { cls := .type "enumerate", data := .fields #[.none, .bool false, .ref j, rawInt 0, .none, .none] }
abbrev enH (h : Heap) (t : Addr) : Heap := (h.push (itO t)).push (enO h.objs.size)
theorem born (t : Addr) (items : Array Value) :
    Meets (Builtin.«enumerate.__new__» ⟨[.type "enumerate", .ref t], []⟩) (fun _ R z => z.heap.IsTuple t items ∧ R (.ok (.ret (.ref (z.heap.push (itO t)).objs.size))) { z with heap := enH z.heap t }) := by
  refine .of_wp fun prog w A R z hz => ?_
  obtain ⟨hh, gg, dd, tt, oo⟩ := z
  have below := sub_enumerate
  have begun : ∀ {A1 : Around} {E1 Q1 : Value → Shared → Prop}, Q1 (.ref hh.objs.size) ⟨hh.push (itO t), gg, dd, tt, oo⟩ → wpAny (model prog w) A1 (pyIter (.ref t)) Q1 E1 ⟨hh, gg, dd, tt, oo⟩ :=
    fun q1 => wpAny_pyIter_tuple (s := ⟨hh, gg, dd, tt, oo⟩) hz.1 q1
  wp_walk using begun
  refine wpAny_stack_any fun below_ => wpAny_pure ?_
  split
  · rename_i c _ _ _ _ _
    cases (c == Value.type "enumerate") <;> (wp_walk using begun) <;> exact ⟨_, rfl, hz.2⟩
  · wp_walk using begun
    exact ⟨_, rfl, hz.2⟩
theorem makes {prog : Program} {w : World} {B : Around} {Er : Value → Shared → Prop} {z : Shared} {t : Addr} {items : Array Value} {Q : Value → Shared → Prop} (ht : z.heap.IsTuple t items)
    (q : IsEnum (enH z.heap t) (z.heap.objs.size + 1) z.heap.objs.size 0 .none → (enH z.heap t).IsTupleIter z.heap.objs.size t 0 → (∀ b o, z.heap.get? b = some o → (enH z.heap t).get? b = some o) → Q (.ref (z.heap.objs.size + 1)) { z with heap := enH z.heap t }) :
    wpAny (model prog w) B (call (.type "enumerate") [.ref t]) Q Er z := by
  have size1 : (z.heap.push (itO t)).objs.size = z.heap.objs.size + 1 := Heap.size_push ..
  have isE : IsEnum (enH z.heap t) (z.heap.objs.size + 1) z.heap.objs.size 0 .none := by
    have e := Heap.get?_push_size (z.heap.push (itO t)) (o := enO z.heap.objs.size) rfl
    rw [size1] at e
    exact e
  refine callType_new F.called_enumerate (by decide) (F.typeCall_enumerate_1 _) (F.newCall_enumerate_1 _) (fun ob => F.args_object_init_2 ob _) F.entry_enumerate_new (born t items) ⟨ht, ?_⟩
  show _ ∧ _
  rw [size1]
  exact ⟨⟨_, isE, rfl⟩, q isE ⟨_, Heap.get?_push_of_some _ (Heap.get?_push_size _ rfl), rfl, rfl⟩ fun b o g => Heap.get?_push_of_some _ (Heap.get?_push_of_some _ g)⟩
def Iet (K : PySem.W.Frag) (a : Addr) : It where
  go := fun i H => ∃ (xs : List V) (x : V), SqT K H a xs ∧ xs[i]? = some x
  yld := fun i H v H' => ∃ T x, v = .ref T ∧ H T = none ∧ H' = upd H T (.tup [.int (i : Nat), x]) ∧ ∀ xs, SqT K H a xs → xs[i]? = some x
  stop := fun i H => ∃ xs : List V, SqT K H a xs ∧ xs.length ≤ i
theorem apart {h : Heap} {a e it : Addr} {items : Array Value} {i : Nat} {j : Int} {old : Value} (ht : h.IsTuple a items) (hi : h.IsTupleIter it a i) (he : IsEnum h e it j old) : a ≠ it ∧ e ≠ a := by
  obtain ⟨o, g, c, n, d⟩ := ht
  refine ⟨fun z => ?_, fun z => ?_⟩
  · obtain ⟨o2, g2, c2, d2⟩ := hi
    rw [← z, g] at g2
    obtain rfl := Option.some.inj g2
    rw [d] at d2
    cases d2
  · have g2 : h.get? e = _ := he
    rw [z, g] at g2
    obtain rfl := Option.some.inj g2
    cases d
end EnT
namespace Rg
open PySem L2 PySem.Spec PyProof.Rows
def iEnX (K : PySem.W.Frag) (ta : TA) : TI := fun σ H R => ta σ H fun vs H1 => ∃ a xs, vs = [.ref a] ∧ ((SqL K H1 a xs ∧ R (Ite K a) H1) ∨ (SqT K H1 a xs ∧ R (EnT.Iet K a) H1))
theorem ie {K : PySem.W.Frag} {σ : L2.St} {H : Hp} {aa : TA} {R : It → Hp → Prop} (q : aa σ H fun vs H1 => ∃ a xs, vs = [.ref a] ∧ ((SqL K H1 a xs ∧ R (Ite K a) H1) ∨ (SqT K H1 a xs ∧ R (EnT.Iet K a) H1))) : iEnX K aa σ H R := q
/-! ### defs that may raise -/
structure CalR (P : Program) (w : World) (K : PySem.W.Frag) (mg : Str → Option Value) (base : Heap) (k : Nat) (x : Str) (sp : Sp) : Prop where
  ex : ∃ (f : Addr) (fd : FuncData) (ps : List Str), FnOk P w K mg base (L2.CX P w) k f fd ps sp ∧ mg x = some (.ref f) ∧ PySem.W.keepIn K (.ref f) = true ∧ Binds K fd ps []
structure CalRK (P : Program) (w : World) (K : PySem.W.Frag) (mg : Str → Option Value) (base : Heap) (k : Nat) (x : Str) (ks : List Str) (gV : List V → List V → List V) (sp : Sp) : Prop where
  ex : ∃ (f : Addr) (fd : FuncData) (ps : List Str) (g : List Value → List Value → List Value), FnOk P w K mg base (L2.CX P w) k f fd ps sp ∧ mg x = some (.ref f) ∧ PySem.W.keepIn K (.ref f) = true ∧ KBinds K fd ps ks g gV
def tCR (sp : Sp) (W : WX) (t : TA) : TE := fun σ H Q => t σ H fun vs H1 => sp vs H1 Q fun cls d H2 => W cls d σ H2
def tCRK (sp : Sp) (gV : List V → List V → List V) (E : XK) (tk : TA) : TE := fun σ H Q => tk σ H fun zs H1 => sp (gV [] zs) H1 Q E
section
variable {X : Cx} {k j : Nat} {x : Str} {sp : Sp} {p pos : Pos} {e : Expr} {es : List Expr} {t tk : TA} {ks : List Str} {gV : List V → List V → List V} {kws : List Keyword} {W : WX} {E : XK}
theorem pe_cR (tk : Takes X W) (c : CalR X.prog X.w X.K X.mg X.base k x sp) (hr : Room j X.A) (hk : k ≤ j) (hg : Gl X x) (ha : PA X (e :: es) t) (hdb : (x == ("__debug__" : Str)) = false := by decide)
    (he : starEach (e :: es) X.env = (false, eval e X.env) :: starEach es X.env := by rfl) (hpl : (backTo pos (starEach es X.env)).any (·.1) = false := by rfl) : PE X (.Call (.Name x p) (e :: es) [] pos) (tCR sp W t) := by
  obtain ⟨f, fd, ps, F, hm, hkp, hb⟩ := c.ex
  exact pe_callS (E := WE W) F (hr.mono hk) hg hm hkp hb (fun σ => passAt tk σ) ha hdb he hpl
end
/-! ### raise C(..), C an own class over ValueError with its own __init__ -/
structure ErrC (P : Program) (w : World) (K : PySem.W.Frag) (mg : Str → Option Value) (base : Heap) (x : Str) (C : Addr) (n : Nat) (sp : Sp) : Prop where
  T : OexC K C
  gC : mg x = some (.ref C)
  i : ∃ (fI : Addr) (fd : FuncData) (ps : List Str), PySem.W.findIn K (.ref C) "__init__" = some (some (.ref fI)) ∧ PySem.W.typeIn K (.ref fI) = some (.type "function") ∧ FnOk P w K mg base CX0 1 fI fd ps sp ∧ Binds K fd ps []
theorem pass00 {X : Cx} : Passes CX0 X (fun _ _ _ => False) := fun _ _ _ _ _ _ _ h => h.elim
def tRaise (C : Addr) (sp : Sp) (E : XK) (ta : TA) : TS := fun _ σ H => tMkO C sp [] ta σ H E
section
variable {X : Cx} {x : Str} {C : Addr} {n j : Nat} {sp : Sp} {p pos pos2 : Pos} {e : Expr} {es : List Expr} {ta : TA} {E : XK}
theorem ps_rz (hc : X.calm = true) (tk : Takes X fun cls d _ H => E cls d H) (c : ErrC X.prog X.w X.K X.mg X.base x C n sp) (hr : Room j X.A) (hj : 2 ≤ j) (hg : Gl X x) (ha : PA X (e :: es) ta)
    (hdb : (x == ("__debug__" : Str)) = false := by decide) (he : starEach (e :: es) X.env = (false, eval e X.env) :: starEach es X.env := by rfl) (hpl : (backTo pos (starEach es X.env)).any (·.1) = false := by rfl) :
    PS X (.Raise (some (.Call (.Name x p) (e :: es) [] pos)) none pos2) (tRaise C sp E ta) := by
  obtain ⟨fI, fd, ps, iC, tI, F, hb⟩ := c.i
  exact ps_raise hc tk (pmk_oex (dvs := []) (ds := []) c.T iC tI F (hr.mono hj) hb .nil pass00 hg c.gC ha hdb he hpl)
end
theorem rz {C : Addr} {sp : Sp} {E : XK} {ta : TA} {D : Ends} {σ : L2.St} {H : Hp} (q : ta σ H fun vs H1 => vs.length ≤ 1000 ∧ ∀ a, H1 a = none → sp (.ref a :: vs) (upd H1 a (exo a C none))
    (fun v H2 => v = .non ∧ ∃ (d : Addr) (fs : List (Str × V)), H2 a = some (exo a C (some d)) ∧ H2 d = some (exd d fs) ∧ H1 d = none ∧ E (.ref C) (some d) (upd (del H2 a) d (.xd fs))) (fun _ _ _ => False)) : tRaise C sp E ta D σ H := by
  show ta σ H _
  simp only [List.append_nil]
  exact q
def spIni (K : PySem.W.Frag) (code fld : Str) : Sp := fun vs H Q _ => ∃ (a C : Addr) (v : V), vs = [.ref a, v] ∧ OexC K C ∧ PySem.W.findIn K (.ref C) "code" = some none ∧ PySem.W.findIn K (.ref C) fld = some none ∧ H a = some (exo a C none) ∧
  ∀ d H', H d = none → d ≠ a → H' a = some (exo a C (some d)) → H' d = some (exd d [(fld, v), (("code" : Str), V.str code)]) → (∀ b o, H b = some o → b ≠ a → H' b = some o) → Q .non H'
section
variable {P : Program} {w : World} {K : PySem.W.Frag} {mg : Str → Option Value} {base : Heap}
theorem ok_ini {qual code fld : Str} {st : Stmt} {f : Addr} {fd : FuncData} (F : Fun K "__init__" qual st f fd) (S : FnScope ["self", fld] ["self", fld] (defScope st))
    (hb : ∀ (cdv : Value) (A : Around) (outer : List Env) (s : Shared) (H : Hp) (E : XK), PSs (cxOf CX0 P w K mg base ["self", fld] qual (defScope st) f cdv A outer s H E).nox (defBody st) (tSeq (tOst K "code" (tVar 0) (tC (.str code))) (tOst K fld (tVar 0) (tVar 1)))) :
    FnOk P w K mg base CX0 1 f fd ["self", fld] (spIni K code fld) := by
  refine F.ok S (fun vs H Q E h => ?_) (fun cdv A outer s H vs Q E hr h => ?_)
  · obtain ⟨a, C, v, rfl, _⟩ := h
    rfl
  · obtain ⟨a, C, v, rfl, T, n1, n2, ha, q⟩ := h
    refine ⟨_, hb cdv A outer s H E, ?_⟩
    refine ⟨.ref a, rfl, a, C, rfl, T, n1, .inl ⟨ha, fun dx nd ne => ?_⟩⟩
    refine ⟨v, rfl, .ref a, rfl, a, C, rfl, T, n2, .inr ⟨dx, [(("code" : Str), V.str code)], upd_same, ?_, Nat.le_of_ble_eq_true rfl, ?_⟩⟩
    · rw [upd_ne ne, upd_same]
    · refine q dx _ nd ne ?_ upd_same fun b o hbo nba => ?_
      · rw [upd_ne ne.symm, upd_same]
      · rw [upd_ne (ne_of_none hbo nd), upd_ne nba, upd_ne (ne_of_none hbo nd)]
        exact hbo
end
end Rg
/-! ### the end where the law makes lambdas: its table of code objects -/
namespace Rg
open PySem PySem.Spec PyProof.Rows L2
theorem tabIn_mk {K : PySem.W.Frag} {x : Str} {f c P : Addr} {o1 o2 o3 : Option Addr} {v1 v2 : Value} {fd : FuncData} {vs : Array Value} {s1 s2 : Array (Option Value)} (a : PySem.W.nsIn K mainGlobals x = some (some (.ref f))) (l : K.lookup f = some ⟨v1, o1, .func fd, s1⟩) (hc : fd.code = .ref c)
    (lc : K.lookup c = some ⟨v2, o2, .fields vs, s2⟩) (e : vs[11]? = some (.ref P)) : PySem.W.tabIn K x = some (c, P) := by
  unfold PySem.W.tabIn
  simp only [a, l, hc, lc, e]
theorem noTab {K : PySem.W.Frag} {h : Heap} {P : Addr} {ps : Array Value} (X : K.In h) (nt : PySem.W.noTabs K = true) (hP : h.get? P = some { cls := .none, data := .fields ps }) : K.lookup P = none := by
  cases e : K.lookup P with
  | none => rfl
  | some o =>
    have e2 := X P o e
    rw [hP] at e2
    obtain rfl := Option.some.inj e2
    exact absurd (List.all_eq_true.mp nt _ (PySem.W.mem_of_lookupK e)) Bool.false_ne_true
theorem walk_tab {l : PySem.W.OpenLaw} {n k : Nat} {q : Program} {loose : List Str} {XP : (Str → Option Value) → Heap → Prop} {YP : World → Heap → Prop} {d : DefRec} {K : Params → PySem.W.Frag} {x : Str} {sp : World → Addr → Sp}
    (hn : l.most = some n) (hn2 : n ≤ sizeLine) (hdf : d.params.defaults = []) (room : Room k callerA) (hY : ∀ (w : World) (h : Heap), YP w h → (K w.params).In h) (law : d.name = "law") (found : (recsOf q).find? (fun e => e.name == ("law" : Str)) = some d)
    (F : ∀ (w : World) (mg : Str → Option Value) (fa : Addr) (h : Heap), (K w.params).In h → h.Ns mainGlobals mg → mg "law" = some (.ref fa) →
      ∃ (fd : FuncData) (c P : Addr), PySem.W.tabIn (K w.params) "law" = some (c, P) ∧ PySem.W.noTabs (K w.params) = true ∧ (∀ (s : Shared) (u : Value), BindsTo s fd ⟨[u], []⟩ [(x, u)]) ∧
        ∀ base : Heap, (K w.params).In base → base.Ns mainGlobals mg → LamX.TabB base mg c P → FnOk l.prog w (K w.params) mg base CX0 k fa fd [x] (sp w P))
    (S : ∀ (w : World) (H : Hp) (P a : Addr) (ns : List Int), ns.length ≤ n → H P = some (.tbl #[]) → SqL (K w.params) H a (ns.map V.int) → sp w P [.ref a] H (fun v _ => v = .bl true) fun _ _ _ => False) :
    PySem.W.WalkO q loose XP YP l.row.toRowW d [] (fun f vs => PySem.call f vs) := by
  refine Att.attach_callB hn hdf fun w z0 z mg mb fa o pm cd doc a vs ns ground Y ho hd hcd hmg hobj hints hlen hbits hg => ?_
  have KX := hY w _ Y
  rw [law] at hmg
  obtain ⟨fd, c, P, tab, nt, bind, prom⟩ := F w mg fa _ KX ground.T.g hmg
  obtain ⟨code, obj⟩ := PySem.W.tab_of ground.T KX found tab
  exact LamX.law_callTs (cs := [(c, P)]) KX ground.T.g ground.T.b ground.T.builtins ground.T.nolimit hg (fun p hp => List.mem_singleton.mp hp ▸ obj) (fun p hp => List.mem_singleton.mp hp ▸ noTab KX nt obj) (fun p hp => List.mem_singleton.mp hp ▸ code) ground.T.bmain hobj hints
    (Nat.le_trans hlen hn2) room (fun base h1 h2 h3 => prom base h1 h2 (h3 (c, P) (List.mem_singleton.mpr rfl))) bind (fun H hH hS => S w H P a ns hlen (hH (c, P) (List.mem_singleton.mpr rfl)) hS) fun _ _ _ z => z
/-! which clause an error meets -/
theorem exm1 {K : PySem.W.Frag} {cls : Value} {c : Addr} {b : Bool} (h1 : PySem.W.subIn K (.ref c) (.type "BaseException") = some true) (h2 : PySem.W.isClsIn K c = true) (h3 : PySem.W.typeIn K (.ref c) = some (.type "type")) (h4 : PySem.W.subIn K cls (.ref c) = some b) :
    PySem.W.exmOne K cls (.ref c) = some b := by
  have e1 : (PySem.W.subIn K (.ref c) (.type "BaseException") == some true) = true := by rw [h1]; rfl
  have e2 : ((PySem.W.clsIn K c).isSome && PySem.W.typeIn K (.ref c) == some (.type "type")) = true := by
    rw [show (PySem.W.clsIn K c).isSome = true from h2, h3]
    rfl
  unfold PySem.W.exmOne
  rw [if_pos e1]
  show (if _ = true then _ else _) = _
  rw [if_pos e2]
  exact h4
theorem exm3 {K : PySem.W.Frag} {cls c1 c2 c3 : Value} {b1 b2 b3 : Bool} (h1 : PySem.W.exmOne K cls c1 = some b1) (h2 : PySem.W.exmOne K cls c2 = some b2) (h3 : PySem.W.exmOne K cls c3 = some b3) : PySem.W.exmAny K cls [c1, c2, c3] = some (b1 || (b2 || (b3 || false))) := by
  simp only [PySem.W.exmAny, h1, h2, h3]
theorem Tabs.but {T : List (Addr × Str)} {H H' : Hp} {b : Addr} {l : List V} (t : LamX.Tabs T H) (s : But b H H') (hb : H b = some (.lst l)) : LamX.Tabs T H' := by
  intro p hp
  obtain ⟨ps, h1, h2, h3⟩ := t p hp
  refine ⟨ps, s _ _ h1 (fun z => by rw [z, hb] at h1; cases h1), h2, fun pos cv hc => ?_⟩
  obtain ⟨c, e1, e2⟩ := h3 pos cv hc
  refine ⟨c, e1, s _ _ e2 fun z => ?_⟩
  rw [z, hb] at e2
  have e3 : HO.ext _ = HO.lst l := (Option.some.inj e2).symm
  cases e3
end Rg
namespace Rg
open PySem L2
theorem addT {K : PySem.W.Frag} {a p : Addr} {xs ys : List V} {H : Hp} {Q : VK} (h1 : H a = some (.tup xs)) (h2 : H p = some (.tup ys)) (h : xs.length + ys.length ≤ sizeLine) (q : ∀ r H', Same H H' → H' r = some (.tup (xs ++ ys)) → Q (.ref r) H') : rAddX K (.ref a) (.ref p) H Q := by
  refine .inr (.inr (.inr ⟨a, p, xs, ys, rfl, rfl, SqT.of h1, SqT.of h2, h, fun e => ?_, fun _ e => ?_, fun _ _ r n => q r _ (same_upd n) upd_same⟩))
  · exact q p H (Same.refl H) (by rw [e]; exact h2)
  · exact q a H (Same.refl H) (by rw [e, List.append_nil]; exact h1)
theorem cut_all {xs : List V} {lo hi : Option Int} (h : HT.sIx xs.length 0 lo = 0 ∧ HT.sIx xs.length xs.length hi = xs.length) : cutV xs lo hi = xs := by
  unfold cutV
  rw [h.1, h.2, List.drop_zero, Nat.sub_zero, List.take_length]
theorem slTX {K : PySem.W.Frag} {a : Addr} {xs : List V} {lo hi : Option Int} {H : Hp} {Q : VK} (h : H a = some (.tup xs)) (q : ∀ r H', Same H H' → H' r = some (.tup (cutV xs lo hi)) → Q (.ref r) H') : rSlX K (.ref a) lo hi H Q :=
  slT (SqT.of h) (fun e => q a H (Same.refl H) (by rw [cut_all e]; exact h)) fun _ r n => q r _ (same_upd n) upd_same
theorem cutV_take {xs : List V} {i : Nat} (h : i ≤ xs.length) : cutV xs none (some (i : Int)) = xs.take i := by
  unfold cutV
  show ((xs.drop 0).take (HT.sIx xs.length xs.length (some (i : Int)) - 0)) = _
  rw [List.drop_zero, Nat.sub_zero]
  congr 1
  unfold HT.sIx
  simp
  rw [if_neg (show ¬ ((i : Int) < 0) by omega)]
  omega
theorem cutV_drop {xs : List V} {i : Nat} (h : i ≤ xs.length) : cutV xs (some (i : Int)) none = xs.drop i := by
  unfold cutV
  have e : HT.sIx xs.length 0 (some (i : Int)) = i := by
    unfold HT.sIx
    simp
    rw [if_neg (show ¬ ((i : Int) < 0) by omega)]
    omega
  show ((xs.drop (HT.sIx xs.length 0 (some (i : Int)))).take (xs.length - HT.sIx xs.length 0 (some (i : Int)))) = _
  rw [e]
  exact List.take_of_length_le (by rw [List.length_drop]; exact Nat.le_refl _)
end Rg
namespace Rg
open PySem L2
theorem crR {sp : Sp} {W : WX} {t : TA} {σ : L2.St} {H : Hp} {Q : VK} (q : t σ H fun vs H1 => sp vs H1 Q fun cls d H2 => W cls d σ H2) : tCR sp W t σ H Q := q
theorem crK {sp : Sp} {gV : List V → List V → List V} {E : XK} {tk : TA} {σ : L2.St} {H : Hp} {Q : VK} (q : tk σ H fun zs H1 => sp (gV [] zs) H1 Q E) : tCRK sp gV E tk σ H Q := q
end Rg

set_option Elab.async false
set_option linter.all false
set_option maxRecDepth 100000
set_option maxHeartbeats 4000000
/-! ### lambdas as values: lists of lambda: e and lambda x=i: e, handed to a def that calls them -/
namespace LamV
open PySem PySem.Spec PyProof.Rows L2 LamX
structure LK where
  qual : Str
  params : Arguments
  body : Expr
  scope : Scope
  clo : List (Str × Addr)
  code : Addr
  dflt : Option Addr
structure LamN (N : List Str) (sc scope : Scope) (ps : List Str) : Prop where
  kind : scope.kind = .function
  co : scope.isCoroutine = false
  gen : scope.isGenerator = false
  cell : ∀ y ∈ scope.names, y.2 ≠ .cell
  own : ∀ y ∈ scope.names, y.2 = .local → y.1 ∉ N
  free : ∀ y ∈ scope.names, y.2 = .free → sc.names.lookup y.1 = some .cell ∨ sc.names.lookup y.1 = some .free
  par : ∀ p ∈ ps, scope.names.lookup p = some .local
section
variable {X : Cx} {pins : List (Addr × Obj)} {σ : L2.St} {H HZ : Hp} {s s1 : Shared}
theorem LamN.has {scope : Scope} {ps : List Str} (L : LamN X.N X.env.scope scope ps) (ok : X.Ok) (y : Str × NameKind) (m : y ∈ scope.names) (e : y.2 = .free) : ∃ c, X.env.cells.lookup y.1 = some c :=
  (L.free y m e).elim (fun k => ok.has _ (.inl k)) fun k => ok.has _ (.inr k)
end
section
variable {X : Cx} {pins : List (Addr × Obj)} {σ : L2.St} {H HZ : Hp} {s s1 : Shared}
theorem begun {A : Around} {outer : List Env} {E : XK} {scope : Scope} {ps : List Str} {f c' : Addr} {g : Heap} {tk : Nat} {m : Str → Option Value} (I : Inv X pins σ H s) (L : LamN X.N X.env.scope scope ps) (e0 : Env0 X.prog X.w X.K X.mg X.base A outer s1 HZ) (calm : A.handled = none)
    (since : Un (frs X.stack) [] H HZ s.heap s1.heap) (frame : g.Ns s1.heap.objs.size m) (kept : ∀ b o, s1.heap.get? b = some o → g.get? b = some o) : Inv (lamCx X A outer s1 HZ E scope f c') [] σ HZ { s1 with heap := g, toks := tk } := by
  have back : ∀ {y : Str} {c : Addr}, (cloFrom X.env.cells scope.names []).lookup y = some c → X.env.cells.lookup y = some c := by
    intro y c e
    rcases cloFrom_mem (PySem.mem_of_lookup e) with z | ⟨z1, z2⟩
    · cases z
    · obtain ⟨c1, e1⟩ := L.has I.ok _ z1 rfl
      have e1 : X.env.cells.lookup y = some c1 := e1
      rw [e1] at z2
      rw [show c = c1 from z2]
      exact e1
  have forth : ∀ {y : Str}, scope.names.lookup y = some .free → ∃ c, (cloFrom X.env.cells scope.names []).lookup y = some c := fun {y} e => mem_lookup (cloFrom_has (cells := X.env.cells) (acc := []) (show (y, NameKind.free) ∈ scope.names from PySem.mem_of_lookup e))
  have cells : ∀ {c : Addr} {v : Option Value}, H c = none → s.heap.IsCell c v → g.IsCell c v := by
    rintro c v n ⟨o, g1, d1⟩
    obtain ⟨sl, g2⟩ := since.any g1 n List.not_mem_nil
    exact ⟨_, kept _ _ g2, d1⟩
  have noEx : ∀ b : Addr, b ∉ (lamCx X A outer s1 HZ E scope f c').ex := fun b z => List.not_mem_nil (show b ∈ ([] : List Addr) from z)
  exact {
    ok := {
      mod := e0.mod
      kind := L.kind
      glob := rfl
      blt := rfl
      above := Nat.le_refl _
      inj := fun x y c e1 e2 => I.ok.inj x y c (back e1) (back e2)
      has := fun x hx => by
        have hx : scope.names.lookup x = some .cell ∨ scope.names.lookup x = some .free := hx
        exact hx.elim (fun z => absurd rfl (L.cell _ (PySem.mem_of_lookup z))) forth
      cab := fun _ _ z _ => by cases (show false = true from z)
      hd := fun _ => calm
      frames := Around.frames_deeper e0.frames
      stk := .inr ⟨rfl, rfl⟩
      exf := fun b z => absurd z (noEx b)
      bs := e0.bs
      bsz := e0.bsz
      noex := fun b _ _ => noEx b
      exfs := fun b z => absurd z (noEx b)
      funs := e0.funs
      frf := e0.frf }
    os := rfl
    bare := e0.bare
    base := Un.kept kept
    loc := ⟨m, frame, fun i y v e1 e2 vis => by
      have vis : Vis scope y := vis
      have inN : y ∈ X.N := List.mem_of_getElem? e1
      rcases vis with z | z | z
      · exact absurd inN (L.own _ (PySem.mem_of_lookup z) rfl)
      · exact absurd rfl (L.cell _ (PySem.mem_of_lookup z))
      · obtain ⟨m0, _, look⟩ := I.loc
        have up := L.free _ (PySem.mem_of_lookup z) rfl
        obtain ⟨u, ru, at_⟩ := look i y v e1 e2 (up.elim (fun k => .inr (.inl k)) fun k => .inr (.inr k))
        obtain ⟨c2, e3⟩ := forth z
        refine ⟨u, ru, .inr ⟨.inr z, c2, e3, ?_⟩⟩
        have e4 := back e3
        rcases at_ with ⟨k, _⟩ | ⟨_, c3, e5, cell⟩
        · have k : X.env.scope.names.lookup y = some .local := k
          rcases up with k2 | k2 <;> rw [show X.env.scope.names.lookup y = _ from k2] at k <;> cases k
        · rw [e4] at e5
          cases e5
          exact cells (I.freeC y _ e4) cell⟩
    cell := fun y c e => by
      obtain ⟨v, cell⟩ := I.cell y c (back e)
      exact ⟨v, cells (I.freeC y c (back e)) cell⟩
    free := e0.hok.fresh (Nat.le_refl _)
    freeC := fun y c e => by
      obtain ⟨v, o, g1, _⟩ := I.cell y c (back e)
      exact since.free c o g1 (I.freeC y c (back e)) List.not_mem_nil
    pin := fun q hq => absurd (show q ∈ ([] : List (Addr × Obj)) ++ [] from hq) (by simp)
    hok := e0.hok.kept kept
    len := I.len }
end
/-! ### lambda: e and lambda x=i: e as values -/
section
variable {X : Cx} {T : List (Addr × Str)} {c P : Addr} {params : Arguments} {body : Expr} {scope : Scope} {pos : Pos} {ps : List Str}
end
end LamV
/-! ### a written dict of the module's top: d.get(k, x) -/
namespace Rg
open PySem PySem.Spec PyProof.Rows L2
def KTab (K : PySem.W.Frag) (w : World) (a : Addr) (kvs : List (Str × V)) : Prop :=
  ∃ es n, K.lookup a = some ⟨.type "dict", none, .dict es n, #[]⟩ ∧ PySem.W.KeysLit w.params es.toList ∧ (a == sysModules) = false ∧ ∀ z, RelO (kvs.lookup z) (findBy Value.isStrOf es z)
end Rg

set_option Elab.async false
set_option linter.all false
set_option maxRecDepth 100000
set_option maxHeartbeats 4000000
/-! a, *b = ..: a tuple or a list taken apart with a star -/
namespace St6
open PySem PySem.Spec PyProof.Rows L2
section
variable {P : Program} {w : World} {Ar : Around} {Ee : Value → Shared → Prop} {u : Shared}
theorem behind {Qx : List Value → Shared → Prop} {g : Shared} {front some_ rest : List Value} (hz : some_.length ≤ 16384)
    (q : ∀ t', Qx (front ++ [.ref g.heap.objs.size] ++ rest) { g with heap := g.heap.push { cls := .type "list", data := .seq some_.toArray }, toks := t' }) :
    wpAny (model P w) Ar (newList some_ >>= fun l => pure (front ++ [l] ++ rest)) Qx Ee g :=
  wpAny_bind (wpAny_newList (wpAny_pure (q _)) (by rw [sizeLine_eq]; omega))
end
/-! the targets -/
theorem Vals.take {vs : List V} {us : List Value} (r : Vals vs us) : ∀ k, Vals (vs.take k) (us.take k) := by
  induction r with
  | nil => intro k; rw [List.take_nil, List.take_nil]; exact .nil
  | cons h _ ih =>
    intro k
    cases k with
    | zero => exact .nil
    | succ k => exact .cons h (ih k)
theorem Vals.drop {vs : List V} {us : List Value} (r : Vals vs us) : ∀ k, Vals (vs.drop k) (us.drop k) := by
  induction r with
  | nil => intro k; rw [List.drop_nil, List.drop_nil]; exact .nil
  | cons h r ih =>
    intro k
    cases k with
    | zero => exact .cons h r
    | succ k => exact ih k
end St6

set_option Elab.async false
set_option linter.all false
set_option maxRecDepth 100000
set_option maxHeartbeats 4000000
/-! own classes: objects made through a local name, classmethods, fields, methods -/
namespace Ob
open PySem L2
structure MakV (P : Program) (w : World) (K : PySem.W.Frag) (mg : Str → Option Value) (base : Heap) (k : Nat) (C : Addr) (sp : Sp) : Prop where
  ex : ∃ (f : Addr) (fd : FuncData) (ps : List Str), Mk K C f ∧ FnOk P w K mg base CX0 k f fd ps sp ∧ Binds K fd ps []
section
variable {X : Cx} {k j : Nat} {C : Addr} {x m : Str} {sp : Sp} {p pos apos : Pos} {e o : Expr} {es : List Expr} {ta : TE} {t : TA}
structure CalM (P : Program) (w : World) (K : PySem.W.Frag) (mg : Str → Option Value) (base : Heap) (k : Nat) (C : Addr) (m : Str) (sp : Sp) : Prop where
  ex : ∃ (p g : Addr) (fd : FuncData) (ps : List Str), ClX.CRead K C (.type "type") ∧ ClX.CMet K C (.type "type") m p g ∧ FnOk P w K mg base CX0 k g fd ps sp ∧ Binds K fd ps []
end
/-! the readings, a step each -/
section
variable {K : PySem.W.Frag} {σ : L2.St} {H : Hp} {Q : VK} {D : Ends} {ta tv : TE} {t : TA} {f m : Str} {v : V} {a C dx : Addr} {fs : List (Str × V)} {sp : Sp} {dvs : List V} {E : XK}
theorem fld (q : ta σ H fun x H1 => ∃ a C dx fs v, x = .ref a ∧ H1 a = some (.ins C dx fs) ∧ Cls K C ∧ NoAttr K C f ∧ fs.lookup f = some v ∧ Q v H1) : tFld K ta f σ H Q := q
theorem exfld {R : V → Prop} (h : H a = some (.ins C dx fs)) (c : Cls K C) (n : NoAttr K C f) (l : fs.lookup f = some v) (q : R v) :
    ∃ a' C dx fs v, V.ref a = .ref a' ∧ H a' = some (.ins C dx fs) ∧ Cls K C ∧ NoAttr K C f ∧ fs.lookup f = some v ∧ R v := ⟨a, C, dx, fs, v, rfl, h, c, n, l, q⟩
theorem sfld (q : tv σ H fun y H1 => ta σ H1 fun x H2 => ∃ a C dx fs, x = .ref a ∧ H2 a = some (.ins C dx fs) ∧ Cls K C ∧ NoAttr K C f ∧ fs.length < 1000 ∧ D.nx σ (upd H2 a (.ins C dx (putF f y fs)))) : sFld K ta tv f D σ H := q
theorem exsfld {R : Addr → Addr → Addr → List (Str × V) → Prop} (h : H a = some (.ins C dx fs)) (c : Cls K C) (n : NoAttr K C f) (l : fs.length < 1000) (q : R a C dx fs) :
    ∃ a' C dx fs, V.ref a = .ref a' ∧ H a' = some (.ins C dx fs) ∧ Cls K C ∧ NoAttr K C f ∧ fs.length < 1000 ∧ R a' C dx fs := ⟨a, C, dx, fs, rfl, h, c, n, l, q⟩
theorem meth (q : ta σ H fun x H1 => ∃ a dx fs, x = .ref a ∧ H1 a = some (.ins C dx fs) ∧ fs.lookup m = none ∧ t σ H1 fun vs H2 => sp (x :: (vs ++ dvs)) H2 Q E) : tMeth C m sp dvs E ta t σ H Q := q
theorem exmeth {R : Prop} (h : H a = some (.ins C dx fs)) (l : fs.lookup m = none) (q : R) : ∃ a' dx fs, V.ref a = .ref a' ∧ H a' = some (.ins C dx fs) ∧ fs.lookup m = none ∧ R := ⟨a, dx, fs, rfl, h, l, q⟩
theorem cmeth (q : ta σ H fun x H1 => x = .ref C ∧ t σ H1 fun vs H2 => sp (.ref C :: vs) H2 Q E) : ClX.tCMeth C sp E ta t σ H Q := q
theorem excm {R : Prop} (q : R) : V.ref C = .ref C ∧ R := ⟨rfl, q⟩
end
section
variable {σ : L2.St} {H : Hp} {Q : VK} {D : Ends} {td ty tv : TE}
theorem din (q : ty σ H fun y H1 => td σ H1 fun x H2 => ∃ a o, x = .ref a ∧ DGet H2 a y o ∧ Q (.bl o.isSome) H2) : tDIn ty td σ H Q := q
theorem dnin (q : ty σ H fun y H1 => td σ H1 fun x H2 => ∃ a o, x = .ref a ∧ DGet H2 a y o ∧ Q (.bl (!o.isSome)) H2) : tDNotIn ty td σ H Q := q
theorem dget (q : td σ H fun x H1 => ty σ H1 fun y H2 => ∃ a v, x = .ref a ∧ DGet H2 a y (some v) ∧ Q v H2) : tDGet td ty σ H Q := q
theorem dput (q : tv σ H fun v H1 => td σ H1 fun x H2 => ty σ H2 fun y H3 => ∃ a H4, x = .ref a ∧ DPut H3 a y v H4 ∧ D.nx σ H4) : sDPut td ty tv D σ H := q
theorem dnew (q : ∀ p, H p = none → Q (.ref p) (upd H p (.dK []))) : tDNewK σ H Q := q
end
section
variable {σ : L2.St} {H : Hp} {Q : VK} {wi wi1 : TI} {g g1 : TG} {tt tt1 : TT} {te : TE} {vs vs1 : List Nat}
theorem lc2 (q : wi σ H fun J H1 => ∀ D, H1 D = none → ∃ W : Nat → Nat → Hp → Prop, (∃ m, W 0 m (upd H1 D (.lst []))) ∧ ∀ i m H, W i m H →
  (J.stop i H ∧ Q (.ref D) H) ∨ (J.go i H ∧ ∃ Nx : Hp → Prop, (∀ H', Nx H' → ∃ m', m' < m ∧ W (i + 1) m' H') ∧ ∀ x H', J.yld i H x H' → g x (wipe σ vs) H' fun σ2 H2 => wipe σ2 vs = wipe σ vs ∧ tt σ2 H2 fun b H3 =>
    if b = true then wi1 σ2 H3 fun J1 H4 => ∃ W1 : Nat → Nat → Hp → Prop, (∃ m, W1 0 m H4) ∧ ∀ j k H, W1 j k H →
      (J1.stop j H ∧ Nx H) ∨ (J1.go j H ∧ ∃ Nx1 : Hp → Prop, (∀ H', Nx1 H' → ∃ k', k' < k ∧ W1 (j + 1) k' H') ∧ ∀ x H', J1.yld j H x H' → g1 x (wipe σ2 vs1) H' fun σ3 H5 => wipe σ3 vs1 = wipe σ2 vs1 ∧ tt1 σ3 H5 fun b H6 =>
        if b = true then te σ3 H6 fun y H7 => ∃ acc, H7 D = some (.lst acc) ∧ acc.length < sizeLine ∧ Nx1 (upd H7 D (.lst (acc ++ [y]))) else Nx1 H6)
    else Nx H3)) : tLc2 wi g tt wi1 g1 tt1 te vs vs1 σ H Q := q
end
theorem lookHead {f : Str} {v : V} {r : List (Str × V)} : List.lookup f ((f, v) :: r) = some v := by simp [List.lookup]
theorem lookTail {f g : Str} {v : V} {r : List (Str × V)} {o : Option V} (h : (f == g) = false) (l : List.lookup f r = o) : List.lookup f ((g, v) :: r) = o := by simpa [List.lookup, h] using l
theorem lookNil {f : Str} : List.lookup f ([] : List (Str × V)) = none := rfl
theorem putHead {f : Str} {v w : V} {r : List (Str × V)} : putF f w ((f, v) :: r) = (f, w) :: r := by simp [putF]
theorem putTail {f g : Str} {v w : V} {r r' : List (Str × V)} (h : (g == f) = false) (l : putF f w r = r') : putF f w ((g, v) :: r) = (g, v) :: r' := by
  have : ¬ g = f := by simpa using h
  simp [putF, this, l]
theorem putNil {f : Str} {w : V} : putF f w [] = [(f, w)] := rfl
end Ob

set_option Elab.async false
set_option linter.all false
set_option maxRecDepth 100000
set_option maxHeartbeats 4000000
/-! defs with a star parameter, called by their names -/
namespace Ob
open PySem PySem.Spec PyProof.Rows L2
structure CalS (P : Program) (w : World) (K : PySem.W.Frag) (mg : Str → Option Value) (base : Heap) (k : Nat) (x : Str) (sp : Sp) : Prop where
  ex : ∃ f : Addr, FnR P w K mg base CX0 k f sp ∧ mg x = some (.ref f) ∧ PySem.W.keepIn K (.ref f) = true
section
variable {X : Cx} {k j : Nat} {x : Str} {sp : Sp} {p pos : Pos} {e : Expr} {es : List Expr} {t : TA}
end
end Ob

set_option Elab.async false
set_option linter.all false
set_option maxRecDepth 100000
set_option maxHeartbeats 4000000
/-! zip of a text and a tuple; a written dict asked by «in» and by item -/
namespace Zs
open PySem PySem.Spec PyProof.Rows L2 RZ
section
variable {prog : Program} {w : World} {A : Around} {E : Value → Shared → Prop} {s : Shared} {z TI TO i1 i2 b : Addr} {j k : Nat} {x : Str} {t : Tok} {ys : Array Value} {p q : Value}
structure At (h : Heap) (z TI TO i1 i2 b : Addr) (x : Str) (t : Tok) (f p q : Value) (j k : Nat) : Prop where
  z0 : IsZip h z TI TO f
  ti : IsPair h TI (.ref i1) (.ref i2)
  to : IsPair h TO p q
  s1 : h.IsStrIter i1 "str_ascii_iterator" x t j
  s2 : h.IsTupleIter i2 b k
abbrev Keep (h h' : Heap) (z TO i1 i2 : Addr) : Prop := ∀ c o, c ≠ z → c ≠ TO → c ≠ i1 → c ≠ i2 → h.get? c = some o → h'.get? c = some o
theorem free_ {f : Bool → Sem α} {Q : α → Shared → Prop} {E : Value → Shared → Prop} (hz : IsZip s.heap z TI TO .none) (h : wpAny (model prog w) A (f true) Q E s) : wpAny (model prog w) A (Builtin.SmallTypes.ownedTupleIsFree (.ref z) >>= f) Q E s := by
  refine wpAny_bind ?_
  unfold Builtin.SmallTypes.ownedTupleIsFree
  exact wpAny_bind (wpAny_field hz rfl (x := .none) rfl (wpAny_pure h))
theorem step_item {c : Nat} {y : Value} {Q : Value → Shared → Prop} (D : ZipApart z TI TO i1 i2 b b) (a : At s.heap z TI TO i1 i2 b x t .none p q j k) (hb : s.heap.IsTuple b ys) (hc : x.cps[j]? = some c) (hy : ys[k]? = some y)
    (hQ : ∀ h' tk tk', At h' z TI TO i1 i2 b x t (rawInt s.heap.objs.size) (.str ⟨#[c]⟩ tk') y (j + 1) (k + 1) → IsPair h' s.heap.objs.size (.str ⟨#[c]⟩ tk') y → h'.objs.size = s.heap.objs.size + 1 → Keep s.heap h' z TO i1 i2 → Q (.ref s.heap.objs.size) { s with heap := h', toks := tk }) :
    wpAny (model prog w) A (Builtin.«zip.__next__» ⟨[.ref z], []⟩) (fun fin s' => ∃ v, fin = .done (.ret v) ∧ Q v s') E s := by
  obtain ⟨hz, hTI, hTO, h1, h2⟩ := a
  show wpAny _ _ (field (.ref z) 2 >>= _) _ _ _
  refine wpAny_bind (wpAny_field hz rfl (x := .bool false) rfl ?_)
  show wpAny _ _ (field (.ref z) 3 >>= _) _ _ _
  refine wpAny_bind (wpAny_field hz rfl (x := .ref TI) rfl ?_)
  refine wpAny_bind (wpAny_seqItems hTI rfl ?_)
  show wpAny _ _ (Builtin.SmallTypes.ownedTupleIsFree (.ref z) >>= _) _ _ _
  refine free_ hz ?_
  simp only [if_true]
  refine wpAny_bind (wpAny_rule (wpAny_bind (wpAny_field hz rfl (x := .ref TO) rfl (wpAny_bind (wpAny_setField_rec hz (by simp) fun g1 a1 k1 => ?_)))))
  replace a1 : IsZip g1 z TI TO .ellipsis := a1
  refine wpAny_bind ?_
  simp only [List.zipIdx_cons, List.zipIdx_nil, List.forIn_cons, List.forIn_nil]
  refine wpAny_bind (wpAny_bind (wpAny_onRaise ?_))
  show wpAny _ _ (Builtin.SmallTypes.nextOf (.ref i1) >>= _) _ _ _
  refine wpAny_bind (wpAny_nextOf_ascii_item (h1.extBut k1.extBut D.i1z) hc fun g2 b1 k2 => wpAny_pure ?_)
  have o2 : IsPair g2 TO p q := k2.extBut _ _ D.TOi1 (k1.extBut _ _ D.TOz hTO)
  refine wpAny_bind (wpAny_seqItems o2 rfl (wpAny_bind (wpAny_updateSeq_pair o2 fun g3 o3 k3 => ?_)))
  replace o3 : IsPair g3 TO (.str ⟨#[c]⟩ s.toks) q := o3
  refine wpAny_bind (wpAny_letGo (wpAny_pure (wpAny_bind (wpAny_bind (wpAny_onRaise ?_)))))
  show wpAny _ _ (Builtin.SmallTypes.nextOf (.ref i2) >>= _) _ _ _
  refine wpAny_bind (nextOf_tuple_item (((h2.extBut k1.extBut D.i2z).extBut k2.extBut D.i12.symm).extBut k3.extBut D.TOi2.symm) (((hb.extBut k1.extBut D.l2z).extBut k2.extBut D.l2i1).extBut k3.extBut D.l2TO) hy fun g4 c4 k4 => wpAny_pure ?_)
  have o4 : IsPair g4 TO (.str ⟨#[c]⟩ s.toks) q := k4.extBut _ _ D.TOi2 o3
  refine wpAny_bind (wpAny_seqItems o4 rfl (wpAny_bind (wpAny_updateSeq_pair o4 fun g5 o5 k5 => ?_)))
  replace o5 : IsPair g5 TO (.str ⟨#[c]⟩ s.toks) y := o5
  refine wpAny_bind (wpAny_letGo (wpAny_pure (wpAny_pure ?_)))
  refine wpAny_bind (wpAny_seqItems o5 rfl (wpAny_bind (wpAny_newTuple ?_)))
  have size5 : g5.objs.size = s.heap.objs.size := by rw [k5.1, k4.1, k3.1, k2.1, k1.1]
  have z5 : IsZip g5 z TI TO .ellipsis := k5.extBut _ _ D.TOz.symm (k4.extBut _ _ D.i2z.symm (k3.extBut _ _ D.TOz.symm (k2.extBut _ _ D.i1z.symm a1)))
  have keep5 : Keep s.heap g5 z TO i1 i2 := fun c o c1 c2 c3 c4 e => k5.extBut _ _ c2 (k4.extBut _ _ c4 (k3.extBut _ _ c2 (k2.extBut _ _ c3 (k1.extBut _ _ c1 e))))
  have s15 := ((b1.extBut k3.extBut D.TOi1.symm).extBut k4.extBut D.i12).extBut k5.extBut D.TOi1.symm
  have s25 := c4.extBut k5.extBut D.TOi2.symm
  have zlt : z < g5.objs.size := Heap.lt_size z5
  show wpAny _ _ (Builtin.SmallTypes.ownedTupleHandOut (.ref z) (.ref g5.objs.size) >>= _) _ _ _
  refine wpAny_bind ?_
  unfold Builtin.SmallTypes.ownedTupleHandOut
  have z6 : IsZip (g5.push { cls := .type "tuple", data := .seq #[.str ⟨#[c]⟩ s.toks, y] }) z TI TO .ellipsis := Heap.get?_push_of_some _ z5
  refine wpAny_bind (wpAny_setField_rec z6 (by simp) fun g7 z7 k7 => ?_)
  replace z7 : IsZip g7 z TI TO (rawInt g5.objs.size) := z7
  refine wpAny_setField_rec z7 (by simp) fun g8 z8 k8 => ?_
  replace z8 : IsZip g8 z TI TO (rawInt g5.objs.size) := z8
  have up : ∀ c o, c ≠ z → g5.get? c = some o → g8.get? c = some o := fun c o c1 e => k8.extBut _ _ c1 (k7.extBut _ _ c1 (Heap.get?_push_of_some _ e))
  have t8 : IsPair g8 g5.objs.size (.str ⟨#[c]⟩ s.toks) y := k8.extBut _ _ (Nat.ne_of_gt zlt) (k7.extBut _ _ (Nat.ne_of_gt zlt) (Heap.get?_push_size _ rfl))
  have size8 : g8.objs.size = g5.objs.size + 1 := by rw [k8.1, k7.1, Heap.size_push]
  have ti5 : IsPair g5 TI (.ref i1) (.ref i2) := keep5 _ _ D.TIz D.TITO D.TIi1 D.TIi2 hTI
  rw [size5] at z8 t8 size8
  refine wpAny_pure ⟨_, rfl, ?_⟩
  show Q (.ref g5.objs.size) _
  rw [size5]
  exact hQ g8 _ _ ⟨z8, up _ _ D.TIz ti5, up _ _ D.TOz o5, (let ⟨o, e, r⟩ := s15; ⟨o, up _ o D.i1z e, r⟩), s25.at fun o e => up _ o D.i2z e⟩ t8 size8 fun c o c1 c2 c3 c4 e => up c o c1 (keep5 c o c1 c2 c3 c4 e)
theorem step_end {Q : PySem.Fin → Shared → Prop} (hh : A.handled = none) (D : ZipApart z TI TO i1 i2 b b) (a : At s.heap z TI TO i1 i2 b x t .none p q j k) (hb : s.heap.IsTuple b ys) (hend : x.cps[j]? = none ∨ ys[k]? = none)
    (hE : ∀ h' tk e, Keep s.heap h' z TO i1 i2 → (∃ o, h'.get? e = some o ∧ o.cls = .type "StopIteration") → E (.ref e) { s with heap := h', toks := tk }) :
    wpAny (model prog w) A (Builtin.«zip.__next__» ⟨[.ref z], []⟩) Q E s := by
  obtain ⟨hz, hTI, hTO, h1, h2⟩ := a
  show wpAny _ _ (field (.ref z) 2 >>= _) _ _ _
  refine wpAny_bind (wpAny_field hz rfl (x := .bool false) rfl ?_)
  show wpAny _ _ (field (.ref z) 3 >>= _) _ _ _
  refine wpAny_bind (wpAny_field hz rfl (x := .ref TI) rfl ?_)
  refine wpAny_bind (wpAny_seqItems hTI rfl ?_)
  show wpAny _ _ (Builtin.SmallTypes.ownedTupleIsFree (.ref z) >>= _) _ _ _
  refine free_ hz ?_
  simp only [if_true]
  refine wpAny_bind (wpAny_rule (wpAny_bind (wpAny_field hz rfl (x := .ref TO) rfl (wpAny_bind (wpAny_setField_rec hz (by simp) fun g1 a1 k1 => ?_)))))
  replace a1 : IsZip g1 z TI TO .ellipsis := a1
  refine wpAny_bind ?_
  simp only [List.zipIdx_cons, List.zipIdx_nil, List.forIn_cons, List.forIn_nil]
  refine wpAny_bind (wpAny_bind (wpAny_onRaise ?_))
  show wpAny _ _ (Builtin.SmallTypes.nextOf (.ref i1) >>= _) _ _ _
  cases hx : x.cps[j]? with
  | none =>
    refine wpAny_bind (wpAny_nextOf_ascii_end hh (h1.extBut k1.extBut D.i1z) hx fun g2 e k2 ⟨oe, e1, e2⟩ => ?_)
    have a2 : IsZip g2 z TI TO .ellipsis := k2 _ _ D.i1z.symm a1
    have ne : e ≠ z := fun y => by
      subst y
      rw [a2] at e1
      cases e1
      simp at e2
    exact wpAny_setField_rec a2 (by simp) fun g3 _ k3 => hE g3 _ e (fun c o c1 _ c3 _ y => k3.extBut _ _ c1 (k2 _ _ c3 (k1.extBut _ _ c1 y))) ⟨oe, k3.extBut _ _ ne e1, e2⟩
  | some c =>
    have hy : ys[k]? = none := hend.resolve_left fun z => by
      rw [hx] at z
      cases z
    refine wpAny_bind (wpAny_nextOf_ascii_item (h1.extBut k1.extBut D.i1z) hx fun g2 b1 k2 => wpAny_pure ?_)
    have o2 : IsPair g2 TO p q := k2.extBut _ _ D.TOi1 (k1.extBut _ _ D.TOz hTO)
    refine wpAny_bind (wpAny_seqItems o2 rfl (wpAny_bind (wpAny_updateSeq_pair o2 fun g3 o3 k3 => ?_)))
    refine wpAny_bind (wpAny_letGo (wpAny_pure (wpAny_bind (wpAny_bind (wpAny_onRaise ?_)))))
    show wpAny _ _ (Builtin.SmallTypes.nextOf (.ref i2) >>= _) _ _ _
    refine wpAny_bind (nextOf_tuple_end hh (((h2.extBut k1.extBut D.i2z).extBut k2.extBut D.i12.symm).extBut k3.extBut D.TOi2.symm) (((hb.extBut k1.extBut D.l2z).extBut k2.extBut D.l2i1).extBut k3.extBut D.l2TO) hy fun g4 e k4 ⟨oe, e1, e2⟩ => ?_)
    have a4 : IsZip g4 z TI TO .ellipsis := k4 _ _ D.i2z.symm (k3.extBut _ _ D.TOz.symm (k2.extBut _ _ D.i1z.symm a1))
    have ne : e ≠ z := fun y => by
      subst y
      rw [a4] at e1
      cases e1
      simp at e2
    exact wpAny_setField_rec a4 (by simp) fun g5 _ k5 => hE g5 _ e (fun c o c1 c2 c3 c4 y => k5.extBut _ _ c1 (k4 _ _ c4 (k3.extBut _ _ c2 (k2.extBut _ _ c3 (k1.extBut _ _ c1 y))))) ⟨oe, k5.extBut _ _ ne e1, e2⟩
theorem next_item {c : Nat} {y : Value} {Q : Option Value → Shared → Prop} (D : ZipApart z TI TO i1 i2 b b) (a : At s.heap z TI TO i1 i2 b x t .none p q j k) (hb : s.heap.IsTuple b ys) (hc : x.cps[j]? = some c) (hy : ys[k]? = some y)
    (hQ : ∀ h' tk tk', At h' z TI TO i1 i2 b x t (rawInt s.heap.objs.size) (.str ⟨#[c]⟩ tk') y (j + 1) (k + 1) → IsPair h' s.heap.objs.size (.str ⟨#[c]⟩ tk') y → h'.objs.size = s.heap.objs.size + 1 → Keep s.heap h' z TO i1 i2 → Q (some (.ref s.heap.objs.size)) { s with heap := h', toks := tk }) :
    wpAny (model prog w) A (pyNext (.ref z)) Q E s := by
  have ty : s.TypeIs (.ref z) "zip" := ⟨_, a.z0, rfl⟩
  unfold pyNext
  refine wpAny_bind (wpAny_attempt (wpAny_callSpecial?_slot (name := Str.ofString "__next__") ty F.slot_zip_next (wpAny_call_entry F.slot_zip_next ty F.entry_zip_next ?_ (F.args_zip_next_1 _))))
  exact step_item D a hb hc hy fun h' tk tk' a1 a2 a3 a4 => wpAny_pure (hQ h' tk tk' a1 a2 a3 a4)
theorem next_end {Q : Option Value → Shared → Prop} (hh : A.handled = none) (D : ZipApart z TI TO i1 i2 b b) (a : At s.heap z TI TO i1 i2 b x t .none p q j k) (hb : s.heap.IsTuple b ys) (hend : x.cps[j]? = none ∨ ys[k]? = none)
    (hQ : ∀ h' tk, Keep s.heap h' z TO i1 i2 → Q none { s with heap := h', toks := tk }) : wpAny (model prog w) A (pyNext (.ref z)) Q E s := by
  have ty : s.TypeIs (.ref z) "zip" := ⟨_, a.z0, rfl⟩
  unfold pyNext
  refine wpAny_bind (wpAny_attempt (wpAny_callSpecial?_slot (name := Str.ofString "__next__") ty F.slot_zip_next (wpAny_call_entry F.slot_zip_next ty F.entry_zip_next ?_ (F.args_zip_next_1 _))))
  refine step_end hh D a hb hend fun h' tk e k' ⟨o, e1, e2⟩ => ?_
  exact wpAny_bind (wpAny_isInstance (T := "StopIteration") (b := true) ⟨o, e1, e2⟩ isSubtype_stop (wpAny_pure (hQ h' tk k')))
end
abbrev zh1 (h : Heap) (x : Str) (t : Tok) : Heap := h.push { cls := .type "str_ascii_iterator", data := .fields #[.str x t, .int 0 0] }
abbrev zh2 (h : Heap) (x : Str) (t : Tok) (b : Addr) : Heap := (zh1 h x t).push { cls := .type "tuple_iterator", data := .fields #[.ref b, .int 0 0] }
abbrev zh3 (h : Heap) (x : Str) (t : Tok) (b : Addr) : Heap := (zh2 h x t b).push { cls := .type "tuple", data := .seq #[.ref h.objs.size, .ref (zh1 h x t).objs.size] }
abbrev zh4 (h : Heap) (x : Str) (t : Tok) (b : Addr) : Heap := (zh3 h x t b).push { cls := .type "tuple", data := .seq #[.none, .none] }
abbrev zh5 (h : Heap) (x : Str) (t : Tok) (b : Addr) : Heap := (zh4 h x t b).push { cls := .type "zip", data := .fields #[.none, .bool false, .bool false, .ref (zh2 h x t b).objs.size, .ref (zh3 h x t b).objs.size] }
theorem meets_new (x : Str) (t : Tok) (b : Addr) (ys : Array Value) (ha : x.cps.all (· < 128) = true) :
    Meets (Builtin.«zip.__new__» ⟨[.type "zip", .str x t, .ref b], []⟩) (fun _ R s => s.heap.IsTuple b ys ∧ R (.ok (.ret (.ref (zh4 s.heap x t b).objs.size))) { s with heap := zh5 s.heap x t b }) :=
  .of_wp fun prog w A R s h => by
    obtain ⟨hp, g, d, tk, os⟩ := s
    obtain ⟨hb, h⟩ := h
    have hsub := sub_zip
    have hB : Heap.IsTuple (Shared.heap ⟨hp.push { cls := .type "str_ascii_iterator", data := .fields #[.str x t, .int 0 0] }, g, d, tk, os⟩) b ys := Heap.IsTuple.push hb _
    wp_walk using wpAny_pyIter_ascii ha, wpAny_pyIter_tuple hB
    exact ⟨_, rfl, h⟩
section
variable {prog : Program} {w : World} {A : Around} {E : Value → Shared → Prop} {s : Shared}
theorem call_new {x : Str} {t : Tok} {b : Addr} {ys : Array Value} {Q : Value → Shared → Prop} (ha : x.cps.all (· < 128) = true) (hb : s.heap.IsTuple b ys)
    (h : ∀ h', At h' (s.heap.objs.size + 4) (s.heap.objs.size + 2) (s.heap.objs.size + 3) s.heap.objs.size (s.heap.objs.size + 1) b x t .none .none .none 0 0 → h'.objs.size = s.heap.objs.size + 5 →
      (∀ c o, s.heap.get? c = some o → h'.get? c = some o) → Q (.ref (s.heap.objs.size + 4)) { s with heap := h' }) : wpAny (model prog w) A (call (.type "zip") [.str x t, .ref b]) Q E s := by
  refine callType_new F.called_zip (by decide) (F.typeCall_zip_2 _ _) (F.newCall_zip_2 _ _) (fun obj => F.args_object_init_3 obj _ _) F.entry_zip_new (meets_new x t b ys ha) ⟨hb, ?_⟩
  have z1 : (zh1 s.heap x t).objs.size = s.heap.objs.size + 1 := Heap.size_push ..
  have z2 : (zh2 s.heap x t b).objs.size = s.heap.objs.size + 2 := by rw [Heap.size_push, z1]
  have z3 : (zh3 s.heap x t b).objs.size = s.heap.objs.size + 3 := by rw [Heap.size_push, z2]
  have z4 : (zh4 s.heap x t b).objs.size = s.heap.objs.size + 4 := by rw [Heap.size_push, z3]
  have z5 : (zh5 s.heap x t b).objs.size = s.heap.objs.size + 5 := by rw [Heap.size_push, z4]
  have up1 : ∀ {h : Heap} {c : Addr} {o o' : Obj}, h.get? c = some o → (h.push o').get? c = some o := fun e => Heap.get?_push_of_some _ e
  have g5 : (zh5 s.heap x t b).get? (zh4 s.heap x t b).objs.size = some _ := Heap.get?_push_size _ rfl
  have g4 : (zh5 s.heap x t b).get? (zh3 s.heap x t b).objs.size = some _ := up1 (Heap.get?_push_size _ rfl)
  have g3 : (zh5 s.heap x t b).get? (zh2 s.heap x t b).objs.size = some _ := up1 (up1 (Heap.get?_push_size _ rfl))
  have g2 : (zh5 s.heap x t b).get? (zh1 s.heap x t).objs.size = some _ := up1 (up1 (up1 (Heap.get?_push_size _ rfl)))
  have g1 : (zh5 s.heap x t b).get? s.heap.objs.size = some _ := up1 (up1 (up1 (up1 (Heap.get?_push_size _ rfl))))
  show _ ∧ _
  rw [z2, z3, z4] at g5
  rw [z1, z2] at g3
  rw [z3] at g4
  rw [z1] at g2
  rw [z4]
  exact ⟨⟨_, g5, rfl⟩, h _ ⟨g5, g3, g4, ⟨_, g1, rfl, rfl⟩, ⟨_, g2, rfl, rfl⟩⟩ z5 fun c o e => up1 (up1 (up1 (up1 (up1 e))))⟩
end
/-! the iterator as the layer sees it -/
def Itzs (K : PySem.W.Frag) (x : Str) (b : Addr) : It :=
  ⟨fun i H => ∃ (c : Nat) (ys : List V) (y : V), SqT K H b ys ∧ x.cps[i]? = some c ∧ ys[i]? = some y,
    fun i H v H' => ∃ T c y, v = .ref T ∧ H T = none ∧ H' = upd H T (.tup [.str ⟨#[c]⟩, y]) ∧ x.cps[i]? = some c ∧ ∀ ys, SqT K H b ys → ys[i]? = some y,
    fun i H => ∃ ys : List V, SqT K H b ys ∧ (x.cps.size ≤ i ∨ ys.length ≤ i)⟩
theorem turn_zs {P : Program} {w : World} {K : PySem.W.Frag} {elts : List Expr} {kk : Nat} {tpos : Pos} {b z TI TO i1 i2 : Addr} {x : Str} {t : Tok} (D : ZipApart z TI TO i1 i2 b b) :
    Turn P w K (.Tuple elts kk tpos) (Itzs K x b) [z, TI, TO, i1, i2] z (fun i h => ∃ p q, At h z TI TO i1 i2 b x t .none p q i i) where
  mem := by simp
  obj := fun i h st c hc => by
    obtain ⟨p, q, hz, hTI, hTO, ⟨o1, e1, _, d1⟩, ⟨o2, e2, _, d2⟩⟩ := st
    have e' : c = z ∨ c = TI ∨ c = TO ∨ c = i1 ∨ c = i2 := by simpa using hc
    rcases e' with r | r | r | r | r
    · exact r ▸ ⟨_, hz, fun v q => nomatch q⟩
    · exact r ▸ ⟨_, hTI, fun v q => nomatch q⟩
    · exact r ▸ ⟨_, hTO, fun v q => nomatch q⟩
    · exact r ▸ ⟨o1, e1, fun v q => by rw [d1] at q; cases q⟩
    · exact r ▸ ⟨o2, e2, fun v q => by rw [d2] at q; cases q⟩
  keep := fun i h h' st k => by
    obtain ⟨p, q, hz, hTI, hTO, ⟨o1, e1, r1⟩, h2⟩ := st
    exact ⟨p, q, k z (by simp) _ hz, k TI (by simp) _ hTI, k TO (by simp) _ hTO, ⟨o1, k i1 (by simp) o1 e1, r1⟩, h2.at fun o q => k i2 (by simp) o q⟩
  item := by
    intro X hP hw hK hc i pins s σ H E I hf st hg
    subst hP hw hK
    obtain ⟨p0, q0, a⟩ := st
    obtain ⟨c, ys, y, hqy, hx, hy⟩ := hg
    obtain ⟨its, rv, pl, _⟩ := I.tuple hqy
    obtain ⟨u, hu, ru⟩ := rv.get hy
    have hzl : z < s.heap.objs.size := Heap.lt_size a.z0
    refine next_item D a pl hx (y := u) (by simpa using hu) fun h' tk tk' a' hT hsz hk => ?_
    refine ⟨_, rfl, wpAny_letOwnedTupleGo_zip (s := { s with heap := h', toks := tk }) a'.z0 fun h'' z'' sb => ?_⟩
    have hT2 : h''.get? s.heap.objs.size = some { cls := .type "tuple", data := .seq #[.str ⟨#[c]⟩ tk', u] } := (sb.2 _ (Nat.ne_of_gt hzl)).trans hT
    have new : ObjOk X.prog X.w (upd H s.heap.objs.size (.tup [.str ⟨#[c]⟩, y])) h'' s.heap.objs.size (.tup [.str ⟨#[c]⟩, y]) :=
      ⟨by show 2 ≤ sizeLine; decide, [_, u], .cons ⟨tk', rfl⟩ (.cons ru .nil), ⟨_, hT2, rfl, _, rfl⟩⟩
    have mem5 : ∀ {c}, c ∉ [z, TI, TO, i1, i2] → c ≠ z ∧ c ≠ TO ∧ c ≠ i1 ∧ c ≠ i2 := fun {c} n => ⟨fun e => n (by simp [e]), fun e => n (by simp [e]), fun e => n (by simp [e]), fun e => n (by simp [e])⟩
    have I1 : Inv X pins σ (upd H s.heap.objs.size (.tup [.str ⟨#[c]⟩, y])) { s with heap := h'', toks := tk } :=
      I.turnedNew (t' := tk) (ch := [z, TI, TO, i1, i2]) (fun c o n e => (sb.2 c (mem5 n).1).trans (hk c o (mem5 n).1 (mem5 n).2.1 (mem5 n).2.2.1 (mem5 n).2.2.2 e)) hf (Nat.le_refl _) new
    refine ⟨.ref s.heap.objs.size, _, I1, rfl, ⟨_, c, y, rfl, I.hok.fresh (Nat.le_refl _), rfl, hx, fun l hl => by rw [I.tuple_inj hl hqy]; exact hy⟩, ⟨.str ⟨#[c]⟩ tk', u, z'', ?_, ?_, ?_, ?_⟩, fun c hcm => ?_⟩
    · exact (sb.2 _ D.TIz).trans a'.ti
    · exact (sb.2 _ D.TOz).trans a'.to
    · obtain ⟨o1, e1, r1⟩ := a'.s1
      exact ⟨o1, (sb.2 _ D.i1z).trans e1, r1⟩
    · exact a'.s2.at fun o q => (sb.2 _ D.i2z).trans q
    · have hlt : c < s.heap.objs.size := by
        have e' : c = z ∨ c = TI ∨ c = TO ∨ c = i1 ∨ c = i2 := by simpa using hcm
        rcases e' with r | r | r | r | r
        · exact r ▸ hzl
        · exact r ▸ Heap.lt_size a.ti
        · exact r ▸ Heap.lt_size a.to
        · obtain ⟨_, e1, _⟩ := a.s1
          exact r ▸ Heap.lt_size e1
        · obtain ⟨_, e2, _⟩ := a.s2
          exact r ▸ Heap.lt_size e2
      rw [upd_ne (Nat.ne_of_lt hlt)]
      exact (hf c hcm).1
  done := by
    intro X hP hw hK hc i pins s σ H E I hf st hg
    subst hP hw hK
    obtain ⟨p0, q0, a⟩ := st
    obtain ⟨ys, hqy, hend⟩ := hg
    obtain ⟨its, rv, pl, _⟩ := I.tuple hqy
    have ly := rv.length
    have he : x.cps[i]? = none ∨ its.toArray[i]? = none := by
      rcases hend with q | q
      · exact .inl (by simp; omega)
      · exact .inr (by simp; omega)
    have mem5 : ∀ {c}, c ∉ [z, TI, TO, i1, i2] → c ≠ z ∧ c ≠ TO ∧ c ≠ i1 ∧ c ≠ i2 := fun {c} n => ⟨fun e => n (by simp [e]), fun e => n (by simp [e]), fun e => n (by simp [e]), fun e => n (by simp [e])⟩
    exact next_end (I.ok.hd hc) D a pl he fun h' tk hk => ⟨rfl, I.turnedL (t' := tk) (ch := [z, TI, TO, i1, i2]) (fun c o n e => hk c o (mem5 n).1 (mem5 n).2.1 (mem5 n).2.2.1 (mem5 n).2.2.2 e) hf⟩
  self := fun A i s Q E st h => by
    obtain ⟨p, q, a⟩ := st
    exact wpAny_pyIter_zip a.z0 h
def iZipS (K : PySem.W.Frag) (ta : TA) : TI := fun σ H R => ta σ H fun vs H1 => ∃ (x : Str) (b : Addr) (ys : List V), vs = [.str x, .ref b] ∧ x.cps.all (· < 128) = true ∧ SqT K H1 b ys ∧ R (Itzs K x b) H1
theorem pi_zipS {X : Cx} (K : PySem.W.Frag) {e e2 : Expr} {ta : TA} {p pos tpos : Pos} {elts : List Expr} {kk : Nat} (hg : Gl X "zip") (hm : X.mg "zip" = none) (ha : PA X [e, e2] ta) (hK : X.K = K := by rfl)
    (hs : starEach [e, e2] X.env = (false, eval e X.env) :: starEach [e2] X.env := by rfl) (hpl : (backTo pos (starEach [e2] X.env)).any (·.1) = false := by rfl) :
    PI X (.Tuple elts kk tpos) (.Call (.Name "zip" p) [e, e2] [] pos) (iZipS K ta) := by
  subst hK
  refine ⟨fun pins s σ H R I h => ?_⟩
  refine Call_ (ld_blt I hg hm PyProof.Rows.boot_zip (PyProof.Rows.callWith_type1 (thn (ha.run pos pins s σ H _ I h) fun us s1 ⟨vs, H1, I1, r1, q1⟩ => ?_) hs hpl))
  obtain ⟨x, b, ys, rfl, asc, hqy, q⟩ := q1
  cases r1 with
  | cons r rr =>
    cases rr with
    | cons r' rr =>
      cases rr
      obtain ⟨t, rfl⟩ := r
      cases r'
      obtain ⟨its, rv, p1, _⟩ := I1.tuple hqy
      obtain ⟨o1, ho1, _⟩ := id p1
      have blt := Heap.lt_size ho1
      refine call_new asc p1 fun h' a hsz hk => wpAny_pyIter_zip a.z0 ?_
      refine ⟨s1.heap.objs.size + 4, [s1.heap.objs.size + 4, s1.heap.objs.size + 2, s1.heap.objs.size + 3, s1.heap.objs.size, s1.heap.objs.size + 1], _, _, H1, rfl, I1.kept (t' := s1.toks) hk, turn_zs (PySem.W.ktu_apart s1.heap.objs.size b b blt blt), ⟨_, _, a⟩, fun c m => ?_, q⟩
      have le : s1.heap.objs.size ≤ c := by
        have e' : c = s1.heap.objs.size + 4 ∨ c = s1.heap.objs.size + 2 ∨ c = s1.heap.objs.size + 3 ∨ c = s1.heap.objs.size ∨ c = s1.heap.objs.size + 1 := by simpa using m
        rcases e' with r | r | r | r | r <;> rw [r] <;> first | exact Nat.le_refl _ | exact Nat.le_add_right _ _
      exact I1.fpOk le (I1.hok.fresh le)
theorem walk_zipS {K : PySem.W.Frag} {x : Str} {b : Addr} {ys : List V} {n : Nat} (hn : n = min x.cps.size ys.length) : Walk (Itzs K x b) n (fun H => SqT K H b ys) (fun i H v H' => ∃ T c y, v = .ref T ∧ H T = none ∧ H' = upd H T (.tup [.str ⟨#[c]⟩, y]) ∧ x.cps[i]? = some c ∧ ys[i]? = some y) := by
  subst hn
  refine ⟨fun i H hi g => ?_, fun H g => ⟨ys, g, by omega⟩, fun i H v H' hi g ⟨T, c, y, e1, e2, e3, e4, e5⟩ => ⟨T, c, y, e1, e2, e3, e4, e5 ys g⟩⟩
  have h1 : i < x.cps.size := by omega
  have h2 : i < ys.length := by omega
  exact ⟨x.cps[i], ys, ys[i], g, by simp [h1], List.getElem?_eq_getElem h2⟩
theorem izs {K : PySem.W.Frag} {σ : L2.St} {H : Hp} {aa : TA} {R : It → Hp → Prop} (q : aa σ H fun vs H1 => ∃ (x : Str) (b : Addr) (ys : List V), vs = [.str x, .ref b] ∧ x.cps.all (· < 128) = true ∧ SqT K H1 b ys ∧ R (Itzs K x b) H1) : iZipS K aa σ H R := q
end Zs
/-! ### a written dict -/
namespace Rg
open PySem PySem.Spec PyProof.Rows L2
theorem relO_some {o : Option V} {o' : Option Value} (h : RelO o o') : o'.isSome = o.isSome := by
  cases o <;> cases o' <;> first | rfl | exact h.elim
def rInKT (K : PySem.W.Frag) (w : World) : R2 := fun x y H Q => ∃ (z : Str) (a : Addr) (kvs : List (Str × V)), x = .str z ∧ y = .ref a ∧ KTab K w a kvs ∧ Q (.bl (kvs.lookup z).isSome) H
def rNinKT (K : PySem.W.Frag) (w : World) : R2 := fun x y H Q => ∃ (z : Str) (a : Addr) (kvs : List (Str × V)), x = .str z ∧ y = .ref a ∧ KTab K w a kvs ∧ Q (.bl (!(kvs.lookup z).isSome)) H
def rIxKT (K : PySem.W.Frag) (w : World) : R2 := fun x y H Q => ∃ (z : Str) (a : Addr) (kvs : List (Str × V)) (v : V), x = .ref a ∧ y = .str z ∧ KTab K w a kvs ∧ kvs.lookup z = some v ∧ Q v H
section
variable {X : Cx}
theorem op_inKT (K : PySem.W.Frag) (w : World) (hK : X.K = K := by rfl) (hw : X.w = w := by rfl) : OpR X (compareOp .In) (rInKT K w) := by
  subst hK hw
  intro pins s σ H x y v u Q I rx ry h
  obtain ⟨z, a, kvs, rfl, rfl, ⟨es, n, hl, lit, low, rel⟩, q⟩ := h
  obtain ⟨t, rfl⟩ := rx
  cases ry
  refine wpAny_in_of (PySem.strKind_is X.prog X.w z t) low (PySem.W.mapOf_K (prog := X.prog) I.kIn hl lit) ⟨.bl _, H, I.tok _, ?_, q⟩
  rw [relO_some (rel z)]
  rfl
theorem op_ninKT (K : PySem.W.Frag) (w : World) (hK : X.K = K := by rfl) (hw : X.w = w := by rfl) : OpR X (compareOp .NotIn) (rNinKT K w) := by
  subst hK hw
  intro pins s σ H x y v u Q I rx ry h
  obtain ⟨z, a, kvs, rfl, rfl, ⟨es, n, hl, lit, low, rel⟩, q⟩ := h
  obtain ⟨t, rfl⟩ := rx
  cases ry
  refine wpAny_notIn_of (PySem.strKind_is X.prog X.w z t) low (PySem.W.mapOf_K (prog := X.prog) I.kIn hl lit) ⟨.bl _, H, I.tok _, ?_, q⟩
  rw [relO_some (rel z)]
  rfl
theorem ix_KT (K : PySem.W.Frag) (w : World) (hK : X.K = K := by rfl) (hw : X.w = w := by rfl) : IxR X (rIxKT K w) := by
  subst hK hw
  intro value slice pins s σ H x y v u Q I rx ry h hs
  obtain ⟨z, a, kvs, r, rfl, rfl, ⟨es, n, hl, lit, low, rel⟩, e, q⟩ := h
  obtain rfl : v = Value.ref a := rx
  obtain ⟨t, rfl⟩ := ry
  have hm := PySem.W.mapOf_K (prog := X.prog) (w := X.w) I.kIn hl lit
  have rz := rel z
  rw [e] at rz
  cases e2 : findBy Value.isStrOf es z with
  | none =>
    rw [e2] at rz
    exact rz.elim
  | some u0 =>
    rw [e2] at rz
    exact tail_any hm.typeIs slot_dict_getitem.lookup (wpAny_getItem_of (strKind_is X.prog X.w z t) hm e2 ⟨r, H, I.tok _, rz, q⟩) hs
end
end Rg

set_option Elab.async false
set_option linter.all false
set_option maxRecDepth 100000
set_option maxHeartbeats 4000000
/-! a, b, c = a list -/
namespace Rg
open PySem PySem.Spec PyProof.Rows L2
theorem glst {K : PySem.W.Frag} {σ : L2.St} {H : Hp} {QS : L2.St → Hp → Prop} {k : Nat} {gs : TGs} {a : Addr} {xs : List V} (h : SqL K H a xs) (h1 : xs.length = k) (q : gs xs σ H QS) : gLst K k gs (.ref a) σ H QS := ⟨a, xs, rfl, h, h1, q⟩
theorem iteLT {p A B : Prop} [Decidable p] (h : decide p = true) (q : A) : if decide p = true then A else B := by rw [h]; exact iteT q
theorem iteLF {p A B : Prop} [Decidable p] (h : decide p = false) (q : B) : if decide p = true then A else B := by rw [h]; exact iteF q
theorem iteMT {p A B : Prop} [Decidable p] (h : decide p = false) (q : A) : if (!decide p) = true then A else B := by rw [h]; exact iteT q
theorem iteMF {p A B : Prop} [Decidable p] (h : decide p = true) (q : B) : if (!decide p) = true then A else B := by rw [h]; exact iteF q
end Rg

set_option Elab.async false
set_option linter.all false
set_option maxRecDepth 100000
set_option maxHeartbeats 4000000
/-! a dict just made, held as it stands; {int for .. in .. if ..} -/
namespace Sx
open PySem PySem.Spec PyProof.Rows L2 PpSet 
def tFrz (t : TE) : TE := fun σ H Q => t σ H fun x H1 => ∃ d u, x = .ref d ∧ H1 d = some u ∧ Mut (some u) ∧ ∀ od, Q x (upd H1 d (.frz od u))
theorem frz {t : TE} {σ : L2.St} {H : Hp} {Q : VK} (q : t σ H fun x H1 => ∃ d u, x = .ref d ∧ H1 d = some u ∧ Mut (some u) ∧ ∀ od, Q x (upd H1 d (.frz od u))) : tFrz t σ H Q := q
def tSi (w : World) (wi : TI) (g : TG) (tt : TT) (te : TE) (vs : List Nat) : TE := fun σ H Q => wi σ H fun J H1 => ∀ D, H1 D = none → ∃ W : Nat → Nat → Hp → Prop, (∃ m, W 0 m (upd H1 D (SetO w D (fun _ => false) 0))) ∧ ∀ i m H, W i m H →
  (J.stop i H ∧ Q (.ref D) H) ∨ (J.go i H ∧ ∃ Nx : Hp → Prop, (∀ H', Nx H' → ∃ m', m' < m ∧ W (i + 1) m' H') ∧ ∀ x H', J.yld i H x H' → g x (wipe σ vs) H' fun σ2 H2 => wipe σ2 vs = wipe σ vs ∧ tt σ2 H2 fun b H3 =>
    if b = true then te σ2 H3 fun y H4 => rSAdd w (.ref D) [y] H4 fun _ H5 => Nx H5 else Nx H3)
section
variable {elt tg iter : Expr} {ifs : List Expr} {scope : Scope} {pos : Pos} {g : TG} {tt : TT} {te : TE} {J : It} {fp : List Addr} {it D : Addr} {tn : Nat → Heap → Prop} {σ σ0 : L2.St} {vs : List Nat} {W : Nat → Nat → Hp → Prop} {Qe : Hp → Prop}
structure Between (B : Cx) (fp : List Addr) (tn : Nat → Heap → Prop) (σ0 : L2.St) (W : Nat → Nat → Hp → Prop) (n i : Nat) (H : Hp) (s : Shared) : Prop where
  inv : Inv B [] σ0 H s
  st : tn i s.heap
  out : ∀ b ∈ fp, H b = none
  w : W i n H
end
section
variable {X : Cx} {elt tg iter : Expr} {ifs : List Expr} {scope : Scope} {own : List (PySem.Str × Nat)} {pos : Pos} {wi : TI} {g : TG} {tt : TT} {te : TE}
end
section
variable {K : PySem.W.Frag} {w : World} {t : TE} {wi : TI} {g : TG} {tt : TT} {te tk tv : TE} {vs : List Nat} {σ : L2.St} {H : Hp} {Q : VK} {R : It → Hp → Prop}
theorem keys (q : t σ H fun x H1 => ∃ d u, x = .ref d ∧ H1 d = some u ∧ Mut (some u) ∧ ∀ od, ∃ d' o, x = .ref d' ∧ ((∃ kvs, upd H1 d (.frz od u) d' = some (.frz o (.dK kvs)) ∧ R (Itk d' o kvs) (upd H1 d (.frz od u))) ∨ ∃ kvs, upd H1 d (.frz od u) d' = some (.frz o (.dT kvs)) ∧ R (Itkt d' o kvs) (upd H1 d (.frz od u)))) : iKeys (tFrz t) σ H R := q
theorem si (q : wi σ H fun J H1 => ∀ D, H1 D = none → ∃ W : Nat → Nat → Hp → Prop, (∃ m, W 0 m (upd H1 D (SetO w D (fun _ => false) 0))) ∧ ∀ i m H, W i m H →
  (J.stop i H ∧ Q (.ref D) H) ∨ (J.go i H ∧ ∃ Nx : Hp → Prop, (∀ H', Nx H' → ∃ m', m' < m ∧ W (i + 1) m' H') ∧ ∀ x H', J.yld i H x H' → g x (wipe σ vs) H' fun σ2 H2 => wipe σ2 vs = wipe σ vs ∧ tt σ2 H2 fun b H3 =>
    if b = true then te σ2 H3 fun y H4 => rSAdd w (.ref D) [y] H4 fun _ H5 => Nx H5 else Nx H3)) : tSi w wi g tt te vs σ H Q := q
theorem dc (q : wi σ H fun J H1 => ∀ D, H1 D = none → ∃ W : Nat → Nat → Hp → Prop, (∃ m, W 0 m (upd H1 D (.dK []))) ∧ ∀ i m H, W i m H →
  (J.stop i H ∧ Q (.ref D) H) ∨ (J.go i H ∧ ∃ Nx : Hp → Prop, (∀ H', Nx H' → ∃ m', m' < m ∧ W (i + 1) m' H') ∧ ∀ x H', J.yld i H x H' → g x (wipe σ vs) H' fun σ2 H2 => wipe σ2 vs = wipe σ vs ∧ tt σ2 H2 fun b H3 =>
    if b = true then tk σ2 H3 fun y H4 => tv σ2 H4 fun z H5 => ∃ kvs k, y = kV k ∧ H5 D = some (.dK kvs) ∧ kvs.length < sizeLine ∧ Nx (upd H5 D (.dK (putK kvs k z))) else Nx H3)) : tDc wi g tt tk tv vs σ H Q := q
end
end Sx

set_option Elab.async false
set_option linter.all false
set_option maxRecDepth 100000
set_option maxHeartbeats 4000000
/-! a dict display of 16 keys; classes whose constructor may raise -/
namespace Lg
open PySem PySem.Spec PyProof.Rows L2
def tPairsL (p : Addr) : List (TE × TE) → L2.St → Hp → (Hp → Prop) → Prop
  | [], _, H, Q => Q H
  | (tk, tv) :: r, σ, H, Q => tk σ H fun x H1 => tv σ H1 fun y H2 => ∃ k cur, x = kV k ∧ H2 p = some (.dK cur) ∧ cur.length < sizeLine ∧ tPairsL p r σ (upd H2 p (.dK (putK cur k y))) Q
def tDispL (trs : List (TE × TE)) : TE := fun σ H Q => ∀ p, H p = none → tPairsL p trs σ (upd H p (.dK [])) fun H2 => Q (.ref p) H2
abbrev stp (d : Addr) : (Sem Value × Sem Value) → PUnit → Sem (ForInStep PUnit) := fun x _ => do
  let kv ← x.1
  let vv ← holding [kv] x.2
  holding [kv, vv] (dictSet d kv vv)
  pure (ForInStep.yield PUnit.unit)
structure PPL (X : Cx) (pos : Pos) (keys : List (Option Expr)) (values : List Expr) (trs : List (TE × TE)) : Prop where
  run : ∀ (pins : List (Addr × Obj)) (s : Shared) (σ : L2.St) (H : Hp) (d : Addr) (Q : Hp → Prop), Inv X pins σ H s → tPairsL d trs σ H Q →
    wpAny (model X.prog X.w) X.A (forIn (pairTrees keys values X.env pos) PUnit.unit (stp d)) (fun _ s' => ∃ H', Inv X pins σ H' s' ∧ Q H') X.xe s
theorem ppl_nil {X : Cx} {pos : Pos} : PPL X pos [] [] [] := ⟨fun pins s σ H d Q I h => by
  show wpAny _ _ (forIn ([] : List (Sem Value × Sem Value)) PUnit.unit (stp d)) _ _ _
  rw [List.forIn_nil]
  exact wpAny_pure ⟨H, I, h⟩⟩
theorem ppl_cons {X : Cx} {pos : Pos} {k v : Expr} {ks : List (Option Expr)} {vs : List Expr} {tk tv : TE} {trs : List (TE × TE)} (hk : PE X k tk) (hv : PE X v tv) (hr : PPL X pos ks vs trs) :
    PPL X pos (some k :: ks) (v :: vs) ((tk, tv) :: trs) := ⟨fun pins s σ H d Q I h => by
  show wpAny _ _ (forIn ((eval k X.env, do let x ← eval v X.env; standAt pos; pure x) :: pairTrees ks vs X.env pos) PUnit.unit (stp d)) _ _ _
  rw [List.forIn_cons]
  refine wpAny_bind (wpAny_bind (thn (hk.run pins s σ H _ I h) fun u s1 ⟨x, H1, I1, rx, q1⟩ => wpAny_bind (wpAny_holding ?_)))
  refine wpAny_bind (thn (hv.run pins s1 σ H1 _ I1 q1) fun w2 s2 ⟨y, H2, I2, ry, kk, cur, ex, hd, hz, q2⟩ => wpAny_bind (wpAny_standAt (wpAny_pure ?_)))
  subst ex
  refine wpAny_bind (wpAny_holding (d_dictSet I2 hd hz rx ry fun s3 I3 => wpAny_pure ?_))
  exact hr.run pins s3 σ _ d Q I3 q2⟩
theorem pe_dispL {X : Cx} {pos : Pos} {keys : List (Option Expr)} {values : List Expr} {trs : List (TE × TE)} (h : PPL X pos keys values trs) (hall : keys.all (·.isSome) = true) (hl : keys.length = values.length)
    (h15 : keys.length = 16) : PE X (.Dict keys values pos) (tDispL trs) := by
  refine ⟨fun pins s σ H Q I q => ?_⟩
  have hn := I.hok.fresh (Nat.le_refl s.heap.objs.size)
  have I1 := I.laid (a := s.heap.objs.size) (o := .dK []) (h' := s.heap.push { cls := .type "dict", data := .dict #[] }) (t' := s.toks) (fun _ _ q => Heap.get?_push_of_some _ q) (Nat.le_refl _) (dk_empty s.heap I.big)
  have hlen := pairTrees_length keys values X.env pos hall hl
  rw [h15] at hlen
  rw [arm_eval_Dict, zip_pairTrees keys values X.env pos hall hl, dictDisplay_pairs _ (fun z => by rw [z] at hlen; cases hlen) (by omega)]
  refine wpAny_bind (wpAny_standAt (wpAny_bind ?_))
  unfold subDict
  refine wpAny_bind (wpAny_alloc ?_)
  refine wpAny_bind (wpAny_holding ?_)
  rw [if_neg (by omega)]
  refine wpAny_bind (wpAny_rule ?_)
  refine wpAny_bind (thn (h.run pins _ σ _ s.heap.objs.size _ I1 (q _ hn)) fun _ s2 ⟨H2, I2, q2⟩ => ?_)
  exact wpAny_pure (wpAny_pure (wpAny_pure ⟨.ref s.heap.objs.size, H2, I2, rfl, q2⟩))
/-! ### a class whose constructor may raise -/
structure MakR (P : Program) (w : World) (K : PySem.W.Frag) (mg : Str → Option Value) (base : Heap) (k : Nat) (x : Str) (C : Addr) (sp : Sp) (dvs : List V) : Prop where
  ex : ∃ (f : Addr) (fd : FuncData) (ps : List Str) (ds : List Value), Mk K C f ∧ FnOk P w K mg base (L2.CX P w) k f fd ps sp ∧ mg x = some (.ref C) ∧ Binds K fd ps ds ∧ Vals dvs ds
structure MakRK (P : Program) (w : World) (K : PySem.W.Frag) (mg : Str → Option Value) (base : Heap) (k : Nat) (x : Str) (C : Addr) (ks : List Str) (gV : List V → List V → List V) (sp : Sp) : Prop where
  ex : ∃ (f : Addr) (fd : FuncData) (ps : List Str) (g : List Value → List Value → List Value), Mk K C f ∧ FnOk P w K mg base (L2.CX P w) k f fd ps sp ∧ mg x = some (.ref C) ∧ KBn K fd ps 1 ks g gV
section
variable {X : Cx} {CX : CXT} {k j : Nat} {f C : Addr} {fd : FuncData} {ps ks : List Str} {sp : Sp} {dvs : List V} {ds : List Value} {E : XK} {W : WX} {x : Str} {p pos : Pos} {e : Expr} {es : List Expr} {t tk : TA} {kws : List Keyword} {g : List Value → List Value → List Value} {gV : List V → List V → List V}
theorem run_makeS {pins : List (Addr × Obj)} {σ : L2.St} {H : Hp} {s : Shared} {Q : VK} {us : List Value} {vs : List V} (M : Mk X.K C f) (F : FnOk X.prog X.w X.K X.mg X.base CX k f fd ps sp) (hr : Room (k + 1) X.A) (hb : Binds X.K fd ps ds) (hd : Vals dvs ds)
    (hx : PassesAt CX X σ E) (I : Inv X pins σ H s) (r : Vals vs us)
    (h : ∀ x dx, H x = none → H dx = none → dx ≠ x → sp (.ref x :: (vs ++ dvs)) (upd (upd H dx (.own x)) x (.ins C dx [])) (fun v H2 => v = .non ∧ Q (.ref x) H2) E) :
    wpAny (model X.prog X.w) X.A (call (.ref C) us) (EP X pins σ Q) X.xe s := by
  have hq := h (s.heap.objs.size + 1) s.heap.objs.size (I.hok.fresh (Nat.le_succ _)) (I.hok.fresh (Nat.le_refl _)) (Nat.ne_of_lt (Nat.lt_succ_self _))
  have I2 := Inv.made (C := C) I
  have r2 : Vals (V.ref (s.heap.objs.size + 1) :: (vs ++ dvs)) (Value.ref (s.heap.objs.size + 1) :: (us ++ ds)) := .cons rfl (r.append hd)
  have hl : (Value.ref (s.heap.objs.size + 1) :: us ++ ds).length = ps.length := by
    have e := r2.length
    rw [F.len _ _ _ _ hq] at e
    exact e.symm
  refine wpAny_call (make_map (f := f) I.kIn M.makes M.init (beq_iff_eq.mp M.fn) (codeAny_mono (F.run _ X.stack _ _ ⟨Value.ref (s.heap.objs.size + 1) :: us, []⟩ (Value.ref (s.heap.objs.size + 1) :: (us ++ ds)) _ _ E (hr.make C us [])
    (I2.env0.make C us []) (hb _ (Value.ref (s.heap.objs.size + 1) :: us) I2.kIn hl) r2 hq) fun r s' hq' => ?_))
  cases r with
  | error e => exact hx pins _ _ e s' I2 hq'
  | ok fl =>
    cases fl with
    | ret u =>
      obtain ⟨v, H', I3, rv, ev, q3⟩ := I2.after hq'
      subst ev
      exact ⟨rv, ⟨V.ref (s.heap.objs.size + 1), H', I3, rfl, q3⟩⟩
    | next => exact False.elim hq'
    | brk => exact False.elim hq'
    | cont => exact False.elim hq'
theorem run_makeSK {pins : List (Addr × Obj)} {σ : L2.St} {H : Hp} {s : Shared} {Q : VK} {ws : List Value} {zs : List V} (M : Mk X.K C f) (F : FnOk X.prog X.w X.K X.mg X.base CX k f fd ps sp) (hr : Room (k + 1) X.A) (hb : KBn X.K fd ps 1 ks g gV)
    (hx : PassesAt CX X σ E) (I : Inv X pins σ H s) (rz : Vals zs ws) (l2 : zs.length = ks.length)
    (h : ∀ x dx, H x = none → H dx = none → dx ≠ x → sp (gV [.ref x] zs) (upd (upd H dx (.own x)) x (.ins C dx [])) (fun v H2 => v = .non ∧ Q (.ref x) H2) E) :
    wpAny (model X.prog X.w) X.A (call (.ref C) [] (ks.zip ws)) (EP X pins σ Q) X.xe s := by
  have hq := h (s.heap.objs.size + 1) s.heap.objs.size (I.hok.fresh (Nat.le_succ _)) (I.hok.fresh (Nat.le_refl _)) (Nat.ne_of_lt (Nat.lt_succ_self _))
  have I2 := Inv.made (C := C) I
  have r1 : Vals [V.ref (s.heap.objs.size + 1)] [Value.ref (s.heap.objs.size + 1)] := .cons rfl .nil
  have r2 := hb.rel r1 rz
  have e2 : ws.length = ks.length := rz.length.symm.trans l2
  refine wpAny_call (make_map (f := f) I.kIn M.makes M.init (beq_iff_eq.mp M.fn) (codeAny_mono (F.run _ X.stack _ _ ⟨[Value.ref (s.heap.objs.size + 1)], ks.zip ws⟩ (g [Value.ref (s.heap.objs.size + 1)] ws) _ _ E (hr.make C [] (ks.zip ws))
    (I2.env0.make C [] (ks.zip ws)) (hb.to _ [Value.ref (s.heap.objs.size + 1)] ws I2.kIn rfl e2) r2 hq) fun r s' hq' => ?_))
  cases r with
  | error e => exact hx pins _ _ e s' I2 hq'
  | ok fl =>
    cases fl with
    | ret u =>
      obtain ⟨v, H', I3, rv, ev, q3⟩ := I2.after hq'
      subst ev
      exact ⟨rv, ⟨V.ref (s.heap.objs.size + 1), H', I3, rfl, q3⟩⟩
    | next => exact False.elim hq'
    | brk => exact False.elim hq'
    | cont => exact False.elim hq'
def tMakR (C : Addr) (sp : Sp) (dvs : List V) (W : WX) (t : TA) : TE := fun σ H Q => t σ H fun vs H1 => ∀ x dx, H1 x = none → H1 dx = none → dx ≠ x →
  sp (.ref x :: (vs ++ dvs)) (upd (upd H1 dx (.own x)) x (.ins C dx [])) (fun v H2 => v = .non ∧ Q (.ref x) H2) fun cls d H2 => W cls d σ H2
def tMakRK (C : Addr) (m : Nat) (sp : Sp) (gV : List V → List V → List V) (W : WX) (tk : TA) : TE := fun σ H Q => tk σ H fun zs H1 => zs.length = m ∧ ∀ x dx, H1 x = none → H1 dx = none → dx ≠ x →
  sp (gV [.ref x] zs) (upd (upd H1 dx (.own x)) x (.ins C dx [])) (fun v H2 => v = .non ∧ Q (.ref x) H2) fun cls d H2 => W cls d σ H2
theorem pe_mkR (tk : Takes X W) (c : MakR X.prog X.w X.K X.mg X.base k x C sp dvs) (hr : Room j X.A) (hk : k + 1 ≤ j) (hg : Gl X x) (ha : PA X (e :: es) t) (hdb : (x == ("__debug__" : Str)) = false := by decide)
    (he : starEach (e :: es) X.env = (false, eval e X.env) :: starEach es X.env := by rfl) (hpl : (backTo pos (starEach es X.env)).any (·.1) = false := by rfl) : PE X (.Call (.Name x p) (e :: es) [] pos) (tMakR C sp dvs W t) := by
  obtain ⟨f, fd, ps, ds, M, F, hm, hb, hd⟩ := c.ex
  refine ⟨fun pins s σ H Q I h => ?_⟩
  refine wpAny_Call_Name_kw (ld_glob I hg hm ?_ hdb)
  refine PySem.W.callWith_K (h₀ := X.base) I.ok.mod.kin M.kp (thn (ha.run pos pins s σ H _ I h) fun us s1 ⟨vs, H1, I1, r, q⟩ => ⟨I1.kIn, ?_⟩) he hpl
  exact run_makeS M F (hr.mono hk) hb hd (passAt tk σ) I1 r q
theorem pe_mkR0 (tk : Takes X W) (c : MakR X.prog X.w X.K X.mg X.base k x C sp dvs) (hr : Room j X.A) (hk : k + 1 ≤ j) (hg : Gl X x) (hdb : (x == ("__debug__" : Str)) = false := by decide) : PE X (.Call (.Name x p) [] [] pos) (tMakR C sp dvs W tNil) := by
  obtain ⟨f, fd, ps, ds, M, F, hm, hb, hd⟩ := c.ex
  refine ⟨fun pins s σ H Q I h => ?_⟩
  refine wpAny_Call_Name_kw (ld_glob I hg hm ?_ hdb)
  exact PySem.W.callWith_K0 I.kIn M.kp (run_makeS (us := []) M F (hr.mono hk) hb hd (passAt tk σ) I .nil h)
theorem pe_mkRK (tkk : Takes X W) (c : MakRK X.prog X.w X.K X.mg X.base k x C ks gV sp) (hr : Room j X.A) (hk : k + 1 ≤ j) (hg : Gl X x) (hkw : PK X kws tk) (hall : (backToKw pos (keywordEach kws X.env)).all (·.1.isSome) = true := by rfl) (hks : (backToKw pos (keywordEach kws X.env)).filterMap (·.1) = ks := by rfl)
    (hdb : (x == ("__debug__" : Str)) = false := by decide)
    (hpl : ((backTo pos (starEach [] X.env)).any (·.1) || (backToKw pos (keywordEach kws X.env)).any (·.1.isNone)) = false := by rfl) : PE X (.Call (.Name x p) [] kws pos) (tMakRK C ks.length sp gV W tk) := by
  obtain ⟨f, fd, ps, g, M, F, hm, hb⟩ := c.ex
  constructor
  intro pins z σ H Q I h
  refine wpAny_Call_Name_kw (ld_glob I hg hm ?_ hdb)
  refine PySem.W.callWith_KW0 (h₀ := X.base) I.ok.mod.kin M.kp hall ?_ hpl
  refine thn (hkw.run pos pins z σ H _ I h) fun ws z2 got => ?_
  obtain ⟨zs, H2, I2, rz, l, q2⟩ := got
  refine ⟨I2.kIn, ?_⟩
  rw [hks]
  exact run_makeSK M F (hr.mono hk) hb (passAt tkk σ) I2 rz l q2
end
end Lg


namespace Pf
open PySem L2 Rg
local macro_rules | `(tactic| k_extra "hp_") => `(tactic| exact Or.inr (SqT.of upd_same))
local macro_rules | `(tactic| k_extra "hp_") => `(tactic| exact Or.inr (SqT.of (by assumption)))
local macro_rules | `(tactic| k_extra "hp_") => `(tactic| exact Or.inr (by assumption))
local macro_rules | `(tactic| k_extra "hp_") => `(tactic| exact Or.inl (by assumption))
local macro_rules | `(tactic| k_extra "hp_") => `(tactic| exact Or.inl (SqL.of upd_same))
local macro_rules | `(tactic| k_extra "hp_") => `(tactic| exact Or.inl (SqL.of (by assumption)))
local macro_rules | `(tactic| k_extra "hp_") => `(tactic| exact upd_same)
local macro_rules | `(tactic| k_extra "hp_") => `(tactic| exact SqT.of upd_same)
local macro_rules | `(tactic| k_extra "hp_") => `(tactic| exact SqL.of upd_same)
local macro_rules | `(tactic| k_extra "hp_") => `(tactic| exact SqT.of (by assumption))
local macro_rules | `(tactic| k_extra "hp_") => `(tactic| exact SqL.of (by assumption))
local macro_rules | `(tactic| k_extra "hp_") => `(tactic| assumption)
local macro_rules | `(tactic| k_extra "sz_") => `(tactic| decide)
local macro_rules | `(tactic| k_extra "sz_") => `(tactic| omega)
local macro_rules | `(tactic| k_extra "sz_") => `(tactic| (rw [sizeLine_eq]; decide))
local macro_rules | `(tactic| k_extra "sz_") => `(tactic| (simp only [sizeLine_eq]; omega))
local macro_rules | `(tactic| k_extra "sz_") => `(tactic| exact Nat.le_of_ble_eq_true rfl)
local macro_rules | `(tactic| k_extra "sz_") => `(tactic| assumption)
local macro_rules | `(tactic| k_extra "ar_") => `(tactic| (exact Or.inr ⟨by omega, by omega⟩))
local macro_rules | `(tactic| k_extra "ar_") => `(tactic| (exact Or.inl ⟨by omega, by omega⟩))
local macro_rules | `(tactic| k_extra "ar_") => `(tactic| (exact ⟨by omega, by omega⟩))
local macro_rules | `(tactic| k_extra "ar_") => `(tactic| decide)
local macro_rules | `(tactic| k_extra "ar_") => `(tactic| omega)
local macro_rules | `(tactic| k_extra "ar_") => `(tactic| assumption)
local macro_rules | `(tactic| k_extra "ty_") => `(tactic| exact .base (.lst upd_same))
local macro_rules | `(tactic| k_extra "ty_") => `(tactic| exact .base (.tup upd_same))
local macro_rules | `(tactic| k_extra "ty_") => `(tactic| exact .base (.lst (by assumption)))
local macro_rules | `(tactic| k_extra "ty_") => `(tactic| exact .base (.tup (by assumption)))
local macro_rules | `(tactic| k_extra "ty_") => `(tactic| exact tyx_T (by assumption))
local macro_rules | `(tactic| k_extra "ty_") => `(tactic| exact tyx_L (by assumption))
local macro_rules | `(tactic| k_extra "ty_") => `(tactic| exact .base .non)
local macro_rules | `(tactic| k_extra "ty_") => `(tactic| exact .base (.bl _))
local macro_rules | `(tactic| k_extra "ty_") => `(tactic| exact .base (.int _))
local macro_rules | `(tactic| k_extra "ty_") => `(tactic| exact .base (.str _))
local macro_rules | `(tactic| k_extra "ty_") => `(tactic| assumption)
local macro_rules | `(tactic| k_extra "kb_") => `(tactic| exact kit_ty kB_dict_list)
local macro_rules | `(tactic| k_extra "kb_") => `(tactic| exact kit_ty kB_dict_tuple)
local macro_rules | `(tactic| k_extra "kb_") => `(tactic| exact kit_ty kB_dict_dict)
local macro_rules | `(tactic| k_extra "kb_") => `(tactic| exact kit_ty kB_dict_int)
local macro_rules | `(tactic| k_extra "kb_") => `(tactic| exact kit_ty kB_dict_bool)
local macro_rules | `(tactic| k_extra "kb_") => `(tactic| exact kit_ty kB_dict_str)
local macro_rules | `(tactic| k_extra "kb_") => `(tactic| exact kit_ty kB_tuple_list)
local macro_rules | `(tactic| k_extra "kb_") => `(tactic| exact kit_ty kB_tuple_tuple)
local macro_rules | `(tactic| k_extra "kb_") => `(tactic| exact kit_ty kB_tuple_dict)
local macro_rules | `(tactic| k_extra "kb_") => `(tactic| exact kit_ty kB_tuple_int)
local macro_rules | `(tactic| k_extra "kb_") => `(tactic| exact kit_ty kB_tuple_bool)
local macro_rules | `(tactic| k_extra "kb_") => `(tactic| exact kit_ty kB_tuple_str)
local macro_rules | `(tactic| k_extra "kb_") => `(tactic| exact kit_ty kB_list_list)
local macro_rules | `(tactic| k_extra "kb_") => `(tactic| exact kit_ty kB_list_tuple)
local macro_rules | `(tactic| k_extra "kb_") => `(tactic| exact kit_ty kB_list_dict)
local macro_rules | `(tactic| k_extra "kb_") => `(tactic| exact kit_ty kB_list_int)
local macro_rules | `(tactic| k_extra "kb_") => `(tactic| exact kit_ty kB_list_bool)
local macro_rules | `(tactic| k_extra "kb_") => `(tactic| exact kit_ty kB_list_str)
local macro_rules | `(tactic| k_extra "kb_") => `(tactic| exact kit_ty kB_str_list)
local macro_rules | `(tactic| k_extra "kb_") => `(tactic| exact kit_ty kB_str_tuple)
local macro_rules | `(tactic| k_extra "kb_") => `(tactic| exact kit_ty kB_str_dict)
local macro_rules | `(tactic| k_extra "kb_") => `(tactic| exact kit_ty kB_str_int)
local macro_rules | `(tactic| k_extra "kb_") => `(tactic| exact kit_ty kB_str_bool)
local macro_rules | `(tactic| k_extra "kb_") => `(tactic| exact kit_ty kB_str_str)
local macro_rules | `(tactic| k_extra "kb_") => `(tactic| exact kit_ty kB_int_list)
local macro_rules | `(tactic| k_extra "kb_") => `(tactic| exact kit_ty kB_int_tuple)
local macro_rules | `(tactic| k_extra "kb_") => `(tactic| exact kit_ty kB_int_dict)
local macro_rules | `(tactic| k_extra "kb_") => `(tactic| exact kit_ty kB_int_int)
local macro_rules | `(tactic| k_extra "kb_") => `(tactic| exact kit_ty kB_int_bool)
local macro_rules | `(tactic| k_extra "kb_") => `(tactic| exact kit_ty kB_int_str)
local macro_rules | `(tactic| k_extra "kb_") => `(tactic| exact kit_ty kB_bool_list)
local macro_rules | `(tactic| k_extra "kb_") => `(tactic| exact kit_ty kB_bool_tuple)
local macro_rules | `(tactic| k_extra "kb_") => `(tactic| exact kit_ty kB_bool_dict)
local macro_rules | `(tactic| k_extra "kb_") => `(tactic| exact kit_ty kB_bool_int)
local macro_rules | `(tactic| k_extra "kb_") => `(tactic| exact kit_ty kB_bool_bool)
local macro_rules | `(tactic| k_extra "kb_") => `(tactic| exact kit_ty kB_bool_str)
local macro_rules | `(tactic| k_extra "kb_") => `(tactic| exact kit_ty kB_NoneType_list)
local macro_rules | `(tactic| k_extra "kb_") => `(tactic| exact kit_ty kB_NoneType_tuple)
local macro_rules | `(tactic| k_extra "kb_") => `(tactic| exact kit_ty kB_NoneType_dict)
local macro_rules | `(tactic| k_extra "kb_") => `(tactic| exact kit_ty kB_NoneType_int)
local macro_rules | `(tactic| k_extra "kb_") => `(tactic| exact kit_ty kB_NoneType_bool)
local macro_rules | `(tactic| k_extra "kb_") => `(tactic| exact kit_ty kB_NoneType_str)
local macro_rules | `(tactic| k_extra "hp") => `(tactic| first | k_extra "hp_" | fail)
local macro_rules | `(tactic| k_extra "sz") => `(tactic| first | k_extra "sz_" | fail)
local macro_rules | `(tactic| k_extra "ar") => `(tactic| first | k_extra "ar_" | fail)
local macro_rules | `(tactic| k_extra "ty") => `(tactic| first | k_extra "ty_" | fail)
local macro_rules | `(tactic| k_extra "kb") => `(tactic| first | k_extra "kb_" | fail)
local macro_rules | `(tactic| k_extra "lk") => `(tactic| repeat (first | exact Ob.lookHead | refine Ob.lookTail (by decide +kernel) ?_ | exact Ob.lookNil))
local macro_rules | `(tactic| k_extra "pk") => `(tactic| repeat (first | exact Ob.putHead | refine Ob.putTail (by decide +kernel) ?_ | exact Ob.putNil))
local macro_rules | `(tactic| k_extra "rr") => `(tactic| repeat (k_extra "r"))
local macro_rules | `(tactic| k_extra "ri") => `(tactic| repeat ((fail_if_success (with_reducible refine Rg.ife ?_)); k_extra "r"))
local macro_rules | `(tactic| k_extra "rl") => `(tactic| repeat ((fail_if_success (with_reducible refine Rg.lst_ ?_)); k_extra "r"))
local macro_rules | `(tactic| k_extra "i") => `(tactic| repeat (first | (with_reducible refine Rg.exbl ?_) | (with_reducible refine iteT ?_) | (with_reducible refine iteF ?_) | (with_reducible refine Rg.iteNt ?_) | (with_reducible refine Rg.iteNf ?_) | (with_reducible refine Rg.tor ?_) | (with_reducible refine Rg.tand ?_) | (with_reducible refine Rg.ifS ?_)))
local macro_rules | `(tactic| k_extra "q") => `(tactic| ((with_reducible refine' Rg.iteMF ?h ?_); (case h => first | assumption | exact decide_eq_true rfl | decide +kernel)))
local macro_rules | `(tactic| k_extra "q") => `(tactic| ((with_reducible refine' Rg.iteMT ?h ?_); (case h => first | assumption | decide +kernel)))
local macro_rules | `(tactic| k_extra "q") => `(tactic| ((with_reducible refine' Rg.iteLT ?h ?_); (case h => first | assumption | exact decide_eq_true rfl | decide +kernel)))
local macro_rules | `(tactic| k_extra "q") => `(tactic| ((with_reducible refine' Rg.iteLF ?h ?_); (case h => first | assumption | decide +kernel)))
local macro_rules | `(tactic| k_extra "q") => `(tactic| k_extra "r")
local macro_rules | `(tactic| k_extra "qq") => `(tactic| repeat (k_extra "q"))
local macro_rules | `(tactic| k_extra "r") => `(tactic| ((with_reducible refine' Rg.glst ?h ?h1 ?_); (case h => k_extra "hp"); (case h1 => exact rfl)))
local macro_rules | `(tactic| k_extra "r") => `(tactic| ((with_reducible refine' Rg.gtup ?h ?h1 ?_); (case h => k_extra "hp"); (case h1 => exact rfl)))
local macro_rules | `(tactic| k_extra "r") => `(tactic| ((with_reducible refine' Ob.exmeth ?h ?l ?_); (case h => assumption); (case l => k_extra "lk")))
local macro_rules | `(tactic| k_extra "r") => `(tactic| ((with_reducible refine' Ob.exsfld ?h ?c ?n ?l ?_); (case h => assumption); (case c => assumption); (case n => assumption); (case l => k_extra "sz")))
local macro_rules | `(tactic| k_extra "r") => `(tactic| ((with_reducible refine' Ob.exfld ?h ?c ?n ?l ?_); (case h => assumption); (case c => assumption); (case n => assumption); (case l => k_extra "lk")))
local macro_rules | `(tactic| k_extra "r") => `(tactic| ((with_reducible refine' Rg.exr1 ?h1 ?h2 ?_); (case h1 => omega); (case h2 => omega)))
local macro_rules | `(tactic| k_extra "r") => `(tactic| ((with_reducible refine' Rg.exl ?h ?_); (case h => exact ⟨_, by k_extra "hp"⟩)))
local macro_rules | `(tactic| k_extra "r") => `(tactic| ((with_reducible refine' Rg.slS ?h ?_); (case h => k_extra "sz")))
local macro_rules | `(tactic| k_extra "r") => `(tactic| ((with_reducible refine' Rg.setL ?h ?h1 ?_); (case h => k_extra "hp"); (case h1 => exact rfl)))
local macro_rules | `(tactic| k_extra "r") => `(tactic| ((with_reducible refine' Rg.ixT ?h ?h1 ?_); (case h => k_extra "hp"); (case h1 => exact rfl)))
local macro_rules | `(tactic| k_extra "r") => `(tactic| ((with_reducible refine' Rg.ixL ?h ?h1 ?_); (case h => k_extra "hp"); (case h1 => exact rfl)))
local macro_rules | `(tactic| k_extra "r") => `(tactic| ((with_reducible refine' Rg.lenT ?h ?_); (case h => k_extra "hp")))
local macro_rules | `(tactic| k_extra "r") => `(tactic| ((with_reducible refine' Rg.lenL ?h ?_); (case h => k_extra "hp")))
local macro_rules | `(tactic| k_extra "r") => `(tactic| ((with_reducible refine' Rg.lenS ?h ?_); (case h => k_extra "sz")))
local macro_rules | `(tactic| k_extra "r") => `(tactic| ((with_reducible refine' Rg.isi ?h ?h1 ?_); (case h => k_extra "ty"); (case h1 => with_reducible k_extra "kb")))
local macro_rules | `(tactic| k_extra "r") => `(tactic| ((with_reducible refine' Rg.addS ?h ?_); (case h => k_extra "sz")))
local macro_rules | `(tactic| k_extra "r") => `(tactic| ((with_reducible refine' Rg.neS ?h ?_); (case h => exact rfl)))
local macro_rules | `(tactic| k_extra "r") => `(tactic| ((with_reducible refine' Rg.eqS ?h ?_); (case h => exact rfl)))
local macro_rules | `(tactic| k_extra "r") => `(tactic| ((with_reducible refine' Rg.mulI ?h ?_); (case h => k_extra "ar")))
local macro_rules | `(tactic| k_extra "r") => `(tactic| ((with_reducible refine' Rg.iI ?h ?_); (case h => k_extra "ar")))
local macro_rules | `(tactic| k_extra "r") => `(tactic| ((with_reducible refine' Rg.ipL2 ?h ?h2 ?h3 ?_); (case h => k_extra "hp"); (case h2 => k_extra "hp"); (case h3 => k_extra "sz")))
local macro_rules | `(tactic| k_extra "r") => `(tactic| ((with_reducible refine' Rg.ipS2 ?h ?_); (case h => k_extra "sz")))
local macro_rules | `(tactic| k_extra "r") => `(tactic| ((with_reducible refine' Rg.aug ?h ?_); (case h => exact rfl)))
local macro_rules | `(tactic| k_extra "r") => `(tactic| with_reducible (refine Sx.dc ?_))
local macro_rules | `(tactic| k_extra "r") => `(tactic| with_reducible (refine Sx.si ?_))
local macro_rules | `(tactic| k_extra "r") => `(tactic| with_reducible (refine Sx.keys ?_))
local macro_rules | `(tactic| k_extra "r") => `(tactic| with_reducible (refine Ob.lc2 ?_))
local macro_rules | `(tactic| k_extra "r") => `(tactic| with_reducible (refine Ob.dnew ?_))
local macro_rules | `(tactic| k_extra "r") => `(tactic| with_reducible (refine Ob.dput ?_))
local macro_rules | `(tactic| k_extra "r") => `(tactic| with_reducible (refine Ob.dget ?_))
local macro_rules | `(tactic| k_extra "r") => `(tactic| with_reducible (refine Ob.dnin ?_))
local macro_rules | `(tactic| k_extra "r") => `(tactic| with_reducible (refine Ob.din ?_))
local macro_rules | `(tactic| k_extra "r") => `(tactic| with_reducible (refine Ob.excm ?_))
local macro_rules | `(tactic| k_extra "r") => `(tactic| with_reducible (refine Ob.cmeth ?_))
local macro_rules | `(tactic| k_extra "r") => `(tactic| with_reducible (refine Ob.sfld ?_))
local macro_rules | `(tactic| k_extra "r") => `(tactic| with_reducible (refine Rg.jn ?_))
local macro_rules | `(tactic| k_extra "r") => `(tactic| with_reducible (refine Rg.jc ?_))
local macro_rules | `(tactic| k_extra "r") => `(tactic| with_reducible (refine Rg.fm ?_))
local macro_rules | `(tactic| k_extra "r") => `(tactic| with_reducible (refine Rg.extrip ?_))
local macro_rules | `(tactic| k_extra "r") => `(tactic| with_reducible (refine Rg.par3 ?_))
local macro_rules | `(tactic| k_extra "r") => `(tactic| with_reducible (refine Rg.ipI2 ?_))
local macro_rules | `(tactic| k_extra "r") => `(tactic| with_reducible (refine Rg.iT ?_))
local macro_rules | `(tactic| k_extra "r") => `(tactic| with_reducible (refine Rg.star ?_))
local macro_rules | `(tactic| k_extra "r") => `(tactic| with_reducible (refine Rg.revT ?_))
local macro_rules | `(tactic| k_extra "r") => `(tactic| with_reducible (refine Rg.revL ?_))
local macro_rules | `(tactic| k_extra "r") => `(tactic| with_reducible (refine Rg.ie ?_))
local macro_rules | `(tactic| k_extra "r") => `(tactic| with_reducible (refine Rg.crK ?_))
local macro_rules | `(tactic| k_extra "r") => `(tactic| with_reducible (refine Rg.crR ?_))
local macro_rules | `(tactic| k_extra "r") => `(tactic| with_reducible (refine Rg.iz ?_))
local macro_rules | `(tactic| k_extra "r") => `(tactic| with_reducible (refine Rg.is_ ?_))
local macro_rules | `(tactic| k_extra "r") => `(tactic| with_reducible (refine Rg.ir1 ?_))
local macro_rules | `(tactic| k_extra "r") => `(tactic| with_reducible (refine Rg.bm0 ?_))
local macro_rules | `(tactic| k_extra "r") => `(tactic| with_reducible (refine Rg.bm ?_))
local macro_rules | `(tactic| k_extra "r") => `(tactic| with_reducible (refine Rg.isStr ?_))
local macro_rules | `(tactic| k_extra "r") => `(tactic| with_reducible (refine Rg.m1 ?_))
local macro_rules | `(tactic| k_extra "r") => `(tactic| with_reducible (refine Rg.dget2 ?_))
local macro_rules | `(tactic| k_extra "r") => `(tactic| with_reducible (refine Rg.pcons ?_))
local macro_rules | `(tactic| k_extra "r") => `(tactic| with_reducible (refine Rg.pnil ?_))
local macro_rules | `(tactic| k_extra "r") => `(tactic| with_reducible (refine Rg.intI ?_))
local macro_rules | `(tactic| k_extra "r") => `(tactic| with_reducible (refine Rg.callK ?_))
local macro_rules | `(tactic| k_extra "r") => `(tactic| with_reducible (refine Rg.gnil ?_))
local macro_rules | `(tactic| k_extra "r") => `(tactic| with_reducible (refine Rg.gcons ?_))
local macro_rules | `(tactic| k_extra "r") => `(tactic| with_reducible (refine Rg.gsub ?_))
local macro_rules | `(tactic| k_extra "r") => `(tactic| with_reducible (refine Rg.retN ?_))
local macro_rules | `(tactic| k_extra "r") => `(tactic| with_reducible (refine Rg.drp ?_))
local macro_rules | `(tactic| k_extra "r") => `(tactic| with_reducible (refine Rg.cnt ?_))
local macro_rules | `(tactic| k_extra "r") => `(tactic| with_reducible (refine Rg.brk ?_))
local macro_rules | `(tactic| k_extra "r") => `(tactic| with_reducible (refine Rg.notV ?_))
local macro_rules | `(tactic| k_extra "r") => `(tactic| with_reducible (refine Rg.orV ?_))
local macro_rules | `(tactic| k_extra "r") => `(tactic| with_reducible (refine Rg.andV ?_))
local macro_rules | `(tactic| k_extra "r") => `(tactic| with_reducible (refine Rg.tnot ?_))
local macro_rules | `(tactic| k_extra "r") => `(tactic| with_reducible (refine Rg.tor ?_))
local macro_rules | `(tactic| k_extra "r") => `(tactic| with_reducible (refine Rg.tand ?_))
local macro_rules | `(tactic| k_extra "r") => `(tactic| with_reducible (refine Rg.part ?_))
local macro_rules | `(tactic| k_extra "r") => `(tactic| with_reducible (refine Rg.noPart ?_))
local macro_rules | `(tactic| k_extra "r") => `(tactic| with_reducible (refine Rg.sl ?_))
local macro_rules | `(tactic| k_extra "r") => `(tactic| with_reducible (refine Rg.notN ?_))
local macro_rules | `(tactic| k_extra "r") => `(tactic| with_reducible (refine Rg.isN ?_))
local macro_rules | `(tactic| k_extra "r") => `(tactic| with_reducible (refine Rg.notN_non ?_))
local macro_rules | `(tactic| k_extra "r") => `(tactic| with_reducible (refine Rg.isN_non ?_))
local macro_rules | `(tactic| k_extra "r") => `(tactic| with_reducible (refine Rg.notN_ref ?_))
local macro_rules | `(tactic| k_extra "r") => `(tactic| with_reducible (refine Rg.isN_ref ?_))
local macro_rules | `(tactic| k_extra "r") => `(tactic| with_reducible (refine Rg.notN_bl ?_))
local macro_rules | `(tactic| k_extra "r") => `(tactic| with_reducible (refine Rg.isN_bl ?_))
local macro_rules | `(tactic| k_extra "r") => `(tactic| with_reducible (refine Rg.notN_str ?_))
local macro_rules | `(tactic| k_extra "r") => `(tactic| with_reducible (refine Rg.isN_str ?_))
local macro_rules | `(tactic| k_extra "r") => `(tactic| with_reducible (refine Rg.notN_int ?_))
local macro_rules | `(tactic| k_extra "r") => `(tactic| with_reducible (refine Rg.isN_int ?_))
local macro_rules | `(tactic| k_extra "r") => `(tactic| with_reducible (refine Rg.ninS ?_))
local macro_rules | `(tactic| k_extra "r") => `(tactic| with_reducible (refine Rg.inS ?_))
local macro_rules | `(tactic| k_extra "r") => `(tactic| with_reducible (refine Rg.leS ?_))
local macro_rules | `(tactic| k_extra "r") => `(tactic| with_reducible (refine Rg.leI ?_))
local macro_rules | `(tactic| k_extra "r") => `(tactic| with_reducible (refine Rg.addI ?_))
local macro_rules | `(tactic| k_extra "r") => `(tactic| with_reducible (refine Rg.iI0 ?_))
local macro_rules | `(tactic| k_extra "r") => `(tactic| with_reducible (refine Rg.neB ?_))
local macro_rules | `(tactic| k_extra "r") => `(tactic| with_reducible (refine Rg.eqB ?_))
local macro_rules | `(tactic| k_extra "r") => `(tactic| with_reducible (refine Rg.neB_falsefalse ?_))
local macro_rules | `(tactic| k_extra "r") => `(tactic| with_reducible (refine Rg.eqB_falsefalse ?_))
local macro_rules | `(tactic| k_extra "r") => `(tactic| with_reducible (refine Rg.neB_falsetrue ?_))
local macro_rules | `(tactic| k_extra "r") => `(tactic| with_reducible (refine Rg.eqB_falsetrue ?_))
local macro_rules | `(tactic| k_extra "r") => `(tactic| with_reducible (refine Rg.neB_truefalse ?_))
local macro_rules | `(tactic| k_extra "r") => `(tactic| with_reducible (refine Rg.eqB_truefalse ?_))
local macro_rules | `(tactic| k_extra "r") => `(tactic| with_reducible (refine Rg.neB_truetrue ?_))
local macro_rules | `(tactic| k_extra "r") => `(tactic| with_reducible (refine Rg.eqB_truetrue ?_))
local macro_rules | `(tactic| k_extra "r") => `(tactic| with_reducible (refine Rg.neStr ?_))
local macro_rules | `(tactic| k_extra "r") => `(tactic| with_reducible (refine Rg.neI ?_))
local macro_rules | `(tactic| k_extra "r") => `(tactic| with_reducible (refine Rg.eqI ?_))
local macro_rules | `(tactic| k_extra "r") => `(tactic| with_reducible (refine Rg.exstr ?_))
local macro_rules | `(tactic| k_extra "r") => `(tactic| with_reducible (refine Rg.expair ?_))
local macro_rules | `(tactic| k_extra "r") => `(tactic| with_reducible (refine Rg.exint ?_))
local macro_rules | `(tactic| k_extra "r") => `(tactic| with_reducible (refine Rg.chain ?_))
local macro_rules | `(tactic| k_extra "r") => `(tactic| with_reducible (refine Rg.par ?_))
local macro_rules | `(tactic| k_extra "r") => `(tactic| with_reducible (refine Rg.tyes ?_))
local macro_rules | `(tactic| k_extra "r") => `(tactic| with_reducible (refine Rg.iU ?_))
local macro_rules | `(tactic| k_extra "r") => `(tactic| with_reducible (refine Rg.un ?_))
local macro_rules | `(tactic| k_extra "r") => `(tactic| with_reducible (refine Rg.for_ ?_))
local macro_rules | `(tactic| k_extra "r") => `(tactic| with_reducible (refine Rg.callB ?_))
local macro_rules | `(tactic| k_extra "r") => `(tactic| with_reducible (refine Ob.meth ?_))
local macro_rules | `(tactic| k_extra "r") => `(tactic| with_reducible (refine Rg.tup_ ?_))
local macro_rules | `(tactic| k_extra "r") => `(tactic| with_reducible (refine Ob.fld ?_))
local macro_rules | `(tactic| k_extra "r") => `(tactic| with_reducible (refine Rg.ife ?_))
local macro_rules | `(tactic| k_extra "r") => `(tactic| with_reducible (refine Rg.tb_ ?_))
local macro_rules | `(tactic| k_extra "r") => `(tactic| with_reducible (refine Rg.ret ?_))
local macro_rules | `(tactic| k_extra "r") => `(tactic| with_reducible (refine Rg.lc ?_))
local macro_rules | `(tactic| k_extra "r") => `(tactic| with_reducible (refine Rg.il ?_))
local macro_rules | `(tactic| k_extra "r") => `(tactic| with_reducible (refine Rg.lst_ ?_))
local macro_rules | `(tactic| k_extra "r") => `(tactic| with_reducible (refine Rg.nxt ?_))
local macro_rules | `(tactic| k_extra "r") => `(tactic| with_reducible (refine Rg.callC ?_))
local macro_rules | `(tactic| k_extra "r") => `(tactic| with_reducible (refine Rg.seq ?_))
local macro_rules | `(tactic| k_extra "r") => `(tactic| with_reducible (refine Rg.asg ?_))
local macro_rules | `(tactic| k_extra "r") => `(tactic| with_reducible (refine Rg.iteNf ?_))
local macro_rules | `(tactic| k_extra "r") => `(tactic| with_reducible (refine Rg.iteNt ?_))
local macro_rules | `(tactic| k_extra "r") => `(tactic| with_reducible (refine iteF ?_))
local macro_rules | `(tactic| k_extra "r") => `(tactic| with_reducible (refine iteT ?_))
local macro_rules | `(tactic| k_extra "r") => `(tactic| with_reducible (refine Rg.eqStr ?_))
local macro_rules | `(tactic| k_extra "r") => `(tactic| with_reducible (refine Rg.ifS ?_))
local macro_rules | `(tactic| k_extra "r") => `(tactic| with_reducible (refine Rg.gname ?_))
local macro_rules | `(tactic| k_extra "r") => `(tactic| with_reducible (refine Rg.test ?_))
local macro_rules | `(tactic| k_extra "r") => `(tactic| with_reducible (refine Rg.anil ?_))
local macro_rules | `(tactic| k_extra "r") => `(tactic| with_reducible (refine Rg.exbl ?_))
local macro_rules | `(tactic| k_extra "r") => `(tactic| with_reducible (refine Rg.op ?_))
local macro_rules | `(tactic| k_extra "r") => `(tactic| with_reducible (refine Rg.cst ?_))
local macro_rules | `(tactic| k_extra "r") => `(tactic| with_reducible (refine Rg.acons ?_))
local macro_rules | `(tactic| k_extra "r") => `(tactic| ((with_reducible refine' Rg.var ?h ?_); (case h => exact rfl)))
local macro_rules | `(tactic| k_extra "r") => `(tactic| ((with_reducible refine' Rg.mkBk ?h ?_); (case h => exact rfl)))
local macro_rules | `(tactic| k_extra "r") => `(tactic| ((with_reducible refine' Rg.mkCt ?h ?_); (case h => exact rfl)))
local macro_rules | `(tactic| k_extra "r") => `(tactic| ((with_reducible refine' Rg.mkRt ?h ?_); (case h => exact rfl)))
local macro_rules | `(tactic| k_extra "r") => `(tactic| ((with_reducible refine' Rg.mkNx ?h ?_); (case h => exact rfl)))

def top (i : Nat) : Stmt := PySem.Challenge.pw_rubgrove_k11_lines_checked.main.body.getD i (.Pass ⟨0, 0, 0, 0⟩)
abbrev s_is_word : Stmt := top 16
abbrev s_is_kind : Stmt := top 17
abbrev s_is_sign : Stmt := top 18
abbrev s_is_text : Stmt := top 19
abbrev s_is_cursor : Stmt := top 34
abbrev s_is_named : Stmt := top 35
abbrev s_fits : Stmt := top 36
abbrev s_opening : Stmt := top 37
abbrev s_all_fit : Stmt := top 38
abbrev s_is_test : Stmt := top 39
abbrev s_is_line : Stmt := top 40
abbrev s_every_line : Stmt := top 41
abbrev s_fault_in : Stmt := top 42
abbrev s_check_lines : Stmt := top 43
abbrev s_law_bag : Stmt := top 68
abbrev s_law_take : Stmt := top 69
abbrev s_law_of : Stmt := top 70
abbrev s_law_words : Stmt := top 71
abbrev s_law_names : Stmt := top 72
abbrev s_law_look_line : Stmt := top 73
abbrev s_law_place : Stmt := top 74
abbrev s_law_deed_line : Stmt := top 75
abbrev s_law_test_line : Stmt := top 76
abbrev s_law_lines : Stmt := top 77
abbrev s_law_field : Stmt := top 78
abbrev s_law_why : Stmt := top 79
abbrev s_law_alike : Stmt := top 80
abbrev s_law_word : Stmt := top 81
abbrev s_law_fits : Stmt := top 82
abbrev s_law_form : Stmt := top 83
abbrev s_law_good_line : Stmt := top 84
abbrev s_law_bad : Stmt := top 85
abbrev s_law_bent_lines : Stmt := top 86
abbrev s_law : Stmt := top 87
theorem sc_is_word : FnScope ["value", "most", "sign"] ["value", "most"] (defScope s_is_word) := ⟨rfl, rfl, rfl, by decide +kernel, rfl, by decide +kernel, by decide +kernel⟩
theorem sc_is_kind : FnScope ["value"] ["value"] (defScope s_is_kind) := ⟨rfl, rfl, rfl, by decide +kernel, rfl, by decide +kernel, by decide +kernel⟩
theorem sc_is_sign : FnScope ["sign"] ["sign"] (defScope s_is_sign) := ⟨rfl, rfl, rfl, by decide +kernel, rfl, by decide +kernel, by decide +kernel⟩
theorem sc_is_text : FnScope ["value", "sign"] ["value"] (defScope s_is_text) := ⟨rfl, rfl, rfl, by decide +kernel, rfl, by decide +kernel, by decide +kernel⟩
theorem sc_is_cursor : FnScope ["value"] ["value"] (defScope s_is_cursor) := ⟨rfl, rfl, rfl, by decide +kernel, rfl, by decide +kernel, by decide +kernel⟩
theorem sc_is_named : FnScope ["value"] ["value"] (defScope s_is_named) := ⟨rfl, rfl, rfl, by decide +kernel, rfl, by decide +kernel, by decide +kernel⟩
theorem sc_fits : FnScope ["letter", "value"] ["letter", "value"] (defScope s_fits) := ⟨rfl, rfl, rfl, by decide +kernel, rfl, by decide +kernel, by decide +kernel⟩
theorem sc_opening : FnScope ["value"] ["value"] (defScope s_opening) := ⟨rfl, rfl, rfl, by decide +kernel, rfl, by decide +kernel, by decide +kernel⟩
theorem sc_all_fit : FnScope ["letters", "value", "letter", "item"] ["letters", "value"] (defScope s_all_fit) := ⟨rfl, rfl, rfl, by decide +kernel, rfl, by decide +kernel, by decide +kernel⟩
theorem sc_is_test : FnScope ["value", "word"] ["value"] (defScope s_is_test) := ⟨rfl, rfl, rfl, by decide +kernel, rfl, by decide +kernel, by decide +kernel⟩
theorem sc_is_line : FnScope ["value", "word"] ["value"] (defScope s_is_line) := ⟨rfl, rfl, rfl, by decide +kernel, rfl, by decide +kernel, by decide +kernel⟩
theorem sc_every_line : FnScope ["lines", "found", "line", "inner"] ["lines"] (defScope s_every_line) := ⟨rfl, rfl, rfl, by decide +kernel, rfl, by decide +kernel, by decide +kernel⟩
theorem sc_fault_in : FnScope ["lines", "depth", "many", "line", "part", "fault", "inner"] ["lines", "depth"] (defScope s_fault_in) := ⟨rfl, rfl, rfl, by decide +kernel, rfl, by decide +kernel, by decide +kernel⟩
theorem sc_check_lines : FnScope ["lines", "fault", "many", "line"] ["lines"] (defScope s_check_lines) := ⟨rfl, rfl, rfl, by decide +kernel, rfl, by decide +kernel, by decide +kernel⟩
theorem sc_law_bag : FnScope ["_law_script", "_law_row", "_law_mark", "_law_cell"] ["_law_script"] (defScope s_law_bag) := ⟨rfl, rfl, rfl, by decide +kernel, rfl, by decide +kernel, by decide +kernel⟩
theorem sc_law_take : FnScope ["_law_bag_z", "_law_many", "_law_cell", "_law_mixed", "_law_found"] ["_law_bag_z", "_law_many"] (defScope s_law_take) := ⟨rfl, rfl, rfl, by decide +kernel, rfl, by decide +kernel, by decide +kernel⟩
theorem sc_law_of : FnScope ["_law_bag_z", "_law_things"] ["_law_bag_z", "_law_things"] (defScope s_law_of) := ⟨rfl, rfl, rfl, by decide +kernel, rfl, by decide +kernel, by decide +kernel⟩
theorem sc_law_words : FnScope ["_law_bag_z", "_law_many", "_law_most", "_law_letters", "_law_stem", "_law_at", "_law_start", "_law_found", "_law_fixed", "_law_k", "_law_word_z"] ["_law_bag_z", "_law_many", "_law_most"] (defScope s_law_words) := ⟨rfl, rfl, rfl, by decide +kernel, rfl, by decide +kernel, by decide +kernel⟩
theorem sc_law_names : FnScope ["_law_bag_z"] ["_law_bag_z"] (defScope s_law_names) := ⟨rfl, rfl, rfl, by decide +kernel, rfl, by decide +kernel, by decide +kernel⟩
theorem sc_law_look_line : FnScope ["_law_bag_z", "_law_names_z", "_law_word_z", "_law_cursor", "_law_kind"] ["_law_bag_z", "_law_names_z"] (defScope s_law_look_line) := ⟨rfl, rfl, rfl, by decide +kernel, rfl, by decide +kernel, by decide +kernel⟩
theorem sc_law_place : FnScope ["_law_bag_z", "_law_names_z", "_law_word_z"] ["_law_bag_z", "_law_names_z"] (defScope s_law_place) := ⟨rfl, rfl, rfl, by decide +kernel, rfl, by decide +kernel, by decide +kernel⟩
theorem sc_law_deed_line : FnScope ["_law_bag_z", "_law_names_z", "_law_copies", "_law_one", "_law_other", "_law_kind", "_law_text", "_law_way"] ["_law_bag_z", "_law_names_z", "_law_copies"] (defScope s_law_deed_line) := ⟨rfl, rfl, rfl, by decide +kernel, rfl, by decide +kernel, by decide +kernel⟩
theorem sc_law_test_line : FnScope ["_law_bag_z", "_law_names_z", "_law_word_z", "_law_one", "_law_other"] ["_law_bag_z", "_law_names_z"] (defScope s_law_test_line) := ⟨rfl, rfl, rfl, by decide +kernel, rfl, by decide +kernel, by decide +kernel⟩
theorem sc_law_lines : FnScope ["_law_bag_z", "_law_names_z", "_law_many", "_law_looks", "_law_deep", "_law_found", "_law_left", "_law_copies", "_law_k", "_law_way", "_law_test", "_law_inner", "_law_part"] ["_law_bag_z", "_law_names_z", "_law_many", "_law_looks", "_law_deep"] (defScope s_law_lines) := ⟨rfl, rfl, rfl, by decide +kernel, rfl, by decide +kernel, by decide +kernel⟩
theorem sc_law_field : FnScope ["_law_e"] ["_law_e"] (defScope s_law_field) := ⟨rfl, rfl, rfl, by decide +kernel, rfl, by decide +kernel, by decide +kernel⟩
theorem sc_law_why : FnScope ["_law_ask", "_law_e"] ["_law_ask"] (defScope s_law_why) := ⟨rfl, rfl, rfl, by decide +kernel, rfl, by decide +kernel, by decide +kernel⟩
theorem sc_law_alike : FnScope ["_law_found", "_law_due", "_law_key", "_law_one", "_law_two"] ["_law_found", "_law_due"] (defScope s_law_alike) := ⟨rfl, rfl, rfl, by decide +kernel, rfl, by decide +kernel, by decide +kernel⟩
theorem sc_law_word : FnScope ["_law_value", "_law_most", "_law_sign"] ["_law_value", "_law_most"] (defScope s_law_word) := ⟨rfl, rfl, rfl, by decide +kernel, rfl, by decide +kernel, by decide +kernel⟩
theorem sc_law_fits : FnScope ["_law_letter", "_law_value", "_law_tests"] ["_law_letter", "_law_value"] (defScope s_law_fits) := ⟨rfl, rfl, rfl, by decide +kernel, rfl, by decide +kernel, by decide +kernel⟩
theorem sc_law_form : FnScope ["_law_value", "_law_forms", "_law_letters", "_law_k"] ["_law_value", "_law_forms"] (defScope s_law_form) := ⟨rfl, rfl, rfl, by decide +kernel, rfl, by decide +kernel, by decide +kernel⟩
theorem sc_law_good_line : FnScope ["_law_value", "_law_forms"] ["_law_value"] (defScope s_law_good_line) := ⟨rfl, rfl, rfl, by decide +kernel, rfl, by decide +kernel, by decide +kernel⟩
theorem sc_law_bad : FnScope ["_law_lines_z", "_law_number", "_law_depth", "_law_at", "_law_line", "_law_part", "_law_found"] ["_law_lines_z", "_law_number", "_law_depth"] (defScope s_law_bad) := ⟨rfl, rfl, rfl, by decide +kernel, rfl, by decide +kernel, by decide +kernel⟩
theorem sc_law_bent_lines : FnScope ["_law_bag_z", "_law_lines_z", "_law_at", "_law_odd", "_law_line", "_law_late", "_law_spot"] ["_law_bag_z", "_law_lines_z"] (defScope s_law_bent_lines) := ⟨rfl, rfl, rfl, by decide +kernel, rfl, by decide +kernel, by decide +kernel⟩
theorem sc_law : FnScope ["_law_script", "_law_bag_z", "_law_names_z", "_law_turn", "_law_lines_z", "_law_late", "_law_more", "_law_value", "_law_fault", "_law_many", "_law_found", "_law_odd", "_law_deep", "_law_rows", "_law_level", "_law_told", "_law_row"] ["_law_script"] (defScope s_law) := ⟨rfl, rfl, rfl, by decide +kernel, rfl, by decide +kernel, by decide +kernel⟩
abbrev s_Script___init__ : Stmt := inClass (top 66) 2
theorem sc_Script___init__ : FnScope ["self", "lines", "line"] ["self", "lines"] (defScope s_Script___init__) := ⟨rfl, rfl, rfl, by decide +kernel, rfl, by decide +kernel, by decide +kernel⟩
abbrev s_Script_lines : Stmt := inClass (top 66) 5
theorem sc_Script_lines : FnScope ["self"] ["self"] (defScope s_Script_lines) := ⟨rfl, rfl, rfl, by decide +kernel, rfl, by decide +kernel, by decide +kernel⟩
abbrev s_BadScript_init : Stmt := inClass (top 4) 0
theorem sc_BadScript_init : FnScope ["self", "line"] ["self", "line"] (defScope s_BadScript_init) := ⟨rfl, rfl, rfl, by decide +kernel, rfl, by decide +kernel, by decide +kernel⟩
abbrev s_TooMany_init : Stmt := inClass (top 6) 0
theorem sc_TooMany_init : FnScope ["self", "most"] ["self", "most"] (defScope s_TooMany_init) := ⟨rfl, rfl, rfl, by decide +kernel, rfl, by decide +kernel, by decide +kernel⟩
structure Txt (mg : Str → Option Value) : Prop where
  len : mg "len" = none
  int : mg "int" = none
  range : mg "range" = none
  isinstance : mg "isinstance" = none
  all : mg "all" = none
  list : mg "list" = none
  tuple : mg "tuple" = none
  str : mg "str" = none
  sorted : mg "sorted" = none
  zip : mg "zip" = none
  enumerate : mg "enumerate" = none
  max : mg "max" = none
  bool : mg "bool" = none
  dict : mg "dict" = none
  g_SMALL : ∃ u, mg "SMALL" = some u ∧ RelV (.str "abcdefghijklmnopqrstuvwxyz") u
  g_REST : ∃ u, mg "REST" = some u ∧ RelV (.str "rest") u
  g_MOST_LETTERS_documents : ∃ u, mg "MOST_LETTERS_documents" = some u ∧ RelV (.int 6) u
  g_MOST_SIGNS : ∃ u, mg "MOST_SIGNS" = some u ∧ RelV (.int 20) u
  g_MOST_LETTERS_lines : ∃ u, mg "MOST_LETTERS_lines" = some u ∧ RelV (.int 3) u
  g_MOST_DEPTH : ∃ u, mg "MOST_DEPTH" = some u ∧ RelV (.int 3) u
  g_MOST_LINES : ∃ u, mg "MOST_LINES" = some u ∧ RelV (.int 40) u
  g_MOST_COPIES : ∃ u, mg "MOST_COPIES" = some u ∧ RelV (.int 4) u
/-! ### the bag -/
def BagAt (H : Hp) (p r : Addr) : Prop := ∃ (ns : List Int) (i c m : Int), H p = some (.lst [.ref r, .int i, .int c, .int m]) ∧ H r = some (.lst (ns.map V.int)) ∧ ns.length ≤ 63 ∧ 0 ≤ i ∧ 0 ≤ c ∧ 0 ≤ m ∧ m < 2147483629
theorem bag_ne {H : Hp} {p r : Addr} {ns : List Int} {i c m : V} (h : H p = some (.lst [.ref r, i, c, m])) (h' : H r = some (.lst (ns.map V.int))) : r ≠ p := by
  rintro rfl
  rw [h] at h'
  have e := Option.some.inj h'
  injection e with e
  cases ns with
  | nil => cases e
  | cons x l =>
    rw [List.map_cons] at e
    cases e
theorem BagAt.ne_none {H : Hp} {b r p : Addr} (h : BagAt H b r) (e : H p = none) : p ≠ b ∧ p ≠ r := by
  obtain ⟨ns, i, c, m, h1, h2, _⟩ := h
  exact ⟨(ne_of_none h1 e).symm, (ne_of_none h2 e).symm⟩
theorem BagAt.ex {H : Hp} {b r : Addr} (h : BagAt H b r) : ∃ o, H b = some o := by
  obtain ⟨ns, i, c, m, h1, h2, _⟩ := h
  exact ⟨_, h1⟩
theorem BagAt.same {H H' : Hp} {b r : Addr} (h : BagAt H b r) (s : Same H H') : BagAt H' b r := by
  obtain ⟨ns, i, c, m, h1, h2, h3⟩ := h
  exact ⟨ns, i, c, m, s _ _ h1, s _ _ h2, h3⟩
theorem BagAt.new {H : Hp} {b r p : Addr} {o : HO} (h : BagAt H b r) (n : H p = none) : BagAt (upd H p o) b r := h.same (same_upd n)
theorem BagAt.mut {H H1 : Hp} {b r p : Addr} {o : HO} (h : BagAt H b r) (h1 : BagAt H1 b r) (n : H1 p = none) : BagAt (upd H p o) b r := by
  obtain ⟨n1, n2⟩ := h1.ne_none n
  obtain ⟨ns, i, c, m, h1, h2, h3⟩ := h
  exact ⟨ns, i, c, m, by rw [upd_ne n1.symm]; exact h1, by rw [upd_ne n2.symm]; exact h2, h3⟩
def spBag (K : PySem.W.Frag) : Sp := fun vs H Q _ => ∃ (a : Addr) (ns : List Int), vs = [.ref a] ∧ SqL K H a (ns.map V.int) ∧ ns.length ≤ 63 ∧
  ∀ (H' : Hp) (p r : Addr), Same H H' → H p = none → BagAt H' p r → Q (.ref p) H'
def spTake : Sp := fun vs H Q _ => ∃ (b r : Addr) (many : Int), vs = [.ref b, .int many] ∧ BagAt H b r ∧ 1 ≤ many ∧ many < 1073741824 ∧
  ∀ (k : Int) (H' : Hp), But b H H' → BagAt H' b r → 0 ≤ k → k < many → Q (.int k) H'
section
variable {P : Program} {w : World} {K : PySem.W.Frag} {mg : Str → Option Value} {base : Heap} {f : Addr} {fd : FuncData}
theorem ok_law_bag (F : Fun K "_law_bag" "_law_bag" s_law_bag f fd) (T : Txt mg) : FnOk P w K mg base CX0 1 f fd ["_law_script"] (spBag K) := by
  refine F.ok sc_law_bag (fun vs H Q E h => ?_) (fun cdv A outer s H vs Q E hr h => ?_)
  · obtain ⟨a, ns, rfl, _⟩ := h
    rfl
  · obtain ⟨a, ns, rfl, hS, hl, q⟩ := h
    refine ⟨_, (pss_cons (ps_set (i := 1) sc_law_bag.nd rfl (.inl rfl) (pe_callTy (cr_list K) (by rfl) T.list (by decide +kernel) (pa_cons (pe_slice (sl_X K) (pv 0) po_none (po_some pe_int)) pa_nil)))
      (pss_cons (ps_set (i := 2) sc_law_bag.nd rfl (.inl rfl) (pe_op (op_addX K) pe_int (pe_op op_mulX pe_int (pe_callB (call_lenX K) (by rfl) T.len PySem.boot_len (pa_cons (pv 1) pa_nil)))))
      (pss_cons (ps_for PassesOwn.never rfl (pi_listX K (pv 1)) (pg_name (i := 3) sc_law_bag.nd rfl (.inl rfl)) (pss_one (ps_set (i := 2) sc_law_bag.nd rfl (.inl rfl) (pe_op op_mod (pe_callTy cr_int (by rfl) T.int (by decide +kernel) (pa_cons (pe_op (op_addX K) (pe_op (op_addX K) (pe_op op_mulX (pv 2) pe_int) (pe_op op_mod (pe_callTy cr_int (by rfl) T.int (by decide +kernel) (pa_cons (pv 3) pa_nil)) pe_int)) pe_int) pa_nil)) pe_int))))
      (pss_one (ps_ret (pe_lst (pa_cons (pv 1) (pa_cons pe_int (pa_cons pe_int (pa_cons (pv 2) pa_nil)))))))))), ?_⟩
    change (_ : TS) _ [some (V.ref a), none, none, none] _
    k_extra "rr"
    refine slL hS fun l nl => ?_
    obtain ⟨ms, em, hm⟩ := cut_map ns none (some 63)
    rw [em]
    k_extra "rr"
    refine listL (SqL.of upd_same) fun r nr => ?_
    have nrl : l ≠ r := ne_of_none upd_same nr
    have nr0 : H r = none := un0 nr
    k_extra "rr"
    have hm63 : ms.length ≤ 63 := by omega
    have elen : ((ms.map V.int).length : Int) ≤ 63 := by rw [List.length_map]; omega
    have s2 : Same H (upd (upd H l (.lst (ms.map V.int))) r (.lst (ms.map V.int))) := (same_upd nl).trans (same_upd nr)
    refine for_list (K := K) (a := r) (xs := ms.map V.int) (fun i σ H' => ∃ (m : Int) (v : Option V), σ = [some (.ref a), some (.ref r), some (.int m), v] ∧ 0 ≤ m ∧ m < 2147483629 ∧ H' = upd (upd H l (.lst (ms.map V.int))) r (.lst (ms.map V.int)))
      ⟨_, none, rfl, by omega, by omega, rfl⟩ (fun i σ H' _ ⟨_, _, _, _, _, e⟩ => by rw [e]; exact SqL.of upd_same) ?_ ?_
    · rintro i y σ H' hi ⟨m, v, rfl, m0, m1, rfl⟩
      obtain ⟨u, hu, rfl⟩ := map_at hi
      k_extra "rr"
      have h1 := Int.emod_nonneg (m * 45161 + u % 2147483423 + 11) (show (2147483549 : Int) ≠ 0 by decide)
      have h2 := Int.emod_lt_of_pos (m * 45161 + u % 2147483423 + 11) (show (0 : Int) < 2147483549 by decide)
      exact ⟨_, _, rfl, h1, by omega, rfl⟩
    · rintro σ H' ⟨m, v, rfl, m0, m1, rfl⟩
      k_extra "rr"
      refine ⟨by k_extra "sz", fun p np => ?_⟩
      k_extra "rr"
      have nrp : r ≠ p := ne_of_none upd_same np
      refine q _ p r (s2.trans (same_upd np)) (s2.free np) ⟨ms, 0, 0, m, upd_same, upd2 nrp upd_same, hm63, by decide, by decide, m0, m1⟩
end

section
variable {P : Program} {w : World} {K : PySem.W.Frag} {mg : Str → Option Value} {base : Heap} {f : Addr} {fd : FuncData}
theorem ok_law_take (F : Fun K "_law_take" "_law_take" s_law_take f fd) (T : Txt mg) : FnOk P w K mg base CX0 1 f fd ["_law_bag_z", "_law_many"] spTake := by
  refine F.ok sc_law_take (fun vs H Q E h => ?_) (fun cdv A outer s H vs Q E hr h => ?_)
  · obtain ⟨b, r, many, rfl, _⟩ := h
    rfl
  · obtain ⟨b, r, many, rfl, ⟨ns, i, c, m, hb, hn, hl, i0, c0, m0, m1⟩, k1, k2, q⟩ := h
    refine ⟨_, (C8.pss_cut (ps_if (PW.pt (pw_and (pt_cmpR (op_eqX K hr) (pe_ix (ix_X K) (pv 0) pe_int (fun _ _ => rfl)) pe_int (nomark _)) (pw_and1 (pt_cmpR op_lt (pe_ix (ix_X K) (pv 0) pe_int (fun _ _ => rfl)) (pe_callB (call_lenX K) (by rfl) T.len PySem.boot_len (pa_cons (pe_ix (ix_X K) (pv 0) pe_int (fun _ _ => rfl)) pa_nil)) (nomark _))))) (pss_cons (ps_set (i := 2) sc_law_take.nd rfl (.inl rfl) (pe_ix (ix_X K) (pe_ix (ix_X K) (pv 0) pe_int (fun _ _ => rfl)) (pe_ix (ix_X K) (pv 0) pe_int (fun _ _ => rfl)) (fun _ _ => rfl)))
      (pss_cons (ps_asg (pe_op (op_addX K) (pe_ix (ix_X K) (pv 0) pe_int (fun _ _ => rfl)) pe_int) (pg_sub (pv 0) pe_int set_list))
      (pss_one (ps_if (pt_cmpR op_ge (pv 2) (pe_op op_pow pe_int pe_int) (nomark _)) (pss_one (ps_asg (pv 2) (pg_sub (pv 0) pe_int set_list))) (pss_cons (ps_set (i := 3) sc_law_take.nd rfl (.inl rfl) (pe_op (op_addX K) (pe_op op_mulX (pe_ix (ix_X K) (pv 0) pe_int (fun _ _ => rfl)) pe_int) (pe_op op_mod (pe_callTy cr_int (by rfl) T.int (by decide +kernel) (pa_cons (pv 2) pa_nil)) pe_int)))
      (pss_one (ps_asg (pe_op op_mod (pe_callTy cr_int (by rfl) T.int (by decide +kernel) (pa_cons (pe_op (op_addX K) (pv 3) (pe_ix (ix_X K) (pv 0) pe_int (fun _ _ => rfl))) pa_nil)) pe_int) (pg_sub (pv 0) pe_int set_list)))))))) pss_nil)
      (pss_cons (ps_if (pt_cmpR op_gt (pe_ix (ix_X K) (pv 0) pe_int (fun _ _ => rfl)) pe_int (nomark _)) (pss_cons (ps_set (i := 4) sc_law_take.nd rfl (.inl rfl) (pe_op op_mod (pe_callTy cr_int (by rfl) T.int (by decide +kernel) (pa_cons (pe_ix (ix_X K) (pv 0) pe_int (fun _ _ => rfl)) pa_nil)) (pv 1)))
      (pss_cons (ps_asg (pe_op op_fdivN (pe_ix (ix_X K) (pv 0) pe_int (fun _ _ => rfl)) (pv 1)) (pg_sub (pv 0) pe_int set_list))
      (pss_one (ps_ret (pv 4))))) pss_nil)
      (pss_cons (ps_asg (pe_op op_mod (pe_callTy cr_int (by rfl) T.int (by decide +kernel) (pa_cons (pe_op (op_addX K) (pe_op op_mulX (pe_ix (ix_X K) (pv 0) pe_int (fun _ _ => rfl)) pe_int) pe_int) pa_nil)) pe_int) (pg_sub (pv 0) pe_int set_list))
      (pss_one (ps_ret (pe_op op_mod (pe_callTy cr_int (by rfl) T.int (by decide +kernel) (pa_cons (pe_op op_fdivN (pe_op op_mod (pe_callTy cr_int (by rfl) T.int (by decide +kernel) (pa_cons (pe_op op_mulX (pe_ix (ix_X K) (pv 0) pe_int (fun _ _ => rfl)) (pe_ix (ix_X K) (pv 0) pe_int (fun _ _ => rfl))) pa_nil)) pe_int) pe_int) pa_nil)) (pv 1))))))), ?_⟩
    change (_ : TS) _ [some (V.ref b), some (.int many), none, none, none] _
    have nrb := bag_ne hb hn
    refine Rg.cut (fun σ H' => ∃ (i' c' m' : Int) (v2 v3 : Option V), σ = [some (V.ref b), some (.int many), v2, v3, none] ∧ H' b = some (.lst [.ref r, .int i', .int c', .int m']) ∧ But b H H' ∧ 0 ≤ i' ∧ 0 ≤ c' ∧ 0 ≤ m' ∧ m' < 2147483629) ?_ ?_
    · k_extra "rr"
      refine iteD (fun ec => ?_) (fun ec => ?_)
      · k_extra "rr"
        refine iteD (fun ei => ?_) (fun ei => ?_)
        · k_extra "rr"
          have hin : i.toNat < ns.length := by
            rw [List.length_map] at ei
            omega
          refine ixL (SqL.of hn) (v := .int ns[i.toNat]) ?_ ?_
          · exact at_of (j := i.toNat) (by omega) (by rw [List.getElem?_map, List.getElem?_eq_getElem hin]; rfl)
          k_extra "rr"
          refine iteD (fun eb => ?_) (fun eb => ?_)
          · k_extra "rr"
            refine ⟨i + 1, ns[i.toNat], m, some (.int ns[i.toNat]), none, rfl, upd_same, But.trans But.upd But.upd, by omega, ?_, m0, m1⟩
            have e18 : (0 : Int) ≤ 10 ^ Int.toNat 18 := by decide
            omega
          · k_extra "rr"
            have h1 := Int.emod_nonneg (m * 40087 + ns[i.toNat] % 1999999913 + (i + 1)) (show (2147483629 : Int) ≠ 0 by decide)
            have h2 := Int.emod_lt_of_pos (m * 40087 + ns[i.toNat] % 1999999913 + (i + 1)) (show (0 : Int) < 2147483629 by decide)
            exact ⟨i + 1, c, _, some (.int ns[i.toNat]), some (.int (m * 40087 + ns[i.toNat] % 1999999913)), rfl, upd_same, But.trans But.upd But.upd, by omega, c0, h1, h2⟩
        · k_extra "rr"
          exact ⟨i, c, m, none, none, rfl, hb, But.refl _ _, i0, c0, m0, m1⟩
      · k_extra "rr"
        exact ⟨i, c, m, none, none, rfl, hb, But.refl _ _, i0, c0, m0, m1⟩
    · rintro σ H' ⟨i', c', m', v2, v3, rfl, hb', bb, i0', c0', m0', m1'⟩
      have hn' : H' r = some (.lst (ns.map V.int)) := bb _ _ hn nrb
      k_extra "rr"
      refine iteD (fun ec => ?_) (fun ec => ?_)
      · k_extra "rr"
        refine q (c' % many) _ (bb.trans But.upd) ⟨ns, i', c'.fdiv many, m', upd_same, upd2 nrb hn', hl, i0', ?_, m0', m1'⟩ (Int.emod_nonneg _ (by omega)) (Int.emod_lt_of_pos _ (by omega))
        rw [Int.fdiv_eq_ediv_of_nonneg _ (by omega)]
        exact Int.ediv_nonneg c0' (by omega)
      · k_extra "rr"
        have h1 := Int.emod_nonneg (m' * 48271033 + 37) (show (2147483629 : Int) ≠ 0 by decide)
        have h2 := Int.emod_lt_of_pos (m' * 48271033 + 37) (show (0 : Int) < 2147483629 by decide)
        refine q _ _ (bb.trans But.upd) ⟨ns, i', c', _, upd_same, upd2 nrb hn', hl, i0', c0', h1, h2⟩ (Int.emod_nonneg _ (by omega)) (Int.emod_lt_of_pos _ (by omega))
end

/-! ### drawn things -/
def spOf (K : PySem.W.Frag) : Sp := fun vs H Q _ => ∃ (b r : Addr) (x : V), vs = [.ref b, x] ∧ BagAt H b r ∧
  ((∃ z : Str, x = .str z ∧ 0 < z.length ∧ z.length ≤ 1000 ∧ ∀ (c : Nat) (H' : Hp), c ∈ z.cps.toList → But b H H' → BagAt H' b r → Q (.str ⟨#[c]⟩) H') ∨
   (∃ (p : Addr) (xs : List V), x = .ref p ∧ p ≠ b ∧ SqL K H p xs ∧ 0 < xs.length ∧ xs.length ≤ 1000 ∧ ∀ (i : Nat) (v : V) (H' : Hp), xs[i]? = some v → But b H H' → BagAt H' b r → Q v H'))
theorem at_str {z : Str} {k : Int} (h0 : 0 ≤ k) (h1 : k < z.length) : ∃ c, atI z.cps.toList k = some c ∧ c ∈ z.cps.toList := by
  have hl : k.toNat < z.cps.toList.length := by
    have e : z.cps.toList.length = z.length := by simp [Str.length]
    omega
  refine ⟨z.cps.toList[k.toNat], ?_, List.getElem_mem hl⟩
  have e := atI_nat (xs := z.cps.toList) (j := k.toNat) (v := z.cps.toList[k.toNat]) (List.getElem?_eq_getElem hl)
  rw [show ((k.toNat : Nat) : Int) = k by omega] at e
  exact e
theorem at_lst {xs : List V} {k : Int} (h0 : 0 ≤ k) (h1 : k < xs.length) : ∃ v, atI xs k = some v ∧ xs[k.toNat]? = some v := by
  have hl : k.toNat < xs.length := by omega
  refine ⟨xs[k.toNat], ?_, List.getElem?_eq_getElem hl⟩
  have e := atI_nat (xs := xs) (j := k.toNat) (v := xs[k.toNat]) (List.getElem?_eq_getElem hl)
  rw [show ((k.toNat : Nat) : Int) = k by omega] at e
  exact e
section
variable {P : Program} {w : World} {K : PySem.W.Frag} {mg : Str → Option Value} {base : Heap} {f : Addr} {fd : FuncData}
theorem ok_law_of (F : Fun K "_law_of" "_law_of" s_law_of f fd) (T : Txt mg) (c_law_take : Cal P w K mg base 1 "_law_take" spTake) : FnOk P w K mg base CX0 2 f fd ["_law_bag_z", "_law_things"] (spOf K) := by
  refine F.ok sc_law_of (fun vs H Q E h => ?_) (fun cdv A outer s H vs Q E hr h => ?_)
  · obtain ⟨b, r, x, rfl, _⟩ := h
    rfl
  · obtain ⟨b, r, x, rfl, hb, h⟩ := h
    refine ⟨_, (pss_one (ps_ret (pe_ix (ix_X K) (pv 1) (pe_c c_law_take hr (by omega) (by rfl) (pa_cons (pv 0) (pa_cons (pe_callB (call_lenX K) (by rfl) T.len PySem.boot_len (pa_cons (pv 1) pa_nil)) pa_nil))) (fun _ _ => rfl)))), ?_⟩
    rcases h with ⟨z, rfl, z0, z1, q⟩ | ⟨p, xs, rfl, npb, hx, z0, z1, q⟩
    · change (_ : TS) _ [some (V.ref b), some (V.str z)] _
      k_extra "rr"
      refine ⟨b, r, _, rfl, hb, by omega, by omega, fun k H' bb hb' k0 k1 => ?_⟩
      obtain ⟨c, e1, e2⟩ := at_str k0 k1
      exact ixS (by k_extra "sz") e1 (q c H' e2 bb hb')
    · change (_ : TS) _ [some (V.ref b), some (V.ref p)] _
      k_extra "rr"
      refine ⟨b, r, _, rfl, hb, by omega, by omega, fun k H' bb hb' k0 k1 => ?_⟩
      obtain ⟨v, e1, e2⟩ := at_lst k0 k1
      exact ixL (SqL.but bb npb hx) e1 (q _ v H' e2 bb hb')
end
/-! a text of letters -/
def letters : List Nat := [97, 98, 99, 100, 101, 102, 103, 104, 105, 106, 107, 108, 109, 110, 111, 112, 113, 114, 115, 116, 117, 118, 119, 120, 121, 122]
theorem letters_eq : Str.ofString "abcdefghijklmnopqrstuvwxyz" = SX.S letters := by decide +kernel
def fixW (w : Str) : Str := if w = "if" then "iff" else if w = "is" then "iss" else if w = "end" then "en" else if w = "rest" then "res" else w
def wordAt (st : List Nat) (at_ s0 k : Nat) : List Nat := st.take at_ ++ [letters.getD ((s0 + 5 * k) % 26) 0] ++ st.drop at_
theorem wordAt_len (st : List Nat) (at_ s0 k : Nat) : (wordAt st at_ s0 k).length ≤ st.length + 1 := by
  unfold wordAt
  rw [List.length_append, List.length_append, List.length_take, List.length_drop, List.length_singleton]
  omega
def fixed : List (Key × V) := [(.inr "if", .str "iff"), (.inr "is", .str "iss"), (.inr "end", .str "en"), (.inr "rest", .str "res")]
theorem fixed_merge : mergeK [] fixed = fixed := by decide +kernel
theorem fixed_get (w : Str) : (valV fixed (.inr w : Key)).getD (.str w) = .str (fixW w) := by
  unfold fixed fixW
  by_cases h1 : w = "if"
  · rw [if_pos h1, valV_pos (by rw [h1])]
    rfl
  rw [if_neg h1, valV_neg (fun z => h1 (Sum.inr.inj z).symm)]
  by_cases h2 : w = "is"
  · rw [if_pos h2, valV_pos (by rw [h2])]
    rfl
  rw [if_neg h2, valV_neg (fun z => h2 (Sum.inr.inj z).symm)]
  by_cases h3 : w = "end"
  · rw [if_pos h3, valV_pos (by rw [h3])]
    rfl
  rw [if_neg h3, valV_neg (fun z => h3 (Sum.inr.inj z).symm)]
  by_cases h4 : w = "rest"
  · rw [if_pos h4, valV_pos (by rw [h4])]
    rfl
  rw [if_neg h4, valV_neg (fun z => h4 (Sum.inr.inj z).symm), valV_nil]
  rfl
def Words (many most : Int) (ws : List Str) : Prop := ∃ (st : List Nat) (at_ s0 : Nat), (st.length : Int) < most ∧ (∀ c ∈ st, c ∈ letters) ∧ at_ ≤ st.length ∧ s0 < 26 ∧
  ws = (List.range many.toNat).map fun k => fixW (SX.S (wordAt st at_ s0 k))
def spWords : Sp := fun vs H Q _ => ∃ (b r : Addr) (many most : Int), vs = [.ref b, .int many, .int most] ∧ BagAt H b r ∧ 0 ≤ many ∧ many ≤ 100 ∧ 1 ≤ most ∧ most ≤ 100 ∧
  ∀ (ws : List Str) (p : Addr) (H' : Hp), Words many most ws → But b H H' → BagAt H' b r → H p = none → H' p = some (.lst (ws.map V.str)) → p ≠ b → Q (.ref p) H'
section
variable {P : Program} {w : World} {K : PySem.W.Frag} {mg : Str → Option Value} {base : Heap} {f : Addr} {fd : FuncData}
theorem ok_law_words (F : Fun K "_law_words" "_law_words" s_law_words f fd) (T : Txt mg) (c_law_take : Cal P w K mg base 1 "_law_take" spTake) (c_law_of : Cal P w K mg base 2 "_law_of" (spOf K)) : FnOk P w K mg base CX0 3 f fd ["_law_bag_z", "_law_many", "_law_most"] spWords := by
  refine F.ok sc_law_words (fun vs H Q E h => ?_) (fun cdv A outer s H vs Q E hr h => ?_)
  · obtain ⟨b, r, many, most, rfl, _⟩ := h
    rfl
  · obtain ⟨b, r, many, most, rfl, hb, k0, k1, l0, l1, q⟩ := h
    refine ⟨_, (pss_cons (ps_set (i := 3) sc_law_words.nd rfl (.inr rfl) pe_str)
      (pss_cons (ps_set (i := 4) sc_law_words.nd rfl (.inr rfl) (pe_joinX K pe_str (pe_lc (own := [("_law_k", 9)]) (g := gName 9) (tt := tYes) (by rfl) sc_law_words.nd (pi_range1 (by rfl) T.range (pa_cons (pe_c c_law_take hr (by omega) (by rfl) (pa_cons (pv 0) (pa_cons (pv 2) pa_nil))) pa_nil)) (blkOk_by (own := [("_law_k", 9)]) (N := ["_law_bag_z", "_law_many", "_law_most", "_law_letters", "_law_stem", "_law_at", "_law_start", "_law_found", "_law_fixed", "_law_k", "_law_word_z"]) (sc := defScope s_law_words) (by decide +kernel)) (fun _ _ _ _ _ => pg_name (i := 9) sc_law_words.nd rfl (Or.inl rfl)) (fun _ _ _ _ _ => pts_nil) (fun _ _ _ _ _ => (pe_c c_law_of hr (by omega) (by rfl) (pa_cons (pv 0) (pa_cons (pv 3) pa_nil)))))))
      (pss_cons (ps_asg (pe_tup (pa_cons (pe_c c_law_take hr (by omega) (by rfl) (pa_cons (pv 0) (pa_cons (pe_op (op_addX K) (pe_callB (call_lenX K) (by rfl) T.len PySem.boot_len (pa_cons (pv 4) pa_nil)) pe_int) pa_nil))) (pa_cons (pe_c c_law_take hr (by omega) (by rfl) (pa_cons (pv 0) (pa_cons pe_int pa_nil))) pa_nil))) (pg_tupX K (pg_tup (n := 2) (by rfl) (pgs_cons (pg_name (i := 5) sc_law_words.nd rfl (.inr rfl)) (pgs_cons (pg_name (i := 6) sc_law_words.nd rfl (.inr rfl)) pgs_nil)))))
      (pss_cons (ps_setLc (i := 7) (own := [("_law_k", 9)]) (g := gName 9) (tt := tYes) (by rfl) sc_law_words.nd rfl rfl (sw_true rfl rfl rfl (by decide +kernel)) (pi_range1 (by rfl) T.range (pa_cons (pv 1) pa_nil)) (blkOk_by (own := [("_law_k", 9)]) (N := ["_law_bag_z", "_law_many", "_law_most", "_law_letters", "_law_stem", "_law_at", "_law_start", "_law_found", "_law_fixed", "_law_k", "_law_word_z"]) (sc := defScope s_law_words) (by decide +kernel)) (fun _ _ _ _ _ => pg_name (i := 9) sc_law_words.nd rfl (Or.inl rfl)) (fun _ _ _ _ _ => pts_nil) (fun _ _ _ _ _ => (pe_op (op_addX K) (pe_op (op_addX K) (pe_slice (sl_X K) (pv 4) po_none (po_some (pv 5))) (pe_ix (ix_X K) (pv 3) (pe_op op_mod (pe_callTy cr_int (by rfl) T.int (by decide +kernel) (pa_cons (pe_op (op_addX K) (pv 6) (pe_op op_mulX pe_int (pv 9))) pa_nil)) pe_int) (fun _ _ => rfl))) (pe_slice (sl_X K) (pv 4) (po_some (pv 5)) po_none))))
      (pss_cons (ps_set (i := 8) sc_law_words.nd rfl (.inr rfl) (pe_disp (pps_cons pe_str pe_str (pps_cons pe_str pe_str (pps_cons pe_str pe_str (pps_cons pe_str pe_str pps_nil)))) (by rfl) (by rfl) (fun z => by cases z) (by decide)))
      (pss_one (ps_ret (pe_lc (own := [("_law_word_z", 10)]) (g := gName 10) (tt := tYes) (by rfl) sc_law_words.nd (pi_listX K (pv 7)) (blkOk_by (own := [("_law_word_z", 10)]) (N := ["_law_bag_z", "_law_many", "_law_most", "_law_letters", "_law_stem", "_law_at", "_law_start", "_law_found", "_law_fixed", "_law_k", "_law_word_z"]) (sc := defScope s_law_words) (by decide +kernel)) (fun _ _ _ _ _ => pg_name (i := 10) sc_law_words.nd rfl (Or.inl rfl)) (fun _ _ _ _ _ => pts_nil) (fun _ _ _ _ _ => (pe_dget2 (hu_of hr) (pv 8) (pv 10) (pv 10) ⟨rfl, rfl, rfl, rfl⟩)))))))))), ?_⟩
    change (_ : TS) _ [some (V.ref b), some (.int many), some (.int most), none, none, none, none, none, none, none, none] _
    k_extra "rr"
    refine ⟨b, r, _, rfl, hb, l0, by omega, fun n1 H1 bb1 hb1 n10 n11 => ?_⟩
    k_extra "rr"
    intro D nD
    refine lc_range (lo := 0) (n := n1.toNat) (fun i H' => ∃ cs : List Nat, cs.length = i ∧ (∀ c ∈ cs, c ∈ letters) ∧ H' D = some (.lst (cs.map fun c => V.str ⟨#[c]⟩)) ∧ But b H1 H' ∧ BagAt H' b r)
      ⟨[], rfl, (fun _ h => by cases h), upd_same, But.new nD, hb1.new nD⟩ ?_ ?_
    · rintro i H' hi ⟨cs, ec, hc, eD, bb, hb'⟩
      k_extra "rr"
      refine ⟨rfl, ?_⟩
      k_extra "rr"
      refine ⟨b, r, _, rfl, hb', .inl ⟨_, rfl, by decide +kernel, by decide +kernel, fun c H2 hc2 bb2 hb2 => ?_⟩⟩
      obtain ⟨nDb, nDr⟩ := hb1.ne_none nD
      refine ⟨_, bb2 _ _ eD nDb, by rw [List.length_map, sizeLine_eq]; omega, cs ++ [c], by rw [List.length_append, ec]; rfl, fun d hd => ?_, ?_, (bb.trans bb2).mutNew nD, hb2.mut hb1 nD⟩
      · rcases List.mem_append.mp hd with h | h
        · exact hc d h
        · rw [List.mem_singleton.mp h]
          rw [letters_eq] at hc2
          exact hc2
      · rw [upd_same, List.map_append]
        rfl
    · rintro H' ⟨cs, ec, hc, eD, bb, hb'⟩
      have eD' : H' D = some (.lst ((cs.map fun c => (⟨#[c]⟩ : Str)).map V.str)) := by
        rw [List.map_map]
        exact eD
      rw [empty_S]
      refine joinL (SqL.of eD') (by rw [len_sg, S_len0, Nat.mul_zero]; omega) ?_
      rw [join_sg]
      have hs : (SX.S cs).length ≤ sizeLine := by rw [SX.S_len, sizeLine_eq]; omega
      k_extra "rr"
      have hs2 : (((SX.S cs).length : Nat) : Int) = cs.length := by rw [SX.S_len]
      refine ⟨b, r, _, rfl, hb', by omega, by omega, fun n2 H2 bb2 hb2 n20 n21 => ?_⟩
      k_extra "rr"
      refine ⟨b, r, _, rfl, hb2, by omega, by omega, fun n3 H3 bb3 hb3 n30 n31 => ?_⟩
      k_extra "rr"
      refine ⟨by k_extra "sz", fun p np => ?_⟩
      k_extra "rr"
      have hbP := hb3.new (o := .tup [V.int n2, V.int n3]) np
      have bbP : But b H (upd H3 p (.tup [V.int n2, V.int n3])) := ((((bb1.trans bb).trans bb2).trans bb3).trans (But.new np))
      generalize upd H3 p (.tup [V.int n2, V.int n3]) = HP at hbP bbP
      intro L nL
      refine lc_range (lo := 0) (n := many.toNat) (fun i H' => H' = upd HP L (.lst ((List.range i).map fun k => V.str (SX.S (wordAt cs n2.toNat n3.toNat k))))) rfl ?_ ?_
      · rintro i H' hi rfl
        k_extra "rr"
        refine ⟨rfl, ?_⟩
        k_extra "rr"
        rw [cut_to cs n20]
        k_extra "rr"
        have hix : ((n3 + 5 * (0 + (i : Int))) % 26) = (((n3.toNat + 5 * i) % 26 : Nat) : Int) := by omega
        have hlt : (n3.toNat + 5 * i) % 26 < letters.length := Nat.mod_lt _ (by decide)
        refine ixS (k := letters.getD ((n3.toNat + 5 * i) % 26) 0) (by decide +kernel) ?_ ?_
        · rw [hix, letters_eq]
          refine atI_nat ?_
          show letters[(n3.toNat + 5 * i) % 26]? = some (letters.getD ((n3.toNat + 5 * i) % 26) 0)
          rw [List.getElem?_eq_getElem hlt, List.getD_eq_getElem?_getD, List.getElem?_eq_getElem hlt]
          rfl
        have h1 : (SX.S (cs.take n2.toNat)).length + (⟨#[letters.getD ((n3.toNat + 5 * i) % 26) 0]⟩ : Str).length ≤ sizeLine := by
          rw [SX.S_len, List.length_take, sizeLine_eq]
          show _ + 1 ≤ _
          omega
        refine addS h1 ?_
        rw [show (⟨#[letters.getD ((n3.toNat + 5 * i) % 26) 0]⟩ : Str) = SX.S [letters.getD ((n3.toNat + 5 * i) % 26) 0] from rfl, SX.S_cat]
        k_extra "rr"
        rw [cut_from cs n20]
        refine addS ?_ ?_
        · rw [SX.S_len, SX.S_len, List.length_append, List.length_take, List.length_drop, sizeLine_eq]
          show _ + 1 + _ ≤ _
          omega
        rw [SX.S_cat]
        refine ⟨_, upd_same, ?_, ?_⟩
        · rw [List.length_map, List.length_range, sizeLine_eq]
          omega
        · rw [upd_upd, List.range_succ, List.map_append]
          rfl
      · rintro H' rfl
        k_extra "rr"
        refine disp fun d nd => ?_
        k_extra "rr"
        refine ⟨upd_same, fixed, rfl, by decide, ?_⟩
        rw [upd_upd, fixed_merge]
        have nLd : L ≠ d := ne_of_none upd_same nd
        have nd0 := un0 nd
        have eL : (upd (upd HP L (.lst ((List.range many.toNat).map fun k => V.str (SX.S (wordAt cs n2.toNat n3.toNat k))))) d (.dK fixed)) L = some (.lst ((List.range many.toNat).map fun k => V.str (SX.S (wordAt cs n2.toNat n3.toNat k)))) := upd2 nLd upd_same
        have bbL : But b H (upd HP L (.lst ((List.range many.toNat).map fun k => V.str (SX.S (wordAt cs n2.toNat n3.toNat k))))) := bbP.trans (But.new nL)
        have hbL := hbP.new (o := .lst ((List.range many.toNat).map fun k => V.str (SX.S (wordAt cs n2.toNat n3.toNat k)))) nL
        have bbD := bbL.trans (But.new (o := .dK fixed) nd)
        have hbD := hbL.new (o := .dK fixed) nd
        have eD2 : (upd (upd HP L (.lst ((List.range many.toNat).map fun k => V.str (SX.S (wordAt cs n2.toNat n3.toNat k))))) d (.dK fixed)) d = some (.dK fixed) := upd_same
        generalize upd (upd HP L (.lst ((List.range many.toNat).map fun k => V.str (SX.S (wordAt cs n2.toNat n3.toNat k))))) d (.dK fixed) = HD at eL eD2 bbD hbD
        k_extra "rr"
        intro R nR
        have nLR : L ≠ R := ne_of_none eL nR
        have ndR : d ≠ R := ne_of_none eD2 nR
        refine lc_list (K := K) (a := L) (xs := (List.range many.toNat).map fun k => V.str (SX.S (wordAt cs n2.toNat n3.toNat k))) (fun i H' => H' = upd HD R (.lst ((List.range i).map fun k => V.str (fixW (SX.S (wordAt cs n2.toNat n3.toNat k)))))) rfl ?_ ?_ ?_
        · rintro i H' _ rfl
          exact SqL.of (upd2 nLR eL)
        · rintro i x H' hi rfl
          obtain ⟨u, hu, rfl⟩ := map_at hi
          obtain ⟨hlt, rfl⟩ := List.getElem?_eq_some_iff.mp hu
          rw [List.length_range] at hlt
          rw [List.getElem_range]
          k_extra "rr"
          refine ⟨rfl, ?_⟩
          k_extra "rr"
          refine ⟨d, rfl, .inl ⟨fixed, .inl (upd2 ndR eD2)⟩, ?_⟩
          k_extra "rr"
          refine ⟨_, DGet.k (k := .inr _) (upd2 ndR eD2), ?_⟩
          rw [fixed_get]
          refine ⟨_, upd_same, ?_, ?_⟩
          · rw [List.length_map, List.length_range, sizeLine_eq]
            omega
          · rw [upd_upd, List.range_succ, List.map_append]
            rfl
        · rintro H' rfl
          k_extra "rr"
          refine q ((List.range many.toNat).map fun k => fixW (SX.S (wordAt cs n2.toNat n3.toNat k))) R _ ⟨cs, n2.toNat, n3.toNat, by omega, hc, by omega, by omega, rfl⟩ (bbD.trans (But.new nR)) (hbD.new nR) (bbD.free hbD.ex nR) ?_ (hbD.ne_none nR).1
          rw [upd_same, List.length_map, List.length_range, List.map_map]
          rfl
end

theorem letters_get {i : Nat} (h : i < 26) : letters.getD i 0 ∈ letters := by
  rw [List.getD_eq_getElem?_getD, List.getElem?_eq_getElem (show i < letters.length from h)]
  exact List.getElem_mem h
theorem wordAt_ok {st : List Nat} {at_ s0 k : Nat} (h : ∀ c ∈ st, c ∈ letters) : (∀ c ∈ wordAt st at_ s0 k, c ∈ letters) ∧ 1 ≤ (wordAt st at_ s0 k).length ∧ (wordAt st at_ s0 k).length ≤ st.length + 1 := by
  refine ⟨fun c hc => ?_, ?_, wordAt_len st at_ s0 k⟩
  · unfold wordAt at hc
    rcases List.mem_append.mp hc with hc | hc
    · rcases List.mem_append.mp hc with hc | hc
      · exact h c (List.mem_of_mem_take hc)
      · rw [List.mem_singleton.mp hc]
        exact letters_get (Nat.mod_lt _ (by decide))
    · exact h c (List.mem_of_mem_drop hc)
  · unfold wordAt
    rw [List.length_append, List.length_append, List.length_singleton]
    omega
theorem fix_ok {l : List Nat} (h : ∀ c ∈ l, c ∈ letters) (h1 : 1 ≤ l.length) : ∃ m : List Nat, fixW (SX.S l) = SX.S m ∧ (∀ c ∈ m, c ∈ letters) ∧ 1 ≤ m.length ∧ (m.length ≤ l.length ∨ m.length = 3) := by
  unfold fixW
  by_cases h2 : SX.S l = "if"
  · rw [if_pos h2]
    exact ⟨[105, 102, 102], by decide +kernel, by decide, by decide, .inr rfl⟩
  rw [if_neg h2]
  by_cases h3 : SX.S l = "is"
  · rw [if_pos h3]
    exact ⟨[105, 115, 115], by decide +kernel, by decide, by decide, .inr rfl⟩
  rw [if_neg h3]
  by_cases h4 : SX.S l = "end"
  · rw [if_pos h4]
    have e : l = [101, 110, 100] := SX.S_inj (h4.trans (by decide +kernel))
    exact ⟨[101, 110], by decide +kernel, by decide, by decide, .inl (by rw [e]; decide)⟩
  rw [if_neg h4]
  by_cases h5 : SX.S l = "rest"
  · rw [if_pos h5]
    exact ⟨[114, 101, 115], by decide +kernel, by decide, by decide, .inr rfl⟩
  rw [if_neg h5]
  exact ⟨l, rfl, h, h1, .inl (Nat.le_refl _)⟩


/-! ### a text of signs -/
def signsL : List Nat := [32, 33, 35, 36, 38, 39, 40, 41, 42, 43, 44, 45, 46, 47, 58, 59, 60, 61, 62, 63, 64, 91, 93, 94, 95, 123, 124, 125, 126, 48, 49, 56, 57, 65, 77, 90, 97, 109, 122]
section
variable {P : Program} {w : World} {K : PySem.W.Frag} {mg : Str → Option Value} {base : Heap} {f : Addr} {fd : FuncData}
end

/-! ### equal and of the same kinds -/
def sca : V → Bool
  | .non => true
  | .bl _ => true
  | .int _ => true
  | .str _ => true
  | _ => false
def Alk (K : PySem.W.Frag) (H : Hp) : Nat → V → V → Prop
  | 0 => fun _ _ => False
  | n + 1 => fun x y => (x = y ∧ sca x = true) ∨ ∃ a b xs ys, x = .ref a ∧ y = .ref b ∧ ((SqL K H a xs ∧ SqL K H b ys) ∨ (SqT K H a xs ∧ SqT K H b ys)) ∧ xs.length = ys.length ∧ xs.length ≤ 100000 ∧
      ∀ (i : Nat) (x y : V), xs[i]? = some x → ys[i]? = some y → Alk K H n x y
theorem Alk.same {K : PySem.W.Frag} {H H' : Hp} (s : Same H H') : ∀ {n : Nat} {x y : V}, Alk K H n x y → Alk K H' n x y
  | 0, _, _, h => h
  | n + 1, x, y, h => by
    rcases h with h | ⟨a, b, xs, ys, rfl, rfl, h, hl, hz, k⟩
    · exact .inl h
    · refine .inr ⟨a, b, xs, ys, rfl, rfl, ?_, hl, hz, fun i x y h1 h2 => Alk.same s (k i x y h1 h2)⟩
      rcases h with ⟨h1, h2⟩ | ⟨h1, h2⟩
      · exact .inl ⟨s.seq h1, s.seq h2⟩
      · exact .inr ⟨Rg.Same.seqT s h1, Rg.Same.seqT s h2⟩
def spAlike (K : PySem.W.Frag) (n : Nat) : Sp := fun vs H Q _ => ∃ (x y : V), vs = [x, y] ∧ Alk K H n x y ∧ ∀ H', Same H H' → Q (.bl true) H'
section
variable {P : Program} {w : World} {K : PySem.W.Frag} {mg : Str → Option Value} {base : Heap} {f : Addr} {fd : FuncData}
theorem ok_law_alike0 (F : Fun K "_law_alike" "_law_alike" s_law_alike f fd) : FnOk P w K mg base CX0 1 f fd ["_law_found", "_law_due"] (spAlike K 0) := by
  refine F.ok sc_law_alike (fun vs H Q E h => ?_) (fun cdv A outer s H vs Q E hr h => ?_)
  · obtain ⟨x, y, rfl, _⟩ := h
    rfl
  · obtain ⟨x, y, rfl, h, _⟩ := h
    exact h.elim
theorem ok_law_alike1 (F : Fun K "_law_alike" "_law_alike" s_law_alike f fd) (T : Txt mg) {n : Nat} (c_law_alike : Cal P w K mg base (n + 1) "_law_alike" (spAlike K n)) : FnOk P w K mg base CX0 (n + 2) f fd ["_law_found", "_law_due"] (spAlike K (n + 1)) := by
  refine F.ok sc_law_alike (fun vs H Q E h => ?_) (fun cdv A outer s H vs Q E hr h => ?_)
  · obtain ⟨x, y, rfl, _⟩ := h
    rfl
  · obtain ⟨x, y, rfl, h, q⟩ := h
    refine ⟨_, (pss_cons (ps_if (PW.pt (pw_or (pt_cmpR op_isNn (pv 1) pe_non (nomark _)) (pw_or1 (pt_cmpR op_isNn (pv 0) pe_non (nomark _))))) (pss_one (ps_ret (pe_and (pe_cmpR op_isNn (pv 1) pe_non (nomark _)) (pe_one (pe_cmpR op_isNn (pv 0) pe_non (nomark _)))))) pss_nil)
      (pss_cons (ps_if (PW.pt (pw_or (pt_val (pe_callB (cr_isi K) (by rfl) T.isinstance (by decide +kernel) (pa_cons (pv 1) (pa_cons (pe_bltn (v := .ty "bool") (by rfl) T.bool (by decide +kernel) rfl) pa_nil)))) (pw_or1 (pt_val (pe_callB (cr_isi K) (by rfl) T.isinstance (by decide +kernel) (pa_cons (pv 0) (pa_cons (pe_bltn (v := .ty "bool") (by rfl) T.bool (by decide +kernel) rfl) pa_nil))))))) (pss_one (ps_ret (pe_and (pe_callB (cr_isi K) (by rfl) T.isinstance (by decide +kernel) (pa_cons (pv 1) (pa_cons (pe_bltn (v := .ty "bool") (by rfl) T.bool (by decide +kernel) rfl) pa_nil))) (pe_and (pe_callB (cr_isi K) (by rfl) T.isinstance (by decide +kernel) (pa_cons (pv 0) (pa_cons (pe_bltn (v := .ty "bool") (by rfl) T.bool (by decide +kernel) rfl) pa_nil))) (pe_one (pe_cmpR (op_eqX K hr) (pv 0) (pv 1) (nomark _))))))) pss_nil)
      (pss_cons (ps_if (pt_val (pe_callB (cr_isiT K) (by rfl) T.isinstance (by decide +kernel) (pa_cons (pv 1) (pa_cons (pe_tup (pa_cons (pe_bltn (v := .ty "int") (by rfl) T.int (by decide +kernel) rfl) (pa_cons (pe_bltn (v := .ty "str") (by rfl) T.str (by decide +kernel) rfl) pa_nil))) pa_nil)))) (pss_one (ps_ret (pe_and (pe_callB (cr_isiT K) (by rfl) T.isinstance (by decide +kernel) (pa_cons (pv 0) (pa_cons (pe_tup (pa_cons (pe_bltn (v := .ty "int") (by rfl) T.int (by decide +kernel) rfl) (pa_cons (pe_bltn (v := .ty "str") (by rfl) T.str (by decide +kernel) rfl) pa_nil))) pa_nil))) (pe_and (pe_cmpR (op_eqX K hr) (pe_callB (cr_isi K) (by rfl) T.isinstance (by decide +kernel) (pa_cons (pv 0) (pa_cons (pe_bltn (v := .ty "int") (by rfl) T.int (by decide +kernel) rfl) pa_nil))) (pe_callB (cr_isi K) (by rfl) T.isinstance (by decide +kernel) (pa_cons (pv 1) (pa_cons (pe_bltn (v := .ty "int") (by rfl) T.int (by decide +kernel) rfl) pa_nil))) (nomark _)) (pe_one (pe_cmpR (op_eqX K hr) (pv 0) (pv 1) (nomark _))))))) pss_nil)
      (pss_cons (ps_if (pt_val (pe_callB (cr_isi K) (by rfl) T.isinstance (by decide +kernel) (pa_cons (pv 1) (pa_cons (pe_bltn (v := .ty "dict") (by rfl) T.dict (by decide +kernel) rfl) pa_nil)))) (pss_cons (ps_if (PW.pt (pw_or (pt_not (pt_val (pe_callB (cr_isi K) (by rfl) T.isinstance (by decide +kernel) (pa_cons (pv 0) (pa_cons (pe_bltn (v := .ty "dict") (by rfl) T.dict (by decide +kernel) rfl) pa_nil))))) (pw_or1 (pt_cmpR (op_neX K hr) (pe_callB (call_sortedD (by rfl)) (by rfl) T.sorted (by decide +kernel) (pa_cons (pv 0) pa_nil)) (pe_callB (call_sortedD (by rfl)) (by rfl) T.sorted (by decide +kernel) (pa_cons (pv 1) pa_nil)) (nomark _))))) (pss_one (ps_ret pe_bl)) pss_nil)
      (pss_one (ps_ret (pe_callB (cr_allX K (by rfl)) (by rfl) T.all (by decide +kernel) (pa_cons (pe_lock (pe_lc (own := [("_law_key", 2)]) (g := gName 2) (tt := tYes) (by rfl) sc_law_alike.nd (pi_keys (pv 1)) (blkOk_by (own := [("_law_key", 2)]) (N := ["_law_found", "_law_due", "_law_key", "_law_one", "_law_two"]) (sc := defScope s_law_alike) (by decide +kernel)) (fun _ _ _ _ _ => pg_name (i := 2) sc_law_alike.nd rfl (Or.inl rfl)) (fun _ _ _ _ _ => pts_nil) (fun _ _ _ _ _ => (pe_c c_law_alike hr (by omega) (by rfl) (pa_cons (pe_dget (hu_of hr) (pv 0) (pv 2) (fun _ _ => rfl)) (pa_cons (pe_dget (hu_of hr) (pv 1) (pv 2) (fun _ _ => rfl)) pa_nil)))))) pa_nil))))) pss_nil)
      (pss_cons (ps_if (PW.pt (pw_or (pt_cmpR (op_neX K hr) (pe_callB (cr_isi K) (by rfl) T.isinstance (by decide +kernel) (pa_cons (pv 1) (pa_cons (pe_bltn (v := .ty "tuple") (by rfl) T.tuple (by decide +kernel) rfl) pa_nil))) (pe_callB (cr_isi K) (by rfl) T.isinstance (by decide +kernel) (pa_cons (pv 0) (pa_cons (pe_bltn (v := .ty "tuple") (by rfl) T.tuple (by decide +kernel) rfl) pa_nil))) (nomark _)) (pw_or1 (pt_cmpR (op_neX K hr) (pe_callB (cr_isi K) (by rfl) T.isinstance (by decide +kernel) (pa_cons (pv 1) (pa_cons (pe_bltn (v := .ty "list") (by rfl) T.list (by decide +kernel) rfl) pa_nil))) (pe_callB (cr_isi K) (by rfl) T.isinstance (by decide +kernel) (pa_cons (pv 0) (pa_cons (pe_bltn (v := .ty "list") (by rfl) T.list (by decide +kernel) rfl) pa_nil))) (nomark _))))) (pss_one (ps_ret pe_bl)) pss_nil)
      (pss_one (ps_ret (pe_and (pe_cmpR (op_eqX K hr) (pe_callB (call_lenX K) (by rfl) T.len PySem.boot_len (pa_cons (pv 0) pa_nil)) (pe_callB (call_lenX K) (by rfl) T.len PySem.boot_len (pa_cons (pv 1) pa_nil)) (nomark _)) (pe_one (pe_callB (cr_allX K (by rfl)) (by rfl) T.all (by decide +kernel) (pa_cons (pe_lc (own := [("_law_one", 3), ("_law_two", 4)])  (tt := tYes) (by rfl) sc_law_alike.nd (pi_zipX K (RZ.pi_zipA (by rfl) T.zip (pa_cons (pv 0) (pa_cons (pv 1) pa_nil)))) (blkOk_by (own := [("_law_one", 3), ("_law_two", 4)]) (N := ["_law_found", "_law_due", "_law_key", "_law_one", "_law_two"]) (sc := defScope s_law_alike) (by decide +kernel)) (fun _ _ _ _ _ => pg_tupX K (pg_tup (n := 2) (by rfl) (pgs_cons (pg_name (i := 3) sc_law_alike.nd rfl (Or.inl rfl)) (pgs_cons (pg_name (i := 4) sc_law_alike.nd rfl (Or.inl rfl)) pgs_nil)))) (fun _ _ _ _ _ => pts_nil) (fun _ _ _ _ _ => (pe_c c_law_alike hr (by omega) (by rfl) (pa_cons (pv 3) (pa_cons (pv 4) pa_nil))))) pa_nil))))))))))), ?_⟩
    rcases h with ⟨rfl, hx⟩ | ⟨a, b, xs, ys, rfl, rfl, h, hl, hz, k⟩
    · cases x with
      | non =>
        change (_ : TS) _ [some V.non, some V.non, none, none, none] _
        k_extra "rr"
        exact q H (Same.refl H)
      | bl c =>
        change (_ : TS) _ [some (V.bl c), some (V.bl c), none, none, none] _
        k_extra "rr"
        rw [decide_eq_true rfl]
        exact q H (Same.refl H)
      | int i =>
        change (_ : TS) _ [some (V.int i), some (V.int i), none, none, none] _
        k_extra "rr"
        refine ⟨by k_extra "sz", fun t nt => ?_⟩
        k_extra "rr"
        refine isiT (b := true) upd_same (cls2 _ _) (.base (.int _)) (kitAny2 kB_int_int kB_int_str) ?_
        k_extra "rr"
        refine ⟨by k_extra "sz", fun t2 nt2 => ?_⟩
        k_extra "rr"
        refine isiT (b := true) upd_same (cls2 _ _) (.base (.int _)) (kitAny2 kB_int_int kB_int_str) ?_
        k_extra "rr"
        rw [decide_eq_true rfl]
        exact q _ ((same_upd nt).trans (same_upd nt2))
      | str z =>
        change (_ : TS) _ [some (V.str z), some (V.str z), none, none, none] _
        k_extra "rr"
        refine ⟨by k_extra "sz", fun t nt => ?_⟩
        k_extra "rr"
        refine isiT (b := true) upd_same (cls2 _ _) (.base (.str _)) (kitAny2 kB_str_int kB_str_str) ?_
        k_extra "rr"
        refine ⟨by k_extra "sz", fun t2 nt2 => ?_⟩
        k_extra "rr"
        refine isiT (b := true) upd_same (cls2 _ _) (.base (.str _)) (kitAny2 kB_str_int kB_str_str) ?_
        k_extra "rr"
        rw [decide_eq_true rfl]
        exact q _ ((same_upd nt).trans (same_upd nt2))
      | byt _ => cases hx
      | flt _ => cases hx
      | ref _ => cases hx
      | ty _ => cases hx
    · rcases h with ⟨h1, h2⟩ | ⟨h1, h2⟩
      · change (_ : TS) _ [some (V.ref a), some (V.ref b), none, none, none] _
        have t1 := tyx_L h1
        have t2 := tyx_L h2
        k_extra "rr"
        refine ⟨by k_extra "sz", fun t nt => ?_⟩
        have s1 : Same H (upd H t (.tup [V.ty "int", V.ty "str"])) := same_upd nt
        have h1' := Same.seq s1 h1
        have h2' := Same.seq s1 h2
        have t1' := tyx_L h1'
        have t2' := tyx_L h2'
        k_extra "rr"
        refine isiT (b := false) upd_same (cls2 _ _) t2' (kitAny2 kB_list_int kB_list_str) ?_
        generalize upd H t (.tup [V.ty "int", V.ty "str"]) = H1 at s1 h1' h2' t1' t2'
        k_extra "rr"
        rw [hl, decide_eq_true rfl]
        k_extra "rr"
        refine ⟨a, b, xs, ys, rfl, .inl ⟨h1', h2', fun D nD => ?_⟩⟩
        refine lc_it (walk_zip (K := K) (a := a) (b := b) (xs := xs) (ys := ys) (n := xs.length) (by rw [hl, Nat.min_self])) (fun i H' => H' D = some (.lst ((List.replicate i true).map V.bl)) ∧ Same H1 H')
          ⟨upd_same, same_upd nD⟩ (fun i H' _ p => ⟨Same.seq p.2 h1', Same.seq p.2 h2'⟩) ?_ ?_
        · rintro i x H2 H3 hi ⟨eD, s2⟩ ⟨T, x1, y1, rfl, nT, rfl, e1, e2⟩
          k_extra "rr"
          refine ⟨rfl, ?_⟩
          k_extra "rr"
          have s3 : Same H2 (upd H2 T (.tup [x1, y1])) := same_upd nT
          refine ⟨x1, y1, rfl, ((k i x1 y1 e1 e2).same (s1.trans s2)).same s3, fun H4 s4 => ?_⟩
          refine ⟨_, s4 _ _ (s3 _ _ eD), ?_, ?_, fun c o hc => ?_⟩
          · rw [List.length_map, List.length_replicate]
            rw [sizeLine_eq]
            omega
          · rw [upd_same, List.replicate_succ', List.map_append]
            rfl
          · rw [upd_ne (ne_of_none hc nD)]
            exact s4 _ _ (s3 _ _ (s2 _ _ hc))
        · rintro H2 ⟨eD, s2⟩
          k_extra "rr"
          refine all_ (SqL.of eD) ?_
          rw [show (List.replicate xs.length true).all id = true from List.all_eq_true.mpr fun z hz => List.eq_of_mem_replicate hz]
          exact q H2 (s1.trans s2)
      · change (_ : TS) _ [some (V.ref a), some (V.ref b), none, none, none] _
        have t1 := tyx_T h1
        have t2 := tyx_T h2
        k_extra "rr"
        refine ⟨by k_extra "sz", fun t nt => ?_⟩
        have s1 : Same H (upd H t (.tup [V.ty "int", V.ty "str"])) := same_upd nt
        have h1' := Rg.Same.seqT s1 h1
        have h2' := Rg.Same.seqT s1 h2
        have t1' := tyx_T h1'
        have t2' := tyx_T h2'
        k_extra "rr"
        refine isiT (b := false) upd_same (cls2 _ _) t2' (kitAny2 kB_tuple_int kB_tuple_str) ?_
        generalize upd H t (.tup [V.ty "int", V.ty "str"]) = H1 at s1 h1' h2' t1' t2'
        k_extra "rr"
        rw [hl, decide_eq_true rfl]
        k_extra "rr"
        refine ⟨a, b, xs, ys, rfl, .inr ⟨h1', h2', fun D nD => ?_⟩⟩
        refine lc_it (walk_zipT (K := K) (a := a) (b := b) (xs := xs) (ys := ys) (n := xs.length) (by rw [hl, Nat.min_self])) (fun i H' => H' D = some (.lst ((List.replicate i true).map V.bl)) ∧ Same H1 H')
          ⟨upd_same, same_upd nD⟩ (fun i H' _ p => ⟨Rg.Same.seqT p.2 h1', Rg.Same.seqT p.2 h2'⟩) ?_ ?_
        · rintro i x H2 H3 hi ⟨eD, s2⟩ ⟨T, x1, y1, rfl, nT, rfl, e1, e2⟩
          k_extra "rr"
          refine ⟨rfl, ?_⟩
          k_extra "rr"
          have s3 : Same H2 (upd H2 T (.tup [x1, y1])) := same_upd nT
          refine ⟨x1, y1, rfl, ((k i x1 y1 e1 e2).same (s1.trans s2)).same s3, fun H4 s4 => ?_⟩
          refine ⟨_, s4 _ _ (s3 _ _ eD), ?_, ?_, fun c o hc => ?_⟩
          · rw [List.length_map, List.length_replicate]
            rw [sizeLine_eq]
            omega
          · rw [upd_same, List.replicate_succ', List.map_append]
            rfl
          · rw [upd_ne (ne_of_none hc nD)]
            exact s4 _ _ (s3 _ _ (s2 _ _ hc))
        · rintro H2 ⟨eD, s2⟩
          k_extra "rr"
          refine all_ (SqL.of eD) ?_
          rw [show (List.replicate xs.length true).all id = true from List.all_eq_true.mpr fun z hz => List.eq_of_mem_replicate hz]
          exact q H2 (s1.trans s2)
end

/-! ### is_sign -/
def signB (c : Nat) : Bool := decide (32 ≤ c) && (decide (c ≤ 126) && !decide (c = 34))
def spIsSign : Sp := fun vs H Q _ => ∃ (c : Nat), vs = [.str ⟨#[c]⟩] ∧ Q (.bl (signB c)) H
section
variable {P : Program} {w : World} {K : PySem.W.Frag} {mg : Str → Option Value} {base : Heap} {f : Addr} {fd : FuncData}
theorem ok_is_sign (F : Fun K "is_sign" "is_sign" s_is_sign f fd) (T : Txt mg) : FnOk P w K mg base CX0 1 f fd ["sign"] spIsSign := by
  refine F.ok sc_is_sign (fun vs H Q E h => ?_) (fun cdv A outer s H vs Q E hr h => ?_)
  · obtain ⟨c, rfl, _⟩ := h
    rfl
  · obtain ⟨c, rfl, q⟩ := h
    refine ⟨_, (pss_one (ps_ret (pe_and (pe_chain op_leX op_leX pe_str (pv 0) pe_str) (pe_one (pe_cmpR (op_neX K hr) (pv 0) pe_str (nomark _)))))), ?_⟩
    change (_ : TS) _ [some (V.str ⟨#[c]⟩)] _
    have e1 : (!decide ((⟨#[c]⟩ : Str).cps.toList < (Str.ofString " ").cps.toList)) = decide (32 ≤ c) := by
      rw [show (Str.ofString " ").cps.toList = [32] by decide +kernel]
      show (!decide (([c] : List Nat) < [32])) = _
      rw [sgn_lt, ← decide_not]
      exact decide_eq_decide.mpr (by omega)
    have e2 : (!decide ((Str.ofString "~").cps.toList < (⟨#[c]⟩ : Str).cps.toList)) = decide (c ≤ 126) := by
      rw [show (Str.ofString "~").cps.toList = [126] by decide +kernel]
      show (!decide (([126] : List Nat) < [c])) = _
      rw [sgn_lt, ← decide_not]
      exact decide_eq_decide.mpr (by omega)
    have e3 : decide ((⟨#[c]⟩ : Str) = Str.ofString "\"") = decide (c = 34) := by
      rw [show Str.ofString "\"" = (⟨#[34]⟩ : Str) by decide +kernel]
      exact sg_eq c 34
    k_extra "rr"
    rw [e1]
    refine iteD (fun h1 => ?_) (fun h1 => ?_)
    · k_extra "rr"
      rw [e2]
      cases h2 : decide (c ≤ 126) with
      | false =>
        k_extra "rr"
        have e : signB c = false := by
          unfold signB
          rw [h2, Bool.false_and, Bool.and_false]
        rw [← e]
        exact q
      | true =>
        k_extra "rr"
        rw [e3]
        have e : signB c = !decide (c = 34) := by
          unfold signB
          rw [h2, decide_eq_true h1, Bool.true_and, Bool.true_and]
        rw [← e]
        exact q
    · k_extra "rr"
      have e : signB c = false := by
        unfold signB
        rw [decide_eq_false h1, Bool.false_and]
      rw [← e]
      exact q
end

/-! ### kinds and texts -/
def StrOr (K : PySem.W.Frag) (H : Hp) (x : V) : Prop := (∃ l : List Nat, x = .str (SX.S l) ∧ l.length ≤ 100000) ∨ ((∀ z, x ≠ .str z) ∧ ∃ T, TyX K H x (.type T) ∧ kitB T "str" = some false)
def wordB (x : V) (most : Int) : Bool := match x with
  | .str z => decide (1 ≤ (z.length : Int)) && (decide ((z.length : Int) ≤ most) && (z.cps.toList.map fun c => decide (c ∈ letters)).all id)
  | _ => false
def textB (x : V) : Bool := match x with
  | .str z => decide ((z.length : Int) ≤ 20) && (z.cps.toList.map signB).all id
  | _ => false
theorem wordB_no {x : V} (h : ∀ z, x ≠ .str z) (m : Int) : wordB x m = false := by
  cases x with
  | str z => exact absurd rfl (h z)
  | _ => rfl
theorem textB_no {x : V} (h : ∀ z, x ≠ .str z) : textB x = false := by
  cases x with
  | str z => exact absurd rfl (h z)
  | _ => rfl
def spWord (K : PySem.W.Frag) : Sp := fun vs H Q _ => ∃ (x : V) (most : Int), vs = [x, .int most] ∧ StrOr K H x ∧ ∀ H', Same H H' → Q (.bl (wordB x most)) H'
def spKind (K : PySem.W.Frag) : Sp := fun vs H Q _ => ∃ (x : V), vs = [x] ∧ StrOr K H x ∧ ∀ H', Same H H' → Q (.bl (wordB x 6)) H'
def spText (K : PySem.W.Frag) : Sp := fun vs H Q _ => ∃ (x : V), vs = [x] ∧ StrOr K H x ∧ ∀ H', Same H H' → Q (.bl (textB x)) H'
section
variable {P : Program} {w : World} {K : PySem.W.Frag} {mg : Str → Option Value} {base : Heap} {f : Addr} {fd : FuncData}
theorem ok_is_word (F : Fun K "is_word" "is_word" s_is_word f fd) (T : Txt mg) : FnOk P w K mg base CX0 1 f fd ["value", "most"] (spWord K) := by
  refine F.ok sc_is_word (fun vs H Q E h => ?_) (fun cdv A outer s H vs Q E hr h => ?_)
  · obtain ⟨x, m, rfl, _⟩ := h
    rfl
  · obtain ⟨x, m, rfl, hx, q⟩ := h
    refine ⟨_, (pss_one (ps_ret (pe_and (pe_callB (cr_isi K) (by rfl) T.isinstance (by decide +kernel) (pa_cons (pv 0) (pa_cons (pe_bltn (v := .ty "str") (by rfl) T.str (by decide +kernel) rfl) pa_nil))) (pe_and (pe_chain op_leX op_leX pe_int (pe_callB (call_lenX K) (by rfl) T.len PySem.boot_len (pa_cons (pv 0) pa_nil)) (pv 1)) (pe_one (pe_callB (cr_allX K (by rfl)) (by rfl) T.all (by decide +kernel) (pa_cons (pe_lc (own := [("sign", 2)]) (g := gName 2) (tt := tYes) (by rfl) sc_is_word.nd (pi_str (pv 0)) (blkOk_by (own := [("sign", 2)]) (N := ["value", "most", "sign"]) (sc := defScope s_is_word) (by decide +kernel)) (fun _ _ _ _ _ => pg_name (i := 2) sc_is_word.nd rfl (Or.inl rfl)) (fun _ _ _ _ _ => pts_nil) (fun _ _ _ _ _ => (pe_cmpR (op_inX K) (pv 2) (pe_gc (by rfl) T.g_SMALL) (by rfl)))) pa_nil))))))), ?_⟩
    rcases hx with ⟨l, rfl, hl⟩ | ⟨hn, T', hT, hk⟩
    · change (_ : TS) _ [some (V.str (SX.S l)), some (.int m), none] _
      have hs : (SX.S l).length ≤ sizeLine := by rw [SX.S_len, sizeLine_eq]; omega
      k_extra "rr"
      refine iteD (fun h1 => ?_) (fun h1 => ?_)
      · k_extra "rr"
        cases h2 : decide (((SX.S l).length : Int) ≤ m) with
        | false =>
          k_extra "rr"
          have e : wordB (.str (SX.S l)) m = false := by
            show (_ && (decide (((SX.S l).length : Int) ≤ m) && _)) = false
            rw [h2, Bool.false_and, Bool.and_false]
          rw [← e]
          exact q H (Same.refl H)
        | true =>
          k_extra "rr"
          intro D nD
          refine lc_signs (p := fun c => decide (c ∈ letters)) (fun c H' Q' hc q' => ?_) (fun v => rfl) hl ?_
          · k_extra "rr"
            rw [letters_eq]
            exact q'
          · k_extra "rr"
            refine all_ (SqL.of upd_same) ?_
            have e : wordB (.str (SX.S l)) m = (l.map fun c => decide (c ∈ letters)).all id := by
              show (decide (1 ≤ ((SX.S l).length : Int)) && (decide (((SX.S l).length : Int) ≤ m) && _)) = _
              rw [h2, decide_eq_true h1, Bool.true_and, Bool.true_and]
            rw [← e]
            exact q _ (same_upd nD)
      · k_extra "rr"
        have e : wordB (.str (SX.S l)) m = false := by
          show (decide (1 ≤ ((SX.S l).length : Int)) && _) = false
          rw [decide_eq_false h1, Bool.false_and]
        rw [← e]
        exact q H (Same.refl H)
    · change (_ : TS) _ [some x, some (.int m), none] _
      k_extra "rr"
      refine isi hT (kit_ty hk) ?_
      k_extra "rr"
      rw [← wordB_no hn m]
      exact q H (Same.refl H)
theorem ok_is_kind (F : Fun K "is_kind" "is_kind" s_is_kind f fd) (T : Txt mg) (c_is_word : Cal P w K mg base 1 "is_word" (spWord K)) : FnOk P w K mg base CX0 2 f fd ["value"] (spKind K) := by
  refine F.ok sc_is_kind (fun vs H Q E h => ?_) (fun cdv A outer s H vs Q E hr h => ?_)
  · obtain ⟨x, rfl, _⟩ := h
    rfl
  · obtain ⟨x, rfl, hx, q⟩ := h
    refine ⟨_, (pss_one (ps_ret (pe_c c_is_word hr (by omega) (by rfl) (pa_cons (pv 0) (pa_cons (pe_gc (by rfl) T.g_MOST_LETTERS_documents) pa_nil))))), ?_⟩
    change (_ : TS) _ [some x] _
    k_extra "rr"
    exact ⟨x, 6, rfl, hx, fun H' s => q H' s⟩
theorem ok_is_text (F : Fun K "is_text" "is_text" s_is_text f fd) (T : Txt mg) (c_is_sign : Cal P w K mg base 1 "is_sign" spIsSign) : FnOk P w K mg base CX0 2 f fd ["value"] (spText K) := by
  refine F.ok sc_is_text (fun vs H Q E h => ?_) (fun cdv A outer s H vs Q E hr h => ?_)
  · obtain ⟨x, rfl, _⟩ := h
    rfl
  · obtain ⟨x, rfl, hx, q⟩ := h
    refine ⟨_, (pss_one (ps_ret (pe_and (pe_callB (cr_isi K) (by rfl) T.isinstance (by decide +kernel) (pa_cons (pv 0) (pa_cons (pe_bltn (v := .ty "str") (by rfl) T.str (by decide +kernel) rfl) pa_nil))) (pe_and (pe_cmpR op_le (pe_callB (call_lenX K) (by rfl) T.len PySem.boot_len (pa_cons (pv 0) pa_nil)) (pe_gc (by rfl) T.g_MOST_SIGNS) (nomark _)) (pe_one (pe_callB (cr_allX K (by rfl)) (by rfl) T.all (by decide +kernel) (pa_cons (pe_lc (own := [("sign", 1)]) (g := gName 1) (tt := tYes) (by rfl) sc_is_text.nd (pi_str (pv 0)) (blkOk_by (own := [("sign", 1)]) (N := ["value", "sign"]) (sc := defScope s_is_text) (by decide +kernel)) (fun _ _ _ _ _ => pg_name (i := 1) sc_is_text.nd rfl (Or.inl rfl)) (fun _ _ _ _ _ => pts_nil) (fun _ _ _ _ _ => (pe_c c_is_sign hr (by omega) (by rfl) (pa_cons (pv 1) pa_nil)))) pa_nil))))))), ?_⟩
    rcases hx with ⟨l, rfl, hl⟩ | ⟨hn, T', hT, hk⟩
    · change (_ : TS) _ [some (V.str (SX.S l)), none] _
      have hs : (SX.S l).length ≤ sizeLine := by rw [SX.S_len, sizeLine_eq]; omega
      k_extra "rr"
      refine iteD (fun h1 => ?_) (fun h1 => ?_)
      · k_extra "rr"
        intro D nD
        refine lc_signs (p := signB) (fun c H' Q' hc q' => ?_) (fun v => rfl) hl ?_
        · k_extra "rr"
          exact ⟨c, rfl, q'⟩
        · k_extra "rr"
          refine all_ (SqL.of upd_same) ?_
          have e : textB (.str (SX.S l)) = (l.map signB).all id := by
            show (decide (((SX.S l).length : Int) ≤ 20) && _) = _
            rw [decide_eq_true h1, Bool.true_and]
          rw [← e]
          exact q _ (same_upd nD)
      · k_extra "rr"
        have e : textB (.str (SX.S l)) = false := by
          show (decide (((SX.S l).length : Int) ≤ 20) && _) = false
          rw [decide_eq_false h1, Bool.false_and]
        rw [← e]
        exact q H (Same.refl H)
    · change (_ : TS) _ [some x, none] _
      k_extra "rr"
      refine isi hT (kit_ty hk) ?_
      k_extra "rr"
      rw [← textB_no hn]
      exact q H (Same.refl H)
end

/-! ### documents -/
inductive Fo where
  | nil
  | cons (k t : List Nat) (i r : Fo)
namespace Fo
def size : Fo → Nat
  | nil => 0
  | cons _ _ i r => 1 + i.size + r.size
def depth : Fo → Nat
  | nil => 0
  | cons _ _ i r => max (i.depth + 1) r.depth
def len : Fo → Nat
  | nil => 0
  | cons _ _ _ r => r.len + 1
def All (p : List Nat → List Nat → Prop) : Fo → Prop
  | nil => True
  | cons k t i r => p k t ∧ All p i ∧ All p r
def snoc : Fo → List Nat → List Nat → Fo → Fo
  | nil, k, t, i => cons k t i nil
  | cons k' t' i' r, k, t, i => cons k' t' i' (snoc r k t i)
theorem All.imp {p q : List Nat → List Nat → Prop} (h : ∀ k t, p k t → q k t) : ∀ {f : Fo}, f.All p → f.All q
  | nil, _ => trivial
  | cons _ _ _ _, ⟨h1, h2, h3⟩ => ⟨h _ _ h1, All.imp h h2, All.imp h h3⟩
theorem len_le : ∀ f : Fo, f.len ≤ f.size
  | nil => Nat.le_refl 0
  | cons k t i r => by
    have h2 := len_le r
    show r.len + 1 ≤ 1 + i.size + r.size
    omega
end Fo
def TupLe (H H' : Hp) : Prop := ∀ c xs, H c = some (.tup xs) → H' c = some (.tup xs)
theorem TupLe.refl (H : Hp) : TupLe H H := fun _ _ h => h
theorem TupLe.trans {H H1 H2 : Hp} (a : TupLe H H1) (b : TupLe H1 H2) : TupLe H H2 := fun c xs h => b c xs (a c xs h)
theorem TupLe.same {H H' : Hp} (s : Same H H') : TupLe H H' := fun c xs h => s c _ h
theorem TupLe.but {b : Addr} {H H' : Hp} (s : But b H H') {l : List V} (h : H b = some (.lst l)) : TupLe H H' := fun c xs e => s c _ e fun z => by
  rw [z, h] at e
  cases e
theorem TupLe.new {H : Hp} {p : Addr} {o : HO} (h : H p = none) : TupLe H (upd H p o) := TupLe.same (same_upd h)
theorem TupLe.lst {H : Hp} {p : Addr} {l m : List V} (h : H p = some (.lst l)) : TupLe H (upd H p (.lst m)) := fun c xs e => by
  by_cases z : c = p
  · rw [z, h] at e
    cases e
  · rw [upd_ne z]
    exact e
def Items (H : Hp) : Fo → List V → Prop
  | .nil, xs => xs = []
  | .cons k t i r, xs => ∃ p q ys xs', xs = .ref p :: xs' ∧ H p = some (.tup [.str (SX.S k), .str (SX.S t), .ref q]) ∧ H q = some (.tup ys) ∧ Items H i ys ∧ Items H r xs'
def Doc (H : Hp) (f : Fo) (a : Addr) : Prop := ∃ xs, H a = some (.tup xs) ∧ Items H f xs
theorem Items.le {H H' : Hp} (s : TupLe H H') : ∀ {f : Fo} {xs : List V}, Items H f xs → Items H' f xs
  | .nil, _, h => h
  | .cons _ _ _ _, _, ⟨p, q, ys, xs', e, h1, h2, h3, h4⟩ => ⟨p, q, ys, xs', e, s _ _ h1, s _ _ h2, h3.le s, h4.le s⟩
theorem Doc.le {H H' : Hp} (s : TupLe H H') {f : Fo} {a : Addr} : Doc H f a → Doc H' f a := fun ⟨xs, h, i⟩ => ⟨xs, s _ _ h, i.le s⟩
theorem Items.len {H : Hp} : ∀ {f : Fo} {xs : List V}, Items H f xs → xs.length = f.len
  | .nil, _, h => by rw [show _ = _ from h]; rfl
  | .cons _ _ _ r, _, ⟨p, q, ys, xs', e, h1, h2, h3, h4⟩ => by
    rw [e, List.length_cons, h4.len]
    rfl
theorem Items.snoc {H : Hp} {k t : List Nat} {i : Fo} {p q : Addr} {ys : List V} (hp : H p = some (.tup [.str (SX.S k), .str (SX.S t), .ref q])) (hq : H q = some (.tup ys)) (hi : Items H i ys) :
    ∀ {f : Fo} {xs : List V}, Items H f xs → Items H (f.snoc k t i) (xs ++ [.ref p])
  | .nil, _, h => by
    rw [show _ = _ from h]
    exact ⟨p, q, ys, [], rfl, hp, hq, hi, rfl⟩
  | .cons _ _ _ _, _, ⟨p', q', ys', xs', e, h1, h2, h3, h4⟩ => ⟨p', q', ys', xs' ++ [.ref p], by rw [e]; rfl, h1, h2, h3, Items.snoc hp hq hi h4⟩
/-! as plain data -/
def fdata : Fo → List PyData
  | .nil => []
  | .cons k t i r => .tuple [.str (SX.S k), .str (SX.S t), .tuple (fdata i)] :: fdata r
theorem Items.dp {K : PySem.W.Frag} {H : Hp} : ∀ {f : Fo} {xs : List V}, Items H f xs → DpAll K H xs (fdata f)
  | .nil, _, h => by
    rw [show _ = _ from h]
    exact .nil
  | .cons _ _ _ _, _, ⟨p, q, ys, xs', e, h1, h2, h3, h4⟩ => by
    rw [e]
    exact .cons (.tup (SqT.of h1) (.cons (.str _) (.cons (.str _) (.cons (.tup (SqT.of h2) h3.dp) .nil)))) h4.dp
theorem Doc.dp {K : PySem.W.Frag} {H : Hp} {f : Fo} {a : Addr} : Doc H f a → Dp K H (.ref a) (.tuple (fdata f)) := fun ⟨xs, h, i⟩ => .tup (SqT.of h) i.dp
theorem Items.alk {K : PySem.W.Frag} {H : Hp} : ∀ {f : Fo} {n : Nat} {xs ys : List V}, f.size ≤ 1000 → 2 * f.depth ≤ n → Items H f xs → Items H f ys → xs.length = ys.length ∧ xs.length ≤ 1000 ∧ ∀ (i : Nat) (x y : V), xs[i]? = some x → ys[i]? = some y → Alk K H n x y
  | .nil, n, _, _, _, _, h1, h2 => by
    rw [show _ = _ from h1, show _ = _ from h2]
    exact ⟨rfl, Nat.zero_le _, fun i x y h => by cases h⟩
  | .cons k t i r, n, _, _, hz, hn, h1, h2 => by
    have hl1 := h1.len
    have hl2 := h2.len
    have hl := Fo.len_le (.cons k t i r)
    obtain ⟨p, q, ys, xs', e, h1, h2', h3, h4⟩ := h1
    obtain ⟨p2, q2, ys2, xs2, e2, g1, g2, g3, g4⟩ := h2
    have hs : 1 + i.size + r.size ≤ 1000 := hz
    have hd : 2 * max (i.depth + 1) r.depth ≤ n := hn
    obtain ⟨a1, a2, a3⟩ := Items.alk (K := K) (n := n) (by omega) (by omega) h4 g4
    obtain ⟨m, rfl⟩ : ∃ m, n = m + 2 := ⟨n - 2, by omega⟩
    obtain ⟨b1, b2, b3⟩ := Items.alk (K := K) (n := m) (by omega) (by omega) h3 g3
    refine ⟨by rw [hl1, hl2], by rw [hl1]; omega, fun j x y hx hy => ?_⟩
    subst e e2
    cases j with
    | succ j => exact a3 j x y hx hy
    | zero =>
      cases hx
      cases hy
      refine .inr ⟨p, p2, _, _, rfl, rfl, .inr ⟨SqT.of h1, SqT.of g1⟩, rfl, (by show 3 ≤ 100000; decide), fun j x y hx hy => ?_⟩
      rcases j with _ | _ | _ | j
      · cases hx
        cases hy
        exact .inl ⟨rfl, rfl⟩
      · cases hx
        cases hy
        exact .inl ⟨rfl, rfl⟩
      · cases hx
        cases hy
        exact .inr ⟨q, q2, _, _, rfl, rfl, .inr ⟨SqT.of h2', SqT.of g2⟩, b1, by omega, b3⟩
      · cases hx
theorem Doc.alk {K : PySem.W.Frag} {H : Hp} {f : Fo} {a b : Addr} {n : Nat} (hz : f.size ≤ 1000) (hn : 2 * f.depth ≤ n) (h1 : Doc H f a) (h2 : Doc H f b) : Alk K H (n + 1) (.ref a) (.ref b) := by
  obtain ⟨xs, e1, i1⟩ := h1
  obtain ⟨ys, e2, i2⟩ := h2
  obtain ⟨l1, l2, k⟩ := Items.alk (K := K) hz hn i1 i2
  exact .inr ⟨a, b, xs, ys, rfl, rfl, .inr ⟨SqT.of e1, SqT.of e2⟩, l1, by omega, k⟩

/-! ### names -/
def restL : List Nat := [114, 101, 115, 116]
theorem rest_S : Str.ofString "rest" = SX.S restL := by decide +kernel
def GoodK (k : List Nat) : Prop := (∀ c ∈ k, c ∈ letters) ∧ 1 ≤ k.length ∧ k.length ≤ 6 ∧ k ≠ restL
theorem fix_rest (w : Str) : fixW w ≠ "rest" := by
  unfold fixW
  by_cases h2 : w = "if"
  · rw [if_pos h2]
    decide +kernel
  rw [if_neg h2]
  by_cases h3 : w = "is"
  · rw [if_pos h3]
    decide +kernel
  rw [if_neg h3]
  by_cases h4 : w = "end"
  · rw [if_pos h4]
    decide +kernel
  rw [if_neg h4]
  by_cases h5 : w = "rest"
  · rw [if_pos h5]
    decide +kernel
  rw [if_neg h5]
  exact h5
theorem words_good {many most : Int} {ws : List Str} (h0 : 0 ≤ many) (h : Words many most ws) (hm : most ≤ 5) : ∃ ks : List (List Nat), ws = ks.map SX.S ∧ (∀ k ∈ ks, GoodK k) ∧ (ks.length : Int) = many := by
  obtain ⟨st, at_, s0, h1, h2, h3, h4, rfl⟩ := h
  refine ⟨((List.range many.toNat).map fun k => fixW (SX.S (wordAt st at_ s0 k))).map fun z => z.cps.toList, ?_, fun k hk => ?_, ?_⟩
  · rw [List.map_map]
    have e : (SX.S ∘ fun z : Str => z.cps.toList) = id := funext fun z => (str_S z).symm
    rw [e, List.map_id]
  · rw [List.map_map] at hk
    obtain ⟨j, hj, rfl⟩ := List.mem_map.mp hk
    obtain ⟨w1, w2, w3⟩ := wordAt_ok (at_ := at_) (s0 := s0) (k := j) h2
    obtain ⟨m, em, m1, m2, m3⟩ := fix_ok w1 w2
    show GoodK (fixW (SX.S (wordAt st at_ s0 j))).cps.toList
    rw [em]
    have e : (SX.S m).cps.toList = m := by simp [SX.S]
    rw [e]
    refine ⟨m1, m2, by omega, fun z => fix_rest (SX.S (wordAt st at_ s0 j)) ?_⟩
    rw [em, z]
    exact rest_S.symm
  · rw [List.length_map, List.length_map, List.length_range]
    omega
theorem digit_len : ∀ k : Fin 10, (Str.ofString (toString ((k.val : Nat) : Int))).length ≤ 2 := by decide +kernel
theorem digit_len' {k : Int} (h0 : 0 ≤ k) (h1 : k < 10) : (Str.ofString (toString k)).length ≤ 2 := by
  have := digit_len ⟨k.toNat, by omega⟩
  have e : ((k.toNat : Nat) : Int) = k := by omega
  rw [show ((((⟨k.toNat, by omega⟩ : Fin 10).val : Nat) : Int)) = k from e] at this
  exact this
def kws (ks : List (List Nat)) : List V := ks.map fun k => V.str (SX.S k)
section
variable {P : Program} {w : World} {K : PySem.W.Frag} {mg : Str → Option Value} {base : Heap} {f : Addr} {fd : FuncData}
end

/-! ### data of any depth, apart from the list at b -/
mutual
def Dq (b : Addr) (H : Hp) : PyData → V → Prop
  | .none, v => v = .non
  | .bool c, v => v = .bl c
  | .int i, v => v = .int i
  | .str z, v => v = .str z
  | .list ds, v => ∃ a l, v = .ref a ∧ a ≠ b ∧ H a = some (.lst l) ∧ DqA b H ds l
  | .tuple ds, v => ∃ a l, v = .ref a ∧ H a = some (.tup l) ∧ DqA b H ds l
  | .dict _, _ => False
def DqA (b : Addr) (H : Hp) : List PyData → List V → Prop
  | [], l => l = []
  | d :: r, l => ∃ v m, l = v :: m ∧ Dq b H d v ∧ DqA b H r m
end
structure Le (b : Addr) (H H' : Hp) : Prop where
  tup : ∀ c xs, H c = some (.tup xs) → H' c = some (.tup xs)
  lst : ∀ c l, c ≠ b → H c = some (.lst l) → H' c = some (.lst l)
theorem Le.refl (b : Addr) (H : Hp) : Le b H H := ⟨fun _ _ h => h, fun _ _ _ h => h⟩
theorem Le.trans {b : Addr} {H H1 H2 : Hp} (s : Le b H H1) (t : Le b H1 H2) : Le b H H2 := ⟨fun c xs h => t.tup c xs (s.tup c xs h), fun c l n h => t.lst c l n (s.lst c l n h)⟩
theorem Le.same {b : Addr} {H H' : Hp} (s : Same H H') : Le b H H' := ⟨fun c xs h => s c _ h, fun c l _ h => s c _ h⟩
theorem Le.but {b : Addr} {H H' : Hp} (s : But b H H') {l : List V} (h : H b = some (.lst l)) : Le b H H' := ⟨fun c xs e => s c _ e fun z => (by
  rw [z, h] at e
  cases e), fun c l n h => s c _ h n⟩
theorem Le.new {b : Addr} {H : Hp} {p : Addr} {o : HO} (h : H p = none) : Le b H (upd H p o) := Le.same (same_upd h)
theorem Le.ext {b : Addr} {H H' : Hp} (s : LamX.ExtN H H') : Le b H H' := ⟨fun c xs h => s c _ h (fun ps z => by cases z), fun c l _ h => s c _ h (fun ps z => by cases z)⟩
mutual
theorem Dq.le {b : Addr} {H H' : Hp} (s : Le b H H') : ∀ {d : PyData} {v : V}, Dq b H d v → Dq b H' d v
  | .none, _, h => by simpa only [Dq] using h
  | .bool _, _, h => by simpa only [Dq] using h
  | .int _, _, h => by simpa only [Dq] using h
  | .str _, _, h => by simpa only [Dq] using h
  | .list ds, _, h => by
    simp only [Dq] at h ⊢
    obtain ⟨a, l, e, n, h1, h2⟩ := h
    exact ⟨a, l, e, n, s.lst a l n h1, DqA.le s h2⟩
  | .tuple ds, _, h => by
    simp only [Dq] at h ⊢
    obtain ⟨a, l, e, h1, h2⟩ := h
    exact ⟨a, l, e, s.tup a l h1, DqA.le s h2⟩
  | .dict _, _, h => by simp only [Dq] at h
theorem DqA.le {b : Addr} {H H' : Hp} (s : Le b H H') : ∀ {ds : List PyData} {l : List V}, DqA b H ds l → DqA b H' ds l
  | [], _, h => by simpa only [DqA] using h
  | d :: r, _, h => by
    simp only [DqA] at h ⊢
    obtain ⟨v, m, e, h1, h2⟩ := h
    exact ⟨v, m, e, Dq.le s h1, DqA.le s h2⟩
end
theorem DqA.len {b : Addr} {H : Hp} : ∀ {ds : List PyData} {l : List V}, DqA b H ds l → l.length = ds.length
  | [], _, h => by
    simp only [DqA] at h
    rw [h]
    rfl
  | d :: r, _, h => by
    simp only [DqA] at h
    obtain ⟨v, m, rfl, h1, h2⟩ := h
    rw [List.length_cons, List.length_cons, h2.len]
theorem DqA.nil {b : Addr} {H : Hp} : DqA b H [] [] := by simp only [DqA]
theorem DqA.cons {b : Addr} {H : Hp} {d : PyData} {ds : List PyData} {v : V} {l : List V} (h : Dq b H d v) (k : DqA b H ds l) : DqA b H (d :: ds) (v :: l) := by
  simp only [DqA]
  exact ⟨v, l, rfl, h, k⟩
theorem DqA.inv {b : Addr} {H : Hp} {d : PyData} {ds : List PyData} {l : List V} (h : DqA b H (d :: ds) l) : ∃ v m, l = v :: m ∧ Dq b H d v ∧ DqA b H ds m := by
  simpa only [DqA] using h
theorem DqA.inv0 {b : Addr} {H : Hp} {l : List V} (h : DqA b H [] l) : l = [] := by
  simpa only [DqA] using h
theorem DqA.app {b : Addr} {H : Hp} : ∀ {ds es : List PyData} {l m : List V}, DqA b H ds l → DqA b H es m → DqA b H (ds ++ es) (l ++ m)
  | [], _, _, _, h, k => by
    rw [h.inv0]
    exact k
  | d :: r, _, _, _, h, k => by
    obtain ⟨v, m, rfl, h1, h2⟩ := h.inv
    exact .cons h1 (h2.app k)
theorem DqA.get {b : Addr} {H : Hp} : ∀ {ds : List PyData} {l : List V} {i : Nat} {v : V}, DqA b H ds l → l[i]? = some v → ∃ d, ds[i]? = some d ∧ Dq b H d v
  | [], _, i, v, h, e => by
    rw [h.inv0] at e
    cases e
  | d :: r, _, 0, v, h, e => by
    obtain ⟨v, m, rfl, h1, h2⟩ := h.inv
    cases e
    exact ⟨d, rfl, h1⟩
  | d :: r, _, i + 1, v, h, e => by
    obtain ⟨v, m, rfl, h1, h2⟩ := h.inv
    exact h2.get (i := i) e
theorem DqA.at {b : Addr} {H : Hp} : ∀ {ds : List PyData} {l : List V} {i : Nat} {d : PyData}, DqA b H ds l → ds[i]? = some d → ∃ v, l[i]? = some v ∧ Dq b H d v
  | [], _, i, v, h, e => by cases e
  | d :: r, _, 0, v, h, e => by
    obtain ⟨v, m, rfl, h1, h2⟩ := h.inv
    cases e
    exact ⟨v, rfl, h1⟩
  | d :: r, _, i + 1, v, h, e => by
    obtain ⟨v, m, rfl, h1, h2⟩ := h.inv
    exact h2.at (i := i) e
theorem DqA.take {b : Addr} {H : Hp} : ∀ {ds : List PyData} {l : List V} (i : Nat), DqA b H ds l → DqA b H (ds.take i) (l.take i)
  | _, _, 0, h => .nil
  | [], _, i + 1, h => by
    rw [h.inv0]
    exact .nil
  | d :: r, _, i + 1, h => by
    obtain ⟨v, m, rfl, h1, h2⟩ := h.inv
    exact .cons h1 (h2.take i)
theorem DqA.drop {b : Addr} {H : Hp} : ∀ {ds : List PyData} {l : List V} (i : Nat), DqA b H ds l → DqA b H (ds.drop i) (l.drop i)
  | _, _, 0, h => h
  | [], _, i + 1, h => by
    rw [h.inv0]
    exact .nil
  | d :: r, _, i + 1, h => by
    obtain ⟨v, m, rfl, h1, h2⟩ := h.inv
    exact h2.drop i
/-! as plain data; kinds; equal and alike -/
mutual
theorem Dq.dp {K : PySem.W.Frag} {b : Addr} {H : Hp} : ∀ {d : PyData} {v : V}, Dq b H d v → Dp K H v d
  | .none, _, h => by
    simp only [Dq] at h
    exact h ▸ .non
  | .bool _, _, h => by
    simp only [Dq] at h
    exact h ▸ .bl _
  | .int _, _, h => by
    simp only [Dq] at h
    exact h ▸ .int _
  | .str _, _, h => by
    simp only [Dq] at h
    exact h ▸ .str _
  | .list ds, _, h => by
    simp only [Dq] at h
    obtain ⟨a, l, rfl, n, h1, h2⟩ := h
    exact .lst (SqL.of h1) (DqA.dp h2)
  | .tuple ds, _, h => by
    simp only [Dq] at h
    obtain ⟨a, l, rfl, h1, h2⟩ := h
    exact .tup (SqT.of h1) (DqA.dp h2)
  | .dict _, _, h => by simp only [Dq] at h
theorem DqA.dp {K : PySem.W.Frag} {b : Addr} {H : Hp} : ∀ {ds : List PyData} {l : List V}, DqA b H ds l → DpAll K H l ds
  | [], _, h => by
    rw [h.inv0]
    exact .nil
  | d :: r, _, h => by
    obtain ⟨v, m, rfl, h1, h2⟩ := h.inv
    exact .cons (Dq.dp h1) (DqA.dp h2)
end
def tyN : PyData → String
  | .none => "NoneType"
  | .bool _ => "bool"
  | .int _ => "int"
  | .str _ => "str"
  | .list _ => "list"
  | .tuple _ => "tuple"
  | .dict _ => "dict"
theorem Dq.ty {K : PySem.W.Frag} {b : Addr} {H : Hp} : ∀ {d : PyData} {v : V}, Dq b H d v → TyX K H v (.type (tyN d))
  | .none, _, h => by
    simp only [Dq] at h
    exact h ▸ .base .non
  | .bool _, _, h => by
    simp only [Dq] at h
    exact h ▸ .base (.bl _)
  | .int _, _, h => by
    simp only [Dq] at h
    exact h ▸ .base (.int _)
  | .str _, _, h => by
    simp only [Dq] at h
    exact h ▸ .base (.str _)
  | .list ds, _, h => by
    simp only [Dq] at h
    obtain ⟨a, l, rfl, n, h1, h2⟩ := h
    exact .base (.lst h1)
  | .tuple ds, _, h => by
    simp only [Dq] at h
    obtain ⟨a, l, rfl, h1, h2⟩ := h
    exact .base (.tup h1)
  | .dict _, _, h => by simp only [Dq] at h
def isT : PyData → Bool
  | .tuple _ => true
  | _ => false
def isS : PyData → Bool
  | .str _ => true
  | _ => false
theorem kit_isT : ∀ d : PyData, kitB (tyN d) "tuple" = some (isT d)
  | .none => kB_NoneType_tuple
  | .bool _ => kB_bool_tuple
  | .int _ => kB_int_tuple
  | .str _ => kB_str_tuple
  | .list _ => kB_list_tuple
  | .tuple _ => kB_tuple_tuple
  | .dict _ => kB_dict_tuple
theorem kit_isS : ∀ d : PyData, kitB (tyN d) "str" = some (isS d)
  | .none => kB_NoneType_str
  | .bool _ => kB_bool_str
  | .int _ => kB_int_str
  | .str _ => kB_str_str
  | .list _ => kB_list_str
  | .tuple _ => kB_tuple_str
  | .dict _ => kB_dict_str
def vOf : PyData → V
  | .str z => .str z
  | _ => .non
theorem Dq.tup {b : Addr} {H : Hp} {ds : List PyData} {v : V} (h : Dq b H (.tuple ds) v) : ∃ a l, v = .ref a ∧ H a = some (.tup l) ∧ DqA b H ds l := by simpa only [Dq] using h
theorem Dq.tup_mk {b : Addr} {H : Hp} {ds : List PyData} {a : Addr} {l : List V} (h : H a = some (.tup l)) (k : DqA b H ds l) : Dq b H (.tuple ds) (.ref a) := by
  simp only [Dq]
  exact ⟨a, l, rfl, h, k⟩
theorem Dq.lst_mk {b : Addr} {H : Hp} {ds : List PyData} {a : Addr} {l : List V} (n : a ≠ b) (h : H a = some (.lst l)) (k : DqA b H ds l) : Dq b H (.list ds) (.ref a) := by
  simp only [Dq]
  exact ⟨a, l, rfl, n, h, k⟩
theorem Dq.str_mk {b : Addr} {H : Hp} (z : Str) : Dq b H (.str z) (.str z) := by simp only [Dq]
theorem Dq.int_mk {b : Addr} {H : Hp} (i : Int) : Dq b H (.int i) (.int i) := by simp only [Dq]
theorem Dq.non_mk {b : Addr} {H : Hp} : Dq b H .none .non := by simp only [Dq]
theorem Dq.bl_mk {b : Addr} {H : Hp} (c : Bool) : Dq b H (.bool c) (.bl c) := by simp only [Dq]
/-! good data: texts of signs as documents have them, and line feeds -/
def OkC (c : Nat) : Prop := (32 ≤ c ∧ c ≤ 126) ∨ c = 10
instance : DecidablePred OkC := fun c => inferInstanceAs (Decidable ((32 ≤ c ∧ c ≤ 126) ∨ c = 10))
def gS (z : Str) : Bool := decide (z.length ≤ 1000) && z.cps.toList.all fun c => decide (OkC c)
mutual
def gD : PyData → Bool
  | .none => true
  | .bool _ => true
  | .int _ => true
  | .str z => gS z
  | .list ds => gA ds
  | .tuple ds => gA ds
  | .dict _ => false
def gA : List PyData → Bool
  | [] => true
  | d :: r => gD d && gA r
end
theorem gA_mem : ∀ {ds : List PyData} {d : PyData}, gA ds = true → d ∈ ds → gD d = true
  | x :: r, d, h, m => by
    simp only [gA, Bool.and_eq_true] at h
    rcases List.mem_cons.mp m with rfl | m
    · exact h.1
    · exact gA_mem h.2 m
theorem gA_app : ∀ {ds es : List PyData}, gA (ds ++ es) = (gA ds && gA es)
  | [], _ => by simp only [gA, List.nil_append, Bool.true_and]
  | x :: r, es => by
    simp only [gA, List.cons_append, gA_app (ds := r), Bool.and_assoc]
theorem gS_ok {z : Str} (h : gS z = true) : (z.length ≤ 1000) ∧ ∀ c ∈ z.cps.toList, OkC c := by
  unfold gS at h
  simp only [Bool.and_eq_true, decide_eq_true_eq, List.all_eq_true] at h
  exact h
theorem strOk_gS {z : Str} (h : gS z = true) : PyData.strOk z = true := by
  obtain ⟨_, h⟩ := gS_ok h
  unfold PyData.strOk
  rw [← Array.all_toList]
  refine List.all_eq_true.mpr fun c hc => ?_
  have := h c hc
  unfold OkC at this
  exact decide_eq_true (by omega)
mutual
theorem lay_gD : ∀ {d : PyData}, gD d = true → PyData.canLay0 d = true
  | .none, _ => by simp only [PyData.canLay0]
  | .bool _, _ => by simp only [PyData.canLay0]
  | .int _, _ => by simp only [PyData.canLay0]
  | .str z, h => by
    simp only [gD] at h
    simp only [PyData.canLay0]
    exact strOk_gS h
  | .list ds, h => by
    simp only [gD] at h
    simp only [PyData.canLay0]
    exact lay_gA h
  | .tuple ds, h => by
    simp only [gD] at h
    simp only [PyData.canLay0]
    exact lay_gA h
  | .dict _, h => by
    simp only [gD] at h
    cases h
theorem lay_gA : ∀ {ds : List PyData}, gA ds = true → PyData.canLayAll0 ds = true
  | [], _ => by simp only [PyData.canLayAll0]
  | d :: r, h => by
    simp only [gA, Bool.and_eq_true] at h
    simp only [PyData.canLayAll0, Bool.and_eq_true]
    exact ⟨lay_gD h.1, lay_gA h.2⟩
end
theorem shaped_gD {d : PyData} (h : gD d = true) (hd : d.depth ≤ 64) : SeqAt.shaped d = true := by
  unfold SeqAt.shaped
  rw [lay_gD h, decide_eq_true hd]
  rfl
theorem Dq.strOr {K : PySem.W.Frag} {b : Addr} {H : Hp} {d : PyData} {v : V} (h : Dq b H d v) (g : gD d = true) : StrOr K H v := by
  cases d with
  | str z =>
    simp only [Dq] at h
    simp only [gD] at g
    refine .inl ⟨z.cps.toList, ?_, ?_⟩
    · rw [h, SX.S_tl]
    · have := (gS_ok g).1
      have e : z.length = z.cps.toList.length := by simp [Str.length]
      omega
  | none =>
    have t := h.ty (K := K)
    simp only [Dq] at h
    subst h
    exact .inr ⟨fun z e => (by cases e), _, t, kB_NoneType_str⟩
  | bool c =>
    have t := h.ty (K := K)
    simp only [Dq] at h
    subst h
    exact .inr ⟨fun z e => (by cases e), _, t, kB_bool_str⟩
  | int c =>
    have t := h.ty (K := K)
    simp only [Dq] at h
    subst h
    exact .inr ⟨fun z e => (by cases e), _, t, kB_int_str⟩
  | list ds =>
    have t := h.ty (K := K)
    simp only [Dq] at h
    obtain ⟨a, l, rfl, _⟩ := h
    exact .inr ⟨fun z e => (by cases e), _, t, kB_list_str⟩
  | tuple ds =>
    have t := h.ty (K := K)
    simp only [Dq] at h
    obtain ⟨a, l, rfl, _⟩ := h
    exact .inr ⟨fun z e => (by cases e), _, t, kB_tuple_str⟩
  | dict _ => simp only [Dq] at h
theorem Dq.isS {b : Addr} {H : Hp} {d : PyData} {v : V} (h : Dq b H d v) : (isS d = true ∧ ∃ z, d = .str z ∧ v = .str z) ∨ (isS d = false ∧ ∀ z, v ≠ .str z) := by
  cases d <;> simp only [Dq] at h
  case str z => exact .inl ⟨rfl, z, rfl, h⟩
  case list ds =>
    obtain ⟨a, l, rfl, _⟩ := h
    exact .inr ⟨rfl, fun z e => by cases e⟩
  case tuple ds =>
    obtain ⟨a, l, rfl, _⟩ := h
    exact .inr ⟨rfl, fun z e => by cases e⟩
  all_goals exact .inr ⟨rfl, fun z e => by rw [h] at e; cases e⟩
theorem Dq.word {b : Addr} {H : Hp} {d : PyData} {v : V} (h : Dq b H d v) (n : Int) : wordB v n = wordB (vOf d) n := by
  rcases h.isS with ⟨_, z, rfl, rfl⟩ | ⟨e, k⟩
  · rfl
  · rw [wordB_no k, wordB_no]
    cases d <;> first | (intro z q; cases q; done) | cases e
theorem Dq.text {b : Addr} {H : Hp} {d : PyData} {v : V} (h : Dq b H d v) : textB v = textB (vOf d) := by
  rcases h.isS with ⟨_, z, rfl, rfl⟩ | ⟨e, k⟩
  · rfl
  · rw [textB_no k, textB_no]
    cases d <;> first | (intro z q; cases q; done) | cases e
/-! sizes -/
mutual
def sz : PyData → Nat
  | .none => 1
  | .bool _ => 1
  | .int _ => 1
  | .str _ => 1
  | .list ds => 1 + szA ds
  | .tuple ds => 1 + szA ds
  | .dict _ => 1
def szA : List PyData → Nat
  | [] => 0
  | d :: r => sz d + szA r
end
theorem sz_pos : ∀ d : PyData, 1 ≤ sz d := fun d => by cases d <;> simp only [sz] <;> omega
theorem szA_len : ∀ ds : List PyData, ds.length ≤ szA ds
  | [] => Nat.zero_le _
  | d :: r => by
    have := szA_len r
    have := sz_pos d
    simp only [szA, List.length_cons]
    omega
theorem szA_mem : ∀ {ds : List PyData} {d : PyData}, d ∈ ds → sz d ≤ szA ds
  | x :: r, d, m => by
    simp only [szA]
    rcases List.mem_cons.mp m with rfl | m
    · omega
    · have := szA_mem m
      omega
theorem szA_app : ∀ {ds es : List PyData}, szA (ds ++ es) = szA ds + szA es
  | [], _ => by simp only [szA, List.nil_append]; omega
  | x :: r, es => by
    simp only [szA, List.cons_append, szA_app (ds := r)]
    omega
theorem Dq.alk {K : PySem.W.Frag} {b b' : Addr} {H : Hp} : ∀ (n : Nat) {d : PyData} {v u : V}, d.depth ≤ n → sz d ≤ 100000 → Dq b H d v → Dq b' H d u → Alk K H (n + 1) v u := by
  intro n
  induction n with
  | zero =>
    intro d v u hd hs h k
    cases d <;> simp only [Dq] at h k
    all_goals first
      | (rw [h, k]; exact .inl ⟨rfl, rfl⟩)
      | (simp only [PyData.depth] at hd; omega)
  | succ n ih =>
    intro d v u hd hs h k
    cases d <;> simp only [Dq] at h k
    case list ds =>
      obtain ⟨a, l, rfl, _, h1, h2⟩ := h
      obtain ⟨a', l', rfl, _, k1, k2⟩ := k
      simp only [PyData.depth] at hd
      simp only [sz] at hs
      refine .inr ⟨a, a', l, l', rfl, rfl, .inl ⟨SqL.of h1, SqL.of k1⟩, by rw [h2.len, k2.len], by have := szA_len ds; have := h2.len; omega, fun i x y hx hy => ?_⟩
      obtain ⟨d1, e1, f1⟩ := h2.get hx
      obtain ⟨d2, e2, f2⟩ := k2.get hy
      obtain rfl : d1 = d2 := Option.some.inj (e1.symm.trans e2)
      have m := List.mem_of_getElem? e1
      exact ih (by have := PyData.depth_le_depthAll _ _ m; omega) (by have := szA_mem m; omega) f1 f2
    case tuple ds =>
      obtain ⟨a, l, rfl, h1, h2⟩ := h
      obtain ⟨a', l', rfl, k1, k2⟩ := k
      simp only [PyData.depth] at hd
      simp only [sz] at hs
      refine .inr ⟨a, a', l, l', rfl, rfl, .inr ⟨SqT.of h1, SqT.of k1⟩, by rw [h2.len, k2.len], by have := szA_len ds; have := h2.len; omega, fun i x y hx hy => ?_⟩
      obtain ⟨d1, e1, f1⟩ := h2.get hx
      obtain ⟨d2, e2, f2⟩ := k2.get hy
      obtain rfl : d1 = d2 := Option.some.inj (e1.symm.trans e2)
      have m := List.mem_of_getElem? e1
      exact ih (by have := PyData.depth_le_depthAll _ _ m; omega) (by have := szA_mem m; omega) f1 f2
    all_goals (rw [h, k]; exact .inl ⟨rfl, rfl⟩)
theorem DqA.unsnoc {b : Addr} {H : Hp} {d : PyData} : ∀ {ds : List PyData} {l : List V}, DqA b H (ds ++ [d]) l → ∃ m v, l = m ++ [v] ∧ DqA b H ds m ∧ Dq b H d v
  | [], _, h => by
    obtain ⟨v, m, rfl, h1, h2⟩ := h.inv
    rw [h2.inv0]
    exact ⟨[], v, rfl, .nil, h1⟩
  | x :: r, _, h => by
    obtain ⟨v, m, rfl, h1, h2⟩ := h.inv
    obtain ⟨m2, v2, rfl, h3, h4⟩ := h2.unsnoc
    exact ⟨v :: m2, v2, rfl, .cons h1 h3, h4⟩
theorem Le.set {b : Addr} {H : Hp} {l m : List V} (h : H b = some (.lst l)) : Le b H (upd H b (.lst m)) := by
  refine ⟨fun c xs e => ?_, fun c l n e => ?_⟩
  · rw [upd_ne fun z => ?_]
    · exact e
    · rw [z, h] at e
      cases e
  · rw [upd_ne n]
    exact e
mutual
theorem Dq.free {b x : Addr} {H : Hp} (n : H x = none) : ∀ {d : PyData} {v : V}, Dq b H d v → Dq x H d v
  | .none, _, h => by simpa only [Dq] using h
  | .bool _, _, h => by simpa only [Dq] using h
  | .int _, _, h => by simpa only [Dq] using h
  | .str _, _, h => by simpa only [Dq] using h
  | .list ds, _, h => by
    simp only [Dq] at h ⊢
    obtain ⟨a, l, e, _, h1, h2⟩ := h
    exact ⟨a, l, e, ne_of_none h1 n, h1, DqA.free n h2⟩
  | .tuple ds, _, h => by
    simp only [Dq] at h ⊢
    obtain ⟨a, l, e, h1, h2⟩ := h
    exact ⟨a, l, e, h1, DqA.free n h2⟩
  | .dict _, _, h => by simp only [Dq] at h
theorem DqA.free {b x : Addr} {H : Hp} (n : H x = none) : ∀ {ds : List PyData} {l : List V}, DqA b H ds l → DqA x H ds l
  | [], _, h => by simpa only [DqA] using h
  | d :: r, _, h => by
    simp only [DqA] at h ⊢
    obtain ⟨v, m, e, h1, h2⟩ := h
    exact ⟨v, m, e, Dq.free n h1, DqA.free n h2⟩
end

/-! ### is_shape -/
def kindB (d : PyData) : Bool := wordB (vOf d) 6 && !decide (vOf d = .str "rest")
section
variable {P : Program} {w : World} {K : PySem.W.Frag} {mg : Str → Option Value} {base : Heap} {f aS : Addr} {fd : FuncData}
end

/-! ### items of lines, tests, lines apart from the lines within them -/
theorem atI_last2 {α : Type} (xs : List α) (v u : α) : atI (xs ++ [v] ++ [u]) (-2) = some v := by
  have hl : (xs ++ [v] ++ [u]).length = xs.length + 2 := by simp
  unfold atI ixN
  rw [hl, if_neg (by omega), if_pos (by omega)]
  show (xs ++ [v] ++ [u])[_]? = some v
  rw [show (-2 + ((xs.length + 2 : Nat) : Int)).toNat = xs.length by omega]
  simp
def barT : List V := [.str "if", .str "is", .str "end"]
def placesT : List V := [.str "ahead", .str "behind", .str "head", .str "tail"]
def endsT : List V := [.str "head", .str "tail"]
def looksT : List V := [.str "first", .str "last", .str "up", .str "over", .str "next", .str "back"]
def testK : List (Str × List Nat) := [("there", [99]), ("is", [99, 99]), ("above", [99, 99]), ("ahead", [99, 99]), ("kind", [99, 107])]
def formK : List (Str × List Nat) := [("first", [99, 107, 98]), ("last", [99, 107, 98]), ("up", [99, 107, 99]), ("over", [99, 107, 99, 99]), ("next", [99, 107, 99]), ("back", [99, 107, 99]), ("put", [99, 107, 116, 119, 98]), ("copy", [99, 99, 119, 98]),
  ("move", [99, 119, 98]), ("wrap", [99, 99, 107, 116]), ("lift", [99]), ("strike", [99]), ("kind", [99, 107]), ("text", [99, 116]), ("fresh", []), ("if", [115, 108, 108])]
def txtT (k : List (Str × List Nat)) : List (Str × V) := k.map fun p => (p.1, .str (SX.S p.2))
theorem txtT_get (z : Str) : ∀ k : List (Str × List Nat), (txtT k).lookup z = (k.lookup z).map fun l => .str (SX.S l)
  | [] => rfl
  | (a, l) :: r => by
    unfold txtT
    rw [List.map_cons, List.lookup_cons, List.lookup_cons]
    cases z == a with
    | true => rfl
    | false => exact txtT_get z r
theorem lookup_mem {α β : Type} [BEq α] [LawfulBEq α] {z : α} {b : β} : ∀ {k : List (α × β)}, k.lookup z = some b → (z, b) ∈ k
  | [], h => by cases h
  | (a, l) :: r, h => by
    rw [List.lookup_cons] at h
    cases e : z == a with
    | true =>
      rw [e] at h
      cases h
      rw [eq_of_beq e]
      exact List.mem_cons_self
    | false =>
      rw [e] at h
      exact List.mem_cons_of_mem _ (lookup_mem h)
def cursorB (d : PyData) : Bool := wordB (vOf d) 3 && !inV (vOf d) barT
def fitB (tst : PyData → Bool) (c : Nat) (d : PyData) : Bool :=
  if c = 99 then cursorB d else if c = 107 then kindB d else if c = 116 then textB (vOf d) else if c = 119 then isS d && inV (vOf d) placesT
  else if c = 98 then isS d && (decide (vOf d = .str "") || cursorB d) else if c = 115 then tst d else isT d
def allFitB (tst : PyData → Bool) (ls : List Nat) (ds : List PyData) : Bool := decide (ls.length + 1 = ds.length) && ((ls.zip (ds.drop 1)).map fun p => fitB tst p.1 p.2).all id
def openD : PyData → Str
  | .tuple (.str z :: _) => z
  | _ => ""
def testB : PyData → Bool
  | .tuple (.str z :: r) => match testK.lookup z with
    | some ls => allFitB (fun _ => false) ls (.str z :: r)
    | none => false
  | _ => false
def tailB (ds : List PyData) : Bool := match ds.reverse with
  | b :: w :: _ => !decide (vOf b = .str "") || inV (vOf w) endsT
  | _ => true
def lineB : PyData → Bool
  | .tuple (.str z :: r) => match formK.lookup z with
    | some ls => allFitB testB ls (.str z :: r) && (!decide (119 ∈ ls) || tailB (.str z :: r))
    | none => false
  | _ => false
theorem fit_no115 (f g : PyData → Bool) {c : Nat} (h : c ≠ 115) (d : PyData) : fitB f c d = fitB g c d := by
  unfold fitB
  rw [if_neg h, if_neg h]
theorem allFit_no115 (f g : PyData → Bool) {ls : List Nat} (h : 115 ∉ ls) (ds : List PyData) : allFitB f ls ds = allFitB g ls ds := by
  unfold allFitB
  congr 2
  refine List.map_congr_left fun p hp => fit_no115 f g (fun z => h ?_) _
  rw [← z]
  exact (List.of_mem_zip hp).1
theorem formK_ok : ∀ p ∈ formK, p.2.length ≤ 10 ∧ (∀ c ∈ p.2, c < 128) ∧ (119 ∈ p.2 → p.2 = [99, 107, 116, 119, 98] ∨ p.2 = [99, 99, 119, 98] ∨ p.2 = [99, 119, 98]) := by decide +kernel
theorem testK_ok : ∀ p ∈ testK, p.2.length ≤ 10 ∧ (∀ c ∈ p.2, c < 128) ∧ 115 ∉ p.2 := by decide +kernel
theorem formK_e : (formK.lookup ("" : Str)) = none := by decide +kernel
theorem testK_e : (testK.lookup ("" : Str)) = none := by decide +kernel
def spDat1 (f : PyData → Bool) : Sp := fun vs H Q _ => ∃ (v : V) (b : Addr) (d : PyData), vs = [v] ∧ Dq b H d v ∧ gD d = true ∧ sz d ≤ 10000 ∧ ∀ H', Same H H' → Q (.bl (f d)) H'
def spFits (S : Bool) : Sp := fun vs H Q _ => ∃ (v : V) (b : Addr) (d : PyData) (c : Nat), vs = [.str ⟨#[c]⟩, v] ∧ Dq b H d v ∧ gD d = true ∧ sz d ≤ 10000 ∧ (c = 115 → S = true) ∧ ∀ H', Same H H' → Q (.bl (fitB testB c d)) H'
def spAllFit (S : Bool) : Sp := fun vs H Q _ => ∃ (v : V) (b : Addr) (ds : List PyData) (ls : List Nat), vs = [.str (SX.S ls), v] ∧ Dq b H (.tuple ds) v ∧ gA ds = true ∧ szA ds < 10000 ∧ (115 ∈ ls → S = true) ∧ ls.length ≤ 10 ∧ (∀ c ∈ ls, c < 128) ∧
  ∀ H', Same H H' → Q (.bl (allFitB testB ls ds)) H'
def spOpening : Sp := fun vs H Q _ => ∃ (v : V) (b : Addr) (d : PyData), vs = [v] ∧ Dq b H d v ∧ ∀ H', Same H H' → Q (.str (openD d)) H'
section
variable {P : Program} {w : World} {K : PySem.W.Frag} {mg : Str → Option Value} {base : Heap} {f aB aP aE aT aF : Addr} {fd : FuncData}
theorem ok_is_cursor (F : Fun K "is_cursor" "is_cursor" s_is_cursor f fd) (T : Txt mg) (gT_BARRED : ∃ u, mg "BARRED" = some u ∧ RelV (.ref aB) u) (tB : ∀ H, SqT K H aB barT) (c_is_word : Cal P w K mg base 1 "is_word" (spWord K)) : FnOk P w K mg base CX0 2 f fd ["value"] (spDat1 cursorB) := by
  refine F.ok sc_is_cursor (fun vs H Q E h => ?_) (fun cdv A outer s H vs Q E hr h => ?_)
  · obtain ⟨v, b, d, rfl, _⟩ := h
    rfl
  · obtain ⟨v, b, d, rfl, hv, g, hs, q⟩ := h
    refine ⟨_, (pss_one (ps_ret (pe_and (pe_c c_is_word hr (by omega) (by rfl) (pa_cons (pv 0) (pa_cons (pe_gc (by rfl) T.g_MOST_LETTERS_lines) pa_nil))) (pe_one (pe_cmpR (op_ninX K) (pv 0) (pe_gc (by rfl) gT_BARRED) (by rfl)))))), ?_⟩
    change (_ : TS) _ [some v] _
    k_extra "rr"
    refine ⟨v, 3, rfl, hv.strOr g, fun H1 s1 => ?_⟩
    rw [hv.word]
    cases ew : wordB (vOf d) 3 with
    | false =>
      k_extra "rr"
      have e : cursorB d = false := by unfold cursorB; rw [ew, Bool.false_and]
      rw [← e]
      exact q H1 s1
    | true =>
      obtain ⟨z1, rfl⟩ : ∃ z1, d = .str z1 := by
        cases d <;> first | exact ⟨_, rfl⟩ | cases ew
      simp only [Dq] at hv
      subst hv
      k_extra "rr"
      refine ninSeq (.inr (tB H1)) rfl rfl ?_
      have e : cursorB (.str z1) = !inV (.str z1) barT := by unfold cursorB; rw [ew, Bool.true_and]; rfl
      rw [← e]
      exact q H1 s1
theorem ok_is_named (F : Fun K "is_named" "is_named" s_is_named f fd) (T : Txt mg) (c_is_kind : Cal P w K mg base 2 "is_kind" (spKind K)) : FnOk P w K mg base CX0 3 f fd ["value"] (spDat1 kindB) := by
  refine F.ok sc_is_named (fun vs H Q E h => ?_) (fun cdv A outer s H vs Q E hr h => ?_)
  · obtain ⟨v, b, d, rfl, _⟩ := h
    rfl
  · obtain ⟨v, b, d, rfl, hv, g, hs, q⟩ := h
    refine ⟨_, (pss_one (ps_ret (pe_and (pe_c c_is_kind hr (by omega) (by rfl) (pa_cons (pv 0) pa_nil)) (pe_one (pe_cmpR (op_neX K hr) (pv 0) (pe_gc (by rfl) T.g_REST) (nomark _)))))), ?_⟩
    change (_ : TS) _ [some v] _
    k_extra "rr"
    refine ⟨v, rfl, hv.strOr g, fun H1 s1 => ?_⟩
    rw [hv.word]
    cases ew : wordB (vOf d) 6 with
    | false =>
      k_extra "rr"
      have e : kindB d = false := by unfold kindB; rw [ew, Bool.false_and]
      rw [← e]
      exact q H1 s1
    | true =>
      obtain ⟨z1, rfl⟩ : ∃ z1, d = .str z1 := by
        cases d <;> first | exact ⟨_, rfl⟩ | cases ew
      simp only [Dq] at hv
      subst hv
      k_extra "rr"
      have e : kindB (.str z1) = !decide (z1 = Str.ofString "rest") := by
        unfold kindB
        rw [ew, Bool.true_and]
        show _ = !decide (z1 = "rest")
        rw [show decide (vOf (.str z1) = V.str "rest") = decide (z1 = "rest") from decide_eq_decide.mpr ⟨V.str.inj, congrArg _⟩]
      rw [← e]
      exact q H1 s1
theorem sg_lit (c k : Nat) {z : Str} (e : z = ⟨#[k]⟩) : decide ((⟨#[c]⟩ : Str) = z) = decide (c = k) := by
  rw [e]
  exact sg_eq c k
theorem ok_fits {S : Bool} {spT : Sp} {m n : Nat} (hmn : m ≤ n) (hn : 3 ≤ n) (F : Fun K "fits" "fits" s_fits f fd) (T : Txt mg) (gT_PLACES : ∃ u, mg "PLACES" = some u ∧ RelV (.ref aP) u) (tP : ∀ H, SqT K H aP placesT)
    (c_is_cursor : Cal P w K mg base 2 "is_cursor" (spDat1 cursorB)) (c_is_named : Cal P w K mg base 3 "is_named" (spDat1 kindB)) (c_is_text : Cal P w K mg base 2 "is_text" (spText K)) (c_is_test : Cal P w K mg base m "is_test" spT)
    (hS : S = true → ∀ vs H Q E, spDat1 testB vs H Q E → spT vs H Q E) : FnOk P w K mg base CX0 (n + 1) f fd ["letter", "value"] (spFits S) := by
  refine F.ok sc_fits (fun vs H Q E h => ?_) (fun cdv A outer s H vs Q E hr h => ?_)
  · obtain ⟨v, b, d, c, rfl, _⟩ := h
    rfl
  · obtain ⟨v, b, d, c, rfl, hv, g, hs, hc, q⟩ := h
    refine ⟨_, (pss_cons (ps_if (pt_cmpR (op_eqX K hr) (pv 0) pe_str (nomark _)) (pss_one (ps_ret (pe_c c_is_cursor hr (by omega) (by rfl) (pa_cons (pv 1) pa_nil)))) pss_nil)
      (pss_cons (ps_if (pt_cmpR (op_eqX K hr) (pv 0) pe_str (nomark _)) (pss_one (ps_ret (pe_c c_is_named hr (by omega) (by rfl) (pa_cons (pv 1) pa_nil)))) pss_nil)
      (pss_cons (ps_if (pt_cmpR (op_eqX K hr) (pv 0) pe_str (nomark _)) (pss_one (ps_ret (pe_c c_is_text hr (by omega) (by rfl) (pa_cons (pv 1) pa_nil)))) pss_nil)
      (pss_cons (ps_if (pt_cmpR (op_eqX K hr) (pv 0) pe_str (nomark _)) (pss_one (ps_ret (pe_and (pe_callB (cr_isi K) (by rfl) T.isinstance (by decide +kernel) (pa_cons (pv 1) (pa_cons (pe_bltn (v := .ty "str") (by rfl) T.str (by decide +kernel) rfl) pa_nil))) (pe_one (pe_cmpR (op_inX K) (pv 1) (pe_gc (by rfl) gT_PLACES) (by rfl)))))) pss_nil)
      (pss_cons (ps_if (pt_cmpR (op_eqX K hr) (pv 0) pe_str (nomark _)) (pss_one (ps_ret (pe_and (pe_callB (cr_isi K) (by rfl) T.isinstance (by decide +kernel) (pa_cons (pv 1) (pa_cons (pe_bltn (v := .ty "str") (by rfl) T.str (by decide +kernel) rfl) pa_nil))) (pe_one (pe_or (pe_cmpR (op_eqX K hr) (pv 1) pe_str (nomark _)) (pe_one (pe_c c_is_cursor hr (by omega) (by rfl) (pa_cons (pv 1) pa_nil)))))))) pss_nil)
      (pss_one (ps_ret (pe_ifExp (pt_cmpR (op_eqX K hr) (pv 0) pe_str (nomark _)) (pe_c c_is_test hr (by omega) (by rfl) (pa_cons (pv 1) pa_nil)) (pe_callB (cr_isi K) (by rfl) T.isinstance (by decide +kernel) (pa_cons (pv 1) (pa_cons (pe_bltn (v := .ty "tuple") (by rfl) T.tuple (by decide +kernel) rfl) pa_nil))))))))))), ?_⟩
    change (_ : TS) _ [some (V.str ⟨#[c]⟩), some v] _
    have e1 := sg_lit c 99 (z := "c") (by decide +kernel)
    have e2 := sg_lit c 107 (z := "k") (by decide +kernel)
    have e3 := sg_lit c 116 (z := "t") (by decide +kernel)
    have e4 := sg_lit c 119 (z := "w") (by decide +kernel)
    have e5 := sg_lit c 98 (z := "b") (by decide +kernel)
    have e6 := sg_lit c 115 (z := "s") (by decide +kernel)
    have qf : ∀ {r : Bool}, r = fitB testB c d → ∀ H', Same H H' → Q (.bl r) H' := fun e H' s' => e ▸ q H' s'
    clear q
    unfold fitB at qf
    k_extra "rr"
    rw [e1]
    refine iteD (fun h1 => ?_) (fun h1 => ?_)
    · rw [if_pos h1] at qf
      k_extra "rr"
      exact ⟨v, b, d, rfl, hv, g, hs, fun H' s' => qf rfl H' s'⟩
    rw [if_neg h1] at qf
    k_extra "rr"
    rw [e2]
    refine iteD (fun h2 => ?_) (fun h2 => ?_)
    · rw [if_pos h2] at qf
      k_extra "rr"
      exact ⟨v, b, d, rfl, hv, g, hs, fun H' s' => qf rfl H' s'⟩
    rw [if_neg h2] at qf
    k_extra "rr"
    rw [e3]
    refine iteD (fun h3 => ?_) (fun h3 => ?_)
    · rw [if_pos h3] at qf
      k_extra "rr"
      exact ⟨v, rfl, hv.strOr g, fun H' s' => qf hv.text H' s'⟩
    rw [if_neg h3] at qf
    k_extra "rr"
    rw [e4]
    refine iteD (fun h4 => ?_) (fun h4 => ?_)
    · rw [if_pos h4] at qf
      k_extra "rr"
      refine isi hv.ty (kit_ty (kit_isS d)) ?_
      rcases hv.isS with ⟨es, z, rfl, rfl⟩ | ⟨es, _⟩
      · rw [es]
        k_extra "rr"
        exact inSeq (.inr (tP H)) rfl rfl (qf (by rw [es, Bool.true_and]; rfl) H (Same.refl H))
      · rw [es]
        k_extra "rr"
        exact qf (by rw [es, Bool.false_and]) H (Same.refl H)
    rw [if_neg h4] at qf
    k_extra "rr"
    rw [e5]
    refine iteD (fun h5 => ?_) (fun h5 => ?_)
    · rw [if_pos h5] at qf
      k_extra "rr"
      refine isi hv.ty (kit_ty (kit_isS d)) ?_
      rcases hv.isS with ⟨es, z, rfl, rfl⟩ | ⟨es, _⟩
      · rw [es]
        have ez : decide (vOf (.str z) = V.str "") = decide (z = Str.ofString "") := decide_eq_decide.mpr ⟨V.str.inj, congrArg _⟩
        rw [es, Bool.true_and, ez] at qf
        k_extra "rr"
        cases hz : decide (z = Str.ofString "") with
        | true =>
          k_extra "rr"
          exact qf (by rw [hz, Bool.true_or]) H (Same.refl H)
        | false =>
          k_extra "rr"
          exact ⟨.str z, b, _, rfl, hv, g, hs, fun H' s' => qf (by rw [hz, Bool.false_or]) H' s'⟩
      · rw [es]
        k_extra "rr"
        exact qf (by rw [es, Bool.false_and]) H (Same.refl H)
    rw [if_neg h5] at qf
    k_extra "rr"
    rw [e6]
    refine iteD (fun h6 => ?_) (fun h6 => ?_)
    · rw [if_pos h6] at qf
      k_extra "rr"
      exact hS (hc h6) _ _ _ _ ⟨v, b, d, rfl, hv, g, hs, fun H' s' => qf rfl H' s'⟩
    rw [if_neg h6] at qf
    k_extra "rr"
    exact isi hv.ty (kit_ty (kit_isT d)) (qf rfl H (Same.refl H))
theorem ok_opening (F : Fun K "opening" "opening" s_opening f fd) (T : Txt mg) : FnOk P w K mg base CX0 1 f fd ["value"] spOpening := by
  refine F.ok sc_opening (fun vs H Q E h => ?_) (fun cdv A outer s H vs Q E hr h => ?_)
  · obtain ⟨v, b, d, rfl, _⟩ := h
    rfl
  · obtain ⟨v, b, d, rfl, hv, q⟩ := h
    refine ⟨_, (pss_cons (ps_if (PW.pt (pw_or (pt_not (pt_val (pe_callB (cr_isi K) (by rfl) T.isinstance (by decide +kernel) (pa_cons (pv 0) (pa_cons (pe_bltn (v := .ty "tuple") (by rfl) T.tuple (by decide +kernel) rfl) pa_nil))))) (pw_or (pt_cmpR (op_eqX K hr) (pe_callB (call_lenX K) (by rfl) T.len PySem.boot_len (pa_cons (pv 0) pa_nil)) pe_int (nomark _)) (pw_or1 (pt_not (pt_val (pe_callB (cr_isi K) (by rfl) T.isinstance (by decide +kernel) (pa_cons (pe_ix (ix_X K) (pv 0) pe_int (fun _ _ => rfl)) (pa_cons (pe_bltn (v := .ty "str") (by rfl) T.str (by decide +kernel) rfl) pa_nil))))))))) (pss_one (ps_ret pe_str)) pss_nil)
      (pss_one (ps_ret (pe_ix (ix_X K) (pv 0) pe_int (fun _ _ => rfl))))), ?_⟩
    change (_ : TS) _ [some v] _
    k_extra "rr"
    refine isi hv.ty (kit_ty (kit_isT d)) ?_
    k_extra "rr"
    cases hT : isT d with
    | false =>
      k_extra "rr"
      have e : openD d = "" := by
        cases d <;> first | rfl | cases hT
      rw [← e]
      exact q H (Same.refl H)
    | true =>
      obtain ⟨ds, rfl⟩ : ∃ ds, d = .tuple ds := by
        cases d <;> first | exact ⟨_, rfl⟩ | cases hT
      obtain ⟨a, l, rfl, ha, hl⟩ := id hv.tup
      have len := hl.len
      k_extra "rr"
      refine iteD (fun z0 => ?_) (fun z0 => ?_)
      · k_extra "rr"
        have e : openD (.tuple ds) = "" := by
          match ds, len with
          | [], _ => rfl
          | x :: r, len =>
            rw [len, List.length_cons] at z0
            omega
        rw [← e]
        exact q H (Same.refl H)
      · match ds, hl, len with
        | [], hl, len =>
          rw [len] at z0
          exact absurd rfl z0
        | d0 :: ks, hl, len =>
        obtain ⟨v0, l0, rfl, h0, hks⟩ := hl.inv
        have at0 : ∀ u : V, atI (u :: l0) 0 = some u := fun u => (show atI (u :: l0) ((0 : Nat) : Int) = some u from atI_nat rfl)
        k_extra "rr"
        refine ixT (SqT.of ha) (at0 v0) ?_
        k_extra "rr"
        refine isi h0.ty (kit_ty (kit_isS d0)) ?_
        k_extra "rr"
        rcases h0.isS with ⟨es, z, rfl, rfl⟩ | ⟨es, _⟩
        · rw [es]
          k_extra "rr"
          exact ixT (SqT.of ha) (at0 _) (q H (Same.refl H))
        · rw [es]
          k_extra "rr"
          have e : openD (.tuple (d0 :: ks)) = "" := by
            cases d0 <;> first | rfl | cases es
          rw [← e]
          exact q H (Same.refl H)
theorem ok_all_fit {S : Bool} {n : Nat} (F : Fun K "all_fit" "all_fit" s_all_fit f fd) (T : Txt mg) (c_fits : Cal P w K mg base n "fits" (spFits S)) : FnOk P w K mg base CX0 (n + 1) f fd ["letters", "value"] (spAllFit S) := by
  refine F.ok sc_all_fit (fun vs H Q E h => ?_) (fun cdv A outer s H vs Q E hr h => ?_)
  · obtain ⟨v, b, ds, ls, rfl, _⟩ := h
    rfl
  · obtain ⟨v, b, ds, ls, rfl, hv, g, hs, hS, hl, h128, q⟩ := h
    obtain ⟨a, l, rfl, ha, hd⟩ := id hv.tup
    have len := hd.len
    have dlen := szA_len ds
    refine ⟨_, (pss_one (ps_ret (pe_and (pe_cmpR (op_eqX K hr) (pe_op (op_addX K) (pe_callB (call_lenX K) (by rfl) T.len PySem.boot_len (pa_cons (pv 0) pa_nil)) pe_int) (pe_callB (call_lenX K) (by rfl) T.len PySem.boot_len (pa_cons (pv 1) pa_nil)) (nomark _)) (pe_one (pe_callB (cr_allX K (by rfl)) (by rfl) T.all (by decide +kernel) (pa_cons (pe_lc (own := [("letter", 2), ("item", 3)])  (tt := tYes) (by rfl) sc_all_fit.nd (Zs.pi_zipS K (by rfl) T.zip (pa_cons (pv 0) (pa_cons (pe_slice (sl_X K) (pv 1) (po_some pe_int) po_none) pa_nil))) (blkOk_by (own := [("letter", 2), ("item", 3)]) (N := ["letters", "value", "letter", "item"]) (sc := defScope s_all_fit) (by decide +kernel)) (fun _ _ _ _ _ => pg_tupX K (pg_tup (n := 2) (by rfl) (pgs_cons (pg_name (i := 2) sc_all_fit.nd rfl (Or.inl rfl)) (pgs_cons (pg_name (i := 3) sc_all_fit.nd rfl (Or.inl rfl)) pgs_nil)))) (fun _ _ _ _ _ => pts_nil) (fun _ _ _ _ _ => (pe_c c_fits hr (by omega) (by rfl) (pa_cons (pv 2) (pa_cons (pv 3) pa_nil))))) pa_nil)))))), ?_⟩
    change (_ : TS) _ [some (V.str (SX.S ls)), some (V.ref a), none, none] _
    have hs1 : (SX.S ls).length ≤ sizeLine := by rw [SX.S_len, sizeLine_eq]; omega
    k_extra "rr"
    have e0 : decide (((SX.S ls).length : Int) + 1 = (l.length : Int)) = decide (ls.length + 1 = ds.length) := by
      rw [SX.S_len, len]
      exact decide_eq_decide.mpr (by omega)
    rw [e0]
    unfold allFitB at q
    cases hl1 : decide (ls.length + 1 = ds.length) with
    | false =>
      k_extra "rr"
      rw [hl1, Bool.false_and] at q
      exact q H (Same.refl H)
    | true =>
      rw [hl1, Bool.true_and] at q
      have hl2 := of_decide_eq_true hl1
      k_extra "rr"
      refine Zs.izs ?_
      k_extra "rr"
      refine slTX ha fun r H1 s1 h1 => ?_
      rw [show cutV l (some 1) none = l.drop 1 from cutV_drop (xs := l) (i := 1) (by omega)] at h1
      k_extra "rr"
      have z1 : (SX.S ls).cps.size = ls.length := by simp [SX.S]
      refine ⟨SX.S ls, r, _, rfl, ?_, SqT.of h1, ?_⟩
      · rw [← Array.all_toList, show (SX.S ls).cps.toList = ls by simp [SX.S]]
        exact List.all_eq_true.mpr fun c m => decide_eq_true (h128 c m)
      intro D nD
      refine lc_it (Zs.walk_zipS (K := K) (x := SX.S ls) (b := r) (ys := l.drop 1) (n := ls.length) (by rw [z1, List.length_drop]; omega)) (fun i H' => H' D = some (.lst ((((ls.zip (ds.drop 1)).take i).map fun p => fitB testB p.1 p.2).map V.bl)) ∧ Same H1 H') ⟨upd_same, same_upd nD⟩ (fun i H' _ p => SqT.of (p.2 _ _ h1)) ?_ ?_
      · rintro i x H2 H3 hi ⟨eD, s2⟩ ⟨tq, c, y, rfl, ntq, rfl, hc, hy⟩
        have hc2 : ls[i]? = some c := by
          have e : (SX.S ls).cps[i]? = ls[i]? := by simp [SX.S]
          rw [← e]
          exact hc
        rw [List.getElem?_drop] at hy
        obtain ⟨d1, ed, hd1⟩ := hd.get hy
        have m1 := List.mem_of_getElem? ed
        have gd1 := gA_mem g m1
        have sd1 := szA_mem m1
        have s3 := same_upd (o := .tup [.str ⟨#[c]⟩, y]) ntq
        have htq : upd H2 tq (.tup [.str ⟨#[c]⟩, y]) tq = some (.tup [.str ⟨#[c]⟩, y]) := upd_same
        have eD3 := s3 _ _ eD
        have hd2 := hd1.le (Le.same (b := b) ((s1.trans s2).trans s3))
        have s13 := s2.trans s3
        generalize upd H2 tq (.tup [.str ⟨#[c]⟩, y]) = H3 at htq eD3 hd2 s13
        have ez : (ls.zip (ds.drop 1))[i]? = some (c, d1) := by
          rw [List.getElem?_zip_eq_some]
          exact ⟨hc2, by rw [List.getElem?_drop]; exact ed⟩
        k_extra "rr"
        refine ⟨rfl, ?_⟩
        k_extra "rr"
        refine ⟨y, b, d1, c, rfl, hd2, gd1, by omega, fun z => hS (z ▸ List.mem_of_getElem? hc2), fun H4 s4 => ?_⟩
        refine ⟨_, s4 _ _ eD3, ?_, ?_, same_mut (s13.trans s4) nD⟩
        · rw [List.length_map, List.length_map, List.length_take, List.length_zip, sizeLine_eq]
          omega
        · rw [upd_same, List.take_add_one, ez, List.map_append, List.map_append]
          rfl
      · rintro H2 ⟨eD, s2⟩
        have zl : (ls.zip (ds.drop 1)).length = ls.length := by rw [List.length_zip, List.length_drop]; omega
        rw [← zl, List.take_length] at eD
        k_extra "rr"
        exact all_ (SqL.of eD) (q _ (s1.trans s2))
theorem ok_is_test {n : Nat} (hn : 1 ≤ n) (F : Fun K "is_test" "is_test" s_is_test f fd) (T : Txt mg) (gD_TESTS : ∃ u, mg "TESTS" = some u ∧ RelV (.ref aT) u) (tT : KTab K w aT (txtT testK)) (c_opening : Cal P w K mg base 1 "opening" spOpening) (c_all_fit : Cal P w K mg base n "all_fit" (spAllFit false)) :
    FnOk P w K mg base CX0 (n + 1) f fd ["value"] (spDat1 testB) := by
  refine F.ok sc_is_test (fun vs H Q E h => ?_) (fun cdv A outer s H vs Q E hr h => ?_)
  · obtain ⟨v, b, d, rfl, _⟩ := h
    rfl
  · obtain ⟨v, b, d, rfl, hv, g, hs, q⟩ := h
    refine ⟨_, (pss_cons (ps_set (i := 1) sc_is_test.nd rfl (.inl rfl) (pe_c c_opening hr (by omega) (by rfl) (pa_cons (pv 0) pa_nil)))
      (pss_one (ps_ret (pe_and (pe_cmpR (op_inKT K w) (pv 1) (pe_gc (by rfl) gD_TESTS) (by rfl)) (pe_one (pe_c c_all_fit hr (by omega) (by rfl) (pa_cons (pe_ix (ix_KT K w) (pe_gc (by rfl) gD_TESTS) (pv 1) (fun _ _ => rfl)) (pa_cons (pv 0) pa_nil)))))))), ?_⟩
    change (_ : TS) _ [some v, none] _
    k_extra "rr"
    refine ⟨v, b, d, rfl, hv, fun H1 s1 => ?_⟩
    have hv1 := hv.le (Le.same (b := b) s1)
    k_extra "rr"
    refine ⟨openD d, aT, _, rfl, rfl, tT, ?_⟩
    rw [txtT_get, Option.isSome_map]
    cases hk : testK.lookup (openD d) with
    | none =>
      k_extra "rr"
      have e : testB d = false := by
        match d with
        | .tuple (.str z :: r) =>
          show (match testK.lookup z with | some ls => allFitB (fun _ => false) ls (.str z :: r) | none => false) = _
          rw [show testK.lookup z = none from hk]
        | .tuple [] | .tuple (.none :: _) | .tuple (.bool _ :: _) | .tuple (.int _ :: _) | .tuple (.list _ :: _) | .tuple (.tuple _ :: _) | .tuple (.dict _ :: _) | .none | .bool _ | .int _ | .str _ | .list _ | .dict _ => rfl
      rw [show (none : Option (List Nat)).isSome = false from rfl]
      k_extra "rr"
      rw [← e]
      exact q H1 s1
    | some ls =>
      obtain ⟨z, r, rfl⟩ : ∃ z r, d = .tuple (.str z :: r) := by
        unfold openD at hk
        split at hk
        · exact ⟨_, _, rfl⟩
        · rw [testK_e] at hk
          cases hk
      obtain ⟨k1, k2, k3⟩ : ls.length ≤ 10 ∧ (∀ c ∈ ls, c < 128) ∧ 115 ∉ ls := testK_ok _ (lookup_mem hk)
      simp only [gD] at g
      simp only [sz] at hs
      rw [show (some ls : Option (List Nat)).isSome = true from rfl]
      k_extra "rr"
      refine ⟨openD _, aT, _, .str (SX.S ls), rfl, rfl, tT, by rw [txtT_get, hk]; rfl, ?_⟩
      k_extra "rr"
      refine ⟨v, b, _, ls, rfl, hv1, g, by omega, fun m => absurd m k3, k1, k2, fun H2 s2 => ?_⟩
      have e : testB (.tuple (.str z :: r)) = allFitB testB ls (.str z :: r) := by
        rw [allFit_no115 testB (fun _ => false) k3]
        show (match testK.lookup z with | some ls => allFitB (fun _ => false) ls (.str z :: r) | none => false) = _
        rw [show testK.lookup z = some ls from hk]
      rw [← e]
      exact q H2 (s1.trans s2)
theorem ok_is_line {n : Nat} (hn : 1 ≤ n) (F : Fun K "is_line" "is_line" s_is_line f fd) (T : Txt mg) (gD_FORMS : ∃ u, mg "FORMS" = some u ∧ RelV (.ref aF) u) (tF : KTab K w aF (txtT formK)) (gT_ENDS : ∃ u, mg "ENDS" = some u ∧ RelV (.ref aE) u) (tE : ∀ H, SqT K H aE endsT)
    (c_opening : Cal P w K mg base 1 "opening" spOpening) (c_all_fit : Cal P w K mg base n "all_fit" (spAllFit true)) : FnOk P w K mg base CX0 (n + 1) f fd ["value"] (spDat1 lineB) := by
  refine F.ok sc_is_line (fun vs H Q E h => ?_) (fun cdv A outer s H vs Q E hr h => ?_)
  · obtain ⟨v, b, d, rfl, _⟩ := h
    rfl
  · obtain ⟨v, b, d, rfl, hv, g, hs, q⟩ := h
    refine ⟨_, (pss_cons (ps_set (i := 1) sc_is_line.nd rfl (.inl rfl) (pe_c c_opening hr (by omega) (by rfl) (pa_cons (pv 0) pa_nil)))
      (pss_cons (ps_if (PW.pt (pw_or (pt_cmpR (op_ninKT K w) (pv 1) (pe_gc (by rfl) gD_FORMS) (by rfl)) (pw_or1 (pt_not (pt_val (pe_c c_all_fit hr (by omega) (by rfl) (pa_cons (pe_ix (ix_KT K w) (pe_gc (by rfl) gD_FORMS) (pv 1) (fun _ _ => rfl)) (pa_cons (pv 0) pa_nil)))))))) (pss_one (ps_ret pe_bl)) pss_nil)
      (pss_one (ps_ret (pe_or (pe_cmpR (op_ninX K) pe_str (pe_ix (ix_KT K w) (pe_gc (by rfl) gD_FORMS) (pv 1) (fun _ _ => rfl)) (by rfl)) (pe_or (pe_cmpR (op_neX K hr) (pe_ix (ix_X K) (pv 0) (pe_un un_neg pe_int) (fun _ _ => rfl)) pe_str (nomark _)) (pe_one (pe_cmpR (op_inX K) (pe_ix (ix_X K) (pv 0) (pe_un un_neg pe_int) (fun _ _ => rfl)) (pe_gc (by rfl) gT_ENDS) (by rfl))))))))), ?_⟩
    change (_ : TS) _ [some v, none] _
    k_extra "rr"
    refine ⟨v, b, d, rfl, hv, fun H1 s1 => ?_⟩
    have hv1 := hv.le (Le.same (b := b) s1)
    k_extra "rr"
    refine ⟨openD d, aF, _, rfl, rfl, tF, ?_⟩
    rw [txtT_get, Option.isSome_map]
    cases hk : formK.lookup (openD d) with
    | none =>
      have e : lineB d = false := by
        match d with
        | .tuple (.str z :: r) =>
          show (match formK.lookup z with | some ls => allFitB testB ls (.str z :: r) && (!decide (119 ∈ ls) || tailB (.str z :: r)) | none => false) = _
          rw [show formK.lookup z = none from hk]
        | .tuple [] | .tuple (.none :: _) | .tuple (.bool _ :: _) | .tuple (.int _ :: _) | .tuple (.list _ :: _) | .tuple (.tuple _ :: _) | .tuple (.dict _ :: _) | .none | .bool _ | .int _ | .str _ | .list _ | .dict _ => rfl
      rw [show (none : Option (List Nat)).isSome = false from rfl]
      k_extra "rr"
      rw [← e]
      exact q H1 s1
    | some ls =>
      obtain ⟨z, r, rfl⟩ : ∃ z r, d = .tuple (.str z :: r) := by
        unfold openD at hk
        split at hk
        · exact ⟨_, _, rfl⟩
        · rw [formK_e] at hk
          cases hk
      obtain ⟨k1, k2, k3⟩ : ls.length ≤ 10 ∧ (∀ c ∈ ls, c < 128) ∧ (119 ∈ ls → ls = [99, 107, 116, 119, 98] ∨ ls = [99, 99, 119, 98] ∨ ls = [99, 119, 98]) := formK_ok _ (lookup_mem hk)
      simp only [gD] at g
      simp only [sz] at hs
      have e : lineB (.tuple (.str z :: r)) = (allFitB testB ls (.str z :: r) && (!decide (119 ∈ ls) || tailB (.str z :: r))) := by
        show (match formK.lookup z with | some ls => allFitB testB ls (.str z :: r) && (!decide (119 ∈ ls) || tailB (.str z :: r)) | none => false) = _
        rw [show formK.lookup z = some ls from hk]
      rw [e] at q
      rw [show (some ls : Option (List Nat)).isSome = true from rfl]
      k_extra "rr"
      refine ⟨openD _, aF, _, .str (SX.S ls), rfl, rfl, tF, by rw [txtT_get, hk]; rfl, ?_⟩
      k_extra "rr"
      refine ⟨v, b, _, ls, rfl, hv1, g, by omega, fun _ => rfl, k1, k2, fun H2 s2 => ?_⟩
      have hv2 := hv1.le (Le.same (b := b) s2)
      cases hf : allFitB testB ls (.str z :: r) with
      | false =>
        k_extra "rr"
        rw [hf, Bool.false_and] at q
        exact q H2 (s1.trans s2)
      | true =>
        rw [hf, Bool.true_and] at q
        k_extra "rr"
        refine ⟨openD _, aF, _, .str (SX.S ls), rfl, rfl, tF, by rw [txtT_get, hk]; rfl, ?_⟩
        rw [show Str.ofString "w" = (⟨#[119]⟩ : Str) by decide +kernel]
        k_extra "rr"
        rw [show (SX.S ls).cps.toList = ls by simp [SX.S]]
        cases hw : decide (119 ∈ ls) with
        | false =>
          k_extra "rr"
          rw [hw] at q
          exact q H2 (s1.trans s2)
        | true =>
          rw [hw, Bool.not_true, Bool.false_or] at q
          obtain ⟨a, l, rfl, ha, hd⟩ := id hv2.tup
          have len := hd.len
          unfold allFitB at hf
          rw [Bool.and_eq_true, decide_eq_true_eq, List.all_map, List.all_eq_true] at hf
          obtain ⟨hf1, hf2⟩ := hf
          obtain ⟨pre, w0, b0, rfl, fw, fb⟩ : ∃ (pre : List PyData) (w0 b0 : PyData), r = pre ++ [w0, b0] ∧ isS w0 = true ∧ isS b0 = true := by
            have fin : ∀ {w0 b0 : PyData}, fitB testB 119 w0 = true → fitB testB 98 b0 = true → isS w0 = true ∧ isS b0 = true := fun {w0 b0} h1 h2 => by
              have h1 : (isS w0 && inV (vOf w0) placesT) = true := h1
              have h2 : (isS b0 && (decide (vOf b0 = .str "") || cursorB b0)) = true := h2
              rw [Bool.and_eq_true] at h1 h2
              exact ⟨h1.1, h2.1⟩
            rcases k3 (of_decide_eq_true hw) with rfl | rfl | rfl
            · match r, hf1, hf2 with
              | [x1, x2, x3, w0, b0], _, hf2 =>
                obtain ⟨i1, i2⟩ := fin (w0 := w0) (b0 := b0) (hf2 (119, w0) (by simp)) (hf2 (98, b0) (by simp))
                exact ⟨[x1, x2, x3], w0, b0, rfl, i1, i2⟩
            · match r, hf1, hf2 with
              | [x1, x2, w0, b0], _, hf2 =>
                obtain ⟨i1, i2⟩ := fin (w0 := w0) (b0 := b0) (hf2 (119, w0) (by simp)) (hf2 (98, b0) (by simp))
                exact ⟨[x1, x2], w0, b0, rfl, i1, i2⟩
            · match r, hf1, hf2 with
              | [x1, w0, b0], _, hf2 =>
                obtain ⟨i1, i2⟩ := fin (w0 := w0) (b0 := b0) (hf2 (119, w0) (by simp)) (hf2 (98, b0) (by simp))
                exact ⟨[x1], w0, b0, rfl, i1, i2⟩
          obtain ⟨zw, rfl⟩ : ∃ zw, w0 = .str zw := by
            cases w0 <;> first | exact ⟨_, rfl⟩ | cases fw
          obtain ⟨zb, rfl⟩ : ∃ zb, b0 = .str zb := by
            cases b0 <;> first | exact ⟨_, rfl⟩ | cases fb
          have et : tailB (.str z :: (pre ++ [.str zw, .str zb])) = (!decide (zb = Str.ofString "") || inV (.str zw) endsT) := by
            unfold tailB
            rw [show (PyData.str z :: (pre ++ [.str zw, .str zb])).reverse = .str zb :: .str zw :: (PyData.str z :: pre).reverse by simp]
            show (!decide (V.str zb = V.str "") || _) = _
            rw [show decide (V.str zb = V.str "") = decide (zb = Str.ofString "") from decide_eq_decide.mpr ⟨V.str.inj, congrArg _⟩]
            rfl
          rw [et] at q
          obtain ⟨l1, v1, rfl, hd1, hb1⟩ := DqA.unsnoc (ds := .str z :: (pre ++ [.str zw])) (d := .str zb) (by simpa using hd)
          obtain ⟨l2, v2, rfl, hd2, hw1⟩ := DqA.unsnoc (ds := .str z :: pre) (d := .str zw) (by simpa using hd1)
          simp only [Dq] at hb1 hw1
          subst hb1 hw1
          k_extra "rr"
          have i1 : atI (l2 ++ [V.str zw] ++ [V.str zb]) (-1) = some (.str zb) := L2.atI_last _ _
          have i2 : atI (l2 ++ [V.str zw] ++ [V.str zb]) (-2) = some (.str zw) := atI_last2 _ _ _
          refine ixT (SqT.of ha) i1 ?_
          k_extra "rr"
          cases hz : decide (zb = Str.ofString "") with
          | false =>
            k_extra "rr"
            rw [hz] at q
            exact q H2 (s1.trans s2)
          | true =>
            rw [hz, Bool.not_true, Bool.false_or] at q
            k_extra "rr"
            refine ixT (SqT.of ha) i2 ?_
            k_extra "rr"
            exact inSeq (.inr (tE H2)) rfl rfl (q H2 (s1.trans s2))
end

/-! ### lines within lines -/
mutual
def nl : PyData → Bool
  | .none => true
  | .bool _ => true
  | .int _ => true
  | .str _ => true
  | .list _ => false
  | .tuple ds => nlA ds
  | .dict _ => false
def nlA : List PyData → Bool
  | [] => true
  | d :: r => nl d && nlA r
end
mutual
theorem Dq.tle {b b' : Addr} {H H' : Hp} (s : TupLe H H') : ∀ {d : PyData} {v : V}, nl d = true → Dq b H d v → Dq b' H' d v
  | .none, _, _, h => by simpa only [Dq] using h
  | .bool _, _, _, h => by simpa only [Dq] using h
  | .int _, _, _, h => by simpa only [Dq] using h
  | .str _, _, _, h => by simpa only [Dq] using h
  | .list _, _, n, _ => by simp only [nl] at n; cases n
  | .dict _, _, n, _ => by simp only [nl] at n; cases n
  | .tuple ds, _, n, h => by
    simp only [nl] at n
    simp only [Dq] at h ⊢
    obtain ⟨a, l, e, h1, h2⟩ := h
    exact ⟨a, l, e, s a l h1, DqA.tle s n h2⟩
theorem DqA.tle {b b' : Addr} {H H' : Hp} (s : TupLe H H') : ∀ {ds : List PyData} {l : List V}, nlA ds = true → DqA b H ds l → DqA b' H' ds l
  | [], _, _, h => by simpa only [DqA] using h
  | d :: r, _, n, h => by
    simp only [nlA, Bool.and_eq_true] at n
    simp only [DqA] at h ⊢
    obtain ⟨v, m, e, h1, h2⟩ := h
    exact ⟨v, m, e, Dq.tle s n.1 h1, DqA.tle s n.2 h2⟩
end
theorem nlA_app {ds es : List PyData} : nlA (ds ++ es) = (nlA ds && nlA es) := by
  induction ds with
  | nil => simp only [nlA, List.nil_append, Bool.true_and]
  | cons x r ih => simp only [nlA, List.cons_append, ih, Bool.and_assoc]
theorem nlA_of {ds : List PyData} (h : ∀ d ∈ ds, nl d = true) : nlA ds = true := by
  induction ds with
  | nil => simp only [nlA]
  | cons x r ih => simp only [nlA, h x List.mem_cons_self, ih fun d m => h d (List.mem_cons_of_mem _ m), Bool.and_self]
theorem nlA_mem {ds : List PyData} {d : PyData} (h : nlA ds = true) (m : d ∈ ds) : nl d = true := by
  induction ds with
  | nil => cases m
  | cons x r ih =>
    simp only [nlA, Bool.and_eq_true] at h
    rcases List.mem_cons.mp m with rfl | m
    · exact h.1
    · exact ih h.2 m
def ifB (d : PyData) : Bool := decide (openD d = "if")
def inA : PyData → List PyData
  | .tuple [_, _, .tuple a, _] => a
  | _ => []
def inB : PyData → List PyData
  | .tuple [_, _, _, .tuple b] => b
  | _ => []
theorem line_str {d : PyData} (h : lineB d = true) : ∃ z r, d = .tuple (.str z :: r) := by
  unfold lineB at h
  split at h
  · exact ⟨_, _, rfl⟩
  · cases h
theorem isT_inv {d : PyData} (h : isT d = true) : ∃ a, d = .tuple a := by
  cases d <;> first | exact ⟨_, rfl⟩ | cases h
theorem line_fit {z : Str} {r : List PyData} {ls : List Nat} (h : lineB (.tuple (.str z :: r)) = true) (hk : formK.lookup z = some ls) : allFitB testB ls (.str z :: r) = true ∧ (!decide (119 ∈ ls) || tailB (.str z :: r)) = true := by
  have e : lineB (.tuple (.str z :: r)) = (allFitB testB ls (.str z :: r) && (!decide (119 ∈ ls) || tailB (.str z :: r))) := by
    show (match formK.lookup z with | some ls => allFitB testB ls (.str z :: r) && (!decide (119 ∈ ls) || tailB (.str z :: r)) | none => false) = _
    rw [hk]
  rw [e, Bool.and_eq_true] at h
  exact h
theorem formK_if : formK.lookup ("if" : Str) = some [115, 108, 108] := by decide +kernel
theorem line_if {d : PyData} (h : lineB d = true) (hi : ifB d = true) : ∃ t a b, d = .tuple [.str "if", t, .tuple a, .tuple b] ∧ testB t = true := by
  obtain ⟨z, r, rfl⟩ := line_str h
  obtain rfl : z = "if" := of_decide_eq_true hi
  obtain ⟨hf, _⟩ := line_fit h formK_if
  unfold allFitB at hf
  rw [Bool.and_eq_true, decide_eq_true_eq, List.all_map, List.all_eq_true] at hf
  obtain ⟨hf1, hf2⟩ := hf
  match r, hf1, hf2 with
  | [t, a, b], _, hf2 =>
    have f1 : fitB testB 115 t = true := hf2 (115, t) (by simp)
    have f2 : fitB testB 108 a = true := hf2 (108, a) (by simp)
    have f3 : fitB testB 108 b = true := hf2 (108, b) (by simp)
    obtain ⟨a', rfl⟩ := isT_inv (d := a) f2
    obtain ⟨b', rfl⟩ := isT_inv (d := b) f3
    exact ⟨t, a', b', rfl, f1⟩
def partsF (rec_ : List PyData → Int × Int) : List (List PyData) → Int → (Int × Int) ⊕ Int
  | [], m => .inr m
  | p :: ps, m => if 0 ≤ (rec_ p).1 then .inl (m + (rec_ p).1, m) else partsF rec_ ps (m + (rec_ p).2)
def stepF (rec_ : List PyData → Int × Int) (ok : Bool) (d : PyData) (m : Int) : (Int × Int) ⊕ Int :=
  if lineB d = false then .inl (m, m) else if ifB d = true then (if ok = true then partsF rec_ [inA d, inB d] (m + 1) else .inl (m, m)) else .inr (m + 1)
def faultL (rec_ : List PyData → Int × Int) (ok : Bool) : List PyData → Int → Int × Int
  | [], m => (-1, m)
  | d :: r, m => match stepF rec_ ok d m with
    | .inl res => res
    | .inr m' => faultL rec_ ok r m'
def faultN : Nat → List PyData → Int × Int
  | 0, ds => faultL (fun _ => (0, 0)) false ds 0
  | n + 1, ds => faultL (faultN n) true ds 0
theorem faultL_drop {rec_ : List PyData → Int × Int} {ok : Bool} : ∀ {ds : List PyData} {i : Nat} {d : PyData} {m : Int}, ds[i]? = some d → faultL rec_ ok (ds.drop i) m = match stepF rec_ ok d m with
    | .inl res => res
    | .inr m' => faultL rec_ ok (ds.drop (i + 1)) m'
  | x :: r, 0, d, m, h => by
    cases h
    rfl
  | x :: r, i + 1, d, m, h => faultL_drop (ds := r) (i := i) h
def everyL (rec_ : List PyData → List PyData) : List PyData → List PyData
  | [] => []
  | d :: r => d :: ((if ifB d = true then rec_ (inA d) ++ rec_ (inB d) else []) ++ everyL rec_ r)
def everyN : Nat → List PyData → List PyData
  | 0, ds => everyL (fun _ => []) ds
  | n + 1, ds => everyL (everyN n) ds
def okL (rec_ : List PyData → Bool) (ok : Bool) (ds : List PyData) : Bool := ds.all fun d => lineB d && (!ifB d || (ok && (rec_ (inA d) && rec_ (inB d))))
def okN : Nat → List PyData → Bool
  | 0, ds => okL (fun _ => true) false ds
  | n + 1, ds => okL (okN n) true ds
theorem everyL_snoc (rec_ : List PyData → List PyData) (d : PyData) : ∀ ds : List PyData, everyL rec_ (ds ++ [d]) = everyL rec_ ds ++ (d :: (if ifB d = true then rec_ (inA d) ++ rec_ (inB d) else []))
  | [] => by simp [everyL]
  | x :: r => by
    show x :: ((if ifB x = true then rec_ (inA x) ++ rec_ (inB x) else []) ++ everyL rec_ (r ++ [d])) = _
    rw [everyL_snoc rec_ d r]
    simp [everyL]
theorem faultL_ok {rec_ : List PyData → Int × Int} {rk : List PyData → Bool} {ok : Bool} (h : ∀ ds, (rec_ ds).1 < 0 → rk ds = true) : ∀ (ds : List PyData) (m : Int), 0 ≤ m → (∀ ds', 0 ≤ (rec_ ds').2) → (faultL rec_ ok ds m).1 < 0 → okL rk ok ds = true
  | [], m, _, _, _ => rfl
  | d :: r, m, m0, k, e => by
    unfold faultL at e
    unfold okL
    rw [List.all_cons, Bool.and_eq_true]
    unfold stepF at e
    cases hl : lineB d with
    | false =>
      rw [hl, if_pos rfl] at e
      have e : m < 0 := e
      omega
    | true =>
      rw [hl, if_neg (by decide)] at e
      cases hi : ifB d with
      | false =>
        rw [hi, if_neg (by decide)] at e
        exact ⟨rfl, faultL_ok h r (m + 1) (by omega) k e⟩
      | true =>
        rw [hi, if_pos rfl] at e
        cases ho : ok with
        | false =>
          rw [ho, if_neg (by decide)] at e
          have e : m < 0 := e
          omega
        | true =>
          rw [ho, if_pos rfl] at e
          unfold partsF at e
          have ka := k (inA d)
          have kb := k (inB d)
          by_cases h1 : 0 ≤ (rec_ (inA d)).1
          · rw [if_pos h1] at e
            have e : m + 1 + (rec_ (inA d)).1 < 0 := e
            omega
          · rw [if_neg h1] at e
            unfold partsF at e
            by_cases h2 : 0 ≤ (rec_ (inB d)).1
            · rw [if_pos h2] at e
              have e : m + 1 + (rec_ (inA d)).2 + (rec_ (inB d)).1 < 0 := e
              omega
            · rw [if_neg h2] at e
              unfold partsF at e
              refine ⟨?_, ?_⟩
              · rw [h _ (by omega), h _ (by omega)]
                rfl
              · have := faultL_ok (ok := ok) h r (m + 1 + (rec_ (inA d)).2 + (rec_ (inB d)).2) (by omega) k (by rw [ho]; exact e)
                rw [ho] at this
                exact this
theorem faultL_nn {rec_ : List PyData → Int × Int} {ok : Bool} (k : ∀ ds', 0 ≤ (rec_ ds').2) : ∀ (ds : List PyData) (m : Int), 0 ≤ m → 0 ≤ (faultL rec_ ok ds m).2
  | [], m, m0 => m0
  | d :: r, m, m0 => by
    unfold faultL stepF
    have ka := k (inA d)
    have kb := k (inB d)
    split
    · rename_i res e
      split at e
      · cases e
        exact m0
      · split at e
        · split at e
          · unfold partsF at e
            split at e
            · cases e
              show 0 ≤ m + 1
              omega
            · unfold partsF at e
              split at e
              · cases e
                show 0 ≤ m + 1 + (rec_ (inA d)).2
                omega
              · unfold partsF at e
                cases e
          · cases e
            exact m0
        · cases e
    · rename_i m' e
      refine faultL_nn k r m' ?_
      split at e
      · cases e
      · split at e
        · split at e
          · unfold partsF at e
            split at e
            · cases e
            · unfold partsF at e
              split at e
              · cases e
              · unfold partsF at e
                cases e
                omega
          · cases e
        · cases e
          omega
theorem faultN_nn : ∀ (n : Nat) (ds : List PyData), 0 ≤ (faultN n ds).2
  | 0, ds => faultL_nn (fun _ => Int.le_refl _) ds 0 (Int.le_refl _)
  | n + 1, ds => faultL_nn (faultN_nn n) ds 0 (Int.le_refl _)
theorem faultN_ok : ∀ (n : Nat) (ds : List PyData), (faultN n ds).1 < 0 → okN n ds = true
  | 0, ds, h => faultL_ok (fun _ _ => rfl) ds 0 (Int.le_refl _) (fun _ => Int.le_refl _) h
  | n + 1, ds, h => faultL_ok (faultN_ok n) ds 0 (Int.le_refl _) (faultN_nn n) h
theorem faultL_cnt {rec_ : List PyData → Int × Int} {rk : List PyData → Bool} {re : List PyData → List PyData} {ok : Bool} (h : ∀ ds, rk ds = true → rec_ ds = (-1, ((re ds).length : Int))) :
    ∀ (ds : List PyData) (m : Int), okL rk ok ds = true → faultL rec_ ok ds m = (-1, m + ((everyL re ds).length : Int))
  | [], m, _ => by
    show (-1, m) = (-1, m + ((0 : Nat) : Int))
    congr 1
    omega
  | d :: r, m, e => by
    unfold okL at e
    rw [List.all_cons, Bool.and_eq_true, Bool.and_eq_true, Bool.or_eq_true, Bool.and_eq_true, Bool.and_eq_true] at e
    obtain ⟨⟨h1, h2⟩, h3⟩ := e
    unfold faultL stepF
    rw [h1, if_neg (by decide)]
    cases hi : ifB d with
    | false =>
      rw [if_neg (by decide)]
      show faultL rec_ ok r (m + 1) = _
      rw [faultL_cnt h r (m + 1) h3]
      show _ = (-1, m + (((d :: ((if ifB d = true then re (inA d) ++ re (inB d) else []) ++ everyL re r)).length : Nat) : Int))
      rw [hi, if_neg (by decide), List.nil_append, List.length_cons]
      congr 1
      omega
    | true =>
      rw [hi] at h2
      obtain ⟨rfl, ha, hb⟩ := h2.resolve_left (by decide)
      rw [if_pos rfl, if_pos rfl]
      unfold partsF partsF partsF
      rw [h _ ha, h _ hb]
      show faultL rec_ true r (m + 1 + ((re (inA d)).length : Int) + ((re (inB d)).length : Int)) = _
      rw [faultL_cnt h r _ h3]
      show _ = (-1, m + (((d :: ((if ifB d = true then re (inA d) ++ re (inB d) else []) ++ everyL re r)).length : Nat) : Int))
      rw [hi, if_pos rfl, List.length_cons, List.length_append, List.length_append]
      congr 1
      omega
theorem faultN_cnt : ∀ (n : Nat) (ds : List PyData), okN n ds = true → faultN n ds = (-1, ((everyN n ds).length : Int))
  | 0, ds, h => by
    have := faultL_cnt (rec_ := fun _ => (0, 0)) (rk := fun _ => false) (re := fun _ => []) (ok := false) (fun _ h => by cases h) ds 0 (by
      unfold okN okL at h
      unfold okL
      rw [List.all_eq_true] at h ⊢
      intro d hd
      have := h d hd
      simpa using this)
    rw [Int.zero_add] at this
    exact this
  | n + 1, ds, h => by
    have := faultL_cnt (ok := true) (faultN_cnt n) ds 0 h
    rw [Int.zero_add] at this
    exact this
theorem test_nl {d : PyData} (h : testB d = true) : nl d = true := by
  unfold testB at h
  split at h
  · rename_i z r
    cases hk : testK.lookup z with
    | none =>
      rw [hk] at h
      cases h
    | some ls =>
      rw [hk] at h
      have h : allFitB (fun _ => false) ls (.str z :: r) = true := h
      obtain ⟨_, _, k3⟩ : ls.length ≤ 10 ∧ (∀ c ∈ ls, c < 128) ∧ 115 ∉ ls := testK_ok _ (lookup_mem hk)
      have k4 : ∀ p ∈ testK, ∀ c ∈ p.2, c = 99 ∨ c = 107 := by decide +kernel
      have k5 : ∀ c ∈ ls, c = 99 ∨ c = 107 := k4 _ (lookup_mem hk)
      unfold allFitB at h
      rw [Bool.and_eq_true, decide_eq_true_eq, List.all_map, List.all_eq_true] at h
      obtain ⟨h1, h2⟩ := h
      simp only [nl, nlA, Bool.true_and]
      refine nlA_of fun d hd => ?_
      obtain ⟨i, hi⟩ := List.getElem?_of_mem hd
      have hl : i < r.length := (List.getElem?_eq_some_iff.mp hi).1
      have hl2 : i < ls.length := by simp only [List.length_cons] at h1; omega
      have hz : (ls.zip r)[i]? = some (ls[i], d) := by
        rw [List.getElem?_zip_eq_some]
        exact ⟨List.getElem?_eq_getElem hl2, hi⟩
      have := h2 _ (List.mem_of_getElem? hz)
      have this : fitB (fun _ => false) ls[i] d = true := this
      rcases k5 _ (List.getElem_mem hl2) with e | e
      · rw [e] at this
        have this : cursorB d = true := this
        unfold cursorB at this
        rw [Bool.and_eq_true] at this
        cases d <;> first | rfl | (have := this.1; cases this)
      · rw [e] at this
        have this : kindB d = true := this
        unfold kindB at this
        rw [Bool.and_eq_true] at this
        cases d <;> first | rfl | (have := this.1; cases this)
  · cases h
theorem fitS_nl {tst : PyData → Bool} {c : Nat} {d : PyData} (hc : c ≠ 115) (hl : c = 99 ∨ c = 107 ∨ c = 116 ∨ c = 119 ∨ c = 98) (h : fitB tst c d = true) : nl d = true := by
  have w : ∀ {n : Int}, wordB (vOf d) n = true → nl d = true := fun h => by
    cases d <;> first | rfl | cases h
  have t : textB (vOf d) = true → nl d = true := fun h => by
    cases d <;> first | rfl | cases h
  have s : isS d = true → nl d = true := fun h => by
    cases d <;> first | rfl | cases h
  rcases hl with rfl | rfl | rfl | rfl | rfl
  · have h : (wordB (vOf d) 3 && _) = true := h
    rw [Bool.and_eq_true] at h
    exact w h.1
  · have h : (wordB (vOf d) 6 && _) = true := h
    rw [Bool.and_eq_true] at h
    exact w h.1
  · exact t h
  · have h : (isS d && _) = true := h
    rw [Bool.and_eq_true] at h
    exact s h.1
  · have h : (isS d && _) = true := h
    rw [Bool.and_eq_true] at h
    exact s h.1
theorem line_nl {d : PyData} (h : lineB d = true) (hi : ifB d = false) : nl d = true := by
  obtain ⟨z, r, rfl⟩ := line_str h
  have hz : z ≠ "if" := of_decide_eq_false hi
  cases hk : formK.lookup z with
  | none =>
    have e : lineB (.tuple (.str z :: r)) = false := by
      show (match formK.lookup z with | some ls => allFitB testB ls (.str z :: r) && (!decide (119 ∈ ls) || tailB (.str z :: r)) | none => false) = _
      rw [hk]
    rw [e] at h
    cases h
  | some ls =>
    obtain ⟨hf, _⟩ := line_fit h hk
    have k4 : ∀ p ∈ formK, p.1 ≠ "if" → ∀ c ∈ p.2, c ≠ 115 ∧ (c = 99 ∨ c = 107 ∨ c = 116 ∨ c = 119 ∨ c = 98) := by decide +kernel
    have k5 : ∀ c ∈ ls, c ≠ 115 ∧ (c = 99 ∨ c = 107 ∨ c = 116 ∨ c = 119 ∨ c = 98) := k4 _ (lookup_mem hk) hz
    unfold allFitB at hf
    rw [Bool.and_eq_true, decide_eq_true_eq, List.all_map, List.all_eq_true] at hf
    obtain ⟨h1, h2⟩ := hf
    simp only [nl, nlA, Bool.true_and]
    refine nlA_of fun d hd => ?_
    obtain ⟨i, hi⟩ := List.getElem?_of_mem hd
    have hl : i < r.length := (List.getElem?_eq_some_iff.mp hi).1
    have hl2 : i < ls.length := by simp only [List.length_cons] at h1; omega
    have hz : (ls.zip r)[i]? = some (ls[i], d) := by
      rw [List.getElem?_zip_eq_some]
      exact ⟨List.getElem?_eq_getElem hl2, hi⟩
    have this : fitB testB ls[i] d = true := h2 _ (List.mem_of_getElem? hz)
    obtain ⟨a, b⟩ := k5 _ (List.getElem_mem hl2)
    exact fitS_nl a b this
theorem okL_nl {rk : List PyData → Bool} {ok : Bool} {ds : List PyData} (hr : ok = true → ∀ es, rk es = true → nlA es = true) (h : okL rk ok ds = true) : nlA ds = true := by
  refine nlA_of fun d hd => ?_
  unfold okL at h
  rw [List.all_eq_true] at h
  have := h d hd
  rw [Bool.and_eq_true, Bool.or_eq_true, Bool.and_eq_true, Bool.and_eq_true] at this
  obtain ⟨h1, h2⟩ := this
  cases hi : ifB d with
  | false => exact line_nl h1 hi
  | true =>
    rw [hi] at h2
    obtain ⟨ho, ha, hb⟩ := h2.resolve_left (by decide)
    obtain ⟨t, a, b, rfl, ht⟩ := line_if h1 hi
    simp only [nl, nlA, Bool.true_and, Bool.and_true, test_nl ht, hr ho _ (show rk a = true from ha), hr ho _ (show rk b = true from hb), Bool.and_self]
theorem okN_nl : ∀ (n : Nat) {ds : List PyData}, okN n ds = true → nlA ds = true
  | 0, ds, h => okL_nl (fun z => by cases z) h
  | n + 1, ds, h => okL_nl (fun _ es => okN_nl n) h

def SqD (b : Addr) (H : Hp) (ds : List PyData) (v : V) : Prop := ∃ a l, v = .ref a ∧ ((H a = some (.lst l) ∧ a ≠ b) ∨ H a = some (.tup l)) ∧ DqA b H ds l
def spFault (g : List PyData → Int × Int) (dep : Int) : Sp := fun vs H Q _ => ∃ (v : V) (b : Addr) (ds : List PyData), vs = [v, .int dep] ∧ SqD b H ds v ∧ gA ds = true ∧ szA ds < 10000 ∧
  ∀ (p : Addr) (H' : Hp), Same H H' → H' p = some (.tup [.int (g ds).1, .int (g ds).2]) → Q (.ref p) H'
section
variable {P : Program} {w : World} {K : PySem.W.Frag} {mg : Str → Option Value} {base : Heap} {f : Addr} {fd : FuncData}
theorem ok_fault_in {m n : Nat} {rec_ : List PyData → Int × Int} {ok : Bool} {dep : Int} {spR : Sp} (hn : 1 ≤ n) (hm : m ≤ n) (hok : ok = !decide (dep > 3)) (F : Fun K "fault_in" "fault_in" s_fault_in f fd) (T : Txt mg) (c_is_line : Cal P w K mg base n "is_line" (spDat1 lineB))
    (c_fault_in : Cal P w K mg base m "fault_in" spR) (hR : ok = true → ∀ vs H Q E, spFault rec_ (dep + 1) vs H Q E → spR vs H Q E) : FnOk P w K mg base CX0 (n + 1) f fd ["lines", "depth"] (spFault (fun ds => faultL rec_ ok ds 0) dep) := by
  refine F.ok sc_fault_in (fun vs H Q E h => ?_) (fun cdv A outer s H vs Q E hr h => ?_)
  · obtain ⟨v, b, ds, rfl, _⟩ := h
    rfl
  · obtain ⟨v, b, ds, rfl, ⟨a, l, rfl, hD, hd⟩, g, hs, q⟩ := h
    have len := hd.len
    have q : ∀ (p : Addr) (H' : Hp), Same H H' → H' p = some (.tup [.int (faultL rec_ ok ds 0).1, .int (faultL rec_ ok ds 0).2]) → Q (.ref p) H' := q
    obtain ⟨res, hres⟩ : ∃ res, faultL rec_ ok ds 0 = res := ⟨_, rfl⟩
    rw [hres] at q
    rcases hD with ⟨hD, _⟩ | hD
    case' inl =>
      refine ⟨_, (pss_cons (ps_set (i := 2) sc_fault_in.nd rfl (.inl rfl) pe_int)
      (pss_cons (ps_for PassesOwn.never rfl (pi_listX K (pv 0)) (pg_name (i := 3) sc_fault_in.nd rfl (.inl rfl)) (pss_cons (ps_if (PW.pt (pw_or (pt_not (pt_val (pe_c c_is_line hr (by omega) (by rfl) (pa_cons (pv 3) pa_nil)))) (pw_or1 (PW.pt (pw_and (pt_cmpR (op_eqX K hr) (pe_ix (ix_X K) (pv 3) pe_int (fun _ _ => rfl)) pe_str (nomark _)) (pw_and1 (pt_cmpR op_gt (pv 1) (pe_gc (by rfl) T.g_MOST_DEPTH) (nomark _)))))))) (pss_one (ps_ret (pe_tup (pa_cons (pv 2) (pa_cons (pv 2) pa_nil))))) pss_nil)
      (pss_cons (ps_set (i := 2) sc_fault_in.nd rfl (.inl rfl) (pe_op (op_addX K) (pv 2) pe_int))
      (pss_one (ps_if (pt_cmpR (op_eqX K hr) (pe_ix (ix_X K) (pv 3) pe_int (fun _ _ => rfl)) pe_str (nomark _)) (pss_one (ps_for PassesOwn.never rfl (pi_tupX K (pe_slice (sl_X K) (pv 3) (po_some pe_int) po_none)) (pg_name (i := 4) sc_fault_in.nd rfl (.inl rfl)) (pss_cons (ps_asg (pe_c c_fault_in hr (by omega) (by rfl) (pa_cons (pv 4) (pa_cons (pe_op (op_addX K) (pv 1) pe_int) pa_nil))) (pg_tupX K (pg_tup (n := 2) (by rfl) (pgs_cons (pg_name (i := 5) sc_fault_in.nd rfl (.inl rfl)) (pgs_cons (pg_name (i := 6) sc_fault_in.nd rfl (.inl rfl)) pgs_nil)))))
      (pss_cons (ps_if (pt_cmpR op_ge (pv 5) pe_int (nomark _)) (pss_one (ps_ret (pe_tup (pa_cons (pe_op (op_addX K) (pv 2) (pv 5)) (pa_cons (pv 2) pa_nil))))) pss_nil)
      (pss_one (ps_set (i := 2) sc_fault_in.nd rfl (.inl rfl) (pe_op (op_addX K) (pv 2) (pv 6)))))))) pss_nil)))))
      (pss_one (ps_ret (pe_tup (pa_cons (pe_un un_neg pe_int) (pa_cons (pv 2) pa_nil))))))), ?_⟩
      change (_ : TS) _ [some (V.ref a), some (.int dep), none, none, none, none, none] _
      have hW := walk_list (K := K) (a := a) (xs := l)
      have hG : ∀ H', Same H H' → SqL K H' a l := fun H' s => SqL.of (s _ _ hD)
      k_extra "rr"
    case' inr =>
      refine ⟨_, (pss_cons (ps_set (i := 2) sc_fault_in.nd rfl (.inl rfl) pe_int)
      (pss_cons (ps_for PassesOwn.never rfl (pi_tupX K (pv 0)) (pg_name (i := 3) sc_fault_in.nd rfl (.inl rfl)) (pss_cons (ps_if (PW.pt (pw_or (pt_not (pt_val (pe_c c_is_line hr (by omega) (by rfl) (pa_cons (pv 3) pa_nil)))) (pw_or1 (PW.pt (pw_and (pt_cmpR (op_eqX K hr) (pe_ix (ix_X K) (pv 3) pe_int (fun _ _ => rfl)) pe_str (nomark _)) (pw_and1 (pt_cmpR op_gt (pv 1) (pe_gc (by rfl) T.g_MOST_DEPTH) (nomark _)))))))) (pss_one (ps_ret (pe_tup (pa_cons (pv 2) (pa_cons (pv 2) pa_nil))))) pss_nil)
      (pss_cons (ps_set (i := 2) sc_fault_in.nd rfl (.inl rfl) (pe_op (op_addX K) (pv 2) pe_int))
      (pss_one (ps_if (pt_cmpR (op_eqX K hr) (pe_ix (ix_X K) (pv 3) pe_int (fun _ _ => rfl)) pe_str (nomark _)) (pss_one (ps_for PassesOwn.never rfl (pi_tupX K (pe_slice (sl_X K) (pv 3) (po_some pe_int) po_none)) (pg_name (i := 4) sc_fault_in.nd rfl (.inl rfl)) (pss_cons (ps_asg (pe_c c_fault_in hr (by omega) (by rfl) (pa_cons (pv 4) (pa_cons (pe_op (op_addX K) (pv 1) pe_int) pa_nil))) (pg_tupX K (pg_tup (n := 2) (by rfl) (pgs_cons (pg_name (i := 5) sc_fault_in.nd rfl (.inl rfl)) (pgs_cons (pg_name (i := 6) sc_fault_in.nd rfl (.inl rfl)) pgs_nil)))))
      (pss_cons (ps_if (pt_cmpR op_ge (pv 5) pe_int (nomark _)) (pss_one (ps_ret (pe_tup (pa_cons (pe_op (op_addX K) (pv 2) (pv 5)) (pa_cons (pv 2) pa_nil))))) pss_nil)
      (pss_one (ps_set (i := 2) sc_fault_in.nd rfl (.inl rfl) (pe_op (op_addX K) (pv 2) (pv 6)))))))) pss_nil)))))
      (pss_one (ps_ret (pe_tup (pa_cons (pe_un un_neg pe_int) (pa_cons (pv 2) pa_nil))))))), ?_⟩
      change (_ : TS) _ [some (V.ref a), some (.int dep), none, none, none, none, none] _
      have hW := walk_tup (K := K) (a := a) (xs := l)
      have hG : ∀ H', Same H H' → SqT K H' a l := fun H' s => SqT.of (s _ _ hD)
      k_extra "rr"
      refine ⟨a, rfl, ⟨l, SqT.of hD⟩, ?_⟩
    all_goals
      refine for_it hW (fun i σ H' => ∃ (mi : Int) (v3 v4 v5 v6 : Option V), σ = [some (.ref a), some (.int dep), some (.int mi), v3, v4, v5, v6] ∧ Same H H' ∧ faultL rec_ ok (ds.drop i) mi = res) ⟨0, _, _, _, _, rfl, Same.refl _, hres⟩ (fun i σ H' _ ⟨_, _, _, _, _, _, s, _⟩ => hG _ s) ?_ ?_
      · rintro i x σ H1 H2 hi ⟨mi, v3, v4, v5, v6, rfl, s1, hbx⟩ ⟨rfl, hx⟩
        obtain ⟨d, ed, hd1⟩ := hd.get hx
        have hdm := List.mem_of_getElem? ed
        have gd := gA_mem g hdm
        have sd := szA_mem hdm
        have hdd := hd1.le (Le.same (b := b) s1)
        rw [faultL_drop ed] at hbx
        k_extra "rr"
        refine ⟨x, b, d, rfl, hdd, gd, by omega, fun H3 s3 => ?_⟩
        have s13 := s1.trans s3
        have hd3 := hdd.le (Le.same (b := b) s3)
        unfold stepF at hbx
        cases hl : lineB d with
        | false =>
          rw [hl, if_pos rfl] at hbx
          k_extra "rr"
          refine ⟨by k_extra "sz", fun p np => ?_⟩
          k_extra "rr"
          refine q p _ (s13.trans (same_upd np)) ?_
          rw [upd_same, ← hbx]
        | true =>
          rw [hl, if_neg (by decide)] at hbx
          obtain ⟨z, r, rfl⟩ := line_str hl
          obtain ⟨ad, ld, rfl, had, hld⟩ := id hd3.tup
          obtain ⟨v0, lr, rfl, h0, hlr⟩ := hld.inv
          simp only [Dq] at h0
          subst h0
          have at0 : atI (V.str z :: lr) 0 = some (.str z) := (show atI (V.str z :: lr) ((0 : Nat) : Int) = some _ from atI_nat rfl)
          have ez : decide (z = Str.ofString "if") = ifB (.tuple (.str z :: r)) := rfl
          k_extra "rr"
          refine ixT (SqT.of had) at0 ?_
          k_extra "rr"
          rw [ez]
          cases hi : ifB (.tuple (.str z :: r)) with
          | false =>
            rw [hi, if_neg (by decide)] at hbx
            k_extra "rr"
            refine ixT (SqT.of had) at0 ?_
            k_extra "rr"
            rw [ez, hi]
            k_extra "rr"
            exact ⟨mi + 1, _, _, _, _, rfl, s13, hbx⟩
          | true =>
            rw [hi, if_pos rfl] at hbx
            k_extra "rr"
            have hok2 : decide (dep > 3) = !ok := by rw [hok, Bool.not_not]
            rw [hok2]
            cases ho : ok with
            | false =>
              rw [ho, if_neg (by decide)] at hbx
              k_extra "rr"
              refine ⟨by k_extra "sz", fun p np => ?_⟩
              k_extra "rr"
              refine q p _ (s13.trans (same_upd np)) ?_
              rw [upd_same, ← hbx]
            | true =>
              rw [ho, if_pos rfl] at hbx
              obtain ⟨t, da, db, ee, ht⟩ := line_if hl hi
              cases ee
              obtain ⟨vt, lr1, rfl, ht1, hlr1⟩ := hlr.inv
              obtain ⟨va, lr2, rfl, ha1, hlr2⟩ := hlr1.inv
              obtain ⟨vb, lr3, rfl, hb1, hlr3⟩ := hlr2.inv
              obtain rfl := hlr3.inv0
              k_extra "rr"
              rw [show decide (Str.ofString "if" = Str.ofString "if") = true from decide_eq_true rfl]
              k_extra "rr"
              refine slTX had fun pr H4 s4 h4 => ?_
              rw [show cutV [V.str (Str.ofString "if"), vt, va, vb] (some 2) none = [va, vb] from cutV_drop (xs := [V.str (Str.ofString "if"), vt, va, vb]) (i := 2) (by simp)] at h4
              refine ⟨pr, rfl, ⟨_, SqT.of h4⟩, ?_⟩
              have s14 := s13.trans s4
              have dA : ∀ {j : Nat} {y : V}, [va, vb][j]? = some y → ∃ dj, [da, db][j]? = some dj ∧ Dq b H3 (.tuple dj) y ∧ gA dj = true ∧ szA dj < 10000 := fun {j y} hy => by
                simp only [gD, gA, Bool.and_eq_true] at gd
                simp only [sz, szA] at sd
                match j, hy with
                | 0, hy =>
                  cases hy
                  exact ⟨da, rfl, ha1, gd.2.2.1, by omega⟩
                | 1, hy =>
                  cases hy
                  exact ⟨db, rfl, hb1, gd.2.2.2.1, by omega⟩
              refine for_it (walk_tup (K := K) (a := pr) (xs := [va, vb])) (fun j σ H' => ∃ (mj : Int) (v4 v5 v6 : Option V), σ = [some (.ref a), some (.int dep), some (.int mj), some (.ref ad), v4, v5, v6] ∧ Same H4 H' ∧ partsF rec_ ([da, db].drop j) mj = partsF rec_ [da, db] (mi + 1)) ⟨mi + 1, _, _, _, rfl, Same.refl _, rfl⟩ (fun j σ H' _ ⟨_, _, _, _, _, s, _⟩ => SqT.of (s _ _ h4)) ?_ ?_
              · rintro j y σ H5 H6 hj ⟨mj, v4, v5, v6, rfl, s5, hpj⟩ ⟨rfl, hy⟩
                obtain ⟨dj, edj, hdj, gdj, sdj⟩ := dA hy
                have hdj5 := hdj.le (Le.same (b := b) (s4.trans s5))
                obtain ⟨aj, lj, rfl, haj, hlj⟩ := id hdj5.tup
                have ep : partsF rec_ ([da, db].drop j) mj = if 0 ≤ (rec_ dj).1 then .inl (mj + (rec_ dj).1, mj) else partsF rec_ ([da, db].drop (j + 1)) (mj + (rec_ dj).2) := by
                  match j, edj with
                  | 0, e => cases e; rfl
                  | 1, e => cases e; rfl
                rw [ep] at hpj
                k_extra "rr"
                refine hR ho _ _ _ _ ⟨_, b, dj, rfl, ⟨aj, lj, rfl, .inr haj, hlj⟩, gdj, sdj, fun pq H7 s7 h7 => ?_⟩
                k_extra "rr"
                have s17 := (s14.trans s5).trans s7
                refine iteD (fun h0 => ?_) (fun h0 => ?_)
                · rw [if_pos h0] at hpj
                  k_extra "rr"
                  refine ⟨by k_extra "sz", fun p np => ?_⟩
                  k_extra "rr"
                  refine q p _ (s17.trans (same_upd np)) ?_
                  have er : res = (mj + (rec_ dj).1, mj) := by
                    rw [← hbx]
                    show (match partsF rec_ [da, db] (mi + 1) with | .inl res => res | .inr m' => faultL rec_ true (ds.drop (i + 1)) m') = _
                    rw [← hpj]
                  rw [upd_same, er]
                · rw [if_neg h0] at hpj
                  k_extra "rr"
                  exact ⟨_, _, _, _, rfl, s5.trans s7, hpj⟩
              · rintro σ H5 ⟨mj, v4, v5, v6, rfl, s5, hpj⟩
                k_extra "rr"
                refine ⟨mj, _, _, _, _, rfl, s14.trans s5, ?_⟩
                rw [← hbx]
                show _ = (match partsF rec_ [da, db] (mi + 1) with | .inl res => res | .inr m' => faultL rec_ true (ds.drop (i + 1)) m')
                rw [← hpj]
                rfl
      · rintro σ H1 ⟨mi, v3, v4, v5, v6, rfl, s1, hbx⟩
        rw [len, List.drop_length] at hbx
        k_extra "rr"
        refine ⟨by k_extra "sz", fun p np => ?_⟩
        k_extra "rr"
        refine q p _ (s1.trans (same_upd np)) ?_
        rw [upd_same, ← hbx]
        rfl
end

/-! ### every_line -/
def spEvery (okf : List PyData → Bool) (g : List PyData → List PyData) : Sp := fun vs H Q _ => ∃ (v : V) (b : Addr) (ds : List PyData), vs = [v] ∧ SqD b H ds v ∧ okf ds = true ∧ szA ds < 10000 ∧
  ∀ (p : Addr) (l : List V) (H' : Hp), Same H H' → H p = none → H' p = some (.lst l) → DqA p H' (g ds) l → Q (.ref p) H'
theorem everyL_len {rec_ : List PyData → List PyData} (h : ∀ ds, (rec_ ds).length ≤ szA ds) : ∀ ds : List PyData, (everyL rec_ ds).length ≤ szA ds
  | [] => Nat.zero_le _
  | d :: r => by
    have ih := everyL_len h r
    show (d :: ((if ifB d = true then rec_ (inA d) ++ rec_ (inB d) else []) ++ everyL rec_ r)).length ≤ sz d + szA r
    have hd : (if ifB d = true then rec_ (inA d) ++ rec_ (inB d) else []).length + 1 ≤ sz d := by
      have s1 := sz_pos d
      split
      · have ha := h (inA d)
        have hb := h (inB d)
        have e : szA (inA d) + szA (inB d) + 1 ≤ sz d := by
          unfold inA inB
          split
          · rename_i x y a z
            split
            · rename_i x2 y2 z2 b e
              cases e
              simp only [sz, szA]
              omega
            · simp only [sz, szA]
              omega
          · split
            · simp only [sz, szA]
              omega
            · simp only [szA]
              omega
        rw [List.length_append]
        omega
      · simp only [List.length_nil]
        omega
    rw [List.length_cons, List.length_append]
    omega
theorem everyN_len : ∀ (n : Nat) (ds : List PyData), (everyN n ds).length ≤ szA ds
  | 0, ds => everyL_len (fun _ => Nat.zero_le _) ds
  | n + 1, ds => everyL_len (everyN_len n) ds
theorem everyL_nl {rec_ : List PyData → List PyData} (h : ∀ es, nlA es = true → nlA (rec_ es) = true) : ∀ {ds : List PyData}, nlA ds = true → nlA (everyL rec_ ds) = true
  | [], _ => by simp only [everyL, nlA]
  | d :: r, e => by
    have e0 := e
    simp only [nlA, Bool.and_eq_true] at e
    show nlA (d :: ((if ifB d = true then rec_ (inA d) ++ rec_ (inB d) else []) ++ everyL rec_ r)) = true
    have hin : nlA (inA d) = true ∧ nlA (inB d) = true := by
      unfold inA inB
      refine ⟨?_, ?_⟩
      · split
        · rename_i x y a z
          have := e.1
          simp only [nl, nlA, Bool.and_eq_true] at this
          exact this.2.2.1
        · simp only [nlA]
      · split
        · rename_i x y a z
          have := e.1
          simp only [nl, nlA, Bool.and_eq_true] at this
          exact this.2.2.2.1
        · simp only [nlA]
    have hm : nlA (if ifB d = true then rec_ (inA d) ++ rec_ (inB d) else []) = true := by
      split
      · rw [nlA_app, h _ hin.1, h _ hin.2]
        rfl
      · simp only [nlA]
    simp only [nlA, nlA_app, e.1, hm, everyL_nl h e.2, Bool.and_self]
theorem everyN_nl : ∀ (n : Nat) {ds : List PyData}, nlA ds = true → nlA (everyN n ds) = true
  | 0, ds, h => everyL_nl (fun _ _ => by simp only [nlA]) h
  | n + 1, ds, h => everyL_nl (fun es => everyN_nl n) h
section
variable {P : Program} {w : World} {K : PySem.W.Frag} {mg : Str → Option Value} {base : Heap} {f : Addr} {fd : FuncData}
theorem ok_every_line {m : Nat} {rk : List PyData → Bool} {rec_ : List PyData → List PyData} {ok : Bool} {spR : Sp} (hnl : ∀ es, okL rk ok es = true → nlA es = true) (hnr : ∀ es, nlA es = true → nlA (rec_ es) = true) (hln : ∀ ds, (rec_ ds).length ≤ szA ds)
    (F : Fun K "every_line" "every_line" s_every_line f fd) (T : Txt mg) (c_every_line : Cal P w K mg base m "every_line" spR) (hR : ok = true → ∀ vs H Q E, spEvery rk rec_ vs H Q E → spR vs H Q E) :
    FnOk P w K mg base CX0 (m + 1) f fd ["lines"] (spEvery (okL rk ok) (everyL rec_)) := by
  refine F.ok sc_every_line (fun vs H Q E h => ?_) (fun cdv A outer s H vs Q E hr h => ?_)
  · obtain ⟨v, b, ds, rfl, _⟩ := h
    rfl
  · obtain ⟨v, b, ds, rfl, ⟨a, l, rfl, hD, hd⟩, hok, hs, q⟩ := h
    have len := hd.len
    have nlds := hnl ds hok
    have lenE := everyL_len hln
    have dsl := szA_len ds
    rcases hD with ⟨hD, _⟩ | hD
    case' inl =>
      refine ⟨_, (pss_cons (ps_set (i := 1) sc_every_line.nd rfl (.inl rfl) (pe_lst pa_nil))
      (pss_cons (ps_for PassesOwn.never rfl (pi_listX K (pv 0)) (pg_name (i := 2) sc_every_line.nd rfl (.inl rfl)) (pss_cons (ps_expr (pe_bmX K (pe_bm PySem.F.plainAttrs_list PySem.F.slot_list_append PySem.F.type_list_append mt_append (pv 1) (pa_cons (pv 2) pa_nil))))
      (pss_one (ps_if (pt_cmpR (op_eqX K hr) (pe_ix (ix_X K) (pv 2) pe_int (fun _ _ => rfl)) pe_str (nomark _)) (pss_cons (ps_for PassesOwn.never rfl (pi_listX K (pe_c c_every_line hr (by omega) (by rfl) (pa_cons (pe_ix (ix_X K) (pv 2) pe_int (fun _ _ => rfl)) pa_nil))) (pg_name (i := 3) sc_every_line.nd rfl (.inl rfl)) (pss_one (ps_expr (pe_bmX K (pe_bm PySem.F.plainAttrs_list PySem.F.slot_list_append PySem.F.type_list_append mt_append (pv 1) (pa_cons (pv 3) pa_nil))))))
      (pss_one (ps_for PassesOwn.never rfl (pi_listX K (pe_c c_every_line hr (by omega) (by rfl) (pa_cons (pe_ix (ix_X K) (pv 2) pe_int (fun _ _ => rfl)) pa_nil))) (pg_name (i := 3) sc_every_line.nd rfl (.inl rfl)) (pss_one (ps_expr (pe_bmX K (pe_bm PySem.F.plainAttrs_list PySem.F.slot_list_append PySem.F.type_list_append mt_append (pv 1) (pa_cons (pv 3) pa_nil)))))))) pss_nil))))
      (pss_one (ps_ret (pv 1))))), ?_⟩
      change (_ : TS) _ [some (V.ref a), none, none, none] _
      have hW := walk_list (K := K) (a := a) (xs := l)
      have hG : ∀ H', Same H H' → SqL K H' a l := fun H' s => SqL.of (s _ _ hD)
      k_extra "rr"
      refine ⟨by k_extra "sz", fun D nD => ?_⟩
      k_extra "rr"
      refine ⟨a, rfl, ⟨l, hG _ (same_upd nD)⟩, ?_⟩
    case' inr =>
      refine ⟨_, (pss_cons (ps_set (i := 1) sc_every_line.nd rfl (.inl rfl) (pe_lst pa_nil))
      (pss_cons (ps_for PassesOwn.never rfl (pi_tupX K (pv 0)) (pg_name (i := 2) sc_every_line.nd rfl (.inl rfl)) (pss_cons (ps_expr (pe_bmX K (pe_bm PySem.F.plainAttrs_list PySem.F.slot_list_append PySem.F.type_list_append mt_append (pv 1) (pa_cons (pv 2) pa_nil))))
      (pss_one (ps_if (pt_cmpR (op_eqX K hr) (pe_ix (ix_X K) (pv 2) pe_int (fun _ _ => rfl)) pe_str (nomark _)) (pss_cons (ps_for PassesOwn.never rfl (pi_listX K (pe_c c_every_line hr (by omega) (by rfl) (pa_cons (pe_ix (ix_X K) (pv 2) pe_int (fun _ _ => rfl)) pa_nil))) (pg_name (i := 3) sc_every_line.nd rfl (.inl rfl)) (pss_one (ps_expr (pe_bmX K (pe_bm PySem.F.plainAttrs_list PySem.F.slot_list_append PySem.F.type_list_append mt_append (pv 1) (pa_cons (pv 3) pa_nil))))))
      (pss_one (ps_for PassesOwn.never rfl (pi_listX K (pe_c c_every_line hr (by omega) (by rfl) (pa_cons (pe_ix (ix_X K) (pv 2) pe_int (fun _ _ => rfl)) pa_nil))) (pg_name (i := 3) sc_every_line.nd rfl (.inl rfl)) (pss_one (ps_expr (pe_bmX K (pe_bm PySem.F.plainAttrs_list PySem.F.slot_list_append PySem.F.type_list_append mt_append (pv 1) (pa_cons (pv 3) pa_nil)))))))) pss_nil))))
      (pss_one (ps_ret (pv 1))))), ?_⟩
      change (_ : TS) _ [some (V.ref a), none, none, none] _
      have hW := walk_tup (K := K) (a := a) (xs := l)
      have hG : ∀ H', Same H H' → SqT K H' a l := fun H' s => SqT.of (s _ _ hD)
      k_extra "rr"
      refine ⟨by k_extra "sz", fun D nD => ?_⟩
      k_extra "rr"
      refine ⟨a, rfl, ⟨l, hG _ (same_upd nD)⟩, ?_⟩
    all_goals
      obtain ⟨Pv, hPv⟩ : ∃ Pv : Nat → L2.St → Hp → Prop, ∀ i σ H', Pv i σ H' ↔ ∃ (v2 v3 : Option V) (acc : List V), σ = [some (.ref a), some (.ref D), v2, v3] ∧ Same H H' ∧ H' D = some (.lst acc) ∧ DqA D H' (everyL rec_ (ds.take i)) acc := ⟨_, fun _ _ _ => Iff.rfl⟩
      refine for_it hW Pv ((hPv _ _ _).mpr ⟨_, _, [], rfl, same_upd nD, upd_same, .nil⟩) (fun i σ H' _ h => by
        obtain ⟨_, _, _, _, s, _⟩ := (hPv _ _ _).mp h
        exact hG _ s) ?_ ?_
      · rintro i x σ H1 H2 hi hw ⟨rfl, hx⟩
        obtain ⟨v2, v3, acc, rfl, s1, hDl, hacc⟩ := (hPv _ _ _).mp hw
        clear hw
        obtain ⟨d, ed, hd1⟩ := hd.get hx
        have hdm := List.mem_of_getElem? ed
        have nld := nlA_mem nlds hdm
        have sd := szA_mem hdm
        have hok1 : lineB d = true ∧ (ifB d = true → ok = true ∧ rk (inA d) = true ∧ rk (inB d) = true) := by
          have := hok
          unfold okL at this
          rw [List.all_eq_true] at this
          have := this d hdm
          rw [Bool.and_eq_true, Bool.or_eq_true, Bool.and_eq_true, Bool.and_eq_true] at this
          exact ⟨this.1, fun hi => this.2.resolve_left (by rw [hi]; decide)⟩
        have tk : ds.take (i + 1) = ds.take i ++ [d] := by
          rw [List.take_add_one, ed]
          rfl
        have la := hacc.len
        have la2 := lenE (ds.take i)
        have la3 : szA (ds.take (i + 1)) ≤ szA ds := by
          have e : szA (ds.take (i + 1) ++ ds.drop (i + 1)) = szA ds := by rw [List.take_append_drop]
          rw [szA_app] at e
          omega
        have la4 := lenE (ds.take (i + 1))
        rw [tk, everyL_snoc, List.length_append, List.length_cons] at la4
        rw [tk, szA_app] at la3
        have nlt : nlA (everyL rec_ (ds.take i)) = true := everyL_nl hnr (nlA_of fun y hy => nlA_mem nlds (List.mem_of_mem_take hy))
        k_extra "rr"
        refine ⟨tyvL hDl, ?_⟩
        k_extra "rr"
        refine app hDl (by rw [sizeLine_eq]; omega) ?_
        have nxD : ∀ {H' : Hp} {l1 m1 : List V}, H' D = some (.lst l1) → TupLe H' (upd H' D (.lst m1)) := fun h => TupLe.lst h
        have s2 : Same H (upd H2 D (.lst (acc ++ [x]))) := same_mut s1 nD
        have tl12 := nxD (m1 := acc ++ [x]) hDl
        have hD2 : upd H2 D (.lst (acc ++ [x])) D = some (.lst (acc ++ [x])) := upd_same
        have hd2 : Dq D (upd H2 D (.lst (acc ++ [x]))) d x := hd1.tle (TupLe.same s2) nld
        have hacc2 : DqA D (upd H2 D (.lst (acc ++ [x]))) (everyL rec_ (ds.take i) ++ [d]) (acc ++ [x]) := (hacc.tle tl12 nlt).app (.cons hd2 .nil)
        generalize upd H2 D (.lst (acc ++ [x])) = H3 at s2 tl12 hD2 hd2 hacc2
        obtain ⟨z, r, rfl⟩ := line_str hok1.1
        obtain ⟨ad, ld, rfl, had, hld⟩ := id hd2.tup
        obtain ⟨v0, lr, rfl, h0, hlr⟩ := hld.inv
        simp only [Dq] at h0
        subst h0
        have at0 : atI (V.str z :: lr) 0 = some (.str z) := (show atI (V.str z :: lr) ((0 : Nat) : Int) = some _ from atI_nat rfl)
        have ez : decide (z = Str.ofString "if") = ifB (.tuple (.str z :: r)) := rfl
        k_extra "rr"
        refine ixT (SqT.of had) at0 ?_
        k_extra "rr"
        rw [ez]
        cases hif : ifB (.tuple (.str z :: r)) with
        | false =>
          k_extra "rr"
          refine (hPv _ _ _).mpr ⟨_, _, _, rfl, s2, hD2, ?_⟩
          rw [tk, everyL_snoc, hif, if_neg (by decide)]
          exact hacc2
        | true =>
          obtain ⟨ho, oka, okb⟩ := hok1.2 hif
          obtain ⟨t, da, db, ee, ht⟩ := line_if hok1.1 hif
          cases ee
          obtain ⟨vt, lr1, rfl, ht1, hlr1⟩ := hlr.inv
          obtain ⟨va, lr2, rfl, ha1, hlr2⟩ := hlr1.inv
          obtain ⟨vb, lr3, rfl, hb1, hlr3⟩ := hlr2.inv
          obtain rfl := hlr3.inv0
          have oka : rk da = true := oka
          have okb : rk db = true := okb
          have nla : nlA da = true ∧ nlA db = true := by
            simp only [nl, nlA, Bool.and_eq_true] at nld
            exact ⟨nld.2.2.1, nld.2.2.2.1⟩
          simp only [sz, szA] at sd
          rw [hif, if_pos rfl] at la4
          have la4 : (everyL rec_ (List.take i ds)).length + ((rec_ da ++ rec_ db).length + 1) ≤ _ := la4
          rw [List.length_append, szA_app] at la4
          -- one part: its lines come behind
          have part : ∀ {dj : List PyData} {vj : V} {H4 H5 : Hp} {pre : List PyData} {acc4 lj : List V} {pj : Addr} {D2 : Ends} {u3 : Option V} {σ2 : Option V},
              Same H H4 → H4 D = some (.lst acc4) → DqA D H4 pre acc4 → nlA pre = true → nlA dj = true → Same H4 H5 → H4 pj = none → H5 pj = some (.lst lj) → DqA pj H5 (rec_ dj) lj → pre.length + (rec_ dj).length < 100000 →
              (∀ (u : Option V) (H6 : Hp) (acc6 : List V), Same H H6 → TupLe H5 H6 → H6 D = some (.lst acc6) → DqA D H6 (pre ++ rec_ dj) acc6 → D2.nx [some (.ref a), some (.ref D), σ2, u] H6) →
              ∃ W : Nat → Nat → L2.St → Hp → Prop, (∃ m, W 0 m [some (.ref a), some (.ref D), σ2, u3] H5) ∧ ∀ i m σ H, W i m σ H →
                ((Itl K pj).stop i H ∧ D2.nx σ H) ∨ ((Itl K pj).go i H ∧ ∃ N : L2.St → Hp → Prop, (∀ σ' H', N σ' H' → ∃ m', m' < m ∧ W (i + 1) m' σ' H') ∧ ∀ x H', (Itl K pj).yld i H x H' → gName 3 x σ H' fun σ2 H2 => tDrop (tBM K "list" rAppend (tVar 1) (tCons (tVar 3) tNil)) { nx := N, rt := D2.rt, bk := D2.nx, ct := N } σ2 H2) := by
            intro dj vj H4 H5 pre acc4 lj pj D2 u3 σ2 s4 hD4 hpre nlp nldj s45 npj hpj hlj hlen qn
            have hD5 := s45 _ _ hD4
            have npD : pj ≠ D := (ne_of_none hD4 npj).symm
            have ll := hlj.len
            have lp := hpre.len
            have nlr := hnr _ nldj
            refine for_it (walk_list (K := K) (a := pj) (xs := lj)) (fun j σ H' => ∃ (u : Option V) (acc6 : List V), σ = [some (.ref a), some (.ref D), σ2, u] ∧ Same H H' ∧ TupLe H5 H' ∧ H' pj = some (.lst lj) ∧ H' D = some (.lst acc6) ∧ DqA D H' (pre ++ (rec_ dj).take j) acc6)
              ⟨_, acc4, rfl, s4.trans s45, TupLe.refl _, hpj, hD5, by rw [List.take_zero, List.append_nil]; exact hpre.tle (TupLe.same s45) nlp⟩ (fun j σ H' _ ⟨_, _, _, _, _, h, _⟩ => SqL.of h) ?_ ?_
            · rintro j y σ H6 H7 hj ⟨u, acc6, rfl, s6, t6, hpj6, hD6, h6⟩ ⟨rfl, hy⟩
              obtain ⟨dy, edy, hdy⟩ := hlj.get hy
              have l6 := h6.len
              rw [List.length_append, List.length_take] at l6
              k_extra "rr"
              refine ⟨tyvL hD6, ?_⟩
              k_extra "rr"
              refine app hD6 (by rw [sizeLine_eq]; omega) ?_
              k_extra "rr"
              have t67 := TupLe.lst (m := acc6 ++ [y]) hD6
              have nlx : nlA (pre ++ (rec_ dj).take j) = true := by
                rw [nlA_app, nlp]
                exact nlA_of fun y hy => nlA_mem nlr (List.mem_of_mem_take hy)
              refine ⟨_, _, rfl, same_mut s6 nD, t6.trans t67, upd2 npD hpj6, upd_same, ?_⟩
              rw [List.take_add_one, edy, ← List.append_assoc]
              exact (h6.tle t67 nlx).app (.cons (hdy.tle (t6.trans t67) (nlA_mem nlr (List.mem_of_getElem? edy))) .nil)
            · rintro σ H6 ⟨u, acc6, rfl, s6, t6, hpj6, hD6, h6⟩
              rw [ll, List.take_length] at h6
              exact qn u H6 acc6 s6 t6 hD6 h6
          obtain ⟨aa, la_, rfl, haa, hla⟩ := id ha1.tup
          obtain ⟨ab, lb_, rfl, hab, hlb⟩ := id hb1.tup
          k_extra "rr"
          refine hR ho _ _ _ _ ⟨_, D, da, rfl, ⟨aa, la_, rfl, .inr haa, hla⟩, oka, by omega, fun pa l2 H4 s4 npa hpa hl2 => ?_⟩
          refine ⟨pa, rfl, ⟨_, SqL.of hpa⟩, ?_⟩
          refine part (vj := .non) s2 hD2 hacc2 (by rw [nlA_app, nlt]; simp only [nlA, nld, Bool.and_self]) nla.1 s4 npa hpa hl2 (by rw [List.length_append, List.length_singleton]; omega) fun u H6 acc6 s6 t6 hD6 h6 => ?_
          have tl := (TupLe.same s4).trans t6
          have had6 := tl _ _ had
          have hab6 := tl _ _ hab
          k_extra "rr"
          refine hR ho _ _ _ _ ⟨_, D, db, rfl, ⟨ab, lb_, rfl, .inr hab6, hlb.tle tl nla.2⟩, okb, by omega, fun pb l3 H7 s7 npb hpb hl3 => ?_⟩
          refine ⟨pb, rfl, ⟨_, SqL.of hpb⟩, ?_⟩
          refine part (vj := .non) s6 hD6 h6 (by rw [nlA_app, nlA_app, nlt, hnr _ nla.1]; simp only [nlA, nld, Bool.and_self]) nla.2 s7 npb hpb hl3 (by rw [List.length_append, List.length_append, List.length_singleton]; omega) fun u8 H8 acc8 s8 t8 hD8 h8 => ?_
          k_extra "rr"
          refine (hPv _ _ _).mpr ⟨_, _, _, rfl, s8, hD8, ?_⟩
          rw [tk, everyL_snoc, hif, if_pos rfl]
          have h9 : DqA D H8 (everyL rec_ (ds.take i) ++ .tuple [.str "if", t, .tuple da, .tuple db] :: (rec_ da ++ rec_ db)) acc8 := by simpa only [List.append_assoc, List.cons_append, List.nil_append] using h8
          exact h9
      · rintro σ H1 hw
        obtain ⟨v2, v3, acc, rfl, s1, hDl, hacc⟩ := (hPv _ _ _).mp hw
        rw [len, List.take_length] at hacc
        k_extra "rr"
        exact q D acc _ s1 nD hDl hacc
end

/-! ### check_lines of good lines; count_lines; class Script -/
def copyB (d : PyData) : Bool := decide (openD d = "copy")
def lookB (d : PyData) : Bool := inV (.str (openD d)) looksT
structure ScOk (ds : List PyData) : Prop where
  ok : okN 3 ds = true
  few : (everyN 3 ds).length ≤ 40
  cop : ((everyN 3 ds).filter copyB).length ≤ 4
theorem everyL_line {rk : List PyData → Bool} {rec_ : List PyData → List PyData} {ok : Bool} (hr : ∀ es, rk es = true → ∀ d ∈ rec_ es, lineB d = true) {ds : List PyData} (h : okL rk ok ds = true) : ∀ d ∈ everyL rec_ ds, lineB d = true := by
  induction ds with
  | nil => intro d m; cases m
  | cons x r ih =>
    unfold okL at h
    rw [List.all_cons, Bool.and_eq_true, Bool.and_eq_true, Bool.or_eq_true, Bool.and_eq_true, Bool.and_eq_true] at h
    intro d m
    have m : d ∈ x :: ((if ifB x = true then rec_ (inA x) ++ rec_ (inB x) else []) ++ everyL rec_ r) := m
    rcases List.mem_cons.mp m with rfl | m
    · exact h.1.1
    rcases List.mem_append.mp m with m | m
    · cases hi : ifB x with
      | false =>
        rw [hi, if_neg (by decide)] at m
        cases m
      | true =>
        rw [hi, if_pos rfl] at m
        obtain ⟨_, ha, hb⟩ := h.1.2.resolve_left (by rw [hi]; decide)
        rcases List.mem_append.mp m with m | m
        · exact hr _ ha d m
        · exact hr _ hb d m
    · exact ih h.2 d m
theorem everyN_line : ∀ (n : Nat) {ds : List PyData}, okN n ds = true → ∀ d ∈ everyN n ds, lineB d = true
  | 0, ds, h => everyL_line (fun _ _ d m => by cases m) h
  | n + 1, ds, h => everyL_line (fun es => everyN_line n) h
theorem SqD.le {b : Addr} {H H' : Hp} {ds : List PyData} {v : V} (s : Same H H') : SqD b H ds v → SqD b H' ds v := fun ⟨a, l, e, h, d⟩ => ⟨a, l, e, h.imp (fun h => ⟨s _ _ h.1, h.2⟩) (s _ _), d.le (Le.same s)⟩
theorem len_filter_take {p : PyData → Bool} {ds : List PyData} {i : Nat} {d : PyData} (h : ds[i]? = some d) : ((ds.take (i + 1)).filter p).length = ((ds.take i).filter p).length + if p d = true then 1 else 0 := by
  rw [List.take_add_one, h, List.filter_append, List.length_append]
  congr 1
  show (List.filter p [d]).length = _
  cases hp : p d <;> simp [List.filter, hp]
section
variable {P : Program} {w : World} {K : PySem.W.Frag} {mg : Str → Option Value} {base : Heap} {f C aL : Addr} {fd : FuncData}
abbrev CalE (P : Program) (w : World) (K : PySem.W.Frag) (mg : Str → Option Value) (base : Heap) (k n : Nat) : Prop := Cal P w K mg base k "every_line" (spEvery (okN n) (everyN n))
abbrev scrF (t e : Addr) (n : Int) : List (Str × V) := [("rows", .ref t), ("every", .ref e), ("many_looks", .int n)]
abbrev scr1 (t : Addr) : List (Str × V) := [("rows", .ref t)]
abbrev scr2 (t e : Addr) : List (Str × V) := [("rows", .ref t), ("every", .ref e)]
structure ScriptC (K : PySem.W.Frag) (C : Addr) : Prop where
  cl : Cls K C
  n1 : NoAttr K C "rows"
  n2 : NoAttr K C "every"
  n3 : NoAttr K C "many_looks"
def ScrAt (C : Addr) (H : Hp) (ds : List PyData) (x : Addr) : Prop := ∃ (dx t e : Addr) (n : Int) (lt le : List V), H x = some (.ins C dx (scrF t e n)) ∧ H t = some (.tup lt) ∧ H e = some (.lst le) ∧ (∀ b, DqA b H ds lt) ∧ (∀ b, DqA b H (everyN 3 ds) le) ∧ n = ((everyN 3 ds).filter lookB).length
end

/-! ### _law_field, called while its exception is handled -/
def fldOf (code : Str) : Option Str := if code ∈ (["BadShape", "ParseError"] : List Str) then some "at"
  else if code ∈ (["TooMany", "Full"] : List Str) then some "most"
  else if code ∈ (["BadName", "DuplicateName", "WrongKind", "UnknownName"] : List Str) then some "name"
  else if code = "BadDocument" then some "path"
  else if code = "BadScript" then some "line"
  else if code = "BadLimit" then some "given"
  else if code = "BadCommand" then some "word"
  else if code = "UnknownHand" then some "hand"
  else if code = "Quarrel" then some "shown"
  else none
theorem inV_codes (x : Str) : ∀ l : List Str, inV (V.str x) (l.map V.str) = decide (x ∈ l)
  | [] => by simp [inV]
  | y :: r => by
    have ih := inV_codes x r
    unfold inV at ih ⊢
    simp only [List.map_cons, List.any_cons, List.mem_cons] at ih ⊢
    rw [ih, show eqV (V.str y) (V.str x) = (y == x) from rfl]
    by_cases h : x = y
    · subst h
      simp
    · have h2 : ¬ y = x := fun z => h z.symm
      simp [h, h2]
theorem inC {K : PySem.W.Frag} {x : Str} {l : List Str} {p : Addr} {H : Hp} {Q : VK} (h : H p = some (.lst (l.map V.str))) (q : Q (.bl (decide (x ∈ l))) H) : rInX K (.str x) (.ref p) H Q := by
  refine .inr ⟨p, _, rfl, .inl (SqL.of h), rfl, ?_, ?_⟩
  · rw [List.all_map]
    exact List.all_eq_true.mpr fun _ _ => rfl
  · show Q (.bl (inV (V.str x) (l.map V.str))) H
    rw [inV_codes]
    exact q
def spField (K : PySem.W.Frag) : SpE := fun a c d vs H Q _ => ∃ (C dd : Addr) (fs : List (Str × V)) (code : Str), vs = [.ref a] ∧ c = .ref C ∧ d = some dd ∧ XfC K C ∧ H dd = some (.xd fs) ∧ fs.lookup ("code" : Str) = some (V.str code) ∧ PySem.W.findIn K (.ref C) "code" = some none ∧
  ((∃ f v, fldOf code = some f ∧ PySem.W.findIn K (.ref C) f = some none ∧ fs.lookup f = some v ∧ ∀ H', Same H H' → Q v H') ∨ (fldOf code = none ∧ ∀ H', Same H H' → Q .non H'))
section
variable {P : Program} {w : World} {K : PySem.W.Frag} {mg : Str → Option Value} {base : Heap} {f : Addr} {fd : FuncData}
theorem ok_law_field (F : Fun K "_law_field" "_law_field" s_law_field f fd) : FnE P w K mg base CX0 1 f fd ["_law_e"] (spField K) := by
  obtain ⟨oc, od, kV, doc, pm, an, cdv, ct, osl, rfl, lk, hcd⟩ := F.ex
  refine FnE.of lk hcd sc_law_field (fun h => ?_) (fun {A outer z H vs Q E p c d} hz hdat room h => ?_)
  · obtain ⟨C, dd, fs, code, rfl, _⟩ := h
    rfl
  · obtain ⟨C, dd, fs, code, rfl, rfl, rfl, hT, hd, hc, hnc, q⟩ := h
    have hin : p ∈ [p] := List.mem_singleton.mpr rfl
    have hu : (A.deeper (PyProof.Rows.envOfC "_law_field" (defScope s_law_field) z.heap.objs.size f cdv)).units + 64 < cLine := by
      have := room.un
      omega
    refine ⟨_, (pss_cons (ps_if (pt_cmpR (op_inX K) (pe_xfE hz hdat hin (pv 0)) (pe_lst (pa_cons pe_str (pa_cons pe_str pa_nil))) (by rfl)) (pss_one (ps_ret (pe_xfE hz hdat hin (pv 0)))) pss_nil)
      (pss_cons (ps_if (pt_cmpR (op_inX K) (pe_xfE hz hdat hin (pv 0)) (pe_lst (pa_cons pe_str (pa_cons pe_str pa_nil))) (by rfl)) (pss_one (ps_ret (pe_xfE hz hdat hin (pv 0)))) pss_nil)
      (pss_cons (ps_if (pt_cmpR (op_inX K) (pe_xfE hz hdat hin (pv 0)) (pe_lst (pa_cons pe_str (pa_cons pe_str (pa_cons pe_str (pa_cons pe_str pa_nil))))) (by rfl)) (pss_one (ps_ret (pe_xfE hz hdat hin (pv 0)))) pss_nil)
      (pss_cons (ps_if (pt_cmpR (op_eqU K hu) (pe_xfE hz hdat hin (pv 0)) pe_str (nomark _)) (pss_one (ps_ret (pe_xfE hz hdat hin (pv 0)))) pss_nil)
      (pss_cons (ps_if (pt_cmpR (op_eqU K hu) (pe_xfE hz hdat hin (pv 0)) pe_str (nomark _)) (pss_one (ps_ret (pe_xfE hz hdat hin (pv 0)))) pss_nil)
      (pss_cons (ps_if (pt_cmpR (op_eqU K hu) (pe_xfE hz hdat hin (pv 0)) pe_str (nomark _)) (pss_one (ps_ret (pe_xfE hz hdat hin (pv 0)))) pss_nil)
      (pss_cons (ps_if (pt_cmpR (op_eqU K hu) (pe_xfE hz hdat hin (pv 0)) pe_str (nomark _)) (pss_one (ps_ret (pe_xfE hz hdat hin (pv 0)))) pss_nil)
      (pss_cons (ps_if (pt_cmpR (op_eqU K hu) (pe_xfE hz hdat hin (pv 0)) pe_str (nomark _)) (pss_one (ps_ret (pe_xfE hz hdat hin (pv 0)))) pss_nil)
      (pss_one (ps_ret (pe_ifExp (pt_cmpR (op_eqU K hu) (pe_xfE hz hdat hin (pv 0)) pe_str (nomark _)) (pe_xfE hz hdat hin (pv 0)) pe_non))))))))))), ?_⟩
    change (_ : TS) _ [some (V.ref p.1)] _
    k_extra "rr"
    refine xfI hT hnc hd hc rfl ?_
    k_extra "rr"
    refine ⟨by k_extra "sz", fun p0 n0 => ?_⟩
    have s0 := (Same.refl H).trans (same_upd (o := .lst ([.str "BadShape", .str "ParseError"] : List V)) n0)
    k_extra "rr"
    refine inC (l := ["BadShape", "ParseError"]) upd_same ?_
    by_cases h0 : code ∈ (["BadShape", "ParseError"] : List Str)
    · rw [decide_eq_true h0]
      k_extra "rr"
      have ef : fldOf code = some ("at" : Str) := by
        unfold fldOf
        rw [if_pos h0]
      rcases q with ⟨g, v, e2, hn, hl, k⟩ | ⟨e2, _⟩
      · obtain rfl : g = ("at" : Str) := Option.some.inj (e2.symm.trans ef)
        refine xfI hT hn (s0 _ _ hd) hl rfl ?_
        k_extra "rr"
        exact k _ s0
      · cases e2.symm.trans ef
    rw [decide_eq_false h0]
    k_extra "rr"
    refine xfI hT hnc (s0 _ _ hd) hc rfl ?_
    k_extra "rr"
    refine ⟨by k_extra "sz", fun p1 n1 => ?_⟩
    have s1 := s0.trans (same_upd (o := .lst ([.str "TooMany", .str "Full"] : List V)) n1)
    k_extra "rr"
    refine inC (l := ["TooMany", "Full"]) upd_same ?_
    by_cases h1 : code ∈ (["TooMany", "Full"] : List Str)
    · rw [decide_eq_true h1]
      k_extra "rr"
      have ef : fldOf code = some ("most" : Str) := by
        unfold fldOf
        rw [if_neg h0, if_pos h1]
      rcases q with ⟨g, v, e2, hn, hl, k⟩ | ⟨e2, _⟩
      · obtain rfl : g = ("most" : Str) := Option.some.inj (e2.symm.trans ef)
        refine xfI hT hn (s1 _ _ hd) hl rfl ?_
        k_extra "rr"
        exact k _ s1
      · cases e2.symm.trans ef
    rw [decide_eq_false h1]
    k_extra "rr"
    refine xfI hT hnc (s1 _ _ hd) hc rfl ?_
    k_extra "rr"
    refine ⟨by k_extra "sz", fun p2 n2 => ?_⟩
    have s2 := s1.trans (same_upd (o := .lst ([.str "BadName", .str "DuplicateName", .str "WrongKind", .str "UnknownName"] : List V)) n2)
    k_extra "rr"
    refine inC (l := ["BadName", "DuplicateName", "WrongKind", "UnknownName"]) upd_same ?_
    by_cases h2 : code ∈ (["BadName", "DuplicateName", "WrongKind", "UnknownName"] : List Str)
    · rw [decide_eq_true h2]
      k_extra "rr"
      have ef : fldOf code = some ("name" : Str) := by
        unfold fldOf
        rw [if_neg h0, if_neg h1, if_pos h2]
      rcases q with ⟨g, v, e2, hn, hl, k⟩ | ⟨e2, _⟩
      · obtain rfl : g = ("name" : Str) := Option.some.inj (e2.symm.trans ef)
        refine xfI hT hn (s2 _ _ hd) hl rfl ?_
        k_extra "rr"
        exact k _ s2
      · cases e2.symm.trans ef
    rw [decide_eq_false h2]
    k_extra "rr"
    refine xfI hT hnc (s2 _ _ hd) hc rfl ?_
    k_extra "rr"
    by_cases h3 : code = "BadDocument"
    · rw [decide_eq_true h3]
      k_extra "rr"
      have ef : fldOf code = some ("path" : Str) := by
        unfold fldOf
        rw [if_neg h0, if_neg h1, if_neg h2, if_pos h3]
      rcases q with ⟨g, v, e2, hn, hl, k⟩ | ⟨e2, _⟩
      · obtain rfl : g = ("path" : Str) := Option.some.inj (e2.symm.trans ef)
        refine xfI hT hn (s2 _ _ hd) hl rfl ?_
        k_extra "rr"
        exact k _ s2
      · cases e2.symm.trans ef
    rw [decide_eq_false h3]
    k_extra "rr"
    refine xfI hT hnc (s2 _ _ hd) hc rfl ?_
    k_extra "rr"
    by_cases h4 : code = "BadScript"
    · rw [decide_eq_true h4]
      k_extra "rr"
      have ef : fldOf code = some ("line" : Str) := by
        unfold fldOf
        rw [if_neg h0, if_neg h1, if_neg h2, if_neg h3, if_pos h4]
      rcases q with ⟨g, v, e2, hn, hl, k⟩ | ⟨e2, _⟩
      · obtain rfl : g = ("line" : Str) := Option.some.inj (e2.symm.trans ef)
        refine xfI hT hn (s2 _ _ hd) hl rfl ?_
        k_extra "rr"
        exact k _ s2
      · cases e2.symm.trans ef
    rw [decide_eq_false h4]
    k_extra "rr"
    refine xfI hT hnc (s2 _ _ hd) hc rfl ?_
    k_extra "rr"
    by_cases h5 : code = "BadLimit"
    · rw [decide_eq_true h5]
      k_extra "rr"
      have ef : fldOf code = some ("given" : Str) := by
        unfold fldOf
        rw [if_neg h0, if_neg h1, if_neg h2, if_neg h3, if_neg h4, if_pos h5]
      rcases q with ⟨g, v, e2, hn, hl, k⟩ | ⟨e2, _⟩
      · obtain rfl : g = ("given" : Str) := Option.some.inj (e2.symm.trans ef)
        refine xfI hT hn (s2 _ _ hd) hl rfl ?_
        k_extra "rr"
        exact k _ s2
      · cases e2.symm.trans ef
    rw [decide_eq_false h5]
    k_extra "rr"
    refine xfI hT hnc (s2 _ _ hd) hc rfl ?_
    k_extra "rr"
    by_cases h6 : code = "BadCommand"
    · rw [decide_eq_true h6]
      k_extra "rr"
      have ef : fldOf code = some ("word" : Str) := by
        unfold fldOf
        rw [if_neg h0, if_neg h1, if_neg h2, if_neg h3, if_neg h4, if_neg h5, if_pos h6]
      rcases q with ⟨g, v, e2, hn, hl, k⟩ | ⟨e2, _⟩
      · obtain rfl : g = ("word" : Str) := Option.some.inj (e2.symm.trans ef)
        refine xfI hT hn (s2 _ _ hd) hl rfl ?_
        k_extra "rr"
        exact k _ s2
      · cases e2.symm.trans ef
    rw [decide_eq_false h6]
    k_extra "rr"
    refine xfI hT hnc (s2 _ _ hd) hc rfl ?_
    k_extra "rr"
    by_cases h7 : code = "UnknownHand"
    · rw [decide_eq_true h7]
      k_extra "rr"
      have ef : fldOf code = some ("hand" : Str) := by
        unfold fldOf
        rw [if_neg h0, if_neg h1, if_neg h2, if_neg h3, if_neg h4, if_neg h5, if_neg h6, if_pos h7]
      rcases q with ⟨g, v, e2, hn, hl, k⟩ | ⟨e2, _⟩
      · obtain rfl : g = ("hand" : Str) := Option.some.inj (e2.symm.trans ef)
        refine xfI hT hn (s2 _ _ hd) hl rfl ?_
        k_extra "rr"
        exact k _ s2
      · cases e2.symm.trans ef
    rw [decide_eq_false h7]
    k_extra "rr"
    refine xfI hT hnc (s2 _ _ hd) hc rfl ?_
    k_extra "rr"
    by_cases h8 : code = "Quarrel"
    · rw [decide_eq_true h8]
      k_extra "rr"
      have ef : fldOf code = some ("shown" : Str) := by
        unfold fldOf
        rw [if_neg h0, if_neg h1, if_neg h2, if_neg h3, if_neg h4, if_neg h5, if_neg h6, if_neg h7, if_pos h8]
      rcases q with ⟨g, v, e2, hn, hl, k⟩ | ⟨e2, _⟩
      · obtain rfl : g = ("shown" : Str) := Option.some.inj (e2.symm.trans ef)
        refine xfI hT hn (s2 _ _ hd) hl rfl ?_
        k_extra "rr"
        exact k _ s2
      · cases e2.symm.trans ef
    rw [decide_eq_false h8]
    k_extra "rr"
    have ef : fldOf code = none := by
      unfold fldOf
      rw [if_neg h0, if_neg h1, if_neg h2, if_neg h3, if_neg h4, if_neg h5, if_neg h6, if_neg h7, if_neg h8]
    rcases q with ⟨g, v, e2, hn, hl, k⟩ | ⟨_, k⟩
    · cases e2.symm.trans ef
    · exact k _ s2
end

/-! ### _law_why: what it makes of the lambda that it gets -/
def TTwhy (K : PySem.W.Frag) (c1 c2 c3 : Value) : (XK → Hp → VK → Prop) → Hp → VK → Prop := fun tl H Q =>
  tl (fun cls d H1 => PySem.W.exmAny K cls [c1, c2, c3] = some true ∧ ∃ (C dd : Addr) (fs : List (Str × V)) (code : V), cls = .ref C ∧ d = some dd ∧ XfC K C ∧ PySem.W.findIn K (.ref C) "code" = some none ∧ H1 dd = some (.xd fs) ∧ fs.lookup ("code" : Str) = some code ∧
      ∀ a, H1 a = none → spField K a cls d [.ref a] H1 (fun v H2 => ([code, v] : List V).length ≤ sizeLine ∧ ∀ p, H2 p = none → Q (.ref p) (upd H2 p (.tup [code, v]))) E0)
    H fun v H1 => ([V.str "", v] : List V).length ≤ sizeLine ∧ ∀ p, H1 p = none → Q (.ref p) (upd H1 p (.tup [.str "", v]))
section
variable {X : Cx} {K : PySem.W.Frag} {g ff : Addr} {cdg c1 c2 c3 : Value} {q : Str} {ffd : FuncData} {k : Nat}
theorem why_gives (hK : X.K = K) (hr : Room (k + 3) X.A) (N1 : X.mg "GroveError" = some c1) (N2 : X.mg "Missing" = some c2) (N3 : X.mg "NothingLeft" = some c3)
    (F : FnE X.prog X.w K X.mg X.base CX0 1 ff ffd ["_law_e"] (spField K)) (m : X.mg "_law_field" = some (.ref ff)) (hk : PySem.W.keepIn K (.ref ff) = true) (hb : Binds K ffd ["_law_e"] []) :
    LamX.GivesTo X ["_law_ask", "_law_e"] "_law_why" (defScope s_law_why) g cdg (defBody s_law_why) "_law_ask" q (TTwhy K c1 c2 c3) := by
  subst hK
  intro f c' s H Q tl act hc h
  refine ⟨_, pss_one (ps_try_as3 (X := (cxOf C8.CX0 X.prog X.w X.K X.mg X.base ["_law_ask", "_law_e"] "_law_why" (defScope s_law_why) g cdg X.A X.stack s H C8.E0).nox) (i := 1) (c1 := c1) (c2 := c2) (c3 := c3) (n := "_law_e")
    (tb := fun W D σ H => ∃ Ech : XK, (∀ cls d σ' H', Ech cls d H' → W cls d σ' H') ∧ σ[0]? = some (some (.ref f)) ∧ H c' = some (LamX.CodeO c' q) ∧ tl Ech H fun v H1 => ([V.str "", v] : List V).length ≤ sizeLine ∧ ∀ p, H1 p = none → D.rt (.ref p) (upd H1 p (.tup [.str "", v])))
    (ts := fun a cls d => tRet (tTup (tCons (tXfE X.K a cls d "code" (tVar 1)) (tCons (tCE (spField X.K) a cls d (fun _ => E0) (tCons (tVar 1) tNil)) tNil))))
    rfl rfl sc_law_why.nd rfl rfl ⟨rfl, rfl, .inl N1⟩ ⟨rfl, rfl, .inl N2⟩ ⟨rfl, rfl, .inl N3⟩ LamX.takes0 (fun W pn xe tk _ => ?_) (fun a oe cls d pn hz hdat => ?_)), ?_⟩
  · refine ⟨fun pins s' σ H' D I h' => ?_⟩
    obtain ⟨Ech, hW, h1, h2, h3⟩ := h'
    refine' PSs.run ?hq pins s' σ H' D I ?hr
    case hq => exact pss_one (ps_ret (pe_tup (pa_cons pe_str (pa_cons (act W pn xe Ech _ _ tk hW) pa_nil))))
    case hr => exact ⟨h1, h2, h3⟩
  · have hin : (a, oe) ∈ (a, oe) :: pn := List.mem_cons_self ..
    have rm := hr.deeper (PyProof.Rows.envOfC "_law_why" (defScope s_law_why) s.heap.objs.size g cdg)
    have rm1 := rm.mono (j := 1) (by omega)
    exact pss_one (ps_ret (pe_tup (pa_cons (pe_xfE (p := (a, oe)) hz hdat hin (pv 1)) (pa_cons (pe_callE (p := (a, oe)) F ⟨rm1.dp, rm1.un⟩ hz hdat hin (by rfl) m hk hb (fun _ _ _ _ _ _ _ z => z.elim) (pa_cons (pv 1) pa_nil)) pa_nil))))
  · refine ⟨_, fun cls d σ' H' e => ?_, rfl, hc, h⟩
    obtain ⟨e1, C, dd, fs, code, rfl, rfl, hT, hn, hd, hl, k⟩ := e
    refine ⟨true, e1, (fun z => by cases z), fun _ hlen a na => ?_⟩
    have hs : (σ'.set 1 (some (V.ref a)))[1]? = some (some (V.ref a)) := by
      rw [List.getElem?_set_self hlen]
    exact ⟨_, hs, rfl, C, dd, fs, code, rfl, rfl, hT, hn, hd, hl, _, hs, k a na⟩
end

/-! ### _law_why(lambda: ..) -/
structure WhyC (P : Program) (w : World) (K : PySem.W.Frag) (mg : Str → Option Value) (base : Heap) (c1 c2 c3 : Value) : Prop where
  ex : ∃ (g : Addr) (fd : FuncData), Fun K "_law_why" "_law_why" s_law_why g fd ∧ mg "_law_why" = some (.ref g) ∧ PySem.W.keepIn K (.ref g) = true ∧ Binds K fd ["_law_ask"] []
  N1 : mg "GroveError" = some c1
  N2 : mg "Missing" = some c2
  N3 : mg "NothingLeft" = some c3
  F : ∃ (ff : Addr) (ffd : FuncData), FnE P w K mg base CX0 1 ff ffd ["_law_e"] (spField K) ∧ mg "_law_field" = some (.ref ff) ∧ PySem.W.keepIn K (.ref ff) = true ∧ Binds K ffd ["_law_e"] []
theorem pe_why {X : Cx} {c1 c2 c3 : Value} {c P : Addr} {j : Nat} {params : Arguments} {body : Expr} {scope : Scope} {t : XK → TE} {p lpos pos : Pos} (k : Nat) (hW : WhyC X.prog X.w X.K X.mg X.base c1 c2 c3) (TB : LamX.TabB X.base X.mg c P) (hcode : X.env.code = .ref c) (hr : Room j X.A) (hk : k + 3 ≤ j) (L : LamX.LamS X.env.scope scope)
    (hbind : ∀ (q : Str) (cl : List (Str × Addr)) (pm cv ctv : Value), bindArgs (PySem.W.kla_fn "<lambda>" q params body scope cl pm cv ctv) ⟨[], []⟩ = pure [])
    (hbody : ∀ (A : Around) (outer : List Env) (s : Shared) (H : Hp) (E : XK) (f c' : Addr), Room k (A.deeper (LamX.lamEnv X scope s.heap.objs.size f c')) → PE (LamX.lamCx X A outer s H E scope f c') body (t E))
    (hg : Gl X "_law_why" := by rfl) (hdef : defaultsOf params X.env = ([], []) := by rfl) :
    PE X (.Call (.Name "_law_why" p) [.Lambda params body scope lpos] [] pos) (LamX.tLam [(P, X.env.qual ++ "<lambda>")] (TTwhy X.K c1 c2 c3) t) := by
  obtain ⟨g, fd, F, mW, kW, bW⟩ := hW.ex
  obtain ⟨oc, od, kV, doc, pm, an, cdv, ct, osl, rfl, lk, hcd⟩ := F.ex
  obtain ⟨ff, ffd, FF, mF, kF, bF⟩ := hW.F
  exact LamX.pe_lamcall (T := [(P, X.env.qual ++ "<lambda>")]) (Ng := ["_law_ask", "_law_e"]) (a := "_law_ask") hg mW kW lk hcd bW sc_law_why rfl (.inl rfl) (why_gives (k := k) rfl (hr.mono hk) hW.N1 hW.N2 hW.N3 FF mF kF bF) TB hcode (List.mem_singleton.mpr rfl)
    (fun p hp _ => by rw [List.mem_singleton.mp hp]) (hr.mono (by omega)) L hdef hbind hbody
def whyX (K : PySem.W.Frag) (c1 c2 c3 : Value) (Q : VK) : XK := fun cls d H1 => PySem.W.exmAny K cls [c1, c2, c3] = some true ∧ ∃ (C dd : Addr) (fs : List (Str × V)) (code : V), cls = .ref C ∧ d = some dd ∧ XfC K C ∧ PySem.W.findIn K (.ref C) "code" = some none ∧ H1 dd = some (.xd fs) ∧ fs.lookup ("code" : Str) = some code ∧
      ∀ a, H1 a = none → spField K a cls d [.ref a] H1 (fun v H2 => ([code, v] : List V).length ≤ sizeLine ∧ ∀ p, H2 p = none → Q (.ref p) (upd H2 p (.tup [code, v]))) E0
def ErrAt (H : Hp) (d : Addr) (fld code : Str) (v : V) : Prop := H d = some (.xd [(fld, v), (("code" : Str), V.str code)])
theorem why_ {K : PySem.W.Frag} {c1 c2 c3 : Value} {T : List (Addr × Str)} {t : XK → TE} {σ : St} {H : Hp} {Q : VK} (hT : LamX.Tabs T H) (q : ∀ H1, LamX.ExtN H H1 → LamX.Tabs T H1 → t (whyX K c1 c2 c3 Q) σ H1 fun v H2 => ([V.str "", v] : List V).length ≤ sizeLine ∧ ∀ p, H2 p = none → Q (.ref p) (upd H2 p (.tup [.str "", v]))) :
    LamX.tLam T (TTwhy K c1 c2 c3) t σ H Q := ⟨hT, q⟩
theorem why_x {K : PySem.W.Frag} {c1 c2 c3 : Value} {C dd : Addr} {fld code : Str} {v : V} {H1 : Hp} {Q : VK} (exm : PySem.W.exmAny K (.ref C) [c1, c2, c3] = some true) (xf : XfC K C) (n1 : PySem.W.findIn K (.ref C) "code" = some none) (n2 : PySem.W.findIn K (.ref C) fld = some none)
    (hc : fldOf code = some fld) (hne : (("code" : Str) == fld) = false) (hd : ErrAt H1 dd fld code v) (q : ∀ p H2, Same H1 H2 → H2 p = some (.tup [.str code, v]) → Q (.ref p) H2) : whyX K c1 c2 c3 Q (.ref C) (some dd) H1 := by
  have e1 : List.lookup ("code" : Str) [(fld, v), (("code" : Str), V.str code)] = some (V.str code) := by
    simp [List.lookup, hne]
  have e2 : List.lookup fld [(fld, v), (("code" : Str), V.str code)] = some v := by simp [List.lookup]
  refine ⟨exm, C, dd, _, _, rfl, rfl, xf, n1, hd, e1, fun a na => ?_⟩
  exact ⟨C, dd, _, code, rfl, rfl, rfl, xf, hd, e1, n1, .inl ⟨fld, v, hc, n2, e2, fun H' s => ⟨Nat.le_of_ble_eq_true rfl, fun p np => q p _ (s.trans (same_upd np)) upd_same⟩⟩⟩
theorem ext_lst {H H1 : Hp} {a : Addr} {l : List V} (e : LamX.ExtN H H1) (h : H a = some (.lst l)) : H1 a = some (.lst l) := e a _ h fun ps z => by cases z
theorem BagAt.ext {H H' : Hp} {b r : Addr} (h : BagAt H b r) (e : LamX.ExtN H H') : BagAt H' b r := by
  obtain ⟨ns, i, c, m, h1, h2, h3⟩ := h
  exact ⟨ns, i, c, m, ext_lst e h1, ext_lst e h2, h3⟩
/-! ### an own error is made and raised -/
theorem ini_ok {K : PySem.W.Frag} {code fld : Str} {C a : Addr} {v : V} {H1 : Hp} {Ex : XK} (T : OexC K C) (n1 : PySem.W.findIn K (.ref C) "code" = some none) (n2 : PySem.W.findIn K (.ref C) fld = some none) (na : H1 a = none)
    (k : ∀ d H', Same H1 H' → H' d = some (.xd [(fld, v), (("code" : Str), V.str code)]) → Ex (.ref C) (some d) H') :
    spIni K code fld [.ref a, v] (upd H1 a (exo a C none)) (fun r H2 => r = .non ∧ ∃ (d : Addr) (fs : List (Str × V)), H2 a = some (exo a C (some d)) ∧ H2 d = some (exd d fs) ∧ H1 d = none ∧ Ex (.ref C) (some d) (upd (del H2 a) d (.xd fs))) (fun _ _ _ => False) := by
  refine ⟨a, C, v, rfl, T, n1, n2, upd_same, fun d H' nd ne h1 h2 kp => ⟨rfl, d, _, h1, h2, un0 nd, k d _ (fun b o hb => ?_) upd_same⟩⟩
  have nbd : b ≠ d := ne_of_none hb (un0 nd)
  have nba : b ≠ a := ne_of_none hb na
  rw [upd_ne nbd, del_ne nba]
  exact kp b o (by rw [upd_ne nba]; exact hb) nba

/-! ### check_lines and class Script over any data: what they raise -/
inductive Rs where
  | ok
  | bad (n : Int)
  | many (m : Int)
deriving DecidableEq
def resL (ds : List PyData) : Rs := if 0 ≤ (faultN 3 ds).1 then .bad (faultN 3 ds).1 else if 40 < (faultN 3 ds).2 then .many 40 else if 4 < ((everyN 3 ds).filter copyB).length then .many 4 else .ok
def resS : PyData → Rs
  | .list ds => resL ds
  | .tuple ds => resL ds
  | _ => .bad 0
def seqD : PyData → List PyData
  | .list ds => ds
  | .tuple ds => ds
  | _ => []
theorem resL_ok {ds : List PyData} (h : resL ds = .ok) : ScOk ds := by
  unfold resL at h
  by_cases h1 : 0 ≤ (faultN 3 ds).1
  · rw [if_pos h1] at h
    cases h
  rw [if_neg h1] at h
  have hok := faultN_ok 3 ds (by omega)
  have hc := faultN_cnt 3 ds hok
  by_cases h2 : 40 < (faultN 3 ds).2
  · rw [if_pos h2] at h
    cases h
  rw [if_neg h2] at h
  rw [hc] at h2
  have h2 : ¬ (40 : Int) < ((everyN 3 ds).length : Int) := h2
  by_cases h3 : 4 < ((everyN 3 ds).filter copyB).length
  · rw [if_pos h3] at h
    cases h
  exact ⟨hok, by omega, by omega⟩
def Told (C1 C2 : Addr) (r : Rs) (H : Hp) (E : XK) : Prop := (∀ n, r = .bad n → ∀ H' dd, Same H H' → ErrAt H' dd "line" "BadScript" (.int n) → E (.ref C1) (some dd) H') ∧
  (∀ m, r = .many m → ∀ H' dd, Same H H' → ErrAt H' dd "most" "TooMany" (.int m) → E (.ref C2) (some dd) H')
theorem Told.le {C1 C2 : Addr} {r : Rs} {H H1 : Hp} {E : XK} (h : Told C1 C2 r H E) (s : Same H H1) : Told C1 C2 r H1 E := ⟨fun n e H' dd s' => h.1 n e H' dd (s.trans s'), fun n e H' dd s' => h.2 n e H' dd (s.trans s')⟩
def isL : PyData → Bool
  | .list _ => true
  | _ => false
def spChkX (C1 C2 : Addr) : Sp := fun vs H Q E => ∃ (v : V) (b : Addr) (d : PyData), vs = [v] ∧ Dq b H d v ∧ gD d = true ∧ sz d ≤ 10000 ∧ (resS d = .ok → ∀ H', Same H H' → Q .non H') ∧ Told C1 C2 (resS d) H E
section
variable {P : Program} {w : World} {K : PySem.W.Frag} {mg : Str → Option Value} {base : Heap} {f C C1 C2 aL : Addr} {fd : FuncData}
theorem ok_check_linesX {k m : Nat} (hk : 2 ≤ k) (hm : m ≤ k) (F : Fun K "check_lines" "check_lines" s_check_lines f fd) (T : Txt mg) (c_every_line : CalE P w K mg base m 3) (c_fault_in : Cal P w K mg base k "fault_in" (spFault (faultN 3) 1))
    (err_BadScript : ErrC P w K mg base "BadScript" C1 2 (spIni K "BadScript" "line")) (n1 : PySem.W.findIn K (.ref C1) "code" = some none) (n2 : PySem.W.findIn K (.ref C1) "line" = some none)
    (err_TooMany : ErrC P w K mg base "TooMany" C2 2 (spIni K "TooMany" "most")) (n3 : PySem.W.findIn K (.ref C2) "code" = some none) (n4 : PySem.W.findIn K (.ref C2) "most" = some none) : FnOk P w K mg base (L2.CX P w) (k + 1) f fd ["lines"] (spChkX C1 C2) := by
  refine F.okX sc_check_lines (fun vs H Q E h => ?_) (fun cdv A outer s H vs Q E hr h => ?_)
  · obtain ⟨v, b, d, rfl, _⟩ := h
    rfl
  · obtain ⟨v, b, d, rfl, hv, g, hs, q1, q2⟩ := h
    refine ⟨_, (pss_cons (ps_if (pt_not (pt_val (pe_callB (cr_isiT K) (by rfl) T.isinstance (by decide +kernel) (pa_cons (pv 0) (pa_cons (pe_tup (pa_cons (pe_bltn (v := .ty "list") (by rfl) T.list (by decide +kernel) rfl) (pa_cons (pe_bltn (v := .ty "tuple") (by rfl) T.tuple (by decide +kernel) rfl) pa_nil))) pa_nil))))) (pss_one (ps_rz rfl (takes_of rfl rfl rfl rfl) err_BadScript hr (by omega) (by rfl) (pa_cons pe_int pa_nil))) pss_nil)
      (pss_cons (ps_asg (pe_c c_fault_in hr (by omega) (by rfl) (pa_cons (pv 0) (pa_cons pe_int pa_nil))) (pg_tupX K (pg_tup (n := 2) (by rfl) (pgs_cons (pg_name (i := 1) sc_check_lines.nd rfl (.inl rfl)) (pgs_cons (pg_name (i := 2) sc_check_lines.nd rfl (.inl rfl)) pgs_nil)))))
      (pss_cons (ps_if (pt_cmpR op_ge (pv 1) pe_int (nomark _)) (pss_one (ps_rz rfl (takes_of rfl rfl rfl rfl) err_BadScript hr (by omega) (by rfl) (pa_cons (pv 1) pa_nil))) pss_nil)
      (pss_cons (ps_if (pt_cmpR op_gt (pv 2) (pe_gc (by rfl) T.g_MOST_LINES) (nomark _)) (pss_one (ps_rz rfl (takes_of rfl rfl rfl rfl) err_TooMany hr (by omega) (by rfl) (pa_cons (pe_gc (by rfl) T.g_MOST_LINES) pa_nil))) pss_nil)
      (pss_one (ps_if (pt_cmpR op_gt (pe_callB (call_lenX K) (by rfl) T.len PySem.boot_len (pa_cons (pe_lc (own := [("line", 3)]) (g := gName 3) (by rfl) sc_check_lines.nd (pi_listX K (pe_c c_every_line hr (by omega) (by rfl) (pa_cons (pv 0) pa_nil))) (blkOk_by (own := [("line", 3)]) (N := ["lines", "fault", "many", "line"]) (sc := defScope s_check_lines) (by decide +kernel)) (fun _ _ _ _ _ => pg_name (i := 3) sc_check_lines.nd rfl (Or.inl rfl)) (fun _ _ _ _ _ => (pts_one (pt_cmpR (op_eqX K hr) (pe_ix (ix_X K) (pv 3) pe_int (fun _ _ => rfl)) pe_str (nomark _)))) (fun _ _ _ _ _ => (pv 3))) pa_nil)) (pe_gc (by rfl) T.g_MOST_COPIES) (nomark _)) (pss_one (ps_rz rfl (takes_of rfl rfl rfl rfl) err_TooMany hr (by omega) (by rfl) (pa_cons (pe_gc (by rfl) T.g_MOST_COPIES) pa_nil))) pss_nil)))))), ?_⟩
    change (_ : TS) _ [some v, none, none, none] _
    have bad : ∀ {σ : L2.St} {H1 : Hp} {D : Ends} {n : Int} {te : TE}, Same H H1 → resS d = .bad n → (∀ Q' : VK, Q' (.int n) H1 → te σ H1 Q') → Rg.tRaise C1 (spIni K "BadScript" "line") E (tCons te tNil) D σ H1 := fun {σ H1 D n te} s1 e ht => by
      refine rz ?_
      refine ht _ ?_
      refine ⟨Nat.le_of_ble_eq_true rfl, fun a2 na2 => ini_ok err_BadScript.T n1 n2 na2 fun dd H' s2 h1 => ?_⟩
      exact q2.1 _ e H' dd (s1.trans s2) h1
    have many : ∀ {σ : L2.St} {H1 : Hp} {D : Ends} {n : Int}, Same H H1 → resS d = .many n → Rg.tRaise C2 (spIni K "TooMany" "most") E (tCons (tC (.int n)) tNil) D σ H1 := fun {σ H1 D n} s1 e => by
      refine rz ?_
      k_extra "rr"
      refine ⟨Nat.le_of_ble_eq_true rfl, fun a2 na2 => ini_ok err_TooMany.T n3 n4 na2 fun dd H' s2 h1 => ?_⟩
      exact q2.2 _ e H' dd (s1.trans s2) h1
    k_extra "rr"
    refine ⟨by k_extra "sz", fun p0 np0 => ?_⟩
    k_extra "rr"
    have s0 := same_upd (o := .tup [V.ty "list", V.ty "tuple"]) np0
    have hv0 : Dq b (upd H p0 (.tup [V.ty "list", V.ty "tuple"])) d v := hv.le (Le.same s0)
    have ty : PySem.W.kitAny K (.type (tyN d)) [.type "list", .type "tuple"] = some (isL d || isT d) := by
      cases d <;> first | exact kitAny2 kB_list_list kB_list_tuple | exact kitAny2 kB_tuple_list kB_tuple_tuple | exact kitAny2 kB_NoneType_list kB_NoneType_tuple | exact kitAny2 kB_bool_list kB_bool_tuple | exact kitAny2 kB_int_list kB_int_tuple | exact kitAny2 kB_str_list kB_str_tuple | exact kitAny2 kB_dict_list kB_dict_tuple
    refine isiT (b := isL d || isT d) upd_same (cls2 _ _) hv0.ty ty ?_
    generalize upd H p0 (.tup [V.ty "list", V.ty "tuple"]) = H0 at s0 hv0
    k_extra "rr"
    cases hT : (isL d || isT d) with
    | false =>
      k_extra "rr"
      refine bad s0 ?_ fun Q' q => q
      cases d <;> first | rfl | cases hT
    | true =>
    have hv1 : SqD b H0 (seqD d) v := by
      cases d with
      | list ds =>
        simp only [Dq] at hv0
        obtain ⟨a, l, rfl, n, h1, h2⟩ := hv0
        exact ⟨a, l, rfl, .inl ⟨h1, n⟩, h2⟩
      | tuple ds =>
        obtain ⟨a, l, rfl, h1, h2⟩ := hv0.tup
        exact ⟨a, l, rfl, .inr h1, h2⟩
      | _ => cases hT
    have eR : resS d = resL (seqD d) := by
      cases d <;> first | rfl | cases hT
    have gA' : gA (seqD d) = true := by
      cases d <;> first | (simp only [gD] at g; exact g) | cases hT
    have sA : szA (seqD d) < 10000 := by
      cases d with
      | list ds =>
        simp only [sz] at hs
        show szA ds < 10000
        omega
      | tuple ds =>
        simp only [sz] at hs
        show szA ds < 10000
        omega
      | _ => cases hT
    clear hv0 hv hs g
    rw [eR] at q1 bad many
    clear eR q2
    generalize seqD d = ds at q1 bad many hv1 gA' sA
    k_extra "rr"
    refine ⟨_, b, ds, rfl, hv1, gA', sA, fun p1 H1 s1 h1 => ?_⟩
    have s01 := s0.trans s1
    have hv2 := hv1.le s1
    k_extra "rr"
    unfold resL at q1 bad many
    refine iteD (fun c1 => ?_) (fun c1 => ?_)
    · k_extra "rr"
      exact bad s01 (if_pos c1) fun Q' q => Rg.var rfl q
    rw [if_neg c1] at q1 bad many
    have hok := faultN_ok 3 ds (by omega)
    have hcnt := faultN_cnt 3 ds hok
    rw [hcnt] at q1 bad many
    rw [hcnt]
    k_extra "rr"
    refine iteD (fun c2 => ?_) (fun c2 => ?_)
    · k_extra "rr"
      exact many s01 (if_pos c2)
    rw [if_neg c2] at q1 bad many
    k_extra "rr"
    refine ⟨_, b, ds, rfl, hv2, hok, sA, fun p2 l2 H2 s2 n2 h2 hl2 => ?_⟩
    refine ⟨p2, rfl, ⟨_, SqL.of h2⟩, fun D nD => ?_⟩
    have ll := hl2.len
    have nle := everyN_nl 3 (okN_nl 3 hok)
    refine lc_it (walk_list (K := K) (a := p2) (xs := l2)) (fun j H' => ∃ acc : List V, Same H2 H' ∧ H' D = some (.lst acc) ∧ acc.length = (((everyN 3 ds).take j).filter copyB).length) ⟨[], same_upd nD, upd_same, rfl⟩ (fun j H' _ ⟨_, s, _⟩ => SqL.of (s _ _ h2)) ?_ ?_
    · rintro j x H5 H6 hj ⟨acc, s5, hD5, hacc⟩ ⟨rfl, hx⟩
      obtain ⟨d, ed, hd1⟩ := hl2.get hx
      have hd5 := hd1.tle (b' := b) (TupLe.same s5) (nlA_mem nle (List.mem_of_getElem? ed))
      obtain ⟨z, r, rfl⟩ := line_str (everyN_line 3 hok _ (List.mem_of_getElem? ed))
      obtain ⟨ad, ld, rfl, had, hld⟩ := id hd5.tup
      obtain ⟨v0, lr, rfl, h0, hlr⟩ := hld.inv
      simp only [Dq] at h0
      subst h0
      have at0 : atI (V.str z :: lr) 0 = some (.str z) := (show atI (V.str z :: lr) ((0 : Nat) : Int) = some _ from atI_nat rfl)
      k_extra "rr"
      refine ⟨rfl, ?_⟩
      k_extra "rr"
      refine ixT (SqT.of had) at0 ?_
      k_extra "rr"
      rw [show decide (z = Str.ofString "copy") = copyB (.tuple (.str z :: r)) from rfl]
      have ft := len_filter_take (p := copyB) ed
      cases hc : copyB (.tuple (.str z :: r)) with
      | false =>
        rw [hc, if_neg (by decide)] at ft
        k_extra "rr"
        exact ⟨acc, s5, hD5, by omega⟩
      | true =>
        rw [hc, if_pos rfl] at ft
        k_extra "rr"
        refine ⟨acc, hD5, ?_, _, same_mut s5 nD, upd_same, by rw [List.length_append, List.length_singleton, hacc, ft]⟩
        have := List.length_filter_le copyB ((everyN 3 ds).take j)
        rw [List.length_take] at this
        have := everyN_len 3 ds
        rw [sizeLine_eq]
        omega
    · rintro H5 ⟨acc, s5, hD5, hacc⟩
      rw [ll, List.take_length] at hacc
      have s05 := (s01.trans s2).trans s5
      k_extra "rr"
      have ec : ((4 : Int) < (acc.length : Int)) ↔ 4 < ((everyN 3 ds).filter copyB).length := by omega
      refine iteD (fun c3 => ?_) (fun c3 => ?_)
      · k_extra "rr"
        exact many s05 (if_pos (ec.mp c3))
      · k_extra "rr"
        exact q1 (if_neg fun z => c3 (ec.mpr z)) _ s05
/-! the constructor -/
def spScrX (C C1 C2 : Addr) : Sp := fun vs H Q E => ∃ (x dx : Addr) (v : V) (b : Addr) (d : PyData), vs = [.ref x, v] ∧ H x = some (.ins C dx []) ∧ Dq b H d v ∧ gD d = true ∧ sz d ≤ 10000 ∧
  (resS d = .ok → ∀ H', (∀ b u, H b = some u → b ≠ x → H' b = some u) → ScrAt C H' (seqD d) x → Q .non H') ∧ Told C1 C2 (resS d) H E
theorem ok_Script_initX {k m : Nat} {dvs : List V} (hm : m ≤ k) (F : FunD K "__init__" "Script.__init__" (defArgs s_Script___init__) (defBody s_Script___init__) (defScope s_Script___init__) dvs [] f fd) (T : Txt mg) (R : ScriptC K C) (gT_LOOKS : ∃ u, mg "LOOKS" = some u ∧ RelV (.ref aL) u) (tL : ∀ H, SqT K H aL looksT)
    (c_check_lines : CalR P w K mg base k "check_lines" (spChkX C1 C2)) (c_every_line : CalE P w K mg base m 3) : FnOk P w K mg base (L2.CX P w) (k + 1) f fd ["self", "lines"] (spScrX C C1 C2) := by
  refine FunD.ok F sc_Script___init__ (fun vs H Q E h => ?_) (fun cdv A outer s H vs Q E hr h => ?_)
  · obtain ⟨x, dx, v, b, d, rfl, _⟩ := h
    rfl
  · obtain ⟨x, dx, v, b, d, rfl, hx, hv, hg, hs, q, qE⟩ := h
    obtain ⟨cl, n1, n2, n3⟩ := R
    refine ⟨_, (pss_cons (ps_expr (pe_cR (takes_of rfl rfl rfl rfl) c_check_lines hr (by omega) (by rfl) (pa_cons (pv 1) pa_nil)))
      (pss_cons (ps_fld (pv 0) (pe_callTy (cr_tuple K) (by rfl) T.tuple (by decide +kernel) (pa_cons (pv 1) pa_nil)) rfl)
      (pss_cons (ps_fld (pv 0) (pe_c c_every_line hr (by omega) (by rfl) (pa_cons (pv 1) pa_nil)) rfl)
      (pss_one (ps_fld (pv 0) (pe_callB (call_lenX K) (by rfl) T.len PySem.boot_len (pa_cons (pe_lc (own := [("line", 2)]) (g := gName 2) (by rfl) sc_Script___init__.nd (pi_listX K (pe_fldX K (pe_fld (pv 0) rfl))) (blkOk_by (own := [("line", 2)]) (N := ["self", "lines", "line"]) (sc := defScope s_Script___init__) (by decide +kernel)) (fun _ _ _ _ _ => pg_name (i := 2) sc_Script___init__.nd rfl (Or.inl rfl)) (fun _ _ _ _ _ => (pts_one (pt_cmpR (op_inX K) (pe_ix (ix_X K) (pv 2) pe_int (fun _ _ => rfl)) (pe_gc (by rfl) gT_LOOKS) (by rfl)))) (fun _ _ _ _ _ => (pv 2))) pa_nil)) rfl))))), ?_⟩
    change (_ : TS) _ [some (V.ref x), some v, none] _
    k_extra "rr"
    refine ⟨v, b, d, rfl, hv, hg, hs, fun hR H1 s1 => ?_, qE⟩
    have hseq : (isL d || isT d) = true := by
      cases d <;> first | rfl | (have hR : Rs.bad 0 = Rs.ok := hR; cases hR)
    have q := q hR
    have ho : ScOk (seqD d) := resL_ok (ds := seqD d) (by cases d <;> first | exact hR | cases hseq)
    have hs : szA (seqD d) < 10000 := by
      cases d with
      | list ds =>
        simp only [sz] at hs
        show szA ds < 10000
        omega
      | tuple ds =>
        simp only [sz] at hs
        show szA ds < 10000
        omega
      | _ => cases hseq
    have hv : SqD b H (seqD d) v := by
      cases d with
      | list ds =>
        simp only [Dq] at hv
        obtain ⟨a, l, rfl, n, h1, h2⟩ := hv
        exact ⟨a, l, rfl, .inl ⟨h1, n⟩, h2⟩
      | tuple ds =>
        obtain ⟨a, l, rfl, h1, h2⟩ := hv.tup
        exact ⟨a, l, rfl, .inr h1, h2⟩
      | _ => cases hseq
    generalize seqD d = ds at ho hs hv q
    have hv1 := hv.le s1
    have hx1 := s1 _ _ hx
    have nlds := okN_nl 3 ho.ok
    k_extra "rr"
    -- tuple(lines)
    have tup1 : ∀ {R : V → Hp → Prop}, (∀ (t : Addr) (lt : List V) (H2 : Hp), Same H1 H2 → H2 t = some (.tup lt) → (∀ b, DqA b H2 ds lt) → R (.ref t) H2) → rTupOf K [v] H1 R := by
      intro R k
      obtain ⟨a, l, rfl, hD, hd⟩ := id hv1
      rcases hD with ⟨h, _⟩ | h
      · refine tupL (SqL.of h) fun t nt => k t l _ (same_upd nt) upd_same fun b => hd.tle (TupLe.new nt) nlds
      · exact ⟨a, l, rfl, .inr ⟨SqT.of h, k a l H1 (Same.refl _) h fun b => hd.tle (TupLe.refl _) nlds⟩⟩
    refine tup1 fun t lt H2 s2 ht hlt => ?_
    have hx2 := s2 _ _ hx1
    have tx : t ≠ x := fun z => by
      rw [z, hx2] at ht
      cases ht
    k_extra "rr"
    rw [show putF "rows" (V.ref t) [] = scr1 t from rfl]
    have hx3 : upd H2 x (.ins C dx (scr1 t)) x = some (.ins C dx (scr1 t)) := upd_same
    have k3 : ∀ b u, H2 b = some u → b ≠ x → upd H2 x (.ins C dx (scr1 t)) b = some u := fun b u e n => upd2 n e
    have hv3 : SqD b (upd H2 x (.ins C dx (scr1 t))) ds v := by
      obtain ⟨a, l, rfl, hD, hd⟩ := hv1.le s2
      refine ⟨a, l, rfl, hD.imp (fun h => ⟨k3 _ _ h.1 (fun z => ?_), h.2⟩) (fun h => k3 _ _ h fun z => ?_), hd.tle (fun c xs e => k3 c _ e fun z => ?_) nlds⟩
      · have h1 := h.1
        rw [z, hx2] at h1
        cases h1
      · rw [z, hx2] at h
        cases h
      · rw [z, hx2] at e
        cases e
    have ht3 := k3 _ _ ht tx
    have tl3 : TupLe H2 (upd H2 x (.ins C dx (scr1 t))) := fun c xs e => k3 c _ e fun z => by
      rw [z, hx2] at e
      cases e
    generalize upd H2 x (.ins C dx (scr1 t)) = H3 at hx3 k3 hv3 ht3 tl3
    k_extra "rr"
    refine ⟨v, b, ds, rfl, hv3, ho.ok, hs, fun p le H4 s4 np hp hle => ?_⟩
    have hx4 := s4 _ _ hx3
    have px : p ≠ x := (ne_of_none hx3 np).symm
    k_extra "rr"
    rw [show putF "every" (V.ref p) (scr1 t) = scr2 t p from rfl]
    have hx5 : upd H4 x (.ins C dx (scr2 t p)) x = some (.ins C dx (scr2 t p)) := upd_same
    have k5 : ∀ b u, H4 b = some u → b ≠ x → upd H4 x (.ins C dx (scr2 t p)) b = some u := fun b u e n => upd2 n e
    have tl5 : TupLe H4 (upd H4 x (.ins C dx (scr2 t p))) := fun c xs e => k5 c _ e fun z => by
      rw [z, hx4] at e
      cases e
    have hp5 := k5 _ _ hp px
    have ht5 := k5 _ _ (s4 _ _ ht3) tx
    have nle := everyN_nl 3 nlds
    have hle5 : ∀ b, DqA b (upd H4 x (.ins C dx (scr2 t p))) (everyN 3 ds) le := fun b => hle.tle tl5 nle
    generalize upd H4 x (.ins C dx (scr2 t p)) = H5 at hx5 k5 tl5 hp5 ht5 hle5
    k_extra "rr"
    intro D nD
    have ll := (hle5 b).len
    refine lc_it (walk_list (K := K) (a := p) (xs := le)) (fun j H' => ∃ acc : List V, Same H5 H' ∧ H' D = some (.lst acc) ∧ acc.length = (((everyN 3 ds).take j).filter lookB).length) ⟨[], same_upd nD, upd_same, rfl⟩ (fun j H' _ ⟨_, s, _⟩ => SqL.of (s _ _ hp5)) ?_ ?_
    · rintro j y H6 H7 hj ⟨acc, s6, hD6, hacc⟩ ⟨rfl, hy⟩
      obtain ⟨d, ed, hd1⟩ := (hle5 b).get hy
      have hd5 := hd1.tle (b' := b) (TupLe.same s6) (nlA_mem nle (List.mem_of_getElem? ed))
      obtain ⟨z, r, rfl⟩ := line_str (everyN_line 3 ho.ok _ (List.mem_of_getElem? ed))
      obtain ⟨ad, ld, rfl, had, hld⟩ := id hd5.tup
      obtain ⟨v0, lr, rfl, h0, hlr⟩ := hld.inv
      simp only [Dq] at h0
      subst h0
      have at0 : atI (V.str z :: lr) 0 = some (.str z) := (show atI (V.str z :: lr) ((0 : Nat) : Int) = some _ from atI_nat rfl)
      k_extra "rr"
      refine ⟨rfl, ?_⟩
      k_extra "rr"
      refine ixT (SqT.of had) at0 ?_
      k_extra "rr"
      refine inSeq (.inr (tL _)) rfl rfl ?_
      rw [show inV (.str z) looksT = lookB (.tuple (.str z :: r)) from rfl]
      have ft := len_filter_take (p := lookB) ed
      cases hc : lookB (.tuple (.str z :: r)) with
      | false =>
        rw [hc, if_neg (by decide)] at ft
        k_extra "rr"
        exact ⟨acc, s6, hD6, by omega⟩
      | true =>
        rw [hc, if_pos rfl] at ft
        k_extra "rr"
        refine ⟨acc, hD6, ?_, _, same_mut s6 nD, upd_same, by rw [List.length_append, List.length_singleton, hacc, ft]⟩
        have := List.length_filter_le lookB ((everyN 3 ds).take j)
        have f1 := ho.few
        rw [List.length_take] at this
        rw [sizeLine_eq]
        omega
    · rintro H6 ⟨acc, s6, hD6, hacc⟩
      rw [ll, List.take_length] at hacc
      have hx6 := s6 _ _ hx5
      k_extra "rr"
      rw [show putF "many_looks" (V.int (acc.length : Int)) (scr2 t p) = scrF t p (acc.length : Int) from rfl]
      have k7 : ∀ b u, H6 b = some u → b ≠ x → upd H6 x (.ins C dx (scrF t p (acc.length : Int))) b = some u := fun b u e n => upd2 n e
      have tl7 : TupLe H6 (upd H6 x (.ins C dx (scrF t p (acc.length : Int)))) := fun c xs e => k7 c _ e fun z => by
        rw [z, hx6] at e
        cases e
      refine q _ (fun c u e n => k7 c u (s6 _ _ (k5 _ _ (s4 _ _ (k3 _ _ (s2 _ _ (s1 _ _ e)) n)) n)) n) ⟨dx, t, p, _, lt, le, upd_same, k7 _ _ (s6 _ _ ht5) tx, k7 _ _ (s6 _ _ hp5) px, fun b => (hlt b).tle (((tl3.trans (TupLe.same s4)).trans tl5).trans ((TupLe.same s6).trans tl7)) nlds, fun b => (hle5 b).tle ((TupLe.same s6).trans tl7) nle, by rw [hacc]⟩
end

/-! ### _law_nested -/
def ivs (ms : List Int) : List V := ms.map V.int
def RowsR (H : Hp) : List Addr → List Fo → Prop
  | [], [] => True
  | r :: rs, f :: fs => (∃ xs, H r = some (.lst xs) ∧ Items H f xs) ∧ RowsR H rs fs
  | _, _ => False
def sizes (fs : List Fo) : Nat := (fs.map Fo.size).sum
theorem RowsR.len {H : Hp} : ∀ {rs : List Addr} {fs : List Fo}, RowsR H rs fs → rs.length = fs.length
  | [], [], _ => rfl
  | _ :: _, _ :: _, h => by rw [List.length_cons, List.length_cons, h.2.len]
theorem RowsR.keep {H H' : Hp} (t : TupLe H H') : ∀ {rs : List Addr} {fs : List Fo}, (∀ r ∈ rs, ∀ xs, H r = some (.lst xs) → H' r = some (.lst xs)) → RowsR H rs fs → RowsR H' rs fs
  | [], [], _, _ => trivial
  | r :: rs, f :: fs, k, ⟨⟨xs, h, i⟩, q⟩ => ⟨⟨xs, k r (List.mem_cons_self ..) _ h, i.le t⟩, RowsR.keep t (fun r' m => k r' (List.mem_cons_of_mem _ m)) q⟩
theorem RowsR.mem {H : Hp} : ∀ {rs : List Addr} {fs : List Fo}, RowsR H rs fs → ∀ r ∈ rs, ∃ xs, H r = some (.lst xs)
  | _ :: _, _ :: _, ⟨⟨xs, h, _⟩, q⟩, r, m => by
    rcases List.mem_cons.mp m with rfl | m
    · exact ⟨xs, h⟩
    · exact q.mem r m
theorem RowsR.at {H : Hp} : ∀ {rs : List Addr} {fs : List Fo}, RowsR H rs fs → ∀ r ∈ rs, ∃ f xs, f ∈ fs ∧ H r = some (.lst xs) ∧ Items H f xs
  | _ :: _, _ :: _, ⟨⟨xs, h, i⟩, q⟩, r, m => by
    rcases List.mem_cons.mp m with rfl | m
    · exact ⟨_, xs, List.mem_cons_self .., h, i⟩
    · obtain ⟨f, ys, h1, h2, h3⟩ := q.at r m
      exact ⟨f, ys, List.mem_cons_of_mem _ h1, h2, h3⟩
structure NI (H : Hp) (R O : Addr) (p : List Nat → List Nat → Prop) (i : Nat) (osr : List Int) (rs : List Addr) (fs : List Fo) (H' : Hp) : Prop where
  same : Same H H'
  fR : H R = none
  fO : H O = none
  hR : H' R = some (.lst (rs.reverse.map V.ref))
  hO : H' O = some (.lst (ivs osr.reverse))
  rows : RowsR H' rs fs
  len : rs.length = osr.length + 1
  nd : rs.Nodup
  nR : R ∉ rs
  nO : O ∉ rs
  RO : R ≠ O
  fresh : ∀ r ∈ rs, H r = none
  sz : 2 * sizes fs + osr.length ≤ i
  all : ∀ f ∈ fs, f.All p
theorem NI.new {H : Hp} {R O : Addr} {p : List Nat → List Nat → Prop} {i : Nat} {osr : List Int} {rs : List Addr} {fs : List Fo} {H' : Hp} {x : Addr} {o : HO} (h : NI H R O p i osr rs fs H') (n : H' x = none) : NI H R O p i osr rs fs (upd H' x o) :=
  { h with
    same := h.same.trans (same_upd n)
    hR := same_upd n _ _ h.hR
    hO := same_upd n _ _ h.hO
    rows := h.rows.keep (TupLe.new n) fun r _ xs e => same_upd n _ _ e }
theorem NI.open {H : Hp} {R O : Addr} {p : List Nat → List Nat → Prop} {i : Nat} {osr : List Int} {rs : List Addr} {fs : List Fo} {H' : Hp} {e : Addr} {mk : Int} (h : NI H R O p i osr rs fs H') (n : upd H' O (.lst (ivs osr.reverse ++ [.int mk])) e = none) :
    NI H R O p (i + 1) (mk :: osr) (e :: rs) (.nil :: fs) (upd (upd (upd H' O (.lst (ivs osr.reverse ++ [.int mk]))) e (.lst [])) R (.lst (rs.reverse.map V.ref ++ [.ref e]))) := by
  have n1 : H' e = none := un0 n
  have eO : e ≠ O := fun z => by
    rw [z, upd_same] at n
    cases n
  have eR : e ≠ R := (ne_of_none h.hR n1).symm
  have er : e ∉ rs := fun m => by
    obtain ⟨xs, q⟩ := h.rows.mem e m
    rw [n1] at q
    cases q
  have he : H e = none := by
    cases q : H e with
    | none => rfl
    | some o =>
      rw [h.same _ _ q] at n1
      cases n1
  have t1 : TupLe H' (upd H' O (.lst (ivs osr.reverse ++ [.int mk]))) := TupLe.lst h.hO
  have t2 := t1.trans (TupLe.new (o := .lst []) n)
  have hR2 : upd (upd H' O (.lst (ivs osr.reverse ++ [.int mk]))) e (.lst []) R = some (.lst (rs.reverse.map V.ref)) := same_upd n _ _ (upd2 h.RO h.hR)
  have t3 := t2.trans (TupLe.lst (m := rs.reverse.map V.ref ++ [.ref e]) hR2)
  refine {
    same := same_mut ((same_mut h.same h.fO).trans (same_upd n)) h.fR
    fR := h.fR
    fO := h.fO
    hR := ?_
    hO := ?_
    rows := ⟨⟨[], ?_, rfl⟩, h.rows.keep t3 fun r m xs q => ?_⟩
    len := (by rw [List.length_cons, List.length_cons, h.len])
    nd := List.nodup_cons.mpr ⟨er, h.nd⟩
    nR := fun m => ?_
    nO := fun m => ?_
    RO := h.RO
    fresh := fun r m => ?_
    sz := ?_
    all := fun f m => ?_ }
  · rw [upd_same, List.reverse_cons, List.map_append]
    rfl
  · rw [upd_ne h.RO.symm, upd_ne eO.symm, upd_same, List.reverse_cons]
    unfold ivs
    rw [List.map_append]
    rfl
  · rw [upd_ne eR, upd_same]
  · have mR : r ≠ R := fun z => h.nR (z ▸ m)
    have mO : r ≠ O := fun z => h.nO (z ▸ m)
    have me : r ≠ e := fun z => er (z ▸ m)
    rw [upd_ne mR, upd_ne me, upd_ne mO]
    exact q
  · rcases List.mem_cons.mp m with z | m
    · exact eR z.symm
    · exact h.nR m
  · rcases List.mem_cons.mp m with z | m
    · exact eO z.symm
    · exact h.nO m
  · rcases List.mem_cons.mp m with rfl | m
    · exact he
    · exact h.fresh r m
  · have := h.sz
    show 2 * (0 + sizes fs) + (osr.length + 1) ≤ i + 1
    omega
  · rcases List.mem_cons.mp m with rfl | m
    · trivial
    · exact h.all f m
section
variable {P : Program} {w : World} {K : PySem.W.Frag} {mg : Str → Option Value} {base : Heap} {f : Addr} {fd : FuncData}
end

/-! ### _law_document -/
structure DI (H : Hp) (b r M O S X : Addr) (ks : List (List Nat)) (j a c : Nat) (ms osr : List Int) (sk tk : List (List Nat)) (H' : Hp) : Prop where
  b0 : BagAt H b r
  but : But b H H'
  bag : BagAt H' b r
  fM : H M = none
  fO : H O = none
  fS : H S = none
  fX : H X = none
  hM : H' M = some (.lst (ivs ms))
  hO : H' O = some (.lst (ivs osr.reverse))
  hS : H' S = some (.lst (kws sk))
  hX : H' X = some (.lst (kws tk))
  MO : M ≠ O
  MS : M ≠ S
  MX : M ≠ X
  OS : O ≠ S
  OX : O ≠ X
  SX_ : S ≠ X
  cnt : ms.length + osr.length = 2 * j
  la : sk.length = a
  lc : tk.length = c
  om : ∀ x ∈ ms, 0 ≤ x ∧ x < j
  oo : ∀ x ∈ osr, 0 ≤ x ∧ x < j
  ok : ∀ k ∈ sk, k ∈ ks
  ot : ∀ t ∈ tk, t.length ≤ 3 ∧ ∀ c ∈ t, c ∈ signsL
section
variable {H H' H2 : Hp} {b r M O S X x : Addr} {ks sk tk : List (List Nat)} {j a c : Nat} {ms osr os : List Int} {o : Int} {u : HO}
theorem DI.bagged (h : DI H b r M O S X ks j a c ms osr sk tk H') (bb : But b H' H2) (hb : BagAt H2 b r) : DI H b r M O S X ks j a c ms osr sk tk H2 :=
  { h with
    but := h.but.trans bb
    bag := hb
    hM := bb _ _ h.hM (h.b0.ne_none h.fM).1
    hO := bb _ _ h.hO (h.b0.ne_none h.fO).1
    hS := bb _ _ h.hS (h.b0.ne_none h.fS).1
    hX := bb _ _ h.hX (h.b0.ne_none h.fX).1 }
theorem DI.new (h : DI H b r M O S X ks j a c ms osr sk tk H') (n : H' x = none) : DI H b r M O S X ks j a c ms osr sk tk (upd H' x u) :=
  h.bagged (But.new n) (h.bag.new n)
theorem bag_mut {m : List V} {l : List V} (b0 : BagAt H b r) (fx : H x = none) (hb : BagAt H' b r) (hx : H' x = some (.lst l)) : BagAt (upd H' x (.lst m)) b r := by
  obtain ⟨n1, n2⟩ := b0.ne_none fx
  obtain ⟨ns, i, c, m, h1, h2, h3⟩ := hb
  exact ⟨ns, i, c, m, upd2 n1.symm h1, upd2 n2.symm h2, h3⟩
theorem DI.move (h : DI H b r M O S X ks j a c ms (o :: os) sk tk H') : DI H b r M O S X ks j a c (ms ++ [o]) os sk tk (upd (upd H' O (.lst (ivs os.reverse))) M (.lst (ivs ms ++ [.int o]))) :=
  { h with
    but := (h.but.mutNew h.fO).mutNew h.fM
    bag := bag_mut h.b0 h.fM (bag_mut h.b0 h.fO h.bag h.hO) (upd2 h.MO h.hM)
    hM := (by rw [upd_same]; unfold ivs; rw [List.map_append]; rfl)
    hO := upd2 h.MO.symm upd_same
    hS := upd2 h.MS.symm (upd2 h.OS.symm h.hS)
    hX := upd2 h.MX.symm (upd2 h.OX.symm h.hX)
    cnt := (by
      have := h.cnt
      rw [List.length_cons] at this
      rw [List.length_append, List.length_singleton]
      omega)
    om := fun x hx => (by
      rcases List.mem_append.mp hx with hx | hx
      · exact h.om x hx
      · rw [List.mem_singleton.mp hx]
        exact h.oo o (List.mem_cons_self ..))
    oo := fun x hx => h.oo x (List.mem_cons_of_mem _ hx) }
theorem DI.kind {k : List Nat} (h : DI H b r M O S X ks j a c ms osr sk tk H') (hk : k ∈ ks) : DI H b r M O S X ks j (a + 1) c ms osr (sk ++ [k]) tk (upd H' S (.lst (kws sk ++ [.str (SX.S k)]))) :=
  { h with
    but := h.but.mutNew h.fS
    bag := bag_mut h.b0 h.fS h.bag h.hS
    hM := upd2 h.MS h.hM
    hO := upd2 h.OS h.hO
    hS := (by rw [upd_same]; unfold kws; rw [List.map_append]; rfl)
    hX := upd2 h.SX_.symm h.hX
    la := (by rw [List.length_append, List.length_singleton, h.la])
    ok := fun x hx => (by
      rcases List.mem_append.mp hx with hx | hx
      · exact h.ok x hx
      · rw [List.mem_singleton.mp hx]
        exact hk) }
theorem DI.text {t : List Nat} (h : DI H b r M O S X ks j a c ms osr sk tk H') (ht : t.length ≤ 3 ∧ ∀ c ∈ t, c ∈ signsL) : DI H b r M O S X ks j a (c + 1) ms osr sk (tk ++ [t]) (upd H' X (.lst (kws tk ++ [.str (SX.S t)]))) :=
  { h with
    but := h.but.mutNew h.fX
    bag := bag_mut h.b0 h.fX h.bag h.hX
    hM := upd2 h.MX h.hM
    hO := upd2 h.OX h.hO
    hS := upd2 h.SX_ h.hS
    hX := (by rw [upd_same]; unfold kws; rw [List.map_append]; rfl)
    lc := (by rw [List.length_append, List.length_singleton, h.lc])
    ot := fun x hx => (by
      rcases List.mem_append.mp hx with hx | hx
      · exact h.ot x hx
      · rw [List.mem_singleton.mp hx]
        exact ht) }
end
section
variable {P : Program} {w : World} {K : PySem.W.Frag} {mg : Str → Option Value} {base : Heap} {f : Addr} {fd : FuncData}
end

/-! ### texts of documents -/
namespace Fo
def get : Fo → Nat → Option (List Nat × List Nat × Fo)
  | nil, _ => none
  | cons k t i _, 0 => some (k, t, i)
  | cons _ _ _ r, j + 1 => r.get j
end Fo
def GN (k t : List Nat) : Prop := (∀ c ∈ k, c ∈ letters) ∧ 1 ≤ k.length ∧ k.length ≤ 6 ∧ t.length ≤ 20 ∧ ∀ c ∈ t, signB c = true
abbrev GF (f : Fo) : Prop := f.All GN
theorem Items.get {H : Hp} : ∀ {f : Fo} {xs : List V} {j : Nat} {x : V}, Items H f xs → xs[j]? = some x → ∃ k t i p q, f.get j = some (k, t, i) ∧ x = .ref p ∧ H p = some (.tup [.str (SX.S k), .str (SX.S t), .ref q]) ∧ Doc H i q
  | .nil, _, _, _, h, hx => by
    rw [show _ = _ from h] at hx
    cases hx
  | .cons k t i r, _, j, _, ⟨p, q, ys, xs', e, h1, h2, h3, h4⟩, hx => by
    subst e
    cases j with
    | zero =>
      cases hx
      exact ⟨k, t, i, p, q, rfl, rfl, h1, ys, h2, h3⟩
    | succ j =>
      have e := Items.get h4 hx
      exact e
/-! shapes -/
theorem sign_small {c : Nat} (h : signB c = true) : c < 1114112 := by
  unfold signB at h
  simp only [Bool.and_eq_true, decide_eq_true_eq] at h
  omega
theorem letters_small : ∀ c ∈ letters, c < 1114112 := by decide
theorem ok_S {l : List Nat} (h : ∀ c ∈ l, c < 1114112) : PyData.strOk (SX.S l) = true := by
  unfold PyData.strOk
  show (l.toArray.all (· < 0x110000)) = true
  rw [List.all_toArray]
  exact List.all_eq_true.mpr fun c hc => decide_eq_true (h c hc)
theorem lay_fdata : ∀ {f : Fo}, GF f → PyData.canLayAll0 (fdata f) = true
  | .nil, _ => by simp [fdata, PyData.canLayAll0]
  | .cons k t i r, ⟨⟨h1, _, _, _, h2⟩, h3, h4⟩ => by
    have a1 := lay_fdata h3
    have a2 := lay_fdata h4
    have b1 := ok_S fun c hc => letters_small c (h1 c hc)
    have b2 := ok_S fun c hc => sign_small (h2 c hc)
    unfold fdata
    simp only [PyData.canLayAll0, PyData.canLay0, a1, a2, b1, b2, Bool.and_self, Bool.and_true]
theorem depth_fdata : ∀ f : Fo, PyData.depthAll (fdata f) ≤ 2 * f.depth
  | .nil => by simp [fdata, PyData.depthAll]
  | .cons k t i r => by
    have a1 := depth_fdata i
    have a2 := depth_fdata r
    unfold fdata
    simp only [PyData.depthAll, PyData.depth]
    show _ ≤ 2 * max (i.depth + 1) r.depth
    omega
/-! ### _law_text -/
section
variable {P : Program} {w : World} {K : PySem.W.Frag} {mg : Str → Option Value} {base : Heap} {f : Addr} {fd : FuncData}
end

/-! ### spaced, document_text -/
def spaceL (xs : List V) : List V := ((xs.reverse.map fun x => [x, V.str " "]).flatten).dropLast
section
variable {P : Program} {w : World} {K : PySem.W.Frag} {mg : Str → Option Value} {base : Heap} {f : Addr} {fd : FuncData}
end

/-! ### document_text: its stack -/
inductive Tk where
  | s (l : List Nat)
  | n (k t : List Nat) (i : Fo)
def TkAt (H : Hp) : Tk → V → Prop
  | .s l, v => v = .str (SX.S l)
  | .n k t i, v => ∃ p q, v = .ref p ∧ H p = some (.tup [.str (SX.S k), .str (SX.S t), .ref q]) ∧ Doc H i q
def TkG : Tk → Prop
  | .s l => l.length ≤ 1 ∧ ∀ c ∈ l, c < 1114112
  | .n k t i => GN k t ∧ GF i ∧ i.depth ≤ 30
def toks2 : Fo → List Tk
  | .nil => []
  | .cons k t i r => .s [32] :: .n k t i :: toks2 r
def toks (f : Fo) : List Tk := (toks2 f).tail
theorem TkAt.le {H H' : Hp} (s : TupLe H H') : ∀ {t : Tk} {v : V}, TkAt H t v → TkAt H' t v
  | .s _, _, h => h
  | .n _ _ _, _, ⟨p, q, e, h, d⟩ => ⟨p, q, e, s _ _ h, d.le s⟩
def TksAt (H : Hp) : List Tk → List V → Prop
  | [], [] => True
  | t :: ts, v :: vs => TkAt H t v ∧ TksAt H ts vs
  | _, _ => False
theorem TksAt.le {H H' : Hp} (s : TupLe H H') : ∀ {ts : List Tk} {vs : List V}, TksAt H ts vs → TksAt H' ts vs
  | [], [], _ => trivial
  | _ :: _, _ :: _, ⟨h, r⟩ => ⟨h.le s, r.le s⟩
theorem TksAt.len {H : Hp} : ∀ {ts : List Tk} {vs : List V}, TksAt H ts vs → vs.length = ts.length
  | [], [], _ => rfl
  | _ :: _, _ :: _, ⟨h, r⟩ => by rw [List.length_cons, List.length_cons, r.len]
theorem TksAt.app {H : Hp} : ∀ {ts us : List Tk} {vs ws : List V}, TksAt H ts vs → TksAt H us ws → TksAt H (ts ++ us) (vs ++ ws)
  | [], _, [], _, _, h => h
  | _ :: _, _, _ :: _, _, ⟨h, r⟩, q => ⟨h, r.app q⟩
theorem Items.toks2 {H : Hp} : ∀ {f : Fo} {xs : List V}, Items H f xs → TksAt H (toks2 f) ((xs.map fun x => [V.str " ", x]).flatten)
  | .nil, _, h => by
    rw [show _ = _ from h]
    trivial
  | .cons k t i r, _, ⟨p, q, ys, xs', e, h1, h2, h3, h4⟩ => by
    subst e
    exact ⟨congrArg V.str (by decide +kernel), ⟨p, q, rfl, h1, ys, h2, h3⟩, Items.toks2 h4⟩
theorem space_rev (xs : List V) : (spaceL xs).reverse = ((xs.map fun x => [V.str " ", x]).flatten).tail := by
  unfold spaceL
  rw [← List.tail_reverse]
  congr 1
  rw [List.reverse_flatten, List.map_map, List.map_reverse, List.reverse_reverse]
  rfl
theorem TksAt.tail {H : Hp} : ∀ {ts : List Tk} {vs : List V}, TksAt H ts vs → TksAt H ts.tail vs.tail
  | [], [], _ => trivial
  | _ :: _, _ :: _, ⟨_, r⟩ => r
theorem Items.toks {H : Hp} {f : Fo} {xs : List V} (h : Items H f xs) : TksAt H (toks f) (spaceL xs).reverse := by
  rw [space_rev]
  exact (Items.toks2 h).tail
/-! as plain data -/
def tkD : Tk → PyData
  | .s l => .str (SX.S l)
  | .n k t i => .tuple [.str (SX.S k), .str (SX.S t), .tuple (fdata i)]
theorem TkAt.dp {K : PySem.W.Frag} {H : Hp} : ∀ {t : Tk} {v : V}, TkAt H t v → Dp K H v (tkD t)
  | .s _, _, h => by
    rw [show _ = _ from h]
    exact .str _
  | .n _ _ _, _, ⟨p, q, e, h, d⟩ => by
    subst e
    exact .tup (SqT.of h) (.cons (.str _) (.cons (.str _) (.cons d.dp .nil)))
theorem dp_snoc {K : PySem.W.Frag} {H : Hp} {v : V} {d : PyData} (h : Dp K H v d) : ∀ {vs : List V} {ds : List PyData}, DpAll K H vs ds → DpAll K H (vs ++ [v]) (ds ++ [d])
  | _, _, .nil => .cons h .nil
  | _, _, .cons a b => .cons a (dp_snoc h b)
theorem TksAt.dp {K : PySem.W.Frag} {H : Hp} : ∀ {ts : List Tk} {vs : List V}, TksAt H ts vs → DpAll K H vs.reverse (ts.map tkD).reverse
  | [], [], _ => .nil
  | _ :: _, _ :: _, ⟨h, r⟩ => by
    rw [List.map_cons, List.reverse_cons, List.reverse_cons]
    exact dp_snoc h.dp r.dp
theorem TkG.data : ∀ {t : Tk}, TkG t → (tkD t).canLay0 = true ∧ (tkD t).depth ≤ 63
  | .s l, ⟨_, h⟩ => ⟨by
      have := ok_S h
      simpa [tkD, PyData.canLay0] using this, by simp [tkD, PyData.depth]⟩
  | .n k t i, ⟨⟨h1, _, _, _, h2⟩, h3, h4⟩ => by
    have a1 := lay_fdata h3
    have b1 := ok_S fun c hc => letters_small c (h1 c hc)
    have b2 := ok_S fun c hc => sign_small (h2 c hc)
    have a2 := depth_fdata i
    constructor
    · unfold tkD
      simp only [PyData.canLayAll0, PyData.canLay0, a1, b1, b2, Bool.and_self, Bool.and_true]
    · unfold tkD
      simp only [PyData.depthAll, PyData.depth]
      omega
section
variable {P : Program} {w : World} {K : PySem.W.Frag} {mg : Str → Option Value} {base : Heap} {f : Addr} {fd : FuncData}
end

/-! ### class Row: a document as a row -/
abbrev rowF (m k t o : V) : List (Str × V) := [("marks", m), ("kind_row", k), ("text_row", t), ("origin_row", o)]
def RowO (C dx m k t o : Addr) : HO := .ins C dx (rowF (.ref m) (.ref k) (.ref t) (.ref o))
structure RowC (K : PySem.W.Frag) (mg : Str → Option Value) (C : Addr) : Prop where
  cl : Cls K C
  n1 : NoAttr K C "marks"
  n2 : NoAttr K C "kind_row"
  n3 : NoAttr K C "text_row"
  n4 : NoAttr K C "origin_row"
/-! the stack of made_of -/
inductive Td where
  | num (i : Int)
  | nd (k t : List Nat) (i : Fo)
def TdAt (H : Hp) : Td → V → Prop
  | .num i, v => v = .int i
  | .nd k t i, v => ∃ p q, v = .ref p ∧ H p = some (.tup [.str (SX.S k), .str (SX.S t), .ref q]) ∧ Doc H i q
def TdsAt (H : Hp) : List Td → List V → Prop
  | [], [] => True
  | t :: ts, v :: vs => TdAt H t v ∧ TdsAt H ts vs
  | _, _ => False
def TdG : Td → Prop
  | .num i => 0 ≤ i ∧ i < 100000
  | .nd k t i => GN k t ∧ GF i ∧ i.depth ≤ 30
theorem TdAt.le {H H' : Hp} (s : TupLe H H') : ∀ {t : Td} {v : V}, TdAt H t v → TdAt H' t v
  | .num _, _, h => h
  | .nd _ _ _, _, ⟨p, q, e, h, d⟩ => ⟨p, q, e, s _ _ h, d.le s⟩
theorem TdsAt.le {H H' : Hp} (s : TupLe H H') : ∀ {ts : List Td} {vs : List V}, TdsAt H ts vs → TdsAt H' ts vs
  | [], [], _ => trivial
  | _ :: _, _ :: _, ⟨h, r⟩ => ⟨h.le s, r.le s⟩
theorem TdsAt.len {H : Hp} : ∀ {ts : List Td} {vs : List V}, TdsAt H ts vs → vs.length = ts.length
  | [], [], _ => rfl
  | _ :: _, _ :: _, ⟨h, r⟩ => by rw [List.length_cons, List.length_cons, r.len]
theorem TdsAt.app {H : Hp} : ∀ {ts us : List Td} {vs ws : List V}, TdsAt H ts vs → TdsAt H us ws → TdsAt H (ts ++ us) (vs ++ ws)
  | [], _, [], _, _, h => h
  | _ :: _, _, _ :: _, _, ⟨h, r⟩, q => ⟨h, r.app q⟩
def tdD : Td → PyData
  | .num i => .int i
  | .nd k t i => .tuple [.str (SX.S k), .str (SX.S t), .tuple (fdata i)]
theorem TdAt.dp {K : PySem.W.Frag} {H : Hp} : ∀ {t : Td} {v : V}, TdAt H t v → Dp K H v (tdD t)
  | .num _, _, h => by
    rw [show _ = _ from h]
    exact .int _
  | .nd _ _ _, _, ⟨p, q, e, h, d⟩ => by
    subst e
    exact .tup (SqT.of h) (.cons (.str _) (.cons (.str _) (.cons d.dp .nil)))
theorem TdsAt.dp {K : PySem.W.Frag} {H : Hp} : ∀ {ts : List Td} {vs : List V}, TdsAt H ts vs → DpAll K H vs.reverse (ts.map tdD).reverse
  | [], [], _ => .nil
  | _ :: _, _ :: _, ⟨h, r⟩ => by
    rw [List.map_cons, List.reverse_cons, List.reverse_cons]
    exact dp_snoc h.dp r.dp
theorem TdG.data : ∀ {t : Td}, TdG t → (tdD t).canLay0 = true ∧ (tdD t).depth ≤ 63
  | .num i, ⟨h1, h2⟩ => ⟨by simp [tdD, PyData.canLay0], by simp [tdD, PyData.depth]⟩
  | .nd k t i, ⟨⟨h1, _, _, _, h2⟩, h3, h4⟩ => by
    have a1 := lay_fdata h3
    have b1 := ok_S fun c hc => letters_small c (h1 c hc)
    have b2 := ok_S fun c hc => sign_small (h2 c hc)
    have a2 := depth_fdata i
    constructor
    · unfold tdD
      simp only [PyData.canLayAll0, PyData.canLay0, a1, b1, b2, Bool.and_self, Bool.and_true]
    · unfold tdD
      simp only [PyData.depthAll, PyData.depth]
      omega
/-! ### the promises -/
structure NewRow (C : Addr) (H H' : Hp) (p dx m k t o : Addr) (ms : List Int) (ks ts : List (List Nat)) (os : List V) : Prop where
  same : Same H H'
  fp : H p = none
  fm : H m = none
  fk : H k = none
  ft : H t = none
  fo : H o = none
  hp : H' p = some (RowO C dx m k t o)
  hm : H' m = some (.lst (ivs ms))
  hk : H' k = some (.lst (kws ks))
  ht : H' t = some (.lst (kws ts))
  ho : H' o = some (.lst os)
  mk_ : m ≠ k
  mt_ : m ≠ t
  mo_ : m ≠ o
  kt_ : k ≠ t
  ko_ : k ≠ o
  to_ : t ≠ o
section
variable {P : Program} {w : World} {K : PySem.W.Frag} {mg : Str → Option Value} {base : Heap} {f C : Addr} {fd : FuncData}
end

/-! ### the plain law of rubbed rows -/
/-! ### nested: the walks of _law_nested and of Row.nested, told by the plain machine (printed by mknest.py from nested.part) -/
section
variable {P : Program} {w : World} {K : PySem.W.Frag} {mg : Str → Option Value} {base : Heap} {f C : Addr} {fd : FuncData}
end

/-! ### Row.made_of -/
section
variable {C p dx m k t o l x : Addr} {H H' : Hp} {ms : List Int} {ks ts : List (List Nat)} {os : List V} {u : HO}
theorem NewRow.new (h : NewRow C H H' p dx m k t o ms ks ts os) (n : H' x = none) : NewRow C H (upd H' x u) p dx m k t o ms ks ts os :=
  { h with same := h.same.trans (same_upd n), hp := same_upd n _ _ h.hp, hm := same_upd n _ _ h.hm, hk := same_upd n _ _ h.hk, ht := same_upd n _ _ h.ht, ho := same_upd n _ _ h.ho }
theorem NewRow.add {H2 : Hp} {a b : List Nat} {v : V} (h : NewRow C H H' p dx m k t o ms ks ts os) (e3 : ∀ b u, H' b = some u → b ≠ k → b ≠ t → b ≠ o → H2 b = some u) (hk : H2 k = some (.lst (kws ks ++ [.str (SX.S a)]))) (ht : H2 t = some (.lst (kws ts ++ [.str (SX.S b)]))) (ho : H2 o = some (.lst (os ++ [v]))) :
    NewRow C H H2 p dx m k t o ms (ks ++ [a]) (ts ++ [b]) (os ++ [v]) := by
  have pk : p ≠ k := fun z => by
    have e := h.hp
    rw [z, h.hk] at e
    cases e
  have pt : p ≠ t := fun z => by
    have e := h.hp
    rw [z, h.ht] at e
    cases e
  have po : p ≠ o := fun z => by
    have e := h.hp
    rw [z, h.ho] at e
    cases e
  refine { h with same := fun c w e => e3 c w (h.same c w e) (ne_of_none e h.fk) (ne_of_none e h.ft) (ne_of_none e h.fo), hp := e3 _ _ h.hp pk pt po, hm := e3 _ _ h.hm h.mk_ h.mt_ h.mo_, hk := ?_, ht := ?_, ho := ho }
  · rw [hk]
    unfold kws
    rw [List.map_append]
    rfl
  · rw [ht]
    unfold kws
    rw [List.map_append]
    rfl
theorem NewRow.tup {H2 : Hp} (h : NewRow C H H' p dx m k t o ms ks ts os) (e3 : ∀ b u, H' b = some u → b ≠ k → b ≠ t → b ≠ o → H2 b = some u) : TupLe H' H2 := fun c xs e => e3 c _ e
  (fun z => by
    rw [z, h.hk] at e
    cases e) (fun z => by
    rw [z, h.ht] at e
    cases e) (fun z => by
    rw [z, h.ho] at e
    cases e)
end
section
variable {P : Program} {w : World} {K : PySem.W.Frag} {mg : Str → Option Value} {base : Heap} {f C : Addr} {fd : FuncData}
end

/-! ### the law's own rows: _law_flat, _law_row -/
structure St4 (H : Hp) (st m k t o : Addr) (ms : List Int) (ks ts : List (List Nat)) (os : List V) : Prop where
  hst : H st = some (.lst [.ref m, .ref k, .ref t, .ref o])
  hm : H m = some (.lst (ivs ms))
  hk : H k = some (.lst (kws ks))
  ht : H t = some (.lst (kws ts))
  ho : H o = some (.lst os)
  sm : st ≠ m
  sk : st ≠ k
  s_t : st ≠ t
  so : st ≠ o
  mk_ : m ≠ k
  mt_ : m ≠ t
  mo_ : m ≠ o
  kt_ : k ≠ t
  ko_ : k ≠ o
  to_ : t ≠ o
def But4 (m k t o : Addr) (H H' : Hp) : Prop := ∀ b u, H b = some u → b ≠ m → b ≠ k → b ≠ t → b ≠ o → H' b = some u
section
variable {st m k t o : Addr} {H H' H2 : Hp} {ms : List Int} {ks ts : List (List Nat)} {os : List V}
theorem But4.refl : But4 m k t o H H := fun _ _ e _ _ _ _ => e
theorem But4.trans (a : But4 m k t o H H') (b : But4 m k t o H' H2) : But4 m k t o H H2 := fun c u e h1 h2 h3 h4 => b c u (a c u e h1 h2 h3 h4) h1 h2 h3 h4
theorem But4.upd {l : Addr} {u : HO} (h : l = m ∨ l = k ∨ l = t ∨ l = o) : But4 m k t o H (upd H l u) := fun c w e h1 h2 h3 h4 => by
  rw [upd_ne (fun z => by rcases h with h | h | h | h <;> simp_all)]
  exact e
theorem But4.tup (h : St4 H st m k t o ms ks ts os) (b : But4 m k t o H H') : TupLe H H' := fun c xs e => b c _ e
  (fun z => by
    rw [z, h.hm] at e
    cases e) (fun z => by
    rw [z, h.hk] at e
    cases e) (fun z => by
    rw [z, h.ht] at e
    cases e) (fun z => by
    rw [z, h.ho] at e
    cases e)
theorem St4.kind (h : St4 H st m k t o ms ks ts os) (a : List Nat) : St4 (upd H k (.lst (kws ks ++ [.str (SX.S a)]))) st m k t o ms (ks ++ [a]) ts os :=
  { h with hst := upd2 h.sk h.hst, hm := upd2 h.mk_ h.hm, hk := (by rw [upd_same]; unfold kws; rw [List.map_append]; rfl), ht := upd2 h.kt_.symm h.ht, ho := upd2 h.ko_.symm h.ho }
theorem St4.text (h : St4 H st m k t o ms ks ts os) (a : List Nat) : St4 (upd H t (.lst (kws ts ++ [.str (SX.S a)]))) st m k t o ms ks (ts ++ [a]) os :=
  { h with hst := upd2 h.s_t h.hst, hm := upd2 h.mt_ h.hm, hk := upd2 h.kt_ h.hk, ht := (by rw [upd_same]; unfold kws; rw [List.map_append]; rfl), ho := upd2 h.to_.symm h.ho }
end
section
variable {P : Program} {w : World} {K : PySem.W.Frag} {mg : Str → Option Value} {base : Heap} {f : Addr} {fd : FuncData}
end

/-! ### Row.rub -/
def rubM (ms ns : List Int) : List Int := ms.filter fun x => !ns.contains x
section
variable {P : Program} {w : World} {K : PySem.W.Frag} {mg : Str → Option Value} {base : Heap} {f C : Addr} {fd : FuncData}
end

/-! ### the spans of a row: first and last place of each number, in the order of the first places -/
def ordF : List Int → List Int → List Int
  | acc, [] => acc
  | acc, m :: r => if m ∈ acc then ordF acc r else ordF (acc ++ [m]) r
def ordM (ms : List Int) : List Int := ordF [] ms
def fstI (ms : List Int) (n : Int) : Nat := ms.idxOf n
def lstI (ms : List Int) (n : Int) : Nat := ms.length - 1 - ms.reverse.idxOf n
theorem ordF_snoc (m : Int) : ∀ (ms acc : List Int), ordF acc (ms ++ [m]) = if m ∈ ordF acc ms then ordF acc ms else ordF acc ms ++ [m]
  | [], acc => rfl
  | x :: r, acc => by
    show (if x ∈ acc then ordF acc (r ++ [m]) else ordF (acc ++ [x]) (r ++ [m])) = if m ∈ (if x ∈ acc then ordF acc r else ordF (acc ++ [x]) r) then _ else _
    by_cases h : x ∈ acc
    · rw [if_pos h, if_pos h]
      have e : ordF acc (x :: r) = ordF acc r := if_pos h
      rw [e]
      exact ordF_snoc m r acc
    · rw [if_neg h, if_neg h]
      have e : ordF acc (x :: r) = ordF (acc ++ [x]) r := if_neg h
      rw [e]
      exact ordF_snoc m r (acc ++ [x])
theorem ordM_snoc (ms : List Int) (m : Int) : ordM (ms ++ [m]) = if m ∈ ordM ms then ordM ms else ordM ms ++ [m] := ordF_snoc m ms []
theorem ordF_mem (n : Int) : ∀ (ms acc : List Int), n ∈ ordF acc ms ↔ n ∈ acc ∨ n ∈ ms
  | [], acc => by simp [ordF]
  | x :: r, acc => by
    unfold ordF
    by_cases h : x ∈ acc
    · rw [if_pos h, ordF_mem n r acc]
      constructor
      · rintro (a | a)
        · exact .inl a
        · exact .inr (List.mem_cons_of_mem _ a)
      · rintro (a | a)
        · exact .inl a
        · rcases List.mem_cons.mp a with rfl | a
          · exact .inl h
          · exact .inr a
    · rw [if_neg h, ordF_mem n r (acc ++ [x])]
      simp only [List.mem_append, List.mem_cons, List.not_mem_nil, or_false]
      exact or_assoc
theorem ordM_mem {ms : List Int} {n : Int} : n ∈ ordM ms ↔ n ∈ ms := by
  unfold ordM
  rw [ordF_mem]
  simp
theorem ordF_nodup : ∀ (ms acc : List Int), acc.Nodup → (ordF acc ms).Nodup
  | [], acc, h => h
  | x :: r, acc, h => by
    unfold ordF
    by_cases hx : x ∈ acc
    · rw [if_pos hx]
      exact ordF_nodup r acc h
    · rw [if_neg hx]
      refine ordF_nodup r _ (List.nodup_append.mpr ⟨h, by simp, fun a ha b hb => ?_⟩)
      rw [List.mem_singleton.mp hb]
      exact fun z => hx (z ▸ ha)
theorem ordM_nodup (ms : List Int) : (ordM ms).Nodup := ordF_nodup ms [] List.nodup_nil
theorem fst_snoc {ms : List Int} {n m : Int} (h : n ∈ ms) : fstI (ms ++ [m]) n = fstI ms n := by
  unfold fstI
  rw [List.idxOf_append, if_pos h]
theorem fst_new {ms : List Int} {m : Int} (h : m ∉ ms) : fstI (ms ++ [m]) m = ms.length := by
  unfold fstI
  rw [List.idxOf_append, if_neg h]
  simp
theorem lst_last (ms : List Int) (m : Int) : lstI (ms ++ [m]) m = ms.length := by
  unfold lstI
  rw [List.reverse_append]
  simp
theorem lst_snoc {ms : List Int} {n m : Int} (h : n ≠ m) : lstI (ms ++ [m]) n = lstI ms n := by
  unfold lstI
  rw [List.reverse_append]
  show (ms ++ [m]).length - 1 - (m :: ms.reverse).idxOf n = _
  rw [List.idxOf_cons, List.length_append, List.length_singleton]
  have : (m == n) = false := by simpa using fun e => h e.symm
  rw [this, cond_false]
  omega
def SpAt (H : Hp) (ms : List Int) (kvs : List (Key × V)) : Prop :=
  kvs.length = (ordM ms).length ∧ ∀ (j : Nat) (n : Int), (ordM ms)[j]? = some n → ∃ q, kvs[j]? = some (Sum.inl n, .ref q) ∧ H q = some (.tup [.int (fstI ms n : Int), .int (lstI ms n : Int)])
theorem SpAt.le {H H' : Hp} {ms : List Int} {kvs : List (Key × V)} (h : SpAt H ms kvs) (s : TupLe H H') : SpAt H' ms kvs :=
  ⟨h.1, fun j n e => let ⟨q, a, b⟩ := h.2 j n e; ⟨q, a, s _ _ b⟩⟩
theorem valV_at : ∀ {kvs : List (Key × V)} {ks : List Int} {j : Nat} {n : Int} {v : V}, ks.Nodup → kvs.length = ks.length → (∀ (i : Nat) (m : Int), ks[i]? = some m → ∃ w, kvs[i]? = some (Sum.inl m, w)) → ks[j]? = some n → kvs[j]? = some (Sum.inl n, v) → valV kvs (Sum.inl n) = some v
  | [], [], j, n, v, _, _, _, h, _ => by cases h
  | kv :: kvs, k :: ks, 0, n, v, _, _, _, h, h2 => by
    cases h2
    exact valV_pos rfl
  | kv :: kvs, k :: ks, j + 1, n, v, nd, hl, hk, h, h2 => by
    obtain ⟨w, e⟩ := hk 0 k rfl
    cases e
    have hn : k ≠ n := fun z => by
      have := List.nodup_cons.mp nd
      rw [z] at this
      exact this.1 (List.mem_of_getElem? (show ks[j]? = some n from h))
    have ih := valV_at (j := j) (List.nodup_cons.mp nd).2 (by simpa using hl) (fun i m e => hk (i + 1) m e) h h2
    unfold valV at ih ⊢
    rw [List.find?_cons, decide_eq_false (fun z => hn (Sum.inl.inj z))]
    exact ih
theorem valV_no : ∀ {kvs : List (Key × V)} {ks : List Int} {n : Int}, kvs.length = ks.length → (∀ (i : Nat) (m : Int), ks[i]? = some m → ∃ w, kvs[i]? = some (Sum.inl m, w)) → n ∉ ks → valV kvs (Sum.inl n) = none
  | [], [], n, _, _, _ => rfl
  | kv :: kvs, k :: ks, n, hl, hk, h => by
    obtain ⟨w, e⟩ := hk 0 k rfl
    cases e
    have hn : k ≠ n := fun z => h (z ▸ List.mem_cons_self ..)
    have ih := valV_no (by simpa using hl) (fun i m e => hk (i + 1) m e) (fun m => h (List.mem_cons_of_mem _ m))
    unfold valV at ih ⊢
    rw [List.find?_cons, decide_eq_false (fun z => hn (Sum.inl.inj z))]
    exact ih
theorem SpAt.get {H : Hp} {ms : List Int} {kvs : List (Key × V)} {n : Int} (h : SpAt H ms kvs) (hn : n ∈ ms) : ∃ q, valV kvs (Sum.inl n) = some (.ref q) ∧ H q = some (.tup [.int (fstI ms n : Int), .int (lstI ms n : Int)]) := by
  obtain ⟨j, hj⟩ := List.getElem?_of_mem (ordM_mem.mpr hn)
  obtain ⟨q, a, b⟩ := h.2 j n hj
  exact ⟨q, valV_at (ordM_nodup ms) h.1 (fun i m e => let ⟨q, a, _⟩ := h.2 i m e; ⟨_, a⟩) hj a, b⟩
theorem SpAt.no {H : Hp} {ms : List Int} {kvs : List (Key × V)} {n : Int} (h : SpAt H ms kvs) (hn : n ∉ ms) : valV kvs (Sum.inl n) = none :=
  valV_no h.1 (fun i m e => let ⟨q, a, _⟩ := h.2 i m e; ⟨_, a⟩) fun z => hn (ordM_mem.mp z)
theorem SpAt.old {H : Hp} {ms : List Int} {kvs : List (Key × V)} {m : Int} {q : Addr} (h : SpAt H ms kvs) (hm : m ∈ ms) (hq : H q = some (.tup [.int (fstI ms m : Int), .int (ms.length : Int)])) : SpAt H (ms ++ [m]) (putK kvs (Sum.inl m) (.ref q)) := by
  have ho : ordM (ms ++ [m]) = ordM ms := by rw [ordM_snoc, if_pos (ordM_mem.mpr hm)]
  have hany : (kvs.any fun kv => decide (kv.1 = Sum.inl m)) = true := by
    obtain ⟨j, hj⟩ := List.getElem?_of_mem (ordM_mem.mpr hm)
    obtain ⟨q, a, b⟩ := h.2 j m hj
    exact List.any_eq_true.mpr ⟨_, List.mem_of_getElem? a, decide_eq_true rfl⟩
  have e : putK kvs (Sum.inl m) (.ref q) = kvs.map (fun kv => if kv.1 = Sum.inl m then (kv.1, V.ref q) else kv) := by
    unfold putK
    rw [if_pos hany]
  rw [e]
  refine ⟨by rw [List.length_map, ho]; exact h.1, fun j n hj => ?_⟩
  rw [ho] at hj
  obtain ⟨q2, a, b⟩ := h.2 j n hj
  rw [List.getElem?_map, a]
  by_cases hn : n = m
  · subst hn
    exact ⟨q, by simp, by rw [fst_snoc hm, lst_last]; exact hq⟩
  · refine ⟨q2, ?_, ?_⟩
    · have : ¬ (Sum.inl n : Key) = Sum.inl m := fun z => hn (Sum.inl.inj z)
      simp [hn]
    · rw [fst_snoc (ordM_mem.mp (List.mem_of_getElem? hj)), lst_snoc hn]
      exact b
theorem SpAt.fresh {H : Hp} {ms : List Int} {kvs : List (Key × V)} {m : Int} {q : Addr} (h : SpAt H ms kvs) (hm : m ∉ ms) (hq : H q = some (.tup [.int (ms.length : Int), .int (ms.length : Int)])) : SpAt H (ms ++ [m]) (putK kvs (Sum.inl m) (.ref q)) := by
  have ho : ordM (ms ++ [m]) = ordM ms ++ [m] := by rw [ordM_snoc, if_neg (fun z => hm (ordM_mem.mp z))]
  have hany : ¬ (kvs.any fun kv => decide (kv.1 = Sum.inl m)) = true := fun z => by
    obtain ⟨kv, hk, e⟩ := List.any_eq_true.mp z
    obtain ⟨j, hj⟩ := List.getElem?_of_mem hk
    have lt : j < (ordM ms).length := by
      have := (List.getElem?_eq_some_iff.mp hj).1
      rw [h.1] at this
      exact this
    obtain ⟨q2, a, _⟩ := h.2 j _ (List.getElem?_eq_getElem lt)
    rw [hj] at a
    cases a
    have e := Sum.inl.inj (of_decide_eq_true e)
    exact hm (ordM_mem.mp (by rw [← e]; exact List.getElem_mem lt))
  have e : putK kvs (Sum.inl m) (.ref q) = kvs ++ [(Sum.inl m, .ref q)] := by
    unfold putK
    rw [if_neg hany]
  rw [e]
  refine ⟨by rw [List.length_append, ho, List.length_append, h.1]; rfl, fun j n hj => ?_⟩
  rw [ho] at hj
  by_cases hjl : j < (ordM ms).length
  · rw [List.getElem?_append_left hjl] at hj
    obtain ⟨q2, a, b⟩ := h.2 j n hj
    have hn := ordM_mem.mp (List.mem_of_getElem? hj)
    refine ⟨q2, by rw [List.getElem?_append_left (by rw [h.1]; exact hjl)]; exact a, ?_⟩
    rw [fst_snoc hn, lst_snoc (fun z => hm (by rw [← z]; exact hn))]
    exact b
  · rw [List.getElem?_append_right (by omega)] at hj
    have hj0 : j - (ordM ms).length = 0 := by
      have := (List.getElem?_eq_some_iff.mp hj).1
      rw [List.length_singleton] at this
      omega
    rw [hj0] at hj
    cases hj
    refine ⟨q, by rw [List.getElem?_append_right (by rw [h.1]; omega), h.1, hj0]; rfl, ?_⟩
    rw [fst_new hm, lst_last]
    exact hq
theorem TupLe.dk {H : Hp} {d : Addr} {kvs : List (Key × V)} {u : HO} (h : H d = some (.dK kvs)) : TupLe H (upd H d u) := fun c xs e => by
  by_cases z : c = d
  · rw [z, h] at e
    cases e
  · rw [upd_ne z]
    exact e
section
variable {P : Program} {w : World} {K : PySem.W.Frag} {mg : Str → Option Value} {base : Heap} {f C : Addr} {fd : FuncData}
end

/-! ### the law's spans -/
def aboveB (ms : List Int) (x y : Int) : Bool := decide (fstI ms x < fstI ms y) && decide (lstI ms y < lstI ms x)
def aheadB (ms : List Int) (x y : Int) : Bool := decide (lstI ms x < fstI ms y)
section
variable {P : Program} {w : World} {K : PySem.W.Frag} {mg : Str → Option Value} {base : Heap} {f : Addr} {fd : FuncData}
end
/-! the numbers of a document's row -/
/-! ### Row: part, cut, place, put_in, doubled -/
def partF (ms : List Int) (n : Int) : List Int := (ms.drop (fstI ms n)).take (lstI ms n + 1 - fstI ms n)
def cutF (ms : List Int) (n : Int) : List Int := ms.take (fstI ms n) ++ ms.drop (lstI ms n + 1)
def putInF (ms : List Int) (at_ : Nat) (part : List Int) : List Int := ms.take at_ ++ part ++ ms.drop at_
inductive Pw where
  | ahead | behind | head | tail
def Pw.z : Pw → Str
  | .ahead => "ahead"
  | .behind => "behind"
  | .head => "head"
  | .tail => "tail"
def placeF (w : Pw) (ms : List Int) : Option Int → Nat
  | none => match w with
    | .tail => ms.length
    | _ => 0
  | some n => match w with
    | .ahead => fstI ms n
    | .behind => lstI ms n + 1
    | .head => fstI ms n + 1
    | .tail => lstI ms n
section
variable {P : Program} {w : World} {K : PySem.W.Frag} {mg : Str → Option Value} {base : Heap} {f C : Addr} {fd : FuncData}
end

/-! ### a script's run: the state -/
abbrev Wd := List Nat
def valH (h : List (Wd × Option Int)) (c : Wd) : Option (Option Int) := (h.find? fun p => decide (p.1 = c)).map (·.2)
def putH (h : List (Wd × Option Int)) (c : Wd) (v : Option Int) : List (Wd × Option Int) := if (h.any fun p => decide (p.1 = c)) = true then h.map (fun p => if p.1 = c then (p.1, v) else p) else h ++ [(c, v)]
structure RS where
  ms : List Int
  ks : List Wd
  ts : List Wd
  os : List (Option Int)
  held : List (Wd × Option Int)
  steps : List (Int × Option Int)
def nodeF (ms : List Int) (h : List (Wd × Option Int)) (c : Wd) : Option Int := match valH h c with
  | some (some n) => if n ∈ ms then some n else none
  | _ => none
def RS.node (S : RS) (c : Wd) : Option Int := nodeF S.ms S.held c
def RS.hset (S : RS) (c : Wd) (v : Option Int) : RS := { S with held := putH S.held c v }
def RS.add (S : RS) (k t : Wd) (o : Option Int) : RS := { S with ks := S.ks ++ [k], ts := S.ts ++ [t], os := S.os ++ [o] }
def RS.marks (S : RS) (ms : List Int) : RS := { S with ms := ms }
def freshF (K : Nat) (part : List Int) (n : Int) : Int := ((K + (ordM part).idxOf n : Nat) : Int)
def dblF {α : Type} (d : α) (xs : List α) (part : List Int) : List α := xs ++ (ordM part).map fun n => xs.getD n.toNat d
def RS.dbl (S : RS) (part : List Int) : RS := { S with ks := dblF [] S.ks part, ts := dblF [] S.ts part, os := dblF none S.os part }
def RS.put (S : RS) (c k t : Wd) (w : Pw) (b : Wd) : RS :=
  if b = [] ∨ S.node b ≠ none then (((S.hset c none).add k t none).marks (putInF S.ms (placeF w S.ms (S.node b)) [(S.ks.length : Int), (S.ks.length : Int)])).hset c (some (S.ks.length : Int)) else S.hset c none
def RS.copy (S : RS) (c o : Wd) (w : Pw) (b : Wd) : RS := match S.node o with
  | none => S.hset c none
  | some n => if b = [] ∨ S.node b ≠ none then
      (((S.hset c none).dbl (partF S.ms n)).marks (putInF S.ms (placeF w S.ms (S.node b)) ((partF S.ms n).map (freshF S.ks.length (partF S.ms n))))).hset c (some (freshF S.ks.length (partF S.ms n) n))
    else S.hset c none
def RS.move (S : RS) (o : Wd) (w : Pw) (b : Wd) : RS := match S.node o with
  | none => S
  | some n => if (decide (b ≠ []) && (match S.node b with | none => true | some g => decide (g ∈ partF S.ms n))) = true then S else S.marks (putInF (cutF S.ms n) (placeF w (cutF S.ms n) (S.node b)) (partF S.ms n))
def RS.wrap (S : RS) (c o k t : Wd) : RS := match S.node o with
  | none => S.hset c none
  | some n => (((S.hset c none).add k t none).marks (putInF (cutF S.ms n) (fstI S.ms n) ((S.ks.length : Int) :: (partF S.ms n ++ [(S.ks.length : Int)])))).hset c (some (S.ks.length : Int))
def RS.lift (S : RS) (o : Wd) : RS := match S.node o with
  | none => S
  | some n => S.marks (rubM S.ms [n])
def RS.strike (S : RS) (o : Wd) : RS := match S.node o with
  | none => S
  | some n => S.marks (cutF S.ms n)
def RS.kind (S : RS) (o k : Wd) : RS := match S.node o with
  | none => S
  | some n => { S with ks := S.ks.set n.toNat k }
def RS.text (S : RS) (o t : Wd) : RS := match S.node o with
  | none => S
  | some n => { S with ts := S.ts.set n.toNat t }
inductive Lk where
  | first | last | up | over | next | back
def Lk.z : Lk → Str
  | .first => "first"
  | .last => "last"
  | .up => "up"
  | .over => "over"
  | .next => "next"
  | .back => "back"
def liesF (l : Lk) (ms : List Int) (n : Int) (bases : List Int) : Bool := match l with
  | .first => bases.all fun b => aboveB ms b n
  | .last => bases.all fun b => aboveB ms b n
  | .up => bases.all fun b => aboveB ms n b
  | .over => bases.all fun b => aboveB ms n b
  | .next => match bases with | b :: _ => aheadB ms b n | [] => false
  | .back => match bases with | b :: _ => aheadB ms n b | [] => false
def candF (S : RS) (l : Lk) (k : Wd) (bases : List Int) : List Int := (ordM S.ms).filter fun n => decide (S.ks.getD n.toNat [] = k) && liesF l S.ms n bases
def maxBy (f : Int → Nat) : List Int → Option Int
  | [] => none
  | x :: r => match maxBy f r with
    | none => some x
    | some y => if f y ≤ f x then some x else some y
def soughtF (S : RS) (l : Lk) (k : Wd) (bases : List Int) : Option Int := match l with
  | .back => maxBy (lstI S.ms) (candF S l k bases)
  | .first => (candF S l k bases).head?
  | .next => (candF S l k bases).head?
  | _ => (candF S l k bases).getLast?
def RS.bases (S : RS) (bs : List Wd) : List (Option Int) := (bs.filter fun b => decide (b ≠ [])).map S.node
def RS.found (S : RS) (l : Lk) (k : Wd) (bs : List Wd) : Option Int := if none ∈ S.bases bs then none else soughtF S l k ((S.bases bs).filterMap id)
def orgF (os : List (Option Int)) : Option Int → Option Int
  | none => none
  | some n => match os.getD n.toNat none with
    | none => some (-1)
    | some i => some i
def RS.look (S : RS) (at_ : Int) (l : Lk) (c k : Wd) (bs : List Wd) : RS := { (S.hset c (S.found l k bs)) with steps := S.steps ++ [(at_, orgF S.os (S.found l k bs))] }
inductive Ts where
  | there (c : Wd)
  | is (c d : Wd)
  | above (c d : Wd)
  | ahead (c d : Wd)
  | kind (c k : Wd)
def RS.test (S : RS) : Ts → Bool
  | .there c => (S.node c).isSome
  | .kind c k => match S.node c with
    | none => false
    | some n => decide (S.ks.getD n.toNat [] = k)
  | .is c d => match S.node c, S.node d with
    | some n, some m => decide (n = m)
    | _, _ => false
  | .above c d => match S.node c, S.node d with
    | some n, some m => aboveB S.ms n m
    | _, _ => false
  | .ahead c d => match S.node c, S.node d with
    | some n, some m => aheadB S.ms n m
    | _, _ => false
inductive Op where
  | look (l : Lk) (c k : Wd) (bs : List Wd)
  | put (c k t : Wd) (w : Pw) (b : Wd)
  | copy (c o : Wd) (w : Pw) (b : Wd)
  | move (o : Wd) (w : Pw) (b : Wd)
  | wrap (c o k t : Wd)
  | lift (o : Wd)
  | strike (o : Wd)
  | kind (o k : Wd)
  | text (o t : Wd)
  | fresh
def RS.op (S : RS) (at_ : Int) : Op → RS
  | .look l c k bs => S.look at_ l c k bs
  | .put c k t w b => S.put c k t w b
  | .copy c o w b => S.copy c o w b
  | .move o w b => S.move o w b
  | .wrap c o k t => S.wrap c o k t
  | .lift o => S.lift o
  | .strike o => S.strike o
  | .kind o k => S.kind o k
  | .text o t => S.text o t
  | .fresh => { S with held := [] }
inductive Sc where
  | nil
  | op (o : Op) (r : Sc)
  | ifs (t : Ts) (a b r : Sc)
def Sc.cnt : Sc → Nat
  | .nil => 0
  | .op _ r => 1 + r.cnt
  | .ifs _ a b r => 1 + a.cnt + b.cnt + r.cnt
/-! the lines on the heap -/
abbrev sS (c : Wd) : V := .str (SX.S c)
def Op.vs : Op → List V
  | .look l c k bs => .str l.z :: sS c :: sS k :: bs.map sS
  | .put c k t w b => [.str "put", sS c, sS k, sS t, .str w.z, sS b]
  | .copy c o w b => [.str "copy", sS c, sS o, .str w.z, sS b]
  | .move o w b => [.str "move", sS o, .str w.z, sS b]
  | .wrap c o k t => [.str "wrap", sS c, sS o, sS k, sS t]
  | .lift o => [.str "lift", sS o]
  | .strike o => [.str "strike", sS o]
  | .kind o k => [.str "kind", sS o, sS k]
  | .text o t => [.str "text", sS o, sS t]
  | .fresh => [.str "fresh"]
def Ts.vs : Ts → List V
  | .there c => [.str "there", sS c]
  | .is c d => [.str "is", sS c, sS d]
  | .above c d => [.str "above", sS c, sS d]
  | .ahead c d => [.str "ahead", sS c, sS d]
  | .kind c k => [.str "kind", sS c, sS k]
def ScAt (H : Hp) : Sc → List V → Prop
  | .nil, xs => xs = []
  | .op o r, xs => ∃ p xs', xs = .ref p :: xs' ∧ H p = some (.tup o.vs) ∧ ScAt H r xs'
  | .ifs t a b r, xs => ∃ p pt pa pb ya yb xs', xs = .ref p :: xs' ∧ H p = some (.tup [.str "if", .ref pt, .ref pa, .ref pb]) ∧ H pt = some (.tup t.vs) ∧ H pa = some (.tup ya) ∧ ScAt H a ya ∧ H pb = some (.tup yb) ∧ ScAt H b yb ∧ ScAt H r xs'
theorem ScAt.le {H H' : Hp} (s : TupLe H H') : ∀ {c : Sc} {xs : List V}, ScAt H c xs → ScAt H' c xs
  | .nil, _, h => h
  | .op _ _, _, ⟨p, xs', e, h, r⟩ => ⟨p, xs', e, s _ _ h, r.le s⟩
  | .ifs _ _ _ _, _, ⟨p, pt, pa, pb, ya, yb, xs', e, h1, h2, h3, h4, h5, h6, h7⟩ => ⟨p, pt, pa, pb, ya, yb, xs', e, s _ _ h1, s _ _ h2, s _ _ h3, h4.le s, s _ _ h5, h6.le s, h7.le s⟩
/-! as plain data -/
abbrev sD (c : Wd) : PyData := .str (SX.S c)
def Op.ds : Op → List PyData
  | .look l c k bs => .str l.z :: sD c :: sD k :: bs.map sD
  | .put c k t w b => [.str "put", sD c, sD k, sD t, .str w.z, sD b]
  | .copy c o w b => [.str "copy", sD c, sD o, .str w.z, sD b]
  | .move o w b => [.str "move", sD o, .str w.z, sD b]
  | .wrap c o k t => [.str "wrap", sD c, sD o, sD k, sD t]
  | .lift o => [.str "lift", sD o]
  | .strike o => [.str "strike", sD o]
  | .kind o k => [.str "kind", sD o, sD k]
  | .text o t => [.str "text", sD o, sD t]
  | .fresh => [.str "fresh"]
def Ts.ds : Ts → List PyData
  | .there c => [.str "there", sD c]
  | .is c d => [.str "is", sD c, sD d]
  | .above c d => [.str "above", sD c, sD d]
  | .ahead c d => [.str "ahead", sD c, sD d]
  | .kind c k => [.str "kind", sD c, sD k]
def scD : Sc → List PyData
  | .nil => []
  | .op o r => .tuple o.ds :: scD r
  | .ifs t a b r => .tuple [.str "if", .tuple t.ds, .tuple (scD a), .tuple (scD b)] :: scD r
theorem DqA.sD {b : Addr} {H : Hp} : ∀ bs : List Wd, DqA b H (bs.map sD) (bs.map sS)
  | [] => .nil
  | x :: r => .cons (Dq.str_mk _) (DqA.sD r)
theorem Op.dq {b : Addr} {H : Hp} (o : Op) : DqA b H o.ds o.vs := by
  cases o
  case look l c k bs => exact .cons (Dq.str_mk _) (.cons (Dq.str_mk _) (.cons (Dq.str_mk _) (DqA.sD bs)))
  all_goals repeat (first | exact .nil | refine .cons (Dq.str_mk _) ?_)
theorem Ts.dq {b : Addr} {H : Hp} (t : Ts) : DqA b H t.ds t.vs := by
  cases t <;> repeat (first | exact .nil | refine .cons (Dq.str_mk _) ?_)
theorem ScAt.dq {b : Addr} {H : Hp} : ∀ {c : Sc} {xs : List V}, ScAt H c xs → DqA b H (scD c) xs
  | .nil, _, h => by
    rw [show _ = _ from h]
    exact .nil
  | .op o r, _, ⟨p, xs', e, h, hr⟩ => by
    subst e
    exact .cons (Dq.tup_mk h o.dq) hr.dq
  | .ifs t a b r, _, ⟨p, pt, pa, pb, ya, yb, xs', e, h1, h2, h3, h4, h5, h6, h7⟩ => by
    subst e
    exact .cons (Dq.tup_mk h1 (.cons (Dq.str_mk _) (.cons (Dq.tup_mk h2 t.dq) (.cons (Dq.tup_mk h3 h4.dq) (.cons (Dq.tup_mk h5 h6.dq) .nil))))) h7.dq

/-! ### what the lines of drawn scripts hold (as in runst and run3) -/
def GdK (k : Wd) : Prop := (∀ c ∈ k, c ∈ letters) ∧ 1 ≤ k.length ∧ k.length ≤ 6
def GdT (t : Wd) : Prop := t.length ≤ 20 ∧ ∀ c ∈ t, signB c = true
def GdC (c : Wd) : Prop := (∀ x ∈ c, x ∈ letters) ∧ 1 ≤ c.length ∧ c.length ≤ 3 ∧ inV (sS c) barT = false
def GdB (b : Wd) : Prop := b = [] ∨ GdC b
theorem GdC.ne {c : Wd} (h : GdC c) : c ≠ [] := fun z => by
  have := h.2.1
  rw [z] at this
  cases this
theorem GoodK.gd {k : Wd} (h : GoodK k) : GdK k := ⟨h.1, h.2.1, h.2.2.1⟩
def OpG : Op → Prop
  | .look l c k bs => GdC c ∧ GoodK k ∧ (match l with
    | .first => ∃ b, bs = [b] ∧ GdB b
    | .last => ∃ b, bs = [b] ∧ GdB b
    | .over => ∃ a b, bs = [a, b] ∧ GdC a ∧ GdC b
    | _ => ∃ b, bs = [b] ∧ GdC b)
  | .put c k t w b => GdC c ∧ GoodK k ∧ GdT t ∧ GdB b ∧ (b = [] → w = .head ∨ w = .tail)
  | .copy c o w b => GdC c ∧ GdC o ∧ GdB b ∧ (b = [] → w = .head ∨ w = .tail)
  | .move o w b => GdC o ∧ GdB b ∧ (b = [] → w = .head ∨ w = .tail)
  | .wrap c o k t => GdC c ∧ GdC o ∧ GoodK k ∧ GdT t
  | .lift o => GdC o
  | .strike o => GdC o
  | .kind o k => GdC o ∧ GoodK k
  | .text o t => GdC o ∧ GdT t
  | .fresh => True
def OpN : Op → Prop := fun _ => True

/-! ### good lines are lines -/
theorem lenS (l : List Nat) : (SX.S l).length = l.length := SX.S_len l
theorem cps_S (l : List Nat) : (SX.S l).cps.toList = l := by simp [SX.S]
theorem wordB_ok {c : Wd} {n : Nat} (h1 : ∀ x ∈ c, x ∈ letters) (h2 : 1 ≤ c.length) (h3 : c.length ≤ n) : wordB (.str (SX.S c)) n = true := by
  show (decide (1 ≤ ((SX.S c).length : Int)) && (decide (((SX.S c).length : Int) ≤ (n : Int)) && ((SX.S c).cps.toList.map fun c => decide (c ∈ letters)).all id)) = true
  rw [lenS, cps_S, Bool.and_eq_true, Bool.and_eq_true]
  refine ⟨decide_eq_true (by omega), decide_eq_true (by omega), ?_⟩
  rw [List.all_map, List.all_eq_true]
  exact fun x hx => decide_eq_true (h1 x hx)
theorem cursorB_ok {c : Wd} (h : GdC c) : cursorB (sD c) = true := by
  unfold cursorB
  rw [Bool.and_eq_true]
  exact ⟨wordB_ok (n := 3) h.1 h.2.1 h.2.2.1, by rw [show inV (vOf (sD c)) barT = inV (sS c) barT from rfl, h.2.2.2]; rfl⟩
theorem kindB_ok {k : Wd} (h : GoodK k) : kindB (sD k) = true := by
  unfold kindB
  rw [Bool.and_eq_true]
  refine ⟨wordB_ok (n := 6) h.1 h.2.1 h.2.2.1, ?_⟩
  have : ¬ vOf (sD k) = V.str (Str.ofString "rest") := fun z => by
    have z : SX.S k = Str.ofString "rest" := V.str.inj z
    refine h.2.2.2 (SX.S_inj (z.trans ?_))
    decide +kernel
  rw [decide_eq_false this]
  rfl
theorem textB_ok {t : Wd} (h : GdT t) : textB (sS t) = true := by
  show (decide (((SX.S t).length : Int) ≤ 20) && ((SX.S t).cps.toList.map signB).all id) = true
  rw [lenS, cps_S, Bool.and_eq_true]
  refine ⟨decide_eq_true (by have := h.1; omega), ?_⟩
  rw [List.all_map, List.all_eq_true]
  exact h.2
theorem fit_c {f : PyData → Bool} {c : Wd} (h : GdC c) : fitB f 99 (sD c) = true := by
  unfold fitB
  rw [if_pos rfl]
  exact cursorB_ok h
theorem fit_k {f : PyData → Bool} {c : Wd} (h : GoodK c) : fitB f 107 (sD c) = true := by
  unfold fitB
  rw [if_neg (by decide), if_pos rfl]
  exact kindB_ok h
theorem fit_t {f : PyData → Bool} {c : Wd} (h : GdT c) : fitB f 116 (sD c) = true := by
  unfold fitB
  rw [if_neg (by decide), if_neg (by decide), if_pos rfl]
  exact textB_ok h
theorem fit_w {f : PyData → Bool} (w : Pw) : fitB f 119 (.str w.z) = true := by
  unfold fitB
  rw [if_neg (by decide), if_neg (by decide), if_neg (by decide), if_pos rfl]
  cases w <;> decide +kernel
theorem fit_b {f : PyData → Bool} {c : Wd} (h : GdB c) : fitB f 98 (sD c) = true := by
  unfold fitB
  rw [if_neg (by decide), if_neg (by decide), if_neg (by decide), if_neg (by decide), if_pos rfl]
  rcases h with rfl | h
  · decide +kernel
  · rw [cursorB_ok h, Bool.or_true]
    rfl
theorem fit_s {f : PyData → Bool} {d : PyData} (h : f d = true) : fitB f 115 d = true := by
  unfold fitB
  rw [if_neg (by decide), if_neg (by decide), if_neg (by decide), if_neg (by decide), if_neg (by decide), if_pos rfl]
  exact h
theorem fit_l {f : PyData → Bool} {ds : List PyData} : fitB f 108 (.tuple ds) = true := by
  unfold fitB
  rw [if_neg (by decide), if_neg (by decide), if_neg (by decide), if_neg (by decide), if_neg (by decide), if_neg (by decide)]
  rfl
def TsG : Ts → Prop
  | .there c => GdC c
  | .is c d => GdC c ∧ GdC d
  | .above c d => GdC c ∧ GdC d
  | .ahead c d => GdC c ∧ GdC d
  | .kind c k => GdC c ∧ GoodK k
theorem fit0 {f : PyData → Bool} {x : PyData} : allFitB f [] [x] = true := rfl
theorem fit1 {f : PyData → Bool} {c : Nat} {x d : PyData} (h : fitB f c d = true) : allFitB f [c] [x, d] = true := by
  unfold allFitB
  simp [h]
theorem fit2 {f : PyData → Bool} {c c2 : Nat} {x d d2 : PyData} (h : fitB f c d = true) (h2 : fitB f c2 d2 = true) : allFitB f [c, c2] [x, d, d2] = true := by
  unfold allFitB
  simp [h, h2]
theorem fit3 {f : PyData → Bool} {c c2 c3 : Nat} {x d d2 d3 : PyData} (h : fitB f c d = true) (h2 : fitB f c2 d2 = true) (h3 : fitB f c3 d3 = true) : allFitB f [c, c2, c3] [x, d, d2, d3] = true := by
  unfold allFitB
  simp [h, h2, h3]
theorem fit4 {f : PyData → Bool} {c c2 c3 c4 : Nat} {x d d2 d3 d4 : PyData} (h : fitB f c d = true) (h2 : fitB f c2 d2 = true) (h3 : fitB f c3 d3 = true) (h4 : fitB f c4 d4 = true) : allFitB f [c, c2, c3, c4] [x, d, d2, d3, d4] = true := by
  unfold allFitB
  simp [h, h2, h3, h4]
theorem fit5 {f : PyData → Bool} {c c2 c3 c4 c5 : Nat} {x d d2 d3 d4 d5 : PyData} (h : fitB f c d = true) (h2 : fitB f c2 d2 = true) (h3 : fitB f c3 d3 = true) (h4 : fitB f c4 d4 = true) (h5 : fitB f c5 d5 = true) : allFitB f [c, c2, c3, c4, c5] [x, d, d2, d3, d4, d5] = true := by
  unfold allFitB
  simp [h, h2, h3, h4, h5]
theorem test_of {z : Str} {ls : List Nat} {r : List PyData} (e : testK.lookup z = some ls) (h : allFitB (fun _ => false) ls (.str z :: r) = true) : testB (.tuple (.str z :: r)) = true := by
  show (match testK.lookup z with | some ls => allFitB (fun _ => false) ls (.str z :: r) | none => false) = true
  rw [e]
  exact h
theorem Ts.ok {t : Ts} (h : TsG t) : testB (.tuple t.ds) = true := by
  cases t with
  | there c => exact test_of (ls := [99]) (by decide +kernel) (fit1 (fit_c h))
  | is c d => exact test_of (ls := [99, 99]) (by decide +kernel) (fit2 (fit_c h.1) (fit_c h.2))
  | above c d => exact test_of (ls := [99, 99]) (by decide +kernel) (fit2 (fit_c h.1) (fit_c h.2))
  | ahead c d => exact test_of (ls := [99, 99]) (by decide +kernel) (fit2 (fit_c h.1) (fit_c h.2))
  | kind c k => exact test_of (ls := [99, 107]) (by decide +kernel) (fit2 (fit_c h.1) (fit_k h.2))
theorem line_of {z : Str} {ls : List Nat} {r : List PyData} (e : formK.lookup z = some ls) (h : allFitB testB ls (.str z :: r) = true) (h2 : 119 ∈ ls → tailB (.str z :: r) = true) : lineB (.tuple (.str z :: r)) = true := by
  show (match formK.lookup z with | some ls => allFitB testB ls (.str z :: r) && (!decide (119 ∈ ls) || tailB (.str z :: r)) | none => false) = true
  rw [e]
  show (allFitB testB ls (.str z :: r) && (!decide (119 ∈ ls) || tailB (.str z :: r))) = true
  rw [h, Bool.true_and]
  by_cases hm : 119 ∈ ls
  · rw [h2 hm, Bool.or_true]
  · rw [decide_eq_false hm]
    rfl
theorem tail_pb {xs : List PyData} {w : Pw} {b : Wd} (h : b = [] → w = .head ∨ w = .tail) : tailB (xs ++ [.str w.z, sD b]) = true := by
  unfold tailB
  rw [List.reverse_append]
  show (!decide (vOf (sD b) = .str "") || inV (vOf (.str w.z)) endsT) = true
  by_cases hb : b = []
  · rcases h hb with rfl | rfl
    · rw [show inV (vOf (.str Pw.head.z)) endsT = true by decide +kernel, Bool.or_true]
    · rw [show inV (vOf (.str Pw.tail.z)) endsT = true by decide +kernel, Bool.or_true]
  · have : ¬ vOf (sD b) = V.str (Str.ofString "") := fun z => hb (SX.S_inj ((V.str.inj z).trans empty_S))
    rw [decide_eq_false this]
    rfl
theorem Op.ok {o : Op} (h : OpG o) : lineB (.tuple o.ds) = true := by
  cases o with
  | look l c k bs =>
    obtain ⟨h1, h2, h3⟩ := h
    cases l
    case first =>
      obtain ⟨b, rfl, hb⟩ := h3
      exact line_of (ls := [99, 107, 98]) (by decide +kernel) (fit3 (fit_c h1) (fit_k h2) (fit_b hb)) (fun z => absurd z (by decide))
    case last =>
      obtain ⟨b, rfl, hb⟩ := h3
      exact line_of (ls := [99, 107, 98]) (by decide +kernel) (fit3 (fit_c h1) (fit_k h2) (fit_b hb)) (fun z => absurd z (by decide))
    case over =>
      obtain ⟨a, b, rfl, ha, hb⟩ := h3
      exact line_of (ls := [99, 107, 99, 99]) (by decide +kernel) (fit4 (fit_c h1) (fit_k h2) (fit_c ha) (fit_c hb)) (fun z => absurd z (by decide))
    case up =>
      obtain ⟨b, rfl, hb⟩ := h3
      exact line_of (ls := [99, 107, 99]) (by decide +kernel) (fit3 (fit_c h1) (fit_k h2) (fit_c hb)) (fun z => absurd z (by decide))
    case next =>
      obtain ⟨b, rfl, hb⟩ := h3
      exact line_of (ls := [99, 107, 99]) (by decide +kernel) (fit3 (fit_c h1) (fit_k h2) (fit_c hb)) (fun z => absurd z (by decide))
    case back =>
      obtain ⟨b, rfl, hb⟩ := h3
      exact line_of (ls := [99, 107, 99]) (by decide +kernel) (fit3 (fit_c h1) (fit_k h2) (fit_c hb)) (fun z => absurd z (by decide))
  | put c k t w b =>
    obtain ⟨h1, h2, h3, h4, h5⟩ := h
    exact line_of (ls := [99, 107, 116, 119, 98]) (by decide +kernel) (fit5 (fit_c h1) (fit_k h2) (fit_t h3) (fit_w w) (fit_b h4)) fun _ => tail_pb (xs := [.str "put", sD c, sD k, sD t]) h5
  | copy c o w b =>
    obtain ⟨h1, h2, h3, h4⟩ := h
    exact line_of (ls := [99, 99, 119, 98]) (by decide +kernel) (fit4 (fit_c h1) (fit_c h2) (fit_w w) (fit_b h3)) fun _ => tail_pb (xs := [.str "copy", sD c, sD o]) h4
  | move o w b =>
    obtain ⟨h1, h2, h3⟩ := h
    exact line_of (ls := [99, 119, 98]) (by decide +kernel) (fit3 (fit_c h1) (fit_w w) (fit_b h2)) fun _ => tail_pb (xs := [.str "move", sD o]) h3
  | wrap c o k t =>
    obtain ⟨h1, h2, h3, h4⟩ := h
    exact line_of (ls := [99, 99, 107, 116]) (by decide +kernel) (fit4 (fit_c h1) (fit_c h2) (fit_k h3) (fit_t h4)) (fun z => absurd z (by decide))
  | lift o => exact line_of (ls := [99]) (by decide +kernel) (fit1 (fit_c h)) (fun z => absurd z (by decide))
  | strike o => exact line_of (ls := [99]) (by decide +kernel) (fit1 (fit_c h)) (fun z => absurd z (by decide))
  | kind o k => exact line_of (ls := [99, 107]) (by decide +kernel) (fit2 (fit_c h.1) (fit_k h.2)) (fun z => absurd z (by decide))
  | text o t => exact line_of (ls := [99, 116]) (by decide +kernel) (fit2 (fit_c h.1) (fit_t h.2)) (fun z => absurd z (by decide))
  | fresh => exact line_of (ls := []) (by decide +kernel) fit0 (fun z => absurd z (by decide))
theorem gS_sg {l : List Nat} (h1 : l.length ≤ 1000) (h2 : ∀ c ∈ l, signB c = true) : gS (SX.S l) = true := by
  unfold gS
  rw [lenS, cps_S, Bool.and_eq_true]
  refine ⟨decide_eq_true h1, ?_⟩
  rw [List.all_eq_true]
  intro c hc
  have := h2 c hc
  unfold signB at this
  rw [Bool.and_eq_true, Bool.and_eq_true] at this
  have a := of_decide_eq_true this.1
  have b := of_decide_eq_true this.2.1
  refine decide_eq_true ?_
  unfold OkC
  omega
theorem letter_sign {c : Nat} (h : c ∈ letters) : signB c = true := by
  have : ∀ c ∈ letters, signB c = true := by decide
  exact this c h
theorem gD_c {c : Wd} (h : GdC c) : gD (sD c) = true := gS_sg (by have := h.2.2.1; omega) fun x hx => letter_sign (h.1 x hx)
theorem gD_k {c : Wd} (h : GoodK c) : gD (sD c) = true := gS_sg (by have := h.2.2.1; omega) fun x hx => letter_sign (h.1 x hx)
theorem gD_t {c : Wd} (h : GdT c) : gD (sD c) = true := gS_sg (by have := h.1; omega) h.2
theorem gD_b {c : Wd} (h : GdB c) : gD (sD c) = true := by
  rcases h with rfl | h
  · decide +kernel
  · exact gD_c h
theorem gD_w (w : Pw) : gD (.str w.z) = true := by cases w <;> decide +kernel
theorem gD_l (l : Lk) : gD (.str l.z) = true := by cases l <;> decide +kernel
theorem gA_cons {d : PyData} {r : List PyData} (h : gD d = true) (h2 : gA r = true) : gA (d :: r) = true := by
  unfold gA
  rw [h, h2]
  rfl
theorem gA_nil : gA [] = true := by unfold gA; rfl
theorem Ts.g {t : Ts} (h : TsG t) : gA t.ds = true := by
  cases t with
  | there c => exact gA_cons (by decide +kernel) (gA_cons (gD_c h) gA_nil)
  | is c d => exact gA_cons (by decide +kernel) (gA_cons (gD_c h.1) (gA_cons (gD_c h.2) gA_nil))
  | above c d => exact gA_cons (by decide +kernel) (gA_cons (gD_c h.1) (gA_cons (gD_c h.2) gA_nil))
  | ahead c d => exact gA_cons (by decide +kernel) (gA_cons (gD_c h.1) (gA_cons (gD_c h.2) gA_nil))
  | kind c k => exact gA_cons (by decide +kernel) (gA_cons (gD_c h.1) (gA_cons (gD_k h.2) gA_nil))
theorem Op.g {o : Op} (h : OpG o) : gA o.ds = true := by
  cases o with
  | look l c k bs =>
    obtain ⟨h1, h2, h3⟩ := h
    have e : ∀ bs : List Wd, gA (bs.map sD) = true → gA (Op.look l c k bs).ds = true := fun bs hb => gA_cons (gD_l l) (gA_cons (gD_c h1) (gA_cons (gD_k h2) hb))
    refine e bs ?_
    cases l
    case first | last =>
      obtain ⟨b, rfl, hb⟩ := h3
      exact gA_cons (gD_b hb) gA_nil
    case over =>
      obtain ⟨a, b, rfl, ha, hb⟩ := h3
      exact gA_cons (gD_c ha) (gA_cons (gD_c hb) gA_nil)
    case up | next | back =>
      obtain ⟨b, rfl, hb⟩ := h3
      exact gA_cons (gD_c hb) gA_nil
  | put c k t w b =>
    obtain ⟨h1, h2, h3, h4, h5⟩ := h
    exact gA_cons (by decide +kernel) (gA_cons (gD_c h1) (gA_cons (gD_k h2) (gA_cons (gD_t h3) (gA_cons (gD_w w) (gA_cons (gD_b h4) gA_nil)))))
  | copy c o w b =>
    obtain ⟨h1, h2, h3, h4⟩ := h
    exact gA_cons (by decide +kernel) (gA_cons (gD_c h1) (gA_cons (gD_c h2) (gA_cons (gD_w w) (gA_cons (gD_b h3) gA_nil))))
  | move o w b =>
    obtain ⟨h1, h2, h3⟩ := h
    exact gA_cons (by decide +kernel) (gA_cons (gD_c h1) (gA_cons (gD_w w) (gA_cons (gD_b h2) gA_nil)))
  | wrap c o k t =>
    obtain ⟨h1, h2, h3, h4⟩ := h
    exact gA_cons (by decide +kernel) (gA_cons (gD_c h1) (gA_cons (gD_c h2) (gA_cons (gD_k h3) (gA_cons (gD_t h4) gA_nil))))
  | lift o => exact gA_cons (by decide +kernel) (gA_cons (gD_c h) gA_nil)
  | strike o => exact gA_cons (by decide +kernel) (gA_cons (gD_c h) gA_nil)
  | kind o k => exact gA_cons (by decide +kernel) (gA_cons (gD_c h.1) (gA_cons (gD_k h.2) gA_nil))
  | text o t => exact gA_cons (by decide +kernel) (gA_cons (gD_c h.1) (gA_cons (gD_t h.2) gA_nil))
  | fresh => exact gA_cons (by decide +kernel) gA_nil
def ScG : Nat → Sc → Prop
  | _, .nil => True
  | n, .op o r => OpG o ∧ OpN o ∧ ScG n r
  | 0, .ifs _ _ _ _ => False
  | n + 1, .ifs t a b r => TsG t ∧ ScG n a ∧ ScG n b ∧ ScG (n + 1) r
def Op.isCopy : Op → Bool
  | .copy _ _ _ _ => true
  | _ => false
def Sc.copies : Sc → Nat
  | .nil => 0
  | .op o r => (if o.isCopy = true then 1 else 0) + r.copies
  | .ifs _ a b r => a.copies + b.copies + r.copies
def Op.word : Op → Str
  | .look l _ _ _ => l.z
  | .put _ _ _ _ _ => "put"
  | .copy _ _ _ _ => "copy"
  | .move _ _ _ => "move"
  | .wrap _ _ _ _ => "wrap"
  | .lift _ => "lift"
  | .strike _ => "strike"
  | .kind _ _ => "kind"
  | .text _ _ => "text"
  | .fresh => "fresh"
theorem Op.open_eq (o : Op) : openD (.tuple o.ds) = o.word := by cases o <;> rfl
theorem Op.word_if (o : Op) : ¬ o.word = "if" := by
  cases o with
  | look l c k bs => cases l <;> (simp only [Op.word, Lk.z]; clear c k bs; decide +kernel)
  | _ => simp only [Op.word]; decide +kernel
theorem Op.word_copy (o : Op) : o.word = "copy" ↔ o.isCopy = true := by
  cases o with
  | look l c k bs => cases l <;> (simp only [Op.word, Lk.z, Op.isCopy]; clear c k bs; decide +kernel)
  | copy c o w b => simp [Op.word, Op.isCopy]
  | _ => simp only [Op.word, Op.isCopy]; decide +kernel
theorem Op.if_no (o : Op) : ifB (.tuple o.ds) = false := by
  unfold ifB
  rw [Op.open_eq]
  exact decide_eq_false (Op.word_if o)
theorem Op.copyB_eq (o : Op) : copyB (.tuple o.ds) = o.isCopy := by
  unfold copyB
  rw [Op.open_eq]
  rw [Bool.eq_iff_iff, decide_eq_true_iff]
  exact Op.word_copy o
theorem if_yes {t a b : PyData} : ifB (.tuple [.str "if", t, a, b]) = true := decide_eq_true rfl
theorem if_cp {t a b : PyData} : copyB (.tuple [.str "if", t, a, b]) = false := decide_eq_false (show ¬ (Str.ofString "if" = Str.ofString "copy") by decide +kernel)
theorem if_line {t : Ts} {a b : List PyData} (h : TsG t) : lineB (.tuple [.str "if", .tuple t.ds, .tuple a, .tuple b]) = true := line_of (ls := [115, 108, 108]) (by decide +kernel) (fit3 (fit_s (Ts.ok h)) fit_l fit_l) (fun z => absurd z (by decide))
theorem Sc.okN : ∀ {n : Nat} {c : Sc}, ScG n c → Pf.okN n (scD c) = true
  | 0, .nil, _ => rfl
  | n + 1, .nil, _ => rfl
  | 0, .op o r, h => by
    have ih := Sc.okN h.2.2
    show ((lineB (.tuple o.ds) && (!ifB (.tuple o.ds) || _)) && (scD r).all _) = true
    rw [Op.ok h.1, Op.if_no]
    exact ih
  | n + 1, .op o r, h => by
    have ih := Sc.okN (n := n + 1) h.2.2
    show ((lineB (.tuple o.ds) && (!ifB (.tuple o.ds) || _)) && (scD r).all _) = true
    rw [Op.ok h.1, Op.if_no]
    exact ih
  | n + 1, .ifs t a b r, h => by
    obtain ⟨h1, h2, h3, h4⟩ := h
    have ih := Sc.okN (n := n + 1) h4
    have ia := Sc.okN h2
    have ib := Sc.okN h3
    show ((lineB _ && (!ifB _ || (true && (Pf.okN n (scD a) && Pf.okN n (scD b))))) && (scD r).all _) = true
    rw [if_line h1, if_yes, ia, ib]
    exact ih
theorem Sc.cnt_eq : ∀ {n : Nat} {c : Sc}, ScG n c → (everyN n (scD c)).length = c.cnt
  | 0, .nil, _ => rfl
  | n + 1, .nil, _ => rfl
  | 0, .op o r, h => by
    have ih := Sc.cnt_eq h.2.2
    show ((.tuple o.ds) :: ((if ifB (.tuple o.ds) = true then _ else []) ++ everyL _ (scD r))).length = 1 + r.cnt
    rw [Op.if_no, if_neg Bool.false_ne_true, List.length_cons, List.nil_append, ← ih, Nat.add_comm]
    rfl
  | n + 1, .op o r, h => by
    have ih := Sc.cnt_eq (n := n + 1) h.2.2
    show ((.tuple o.ds) :: ((if ifB (.tuple o.ds) = true then _ else []) ++ everyL _ (scD r))).length = 1 + r.cnt
    rw [Op.if_no, if_neg Bool.false_ne_true, List.length_cons, List.nil_append, ← ih, Nat.add_comm]
    rfl
  | n + 1, .ifs t a b r, h => by
    obtain ⟨h1, h2, h3, h4⟩ := h
    have ih := Sc.cnt_eq (n := n + 1) h4
    have ia := Sc.cnt_eq h2
    have ib := Sc.cnt_eq h3
    have ih : (everyL (everyN n) (scD r)).length = r.cnt := ih
    show (_ :: ((if ifB _ = true then everyN n (scD a) ++ everyN n (scD b) else []) ++ everyL (everyN n) (scD r))).length = 1 + a.cnt + b.cnt + r.cnt
    rw [if_yes, if_pos rfl, List.length_cons, List.length_append, List.length_append, ia, ib, ih]
    omega
theorem Sc.cop_eq : ∀ {n : Nat} {c : Sc}, ScG n c → ((everyN n (scD c)).filter copyB).length = c.copies
  | 0, .nil, _ => rfl
  | n + 1, .nil, _ => rfl
  | 0, .op o r, h => by
    have ih : ((everyL (fun _ => []) (scD r)).filter copyB).length = r.copies := Sc.cop_eq (n := 0) h.2.2
    show (((.tuple o.ds) :: ((if ifB (.tuple o.ds) = true then _ else []) ++ everyL (fun _ => []) (scD r))).filter copyB).length = _
    rw [Op.if_no, if_neg Bool.false_ne_true, List.nil_append, List.filter_cons, Op.copyB_eq]
    show _ = (if o.isCopy = true then 1 else 0) + r.copies
    cases o.isCopy <;> simp [ih] <;> omega
  | n + 1, .op o r, h => by
    have ih : ((everyL (everyN n) (scD r)).filter copyB).length = r.copies := Sc.cop_eq (n := n + 1) h.2.2
    show (((.tuple o.ds) :: ((if ifB (.tuple o.ds) = true then _ else []) ++ everyL (everyN n) (scD r))).filter copyB).length = _
    rw [Op.if_no, if_neg Bool.false_ne_true, List.nil_append, List.filter_cons, Op.copyB_eq]
    show _ = (if o.isCopy = true then 1 else 0) + r.copies
    cases o.isCopy <;> simp [ih] <;> omega
  | n + 1, .ifs t a b r, h => by
    obtain ⟨h1, h2, h3, h4⟩ := h
    have ih : ((everyL (everyN n) (scD r)).filter copyB).length = r.copies := Sc.cop_eq (n := n + 1) h4
    have ia := Sc.cop_eq h2
    have ib := Sc.cop_eq h3
    show ((_ :: ((if ifB _ = true then everyN n (scD a) ++ everyN n (scD b) else []) ++ everyL (everyN n) (scD r))).filter copyB).length = a.copies + b.copies + r.copies
    rw [if_yes, if_pos rfl, List.filter_cons, if_neg (by rw [if_cp]; exact Bool.false_ne_true), List.filter_append, List.filter_append, List.length_append, List.length_append, ia, ib, ih]
theorem szA_sD : ∀ bs : List Wd, szA (bs.map sD) = bs.length
  | [] => rfl
  | b :: r => by
    show 1 + szA (r.map sD) = r.length + 1
    rw [szA_sD r]
    omega
theorem Op.sz {o : Op} (h : OpG o) : szA o.ds ≤ 6 := by
  cases o with
  | look l c k bs =>
    have e : szA (Op.look l c k bs).ds = 3 + bs.length := by
      show 1 + (1 + (1 + szA (bs.map sD))) = _
      rw [szA_sD]
      omega
    rw [e]
    obtain ⟨_, _, h3⟩ := h
    cases l
    case first | last =>
      obtain ⟨b, rfl, hb⟩ := h3
      simp
    case over =>
      obtain ⟨a, b, rfl, ha, hb⟩ := h3
      simp
    case up | next | back =>
      obtain ⟨b, rfl, hb⟩ := h3
      simp
  | _ => simp [Op.ds, szA, Pf.sz, sD]
theorem Ts.sz (t : Ts) : szA t.ds ≤ 3 := by cases t <;> simp [Ts.ds, szA, Pf.sz, sD]
theorem Sc.sz : ∀ {n : Nat} {c : Sc}, ScG n c → szA (scD c) ≤ 8 * c.cnt
  | n, .nil, _ => Nat.zero_le _
  | n, .op o r, h => by
    have h : OpG o ∧ OpN o ∧ ScG n r := by cases n <;> exact h
    have ih := Sc.sz h.2.2
    have h1 := Op.sz h.1
    show (1 + szA o.ds) + szA (scD r) ≤ 8 * (1 + r.cnt)
    omega
  | n + 1, .ifs t a b r, h => by
    obtain ⟨h1, h2, h3, h4⟩ := h
    have ih := Sc.sz h4
    have ia := Sc.sz h2
    have ib := Sc.sz h3
    have it := Ts.sz t
    have e : szA (scD (.ifs t a b r)) = (1 + (1 + ((1 + szA t.ds) + ((1 + szA (scD a)) + ((1 + szA (scD b)) + 0))))) + szA (scD r) := rfl
    rw [e]
    show _ ≤ 8 * (1 + a.cnt + b.cnt + r.cnt)
    omega
theorem Sc.g : ∀ {n : Nat} {c : Sc}, ScG n c → gA (scD c) = true
  | n, .nil, _ => gA_nil
  | n, .op o r, h => by
    have h : OpG o ∧ OpN o ∧ ScG n r := by cases n <;> exact h
    exact gA_cons (Op.g h.1) (Sc.g h.2.2)
  | n + 1, .ifs t a b r, h => by
    obtain ⟨h1, h2, h3, h4⟩ := h
    exact gA_cons (gA_cons (by decide +kernel) (gA_cons (Ts.g h1) (gA_cons (Sc.g h2) (gA_cons (Sc.g h3) gA_nil)))) (Sc.g h4)
theorem Sc.ok {c : Sc} (h : ScG 3 c) (h1 : c.cnt ≤ 40) (h2 : c.copies ≤ 4) : ScOk (scD c) := ⟨Sc.okN h, by rw [Sc.cnt_eq h]; exact h1, by rw [Sc.cop_eq h]; exact h2⟩
theorem ScG.mono : ∀ {n : Nat} {c : Sc}, ScG n c → ScG (n + 1) c
  | n, .nil, _ => by cases n <;> trivial
  | n, .op o r, h => by
    have h : OpG o ∧ OpN o ∧ ScG n r := by cases n <;> exact h
    exact ⟨h.1, h.2.1, h.2.2.mono⟩
  | n + 1, .ifs t a b r, h => ⟨h.1, h.2.1.mono, h.2.2.1.mono, h.2.2.2.mono⟩

/-! ### names: kinds, cursors, texts -/
theorem fix_bar (w : Str) : fixW w ≠ "if" ∧ fixW w ≠ "is" ∧ fixW w ≠ "end" := by
  unfold fixW
  by_cases h2 : w = "if"
  · rw [if_pos h2]
    decide +kernel
  rw [if_neg h2]
  by_cases h3 : w = "is"
  · rw [if_pos h3]
    decide +kernel
  rw [if_neg h3]
  by_cases h4 : w = "end"
  · rw [if_pos h4]
    decide +kernel
  rw [if_neg h4]
  by_cases h5 : w = "rest"
  · rw [if_pos h5]
    decide +kernel
  rw [if_neg h5]
  exact ⟨h2, h3, h4⟩
theorem fix_len3 {w : Str} (h : w.length ≤ 3) : (fixW w).length ≤ 3 := by
  unfold fixW
  by_cases h2 : w = "if"
  · rw [if_pos h2]
    decide +kernel
  rw [if_neg h2]
  by_cases h3 : w = "is"
  · rw [if_pos h3]
    decide +kernel
  rw [if_neg h3]
  by_cases h4 : w = "end"
  · rw [if_pos h4]
    decide +kernel
  rw [if_neg h4]
  by_cases h5 : w = "rest"
  · rw [if_pos h5]
    decide +kernel
  rw [if_neg h5]
  exact h
theorem words_curs {ws : List Str} (h : Words 3 3 ws) : ∃ ks : List Wd, ws = ks.map SX.S ∧ (∀ k ∈ ks, GdC k) ∧ ks.length = 3 := by
  obtain ⟨st, at_, s0, h1, h2, h3, h4, rfl⟩ := h
  refine ⟨((List.range (3 : Int).toNat).map fun k => fixW (SX.S (wordAt st at_ s0 k))).map fun z => z.cps.toList, ?_, fun k hk => ?_, ?_⟩
  · rw [List.map_map]
    have e : (SX.S ∘ fun z : Str => z.cps.toList) = id := funext fun z => (str_S z).symm
    rw [e, List.map_id]
  · rw [List.map_map] at hk
    obtain ⟨j, hj, rfl⟩ := List.mem_map.mp hk
    obtain ⟨w1, w2, w3⟩ := wordAt_ok (at_ := at_) (s0 := s0) (k := j) h2
    obtain ⟨m, em, m1, m2, m3⟩ := fix_ok w1 w2
    show GdC (fixW (SX.S (wordAt st at_ s0 j))).cps.toList
    have l3 : (SX.S m).length ≤ 3 := by
      rw [← em]
      refine fix_len3 ?_
      rw [SX.S_len]
      have := wordAt_len st at_ s0 j
      omega
    obtain ⟨b1, b2, b3⟩ := fix_bar (SX.S (wordAt st at_ s0 j))
    rw [em] at b1 b2 b3 ⊢
    have e : (SX.S m).cps.toList = m := by simp [SX.S]
    rw [SX.S_len] at l3
    rw [e]
    refine ⟨m1, m2, l3, ?_⟩
    have ne : ∀ z : Str, SX.S m ≠ z → eqV (.str z) (.str (SX.S m)) = false := fun z n => by
      show (z == SX.S m) = false
      exact beq_false_of_ne fun q => n q.symm
    show inV (sS m) barT = false
    unfold inV barT
    rw [List.any_cons, List.any_cons, List.any_cons, List.any_nil, ne _ b1, ne _ b2, ne _ b3]
    rfl
  · rw [List.length_map, List.length_map, List.length_range]
    rfl
theorem digit_S : ∀ k : Fin 10, ("t" : Str) ++ Str.ofString (toString ((k.val : Nat) : Int)) = SX.S [116, 48 + k.val] := by decide +kernel
theorem digit_S' {k : Int} (h0 : 0 ≤ k) (h1 : k < 10) : ∃ t : Wd, ("t" : Str) ++ Str.ofString (toString k) = SX.S t ∧ GdT t := by
  have h := digit_S ⟨k.toNat, by omega⟩
  have e : ((k.toNat : Nat) : Int) = k := by omega
  rw [show ((((⟨k.toNat, by omega⟩ : Fin 10).val : Nat) : Int)) = k from e] at h
  refine ⟨[116, 48 + k.toNat], h, by show 2 ≤ 20; omega, fun c hc => ?_⟩
  simp only [List.mem_cons, List.not_mem_nil, or_false] at hc
  unfold signB
  rcases hc with rfl | rfl
  · decide
  · rw [decide_eq_true (by omega), decide_eq_true (by omega), decide_eq_false (by omega)]
    rfl
def spNames3 : Sp := fun vs H Q _ => ∃ (b r : Addr), vs = [.ref b] ∧ BagAt H b r ∧
  ∀ (p a1 a2 a3 : Addr) (k1 k2 ts : List Wd) (H' : Hp), But b H H' → BagAt H' b r → H' p = some (.lst [.ref a1, .ref a2, .ref a3]) → H' a1 = some (.lst (kws k1)) → H' a2 = some (.lst (kws k2)) → H' a3 = some (.lst (kws ts)) →
    k1.length = 3 → k2.length = 3 → ts.length = 2 → (∀ k ∈ k1, GoodK k) → (∀ k ∈ k2, GdC k) → (∀ k ∈ ts, GdT k) → H p = none → H a1 = none → H a2 = none → H a3 = none → Q (.ref p) H'
section
variable {P : Program} {w : World} {K : PySem.W.Frag} {mg : Str → Option Value} {base : Heap} {f : Addr} {fd : FuncData}
theorem ok_law_names3 (F : Fun K "_law_names" "_law_names" s_law_names f fd) (T : Txt mg) (c_law_take : Cal P w K mg base 1 "_law_take" spTake) (c_law_words : Cal P w K mg base 3 "_law_words" spWords) : FnOk P w K mg base CX0 4 f fd ["_law_bag_z"] spNames3 := by
  refine F.ok sc_law_names (fun vs H Q E h => ?_) (fun cdv A outer s H vs Q E hr h => ?_)
  · obtain ⟨b, r, rfl, _⟩ := h
    rfl
  · obtain ⟨b, r, rfl, hb, q⟩ := h
    refine ⟨_, (pss_one (ps_ret (pe_lst (pa_cons (pe_c c_law_words hr (by omega) (by rfl) (pa_cons (pv 0) (pa_cons pe_int (pa_cons pe_int pa_nil)))) (pa_cons (pe_c c_law_words hr (by omega) (by rfl) (pa_cons (pv 0) (pa_cons pe_int (pa_cons pe_int pa_nil)))) (pa_cons (pe_lst (pa_cons pe_str (pa_cons (pe_op (op_addX K) pe_str (pe_callTy call_str_int (by rfl) T.str (by decide +kernel) (pa_cons (pe_c c_law_take hr (by omega) (by rfl) (pa_cons (pv 0) (pa_cons pe_int pa_nil))) pa_nil))) pa_nil))) pa_nil)))))), ?_⟩
    change (_ : TS) _ [some (V.ref b)] _
    k_extra "rr"
    refine ⟨b, r, 3, 5, rfl, hb, by omega, by omega, by omega, by omega, fun ws1 a1 H1 hw1 bb1 hb1 n1 e1 nb1 => ?_⟩
    k_extra "rr"
    refine ⟨b, r, 3, 3, rfl, hb1, by omega, by omega, by omega, by omega, fun ws2 a2 H2 hw2 bb2 hb2 n2 e2 nb2 => ?_⟩
    k_extra "rr"
    refine ⟨b, r, 10, rfl, hb2, by omega, by omega, fun k H3 bb3 hb3 k0 k1 => ?_⟩
    k_extra "rr"
    have hd : (Str.ofString (toString k)).length ≤ 2 := digit_len' k0 k1
    refine ⟨k, rfl, (by have : k.natAbs < 2 ^ 10 := by omega
                        exact Nat.lt_of_le_of_lt (Nat.log2_le_self _) (by omega)), ?_⟩
    have z1 : (Str.ofString "t").length + (Str.ofString (toString k)).length ≤ sizeLine := by
      rw [sizeLine_eq, show (Str.ofString "t").length = 1 by decide +kernel]
      omega
    k_extra "rr"
    refine ⟨by k_extra "sz", fun a3 n3 => ?_⟩
    k_extra "rr"
    refine ⟨by k_extra "sz", fun p np => ?_⟩
    k_extra "rr"
    obtain ⟨kk1, rfl, g1, l1⟩ := words_good (by omega) hw1 (by omega)
    obtain ⟨kk2, rfl, g2, l2⟩ := words_curs hw2
    obtain ⟨t, et, gt⟩ := digit_S' k0 k1
    rw [List.map_map] at e1 e2
    have bb := ((bb1.trans bb2).trans bb3).trans (But.new (o := .lst [.str "", .str ("t" ++ Str.ofString (toString k))]) n3)
    refine q p a1 a2 a3 kk1 kk2 [[], t] _ (bb.trans (But.new np)) ((hb3.new n3).new np) upd_same (same_upd np _ _ (same_upd n3 _ _ (bb3 _ _ (bb2 _ _ e1 nb1) nb1))) (same_upd np _ _ (same_upd n3 _ _ (bb3 _ _ e2 nb2))) ?_ (by omega) (by omega) rfl g1 g2 (fun x hx => ?_) (bb.free (hb3.new n3).ex np) n1 (bb1.free hb1.ex n2) (((bb1.trans bb2).trans bb3).free hb3.ex n3)
    · refine same_upd np _ _ (upd_same.trans ?_)
      rw [et]
      show _ = some (HO.lst [V.str (SX.S []), V.str (SX.S t)])
      rw [← empty_S]
    · simp only [List.mem_cons, List.not_mem_nil, or_false] at hx
      rcases hx with rfl | rfl
      · exact ⟨Nat.zero_le _, fun c hc => (List.not_mem_nil hc).elim⟩
      · exact gt
end

theorem inLst {K : PySem.W.Frag} {H : Hp} {Q : VK} {x : V} {xs : List V} (b : Bool) (hz : xs.length ≤ sizeLine) (h1 : flatV x = true) (h2 : xs.all flatV = true) (e : inV x xs = b) (q : ∀ p, H p = none → Q (.bl b) (upd H p (.lst xs))) : xs.length ≤ sizeLine ∧ ∀ p, H p = none → rInX K x (.ref p) (upd H p (.lst xs)) Q :=
  ⟨hz, fun p np => inSeq (.inl (SqL.of upd_same)) h1 h2 (by rw [e]; exact q p np)⟩
theorem kws_len (a : List Wd) : (kws a).length = a.length := by
  unfold kws
  rw [List.length_map]
def Op.zs : Op → List Str
  | .look l c k bs => l.z :: SX.S c :: SX.S k :: bs.map SX.S
  | .put c k t w b => ["put", SX.S c, SX.S k, SX.S t, w.z, SX.S b]
  | .copy c o w b => ["copy", SX.S c, SX.S o, w.z, SX.S b]
  | .move o w b => ["move", SX.S o, w.z, SX.S b]
  | .wrap c o k t => ["wrap", SX.S c, SX.S o, SX.S k, SX.S t]
  | .lift o => ["lift", SX.S o]
  | .strike o => ["strike", SX.S o]
  | .kind o k => ["kind", SX.S o, SX.S k]
  | .text o t => ["text", SX.S o, SX.S t]
  | .fresh => ["fresh"]
def Ts.zs : Ts → List Str
  | .there c => ["there", SX.S c]
  | .is c d => ["is", SX.S c, SX.S d]
  | .above c d => ["above", SX.S c, SX.S d]
  | .ahead c d => ["ahead", SX.S c, SX.S d]
  | .kind c k => ["kind", SX.S c, SX.S k]
theorem Op.zs_ds (o : Op) : o.ds = o.zs.map PyData.str := by
  cases o with
  | look l c k bs =>
    show _ = PyData.str l.z :: sD c :: sD k :: (bs.map SX.S).map PyData.str
    rw [List.map_map]
    rfl
  | _ => rfl
theorem Ts.zs_ds (t : Ts) : t.ds = t.zs.map PyData.str := by cases t <;> rfl
def Op.isAdd : Op → Bool
  | .put _ _ _ _ _ => true
  | .wrap _ _ _ _ => true
  | _ => false
def Sc.adds : Sc → Nat
  | .nil => 0
  | .op o r => (if o.isAdd = true then 1 else 0) + r.adds
  | .ifs _ a b r => a.adds + b.adds + r.adds
theorem Op.vs_word (o : Op) : ∃ r, o.vs = .str o.word :: r := by cases o <;> exact ⟨_, rfl⟩

/-! ### what every law's text has -/
def spLaw (K : PySem.W.Frag) (PA : Addr) : Sp := fun vs H Q _ => ∃ (a : Addr) (ns : List Int), vs = [.ref a] ∧ SqL K H a (ns.map V.int) ∧ ns.length ≤ 63 ∧ H PA = some (.tbl #[]) ∧ ∀ H', Q (.bl true) H'
abbrev tabQ (PA : Addr) : List (Addr × Str) := [(PA, "law.<locals>.<lambda>")]
theorem BagAt.lst {H : Hp} {b r : Addr} (h : BagAt H b r) : ∃ l, H b = some (.lst l) := by
  obtain ⟨ns, i, c, m, h1, _⟩ := h
  exact ⟨_, h1⟩
theorem BagAt.le {H H' : Hp} {b r : Addr} (h : BagAt H b r) (s : But b H H') : Le b H H' := by
  obtain ⟨l, h1⟩ := h.lst
  exact Le.but s h1

/-! ### drawn lines: _law_setup, _law_place -/
theorem sS_nil : (sS [] : V) = V.str "" := congrArg V.str empty_S.symm
def Sc.snoc : Sc → Op → Sc
  | .nil, o => .op o .nil
  | .op p r, o => .op p (r.snoc o)
  | .ifs t a b r, o => .ifs t a b (r.snoc o)
theorem ScAt.snoc {H : Hp} {q : Addr} {o : Op} (hq : H q = some (.tup o.vs)) : ∀ {c : Sc} {xs : List V}, ScAt H c xs → ScAt H (c.snoc o) (xs ++ [.ref q])
  | .nil, xs, h => by
    rw [show xs = [] from h]
    exact ⟨q, [], rfl, hq, rfl⟩
  | .op p r, xs, ⟨a, xs', e, h, hr⟩ => by
    rw [e]
    exact ⟨a, xs' ++ [.ref q], rfl, h, hr.snoc hq⟩
  | .ifs t a b r, xs, ⟨p, pt, pa, pb, ya, yb, xs', e, h1, h2, h3, h4, h5, h6, h7⟩ => by
    rw [e]
    exact ⟨p, pt, pa, pb, ya, yb, xs' ++ [.ref q], rfl, h1, h2, h3, h4, h5, h6, h7.snoc hq⟩
theorem Sc.cnt_snoc (o : Op) : ∀ c : Sc, (c.snoc o).cnt = c.cnt + 1
  | .nil => rfl
  | .op p r => by
    show 1 + (r.snoc o).cnt = 1 + r.cnt + 1
    rw [Sc.cnt_snoc o r]
    omega
  | .ifs t a b r => by
    show 1 + a.cnt + b.cnt + (r.snoc o).cnt = 1 + a.cnt + b.cnt + r.cnt + 1
    rw [Sc.cnt_snoc o r]
    omega
theorem ScG.snoc {o : Op} (h1 : OpG o) (h2 : OpN o) : ∀ {c : Sc}, ScG 0 c → ScG 0 (c.snoc o)
  | .nil, _ => ⟨h1, h2, trivial⟩
  | .op p r, h => ⟨h.1, h.2.1, ScG.snoc h1 h2 h.2.2⟩
  | .ifs t a b r, h => h.elim
def NoC : Sc → Prop
  | .nil => True
  | .op o r => o.isCopy = false ∧ NoC r
  | .ifs _ _ _ _ => False
theorem NoC.snoc {o : Op} (h1 : o.isCopy = false) : ∀ {c : Sc}, NoC c → NoC (c.snoc o)
  | .nil, _ => ⟨h1, trivial⟩
  | .op p r, h => ⟨h.1, NoC.snoc h1 h.2⟩
  | .ifs t a b r, h => h.elim
theorem bag_upd {H : Hp} {b r D : Addr} {o : HO} (h : BagAt H b r) (n1 : D ≠ b) (n2 : D ≠ r) : BagAt (upd H D o) b r :=
  let ⟨ns, i, c, m, h1, h2, h3⟩ := h
  ⟨ns, i, c, m, upd2 n1.symm h1, upd2 n2.symm h2, h3⟩
theorem but_mut2 {b D : Addr} {H H' : Hp} {o : HO} (s : But b H H') (n : H D = none) : But b H (upd H' D o) := fun c u e ne => by
  rw [upd_ne (fun z => by rw [z, n] at e; cases e)]
  exact s c u e ne
structure NAt (H : Hp) (b p a1 a2 a3 : Addr) (k1 k2 ts : List Wd) : Prop where
  hp : H p = some (.lst [.ref a1, .ref a2, .ref a3])
  h1 : H a1 = some (.lst (kws k1))
  h2 : H a2 = some (.lst (kws k2))
  h3 : H a3 = some (.lst (kws ts))
  np : p ≠ b
  n1 : a1 ≠ b
  n2 : a2 ≠ b
  n3 : a3 ≠ b
  l1 : k1.length = 3
  l2 : k2.length = 3
  l3 : ts.length = 2
  g1 : ∀ k ∈ k1, GoodK k
  g2 : ∀ k ∈ k2, GdC k
  g3 : ∀ k ∈ ts, GdT k
theorem NAt.but {H H' : Hp} {b p a1 a2 a3 : Addr} {k1 k2 ts : List Wd} (h : NAt H b p a1 a2 a3 k1 k2 ts) (s : But b H H') : NAt H' b p a1 a2 a3 k1 k2 ts :=
  { h with hp := s _ _ h.hp h.np, h1 := s _ _ h.h1 h.n1, h2 := s _ _ h.h2 h.n2, h3 := s _ _ h.h3 h.n3 }
theorem kws_get {ks : List Wd} {i : Nat} {v : V} (h : (kws ks)[i]? = some v) : ∃ k, k ∈ ks ∧ v = sS k := by
  unfold kws at h
  rw [List.getElem?_map] at h
  obtain ⟨k, e, rfl⟩ := Option.map_eq_some_iff.mp h
  exact ⟨k, List.mem_of_getElem? e, rfl⟩
def spPlaceL : Sp := fun vs H Q _ => ∃ (b r p a1 a2 a3 : Addr) (k1 k2 ts : List Wd), vs = [.ref b, .ref p] ∧ BagAt H b r ∧ NAt H b p a1 a2 a3 k1 k2 ts ∧
  ∀ (q : Addr) (w : Pw) (bs : Wd) (H' : Hp), But b H H' → BagAt H' b r → H' q = some (.tup [.str w.z, sS bs]) → GdB bs → (bs = [] → w = .head ∨ w = .tail) → Q (.ref q) H'
theorem but_tup {b r : Addr} {H H' : Hp} (s : But b H H') (h : BagAt H b r) : TupLe H H' := fun c xs e => s c _ e fun z => by
  obtain ⟨l, hl⟩ := h.lst
  rw [z, hl] at e
  cases e
section
variable {P : Program} {w : World} {K : PySem.W.Frag} {mg : Str → Option Value} {base : Heap} {f : Addr} {fd : FuncData}
theorem ok_law_place (F : Fun K "_law_place" "_law_place" s_law_place f fd) (T : Txt mg) (c_law_take : Cal P w K mg base 1 "_law_take" spTake) (c_law_of : Cal P w K mg base 2 "_law_of" (spOf K)) : FnOk P w K mg base CX0 3 f fd ["_law_bag_z", "_law_names_z"] spPlaceL := by
  refine F.ok sc_law_place (fun vs H Q E h => ?_) (fun cdv A outer s H vs Q E hr h => ?_)
  · obtain ⟨b, r, p, a1, a2, a3, k1, k2, ts, rfl, _⟩ := h
    rfl
  · obtain ⟨b, r, p, a1, a2, a3, k1, k2, ts, rfl, hb, hN, q⟩ := h
    refine ⟨_, (pss_cons (ps_set (i := 2) sc_law_place.nd rfl (.inl rfl) (pe_c c_law_of hr (by omega) (by rfl) (pa_cons (pv 0) (pa_cons (pe_lst (pa_cons pe_str (pa_cons pe_str (pa_cons pe_str (pa_cons pe_str pa_nil))))) pa_nil))))
      (pss_cons (ps_if (PW.pt (pw_and (pt_cmpR (op_inX K) (pv 2) (pe_lst (pa_cons pe_str (pa_cons pe_str pa_nil))) (by rfl)) (pw_and1 (pt_cmpR (op_eqX K hr) (pe_c c_law_take hr (by omega) (by rfl) (pa_cons (pv 0) (pa_cons pe_int pa_nil))) pe_int (nomark _))))) (pss_one (ps_ret (pe_tup (pa_cons (pv 2) (pa_cons pe_str pa_nil))))) pss_nil)
      (pss_one (ps_ret (pe_tup (pa_cons (pv 2) (pa_cons (pe_c c_law_of hr (by omega) (by rfl) (pa_cons (pv 0) (pa_cons (pe_ix (ix_X K) (pv 1) pe_int (fun _ _ => rfl)) pa_nil))) pa_nil))))))), ?_⟩
    change (_ : TS) _ [some (V.ref b), some (.ref p), none] _
    k_extra "rr"
    refine ⟨by k_extra "sz", fun l1 nl1 => ?_⟩
    have bb1 := But.new (b := b) (o := .lst [V.str "ahead", .str "behind", .str "head", .str "tail"]) nl1
    have hb1 := hb.new (o := .lst [V.str "ahead", .str "behind", .str "head", .str "tail"]) nl1
    have hl1 : upd H l1 (.lst [V.str "ahead", .str "behind", .str "head", .str "tail"]) l1 = some (.lst [V.str "ahead", .str "behind", .str "head", .str "tail"]) := upd_same
    generalize upd H l1 (.lst [V.str "ahead", .str "behind", .str "head", .str "tail"]) = H1 at bb1 hb1 hl1
    k_extra "rr"
    refine ⟨b, r, _, rfl, hb1, .inr ⟨l1, _, rfl, ?_, SqL.of hl1, by show 0 < 4; omega, by show 4 ≤ 1000; omega, fun i v H2 hv bb2 hb2 => ?_⟩⟩
    · intro z
      obtain ⟨l, hl⟩ := hb.lst
      rw [z, hl] at nl1
      cases nl1
    have bb := bb1.trans bb2
    have hN2 := hN.but bb
    obtain ⟨pw, rfl⟩ : ∃ pw : Pw, v = .str pw.z := by
      match i, hv with
      | 0, hv => cases hv; exact ⟨.ahead, rfl⟩
      | 1, hv => cases hv; exact ⟨.behind, rfl⟩
      | 2, hv => cases hv; exact ⟨.head, rfl⟩
      | 3, hv => cases hv; exact ⟨.tail, rfl⟩
      | i + 4, hv => simp at hv
    k_extra "rr"
    cases pw with
    | ahead =>
      refine inLst false (by k_extra "sz") rfl rfl (by decide +kernel) fun p1 np1 => ?_
      have bb3 := bb.trans (But.new (b := b) (o := .lst [V.str "head", .str "tail"]) np1)
      have hb3 := hb2.new (o := .lst [V.str "head", .str "tail"]) np1
      generalize upd H2 p1 (.lst [V.str "head", .str "tail"]) = H3 at bb3 hb3
      k_extra "qq"
      refine ixL (SqL.of (hN.but bb3).hp) (v := .ref a2) rfl ?_
      k_extra "qq"
      refine ⟨b, r, _, rfl, hb3, .inr ⟨a2, kws k2, rfl, hN.n2, SqL.of (hN.but bb3).h2, by rw [kws_len, hN.l2]; omega, by rw [kws_len, hN.l2]; omega, fun i v H9 hv bb9 hb9 => ?_⟩⟩
      obtain ⟨c, hc, rfl⟩ := kws_get hv
      k_extra "qq"
      refine ⟨by k_extra "sz", fun q0 nq0 => ?_⟩
      exact q q0 .ahead c _ ((bb3.trans bb9).trans (But.new nq0)) (hb9.new nq0) upd_same (.inr (hN.g2 c hc)) (fun z => absurd z (hN.g2 c hc).ne)
    | behind =>
      refine inLst false (by k_extra "sz") rfl rfl (by decide +kernel) fun p1 np1 => ?_
      have bb3 := bb.trans (But.new (b := b) (o := .lst [V.str "head", .str "tail"]) np1)
      have hb3 := hb2.new (o := .lst [V.str "head", .str "tail"]) np1
      generalize upd H2 p1 (.lst [V.str "head", .str "tail"]) = H3 at bb3 hb3
      k_extra "qq"
      refine ixL (SqL.of (hN.but bb3).hp) (v := .ref a2) rfl ?_
      k_extra "qq"
      refine ⟨b, r, _, rfl, hb3, .inr ⟨a2, kws k2, rfl, hN.n2, SqL.of (hN.but bb3).h2, by rw [kws_len, hN.l2]; omega, by rw [kws_len, hN.l2]; omega, fun i v H9 hv bb9 hb9 => ?_⟩⟩
      obtain ⟨c, hc, rfl⟩ := kws_get hv
      k_extra "qq"
      refine ⟨by k_extra "sz", fun q0 nq0 => ?_⟩
      exact q q0 .behind c _ ((bb3.trans bb9).trans (But.new nq0)) (hb9.new nq0) upd_same (.inr (hN.g2 c hc)) (fun z => absurd z (hN.g2 c hc).ne)
    | head =>
      refine inLst true (by k_extra "sz") rfl rfl (by decide +kernel) fun p1 np1 => ?_
      have bb3 := bb.trans (But.new (b := b) (o := .lst [V.str "head", .str "tail"]) np1)
      have hb3 := hb2.new (o := .lst [V.str "head", .str "tail"]) np1
      generalize upd H2 p1 (.lst [V.str "head", .str "tail"]) = H3 at bb3 hb3
      k_extra "qq"
      refine ⟨b, r, 3, rfl, hb3, by omega, by omega, fun k H4 bb4 hb4 k0 k3 => ?_⟩
      have bb34 := bb3.trans bb4
      k_extra "qq"
      by_cases hk : k = 0
      · rw [decide_eq_true hk]
        k_extra "qq"
        refine ⟨by k_extra "sz", fun q0 nq0 => ?_⟩
        refine q q0 .head [] _ (bb34.trans (But.new nq0)) (hb4.new nq0) (upd_same.trans ?_) (.inl rfl) (fun _ => .inl rfl)
        rw [sS_nil]
      · rw [decide_eq_false hk]
        k_extra "qq"
        refine ixL (SqL.of (hN.but bb34).hp) (v := .ref a2) rfl ?_
        k_extra "qq"
        refine ⟨b, r, _, rfl, hb4, .inr ⟨a2, kws k2, rfl, hN.n2, SqL.of (hN.but bb34).h2, by rw [kws_len, hN.l2]; omega, by rw [kws_len, hN.l2]; omega, fun i v H9 hv bb9 hb9 => ?_⟩⟩
        obtain ⟨c, hc, rfl⟩ := kws_get hv
        k_extra "qq"
        refine ⟨by k_extra "sz", fun q0 nq0 => ?_⟩
        exact q q0 .head c _ ((bb34.trans bb9).trans (But.new nq0)) (hb9.new nq0) upd_same (.inr (hN.g2 c hc)) (fun _ => .inl rfl)
    | tail =>
      refine inLst true (by k_extra "sz") rfl rfl (by decide +kernel) fun p1 np1 => ?_
      have bb3 := bb.trans (But.new (b := b) (o := .lst [V.str "head", .str "tail"]) np1)
      have hb3 := hb2.new (o := .lst [V.str "head", .str "tail"]) np1
      generalize upd H2 p1 (.lst [V.str "head", .str "tail"]) = H3 at bb3 hb3
      k_extra "qq"
      refine ⟨b, r, 3, rfl, hb3, by omega, by omega, fun k H4 bb4 hb4 k0 k3 => ?_⟩
      have bb34 := bb3.trans bb4
      k_extra "qq"
      by_cases hk : k = 0
      · rw [decide_eq_true hk]
        k_extra "qq"
        refine ⟨by k_extra "sz", fun q0 nq0 => ?_⟩
        refine q q0 .tail [] _ (bb34.trans (But.new nq0)) (hb4.new nq0) (upd_same.trans ?_) (.inl rfl) (fun _ => .inr rfl)
        rw [sS_nil]
      · rw [decide_eq_false hk]
        k_extra "qq"
        refine ixL (SqL.of (hN.but bb34).hp) (v := .ref a2) rfl ?_
        k_extra "qq"
        refine ⟨b, r, _, rfl, hb4, .inr ⟨a2, kws k2, rfl, hN.n2, SqL.of (hN.but bb34).h2, by rw [kws_len, hN.l2]; omega, by rw [kws_len, hN.l2]; omega, fun i v H9 hv bb9 hb9 => ?_⟩⟩
        obtain ⟨c, hc, rfl⟩ := kws_get hv
        k_extra "qq"
        refine ⟨by k_extra "sz", fun q0 nq0 => ?_⟩
        exact q q0 .tail c _ ((bb34.trans bb9).trans (But.new nq0)) (hb9.new nq0) upd_same (.inr (hN.g2 c hc)) (fun _ => .inr rfl)
end

/-! ### counts of a longer script -/
theorem cop_snoc (o : Op) : ∀ c : Sc, (c.snoc o).copies = c.copies + (if o.isCopy = true then 1 else 0)
  | .nil => by
    show (if o.isCopy = true then 1 else 0) + 0 = 0 + (if o.isCopy = true then 1 else 0)
    omega
  | .op p r => by
    show (if p.isCopy = true then 1 else 0) + (r.snoc o).copies = (if p.isCopy = true then 1 else 0) + r.copies + _
    rw [cop_snoc o r]
    omega
  | .ifs t a b r => by
    show a.copies + b.copies + (r.snoc o).copies = a.copies + b.copies + r.copies + _
    rw [cop_snoc o r]
    omega
theorem NoC.cop : ∀ {c : Sc}, NoC c → c.copies = 0
  | .nil, _ => rfl
  | .op o r, h => by
    show (if o.isCopy = true then 1 else 0) + r.copies = 0
    rw [h.1, NoC.cop h.2]
    rfl
  | .ifs _ _ _ _, h => h.elim
theorem adds_le : ∀ c : Sc, c.adds ≤ c.cnt
  | .nil => Nat.le_refl _
  | .op o r => by
    have := adds_le r
    show (if o.isAdd = true then 1 else 0) + r.adds ≤ 1 + r.cnt
    split <;> omega
  | .ifs t a b r => by
    have h1 := adds_le a
    have h2 := adds_le b
    have h3 := adds_le r
    show a.adds + b.adds + r.adds ≤ 1 + a.cnt + b.cnt + r.cnt
    omega

/-! ### literal values -/
inductive Lit where
  | non
  | bl (b : Bool)
  | int (i : Int)
  | str (z : Str)
  | mul (z : Str) (n : Nat)
  | tup (xs : List Lit)
  | lst (xs : List Lit)
mutual
def Lit.data : Lit → PyData
  | .non => .none
  | .bl b => .bool b
  | .int i => .int i
  | .str z => .str z
  | .mul z n => .str (Txt.mul z n)
  | .tup xs => .tuple (Lit.dataA xs)
  | .lst xs => .list (Lit.dataA xs)
def Lit.dataA : List Lit → List PyData
  | [] => []
  | x :: r => x.data :: Lit.dataA r
end
mutual
def Lit.te : Lit → TE
  | .non => tC .non
  | .bl b => tC (.bl b)
  | .int i => tC (.int i)
  | .str z => tC (.str z)
  | .mul z n => tOp rMulX (tC (.str z)) (tC (.int n))
  | .tup xs => tTup (Lit.ta xs)
  | .lst xs => tLst (Lit.ta xs)
def Lit.ta : List Lit → TA
  | [] => tNil
  | x :: r => tCons x.te (Lit.ta r)
end
mutual
def Lit.ok : Lit → Bool
  | .non => true
  | .bl _ => true
  | .int _ => true
  | .str _ => true
  | .mul z n => decide (z.length ≤ 1000) && decide (n ≤ 1000)
  | .tup xs => decide (xs.length ≤ 1000) && Lit.okA xs
  | .lst xs => decide (xs.length ≤ 1000) && Lit.okA xs
def Lit.okA : List Lit → Bool
  | [] => true
  | x :: r => x.ok && Lit.okA r
end
theorem Lit.lenA : ∀ xs : List Lit, (Lit.dataA xs).length = xs.length
  | [] => rfl
  | x :: r => by rw [Lit.dataA, List.length_cons, List.length_cons, Lit.lenA r]
mutual
theorem Lit.run {b : Addr} {l : List V} : ∀ (x : Lit) {σ : St} {H : Hp} {Q : VK}, x.ok = true → H b = some (.lst l) → (∀ v H', Same H H' → Dq b H' x.data v → Q v H') → x.te σ H Q
  | .non, σ, H, Q, _, _, q => q _ H (Same.refl H) (by rw [Lit.data]; exact Dq.non_mk)
  | .bl c, σ, H, Q, _, _, q => q _ H (Same.refl H) (by rw [Lit.data]; exact Dq.bl_mk c)
  | .int i, σ, H, Q, _, _, q => q _ H (Same.refl H) (by rw [Lit.data]; exact Dq.int_mk i)
  | .str z, σ, H, Q, _, _, q => q _ H (Same.refl H) (by rw [Lit.data]; exact Dq.str_mk z)
  | .mul z n, σ, H, Q, h, _, q => by
    simp only [Lit.ok, Bool.and_eq_true, decide_eq_true_eq] at h
    simp only [Lit.te]
    k_extra "rr"
    exact mulS h.1 (by omega) (by omega) (q _ H (Same.refl H) (by rw [Lit.data]; exact Dq.str_mk _))
  | .tup xs, σ, H, Q, h, hb, q => by
    simp only [Lit.ok, Bool.and_eq_true, decide_eq_true_eq] at h
    simp only [Lit.te]
    refine Rg.tup_ (Lit.runA xs h.2 hb fun vs H1 s1 h1 => ⟨?_, fun p np => q _ _ (s1.trans (same_upd np)) ?_⟩)
    · rw [h1.len, Lit.lenA, sizeLine_eq]
      omega
    · rw [Lit.data]
      exact Dq.tup_mk upd_same (h1.le (Le.new np))
  | .lst xs, σ, H, Q, h, hb, q => by
    simp only [Lit.ok, Bool.and_eq_true, decide_eq_true_eq] at h
    simp only [Lit.te]
    refine Rg.lst_ (Lit.runA xs h.2 hb fun vs H1 s1 h1 => ⟨?_, fun p np => q _ _ (s1.trans (same_upd np)) ?_⟩)
    · rw [h1.len, Lit.lenA, sizeLine_eq]
      omega
    · rw [Lit.data]
      exact Dq.lst_mk (ne_of_none (s1 _ _ hb) np).symm upd_same (h1.le (Le.new np))
theorem Lit.runA {b : Addr} {l : List V} : ∀ (xs : List Lit) {σ : St} {H : Hp} {QA : List V → Hp → Prop}, Lit.okA xs = true → H b = some (.lst l) → (∀ vs H', Same H H' → DqA b H' (Lit.dataA xs) vs → QA vs H') → Lit.ta xs σ H QA
  | [], σ, H, QA, _, _, q => q [] H (Same.refl H) (by rw [Lit.dataA]; exact .nil)
  | x :: r, σ, H, QA, h, hb, q => by
    simp only [Lit.okA, Bool.and_eq_true] at h
    simp only [Lit.ta]
    refine Rg.acons (Lit.run x h.1 hb fun v H1 s1 h1 => Lit.runA r h.2 (s1 _ _ hb) fun vs H2 s2 h2 => q _ _ (s1.trans s2) ?_)
    rw [Lit.dataA]
    exact .cons (h1.le (Le.same s2)) h2
end
theorem lit_of {K : PySem.W.Frag} {b r : Addr} {xs : List Lit} {t : TE} (et : (Lit.lst xs).te = t) {σ : St} {H : Hp} {Q : VK} (ok : (Lit.lst xs).ok = true) (h0 : 0 < xs.length) (hb : BagAt H b r) (q : ∀ v d H', d ∈ Lit.dataA xs → But b H H' → BagAt H' b r → Dq b H' d v → Q v H') :
    t σ H fun v H1 => tNil σ H1 fun xs H2 => spOf K (.ref b :: v :: xs) H2 Q E0 := by
  show t σ H fun v H1 => spOf K [.ref b, v] H1 Q E0
  rw [← et]
  obtain ⟨l, hl⟩ : ∃ l, H b = some (.lst l) := by
    obtain ⟨ns, i, c, m, h1, _⟩ := hb
    exact ⟨_, h1⟩
  have ok2 := ok
  simp only [Lit.ok, Bool.and_eq_true, decide_eq_true_eq] at ok2
  simp only [Lit.te]
  refine Rg.lst_ (Lit.runA xs ok2.2 hl fun vs H1 s1 h1 => ⟨?_, fun p np => ?_⟩)
  · rw [h1.len, Lit.lenA, sizeLine_eq]
    omega
  · have hb1 := (hb.same s1).new (o := .lst vs) np
    have len := h1.len
    rw [Lit.lenA] at len
    refine ⟨b, r, _, rfl, hb1, .inr ⟨p, vs, rfl, ((hb.same s1).ne_none np).1, SqL.of upd_same, by omega, by omega, fun i v H2 hv bb hb2 => ?_⟩⟩
    obtain ⟨d, ed, hd⟩ := h1.get hv
    have l1 : Le b (upd H1 p (.lst vs)) H2 := by
      obtain ⟨ns, i, c, m, e1, _⟩ := hb1
      exact Le.but bb e1
    exact q v d H2 (List.mem_of_getElem? ed) ((But.of_same (s1.trans (same_upd np))).trans bb) hb2 (hd.le ((Le.new np).trans l1))

/-! ### literals as a whole -/
def tLit (x : Lit) : TE := fun σ H Q => x.te σ H Q
theorem pe_litX {X : Cx} {e : Expr} {t : TE} (x : Lit) (h : x.te = t) (he : PE X e t) : PE X e (tLit x) := by
  subst h
  exact he
theorem lit_go {x : Lit} {b : Addr} {l : List V} {σ : St} {H : Hp} {Q : VK} (hb : H b = some (.lst l)) (ok : x.ok = true) (q : ∀ v H', Same H H' → Dq b H' x.data v → Q v H') : tLit x σ H Q := Lit.run x ok hb q
mutual
def eqPD : PyData → PyData → Bool
  | .none, .none => true
  | .bool a, .bool b => a == b
  | .int a, .int b => decide (a = b)
  | .str a, .str b => decide (a = b)
  | .list a, .list b => eqPA a b
  | .tuple a, .tuple b => eqPA a b
  | _, _ => false
def eqPA : List PyData → List PyData → Bool
  | [], [] => true
  | a :: r, b :: s => eqPD a b && eqPA r s
  | _, _ => false
end
mutual
theorem eqPD_eq : ∀ {a b : PyData}, eqPD a b = true → a = b
  | .none, b, h => by cases b <;> first | rfl | (simp [eqPD] at h)
  | .bool x, b, h => by cases b <;> first | (simp [eqPD] at h; done) | (simp only [eqPD, beq_iff_eq] at h; rw [h])
  | .int x, b, h => by cases b <;> first | (simp [eqPD] at h; done) | (simp only [eqPD, decide_eq_true_eq] at h; rw [h])
  | .str x, b, h => by cases b <;> first | (simp [eqPD] at h; done) | (simp only [eqPD, decide_eq_true_eq] at h; rw [h])
  | .list x, b, h => by
    cases b with
    | list y =>
      simp only [eqPD] at h
      rw [eqPA_eq h]
    | _ => simp [eqPD] at h
  | .tuple x, b, h => by
    cases b with
    | tuple y =>
      simp only [eqPD] at h
      rw [eqPA_eq h]
    | _ => simp [eqPD] at h
  | .dict x, b, h => by cases b <;> simp [eqPD] at h
theorem eqPA_eq : ∀ {a b : List PyData}, eqPA a b = true → a = b
  | [], b, h => by
    cases b with
    | nil => rfl
    | cons y s => simp [eqPA] at h
  | x :: r, b, h => by
    cases b with
    | nil => simp [eqPA] at h
    | cons y s =>
      simp only [eqPA, Bool.and_eq_true] at h
      rw [eqPD_eq h.1, eqPA_eq h.2]
end
theorem Dq.lstI {b : Addr} {H : Hp} {ds : List PyData} {v : V} (h : Dq b H (.list ds) v) : ∃ a l, v = .ref a ∧ a ≠ b ∧ H a = some (.lst l) ∧ DqA b H ds l := by simpa only [Dq] using h
theorem Le.own {D : Addr} {H : Hp} {l m : List V} (h : H D = some (.lst l)) : Le D H (upd H D (.lst m)) := ⟨fun c xs e => by
  rw [upd_ne fun z => by rw [z, h] at e; cases e]
  exact e, fun c l n e => by
  rw [upd_ne n]
  exact e⟩

/-! ### drawn lines: _law_look_line -/
theorem of1 {K : PySem.W.Frag} {H : Hp} {b r p a1 a2 a3 : Addr} {k1 k2 ts : List Wd} {Q : VK} {E : XK} (hb : BagAt H b r) (hN : NAt H b p a1 a2 a3 k1 k2 ts) (q : ∀ (c : Wd) (H' : Hp), GoodK c → But b H H' → BagAt H' b r → NAt H' b p a1 a2 a3 k1 k2 ts → Q (sS c) H') : spOf K [.ref b, .ref a1] H Q E :=
  ⟨b, r, _, rfl, hb, .inr ⟨a1, kws k1, rfl, hN.n1, SqL.of hN.h1, by rw [kws_len, hN.l1]; omega, by rw [kws_len, hN.l1]; omega, fun i v H9 hv bb9 hb9 => by
    obtain ⟨c, hc, rfl⟩ := kws_get hv
    exact q c H9 (hN.g1 c hc) bb9 hb9 (hN.but bb9)⟩⟩
theorem of2 {K : PySem.W.Frag} {H : Hp} {b r p a1 a2 a3 : Addr} {k1 k2 ts : List Wd} {Q : VK} {E : XK} (hb : BagAt H b r) (hN : NAt H b p a1 a2 a3 k1 k2 ts) (q : ∀ (c : Wd) (H' : Hp), GdC c → But b H H' → BagAt H' b r → NAt H' b p a1 a2 a3 k1 k2 ts → Q (sS c) H') : spOf K [.ref b, .ref a2] H Q E :=
  ⟨b, r, _, rfl, hb, .inr ⟨a2, kws k2, rfl, hN.n2, SqL.of hN.h2, by rw [kws_len, hN.l2]; omega, by rw [kws_len, hN.l2]; omega, fun i v H9 hv bb9 hb9 => by
    obtain ⟨c, hc, rfl⟩ := kws_get hv
    exact q c H9 (hN.g2 c hc) bb9 hb9 (hN.but bb9)⟩⟩
theorem of3 {K : PySem.W.Frag} {H : Hp} {b r p a1 a2 a3 : Addr} {k1 k2 ts : List Wd} {Q : VK} {E : XK} (hb : BagAt H b r) (hN : NAt H b p a1 a2 a3 k1 k2 ts) (q : ∀ (c : Wd) (H' : Hp), GdT c → But b H H' → BagAt H' b r → NAt H' b p a1 a2 a3 k1 k2 ts → Q (sS c) H') : spOf K [.ref b, .ref a3] H Q E :=
  ⟨b, r, _, rfl, hb, .inr ⟨a3, kws ts, rfl, hN.n3, SqL.of hN.h3, by rw [kws_len, hN.l3]; omega, by rw [kws_len, hN.l3]; omega, fun i v H9 hv bb9 hb9 => by
    obtain ⟨c, hc, rfl⟩ := kws_get hv
    exact q c H9 (hN.g3 c hc) bb9 hb9 (hN.but bb9)⟩⟩
theorem ofN {K : PySem.W.Frag} {H : Hp} {b r l : Addr} {xs : List V} {Q : VK} {E : XK} (hb : BagAt H b r) (nl : H l = none) (h1 : 0 < xs.length) (h2 : xs.length ≤ 1000) (q : ∀ (i : Nat) (v : V) (H' : Hp), xs[i]? = some v → But b H H' → BagAt H' b r → Q v H') : spOf K [.ref b, .ref l] (upd H l (.lst xs)) Q E :=
  ⟨b, r, _, rfl, hb.new nl, .inr ⟨l, xs, rfl, (fun z => by
    obtain ⟨m, hm⟩ := hb.lst
    rw [z, hm] at nl
    cases nl), SqL.of upd_same, h1, h2, fun i v H9 hv bb9 hb9 => q i v H9 hv ((But.new nl).trans bb9) hb9⟩⟩
def spLineL : Sp := fun vs H Q _ => ∃ (b r p a1 a2 a3 : Addr) (k1 k2 ts : List Wd), vs = [.ref b, .ref p] ∧ BagAt H b r ∧ NAt H b p a1 a2 a3 k1 k2 ts ∧
  ∀ (q : Addr) (o : Op) (H' : Hp), But b H H' → BagAt H' b r → H' q = some (.tup o.vs) → OpG o → OpN o → o.isCopy = false → o.isAdd = false → Q (.ref q) H'
section
variable {P : Program} {w : World} {K : PySem.W.Frag} {mg : Str → Option Value} {base : Heap} {f : Addr} {fd : FuncData}
theorem ok_law_look_line (F : Fun K "_law_look_line" "_law_look_line" s_law_look_line f fd) (T : Txt mg) (c_law_take : Cal P w K mg base 1 "_law_take" spTake) (c_law_of : Cal P w K mg base 2 "_law_of" (spOf K)) : FnOk P w K mg base CX0 3 f fd ["_law_bag_z", "_law_names_z"] spLineL := by
  refine F.ok sc_law_look_line (fun vs H Q E h => ?_) (fun cdv A outer s H vs Q E hr h => ?_)
  · obtain ⟨b, r, p, a1, a2, a3, k1, k2, ts, rfl, _⟩ := h
    rfl
  · obtain ⟨b, r, p, a1, a2, a3, k1, k2, ts, rfl, hb, hN, q⟩ := h
    refine ⟨_, (pss_cons (ps_par3 (i := 2) (j := 3) (l := 4) (by rfl) sc_law_look_line.nd rfl rfl rfl (by decide) (by decide) (by decide) rfl rfl rfl (pa_cons (pe_c c_law_of hr (by omega) (by rfl) (pa_cons (pv 0) (pa_cons (pe_lst (pa_cons pe_str (pa_cons pe_str (pa_cons pe_str (pa_cons pe_str (pa_cons pe_str (pa_cons pe_str pa_nil))))))) pa_nil))) (pa_cons (pe_c c_law_of hr (by omega) (by rfl) (pa_cons (pv 0) (pa_cons (pe_ix (ix_X K) (pv 1) pe_int (fun _ _ => rfl)) pa_nil))) (pa_cons (pe_c c_law_of hr (by omega) (by rfl) (pa_cons (pv 0) (pa_cons (pe_ix (ix_X K) (pv 1) pe_int (fun _ _ => rfl)) pa_nil))) pa_nil))) (by rfl))
      (pss_cons (ps_if (pt_cmpR (op_eqX K hr) (pv 2) pe_str (nomark _)) (pss_one (ps_ret (pe_tup (pa_cons (pv 2) (pa_cons (pv 3) (pa_cons (pv 4) (pa_cons (pe_c c_law_of hr (by omega) (by rfl) (pa_cons (pv 0) (pa_cons (pe_ix (ix_X K) (pv 1) pe_int (fun _ _ => rfl)) pa_nil))) (pa_cons (pe_c c_law_of hr (by omega) (by rfl) (pa_cons (pv 0) (pa_cons (pe_ix (ix_X K) (pv 1) pe_int (fun _ _ => rfl)) pa_nil))) pa_nil)))))))) pss_nil)
      (pss_cons (ps_if (PW.pt (pw_and (pt_cmpR (op_inX K) (pv 2) (pe_lst (pa_cons pe_str (pa_cons pe_str pa_nil))) (by rfl)) (pw_and1 (pt_cmpR op_gt (pe_c c_law_take hr (by omega) (by rfl) (pa_cons (pv 0) (pa_cons pe_int pa_nil))) pe_int (nomark _))))) (pss_one (ps_ret (pe_tup (pa_cons (pv 2) (pa_cons (pv 3) (pa_cons (pv 4) (pa_cons pe_str pa_nil))))))) pss_nil)
      (pss_one (ps_ret (pe_tup (pa_cons (pv 2) (pa_cons (pv 3) (pa_cons (pv 4) (pa_cons (pe_c c_law_of hr (by omega) (by rfl) (pa_cons (pv 0) (pa_cons (pe_ix (ix_X K) (pv 1) pe_int (fun _ _ => rfl)) pa_nil))) pa_nil)))))))))), ?_⟩
    change (_ : TS) _ [some (V.ref b), some (.ref p), none, none, none] _
    k_extra "rr"
    refine ⟨by k_extra "sz", fun l1 nl1 => ?_⟩
    k_extra "rr"
    refine ofN hb nl1 (by show 0 < 6; omega) (by show 6 ≤ 1000; omega) fun i v H1 hv bb1 hb1 => ?_
    have hN1 := hN.but bb1
    obtain ⟨lk, rfl⟩ : ∃ lk : Lk, v = .str lk.z := by
      match i, hv with
      | 0, hv => cases hv; exact ⟨.first, rfl⟩
      | 1, hv => cases hv; exact ⟨.last, rfl⟩
      | 2, hv => cases hv; exact ⟨.up, rfl⟩
      | 3, hv => cases hv; exact ⟨.over, rfl⟩
      | 4, hv => cases hv; exact ⟨.next, rfl⟩
      | 5, hv => cases hv; exact ⟨.back, rfl⟩
      | i + 6, hv => simp at hv
    clear hv
    k_extra "rr"
    refine ixL (SqL.of hN1.hp) (v := .ref a2) rfl ?_
    k_extra "rr"
    refine of2 hb1 hN1 fun cu H2 hcu bb2 hb2 hN2 => ?_
    k_extra "rr"
    refine ixL (SqL.of hN2.hp) (v := .ref a1) rfl ?_
    k_extra "rr"
    refine of1 hb2 hN2 fun kd H3 hkd bb3 hb3 hN3 => ?_
    have bb := (bb1.trans bb2).trans bb3
    have two : ∀ {lk : Lk} (g : OpG (.look lk cu kd [[]])) {H4 : Hp} {q0 : Addr}, But b H3 H4 → BagAt H4 b r → H4 q0 = none → Q (.ref q0) (upd H4 q0 (.tup [V.str lk.z, sS cu, sS kd, .str ""])) := fun {lk} g {H4 q0} b4 h4 n0 => by
      refine q q0 (.look lk cu kd [[]]) _ ((bb.trans b4).trans (But.new n0)) (h4.new n0) (upd_same.trans ?_) g trivial rfl rfl
      show _ = some (HO.tup [V.str lk.z, sS cu, sS kd, sS []])
      rw [sS_nil]
    cases lk with
    | over =>
      k_extra "qq"
      refine ixL (SqL.of hN3.hp) (v := .ref a2) rfl ?_
      k_extra "qq"
      refine of2 hb3 hN3 fun x H4 hx bb4 hb4 hN4 => ?_
      k_extra "qq"
      refine ixL (SqL.of hN4.hp) (v := .ref a2) rfl ?_
      k_extra "qq"
      refine of2 hb4 hN4 fun y H5 hy bb5 hb5 hN5 => ?_
      k_extra "qq"
      refine ⟨by k_extra "sz", fun q0 nq0 => ?_⟩
      exact q q0 (.look .over cu kd [x, y]) _ (((bb.trans bb4).trans bb5).trans (But.new nq0)) (hb5.new nq0) upd_same ⟨hcu, hkd, x, y, rfl, hx, hy⟩ trivial rfl rfl
    | first =>
      k_extra "qq"
      refine inLst true (by k_extra "sz") rfl rfl (by decide +kernel) fun p1 np1 => ?_
      have bb5 := bb.trans (But.new (b := b) (o := .lst [V.str "first", .str "last"]) np1)
      have hb5 := hb3.new (o := .lst [V.str "first", .str "last"]) np1
      have bn5 := But.new (b := b) (o := .lst [V.str "first", .str "last"]) np1
      have hN5 := hN3.but bn5
      generalize upd H3 p1 (.lst [V.str "first", .str "last"]) = H5 at bb5 hb5 hN5 bn5
      k_extra "qq"
      refine ⟨b, r, 3, rfl, hb5, by omega, by omega, fun k H6 bb6 hb6 k0 k3 => ?_⟩
      have hN6 := hN5.but bb6
      k_extra "qq"
      by_cases hk : 0 < k
      · rw [decide_eq_true hk]
        k_extra "qq"
        refine ⟨by k_extra "sz", fun q0 nq0 => ?_⟩
        exact two (lk := .first) ⟨hcu, hkd, [], rfl, .inl rfl⟩ (bn5.trans bb6) hb6 nq0
      · rw [decide_eq_false hk]
        k_extra "qq"
        refine ixL (SqL.of hN6.hp) (v := .ref a2) rfl ?_
        k_extra "qq"
        refine of2 hb6 hN6 fun x H7 hx bb7 hb7 hN7 => ?_
        k_extra "qq"
        refine ⟨by k_extra "sz", fun q0 nq0 => ?_⟩
        exact q q0 (.look .first cu kd [x]) _ (((bb5.trans bb6).trans bb7).trans (But.new nq0)) (hb7.new nq0) upd_same ⟨hcu, hkd, x, rfl, .inr hx⟩ trivial rfl rfl
    | last =>
      k_extra "qq"
      refine inLst true (by k_extra "sz") rfl rfl (by decide +kernel) fun p1 np1 => ?_
      have bb5 := bb.trans (But.new (b := b) (o := .lst [V.str "first", .str "last"]) np1)
      have hb5 := hb3.new (o := .lst [V.str "first", .str "last"]) np1
      have bn5 := But.new (b := b) (o := .lst [V.str "first", .str "last"]) np1
      have hN5 := hN3.but bn5
      generalize upd H3 p1 (.lst [V.str "first", .str "last"]) = H5 at bb5 hb5 hN5 bn5
      k_extra "qq"
      refine ⟨b, r, 3, rfl, hb5, by omega, by omega, fun k H6 bb6 hb6 k0 k3 => ?_⟩
      have hN6 := hN5.but bb6
      k_extra "qq"
      by_cases hk : 0 < k
      · rw [decide_eq_true hk]
        k_extra "qq"
        refine ⟨by k_extra "sz", fun q0 nq0 => ?_⟩
        exact two (lk := .last) ⟨hcu, hkd, [], rfl, .inl rfl⟩ (bn5.trans bb6) hb6 nq0
      · rw [decide_eq_false hk]
        k_extra "qq"
        refine ixL (SqL.of hN6.hp) (v := .ref a2) rfl ?_
        k_extra "qq"
        refine of2 hb6 hN6 fun x H7 hx bb7 hb7 hN7 => ?_
        k_extra "qq"
        refine ⟨by k_extra "sz", fun q0 nq0 => ?_⟩
        exact q q0 (.look .last cu kd [x]) _ (((bb5.trans bb6).trans bb7).trans (But.new nq0)) (hb7.new nq0) upd_same ⟨hcu, hkd, x, rfl, .inr hx⟩ trivial rfl rfl
    | up =>
      k_extra "qq"
      refine inLst false (by k_extra "sz") rfl rfl (by decide +kernel) fun p1 np1 => ?_
      have bb5 := bb.trans (But.new (b := b) (o := .lst [V.str "first", .str "last"]) np1)
      have hb5 := hb3.new (o := .lst [V.str "first", .str "last"]) np1
      have hN5 := hN3.but (But.new (b := b) (o := .lst [V.str "first", .str "last"]) np1)
      generalize upd H3 p1 (.lst [V.str "first", .str "last"]) = H5 at bb5 hb5 hN5
      k_extra "qq"
      refine ixL (SqL.of hN5.hp) (v := .ref a2) rfl ?_
      k_extra "qq"
      refine of2 hb5 hN5 fun x H7 hx bb7 hb7 hN7 => ?_
      k_extra "qq"
      refine ⟨by k_extra "sz", fun q0 nq0 => ?_⟩
      exact q q0 (.look .up cu kd [x]) _ ((bb5.trans bb7).trans (But.new nq0)) (hb7.new nq0) upd_same ⟨hcu, hkd, x, rfl, hx⟩ trivial rfl rfl
    | next =>
      k_extra "qq"
      refine inLst false (by k_extra "sz") rfl rfl (by decide +kernel) fun p1 np1 => ?_
      have bb5 := bb.trans (But.new (b := b) (o := .lst [V.str "first", .str "last"]) np1)
      have hb5 := hb3.new (o := .lst [V.str "first", .str "last"]) np1
      have hN5 := hN3.but (But.new (b := b) (o := .lst [V.str "first", .str "last"]) np1)
      generalize upd H3 p1 (.lst [V.str "first", .str "last"]) = H5 at bb5 hb5 hN5
      k_extra "qq"
      refine ixL (SqL.of hN5.hp) (v := .ref a2) rfl ?_
      k_extra "qq"
      refine of2 hb5 hN5 fun x H7 hx bb7 hb7 hN7 => ?_
      k_extra "qq"
      refine ⟨by k_extra "sz", fun q0 nq0 => ?_⟩
      exact q q0 (.look .next cu kd [x]) _ ((bb5.trans bb7).trans (But.new nq0)) (hb7.new nq0) upd_same ⟨hcu, hkd, x, rfl, hx⟩ trivial rfl rfl
    | back =>
      k_extra "qq"
      refine inLst false (by k_extra "sz") rfl rfl (by decide +kernel) fun p1 np1 => ?_
      have bb5 := bb.trans (But.new (b := b) (o := .lst [V.str "first", .str "last"]) np1)
      have hb5 := hb3.new (o := .lst [V.str "first", .str "last"]) np1
      have hN5 := hN3.but (But.new (b := b) (o := .lst [V.str "first", .str "last"]) np1)
      generalize upd H3 p1 (.lst [V.str "first", .str "last"]) = H5 at bb5 hb5 hN5
      k_extra "qq"
      refine ixL (SqL.of hN5.hp) (v := .ref a2) rfl ?_
      k_extra "qq"
      refine of2 hb5 hN5 fun x H7 hx bb7 hb7 hN7 => ?_
      k_extra "qq"
      refine ⟨by k_extra "sz", fun q0 nq0 => ?_⟩
      exact q q0 (.look .back cu kd [x]) _ ((bb5.trans bb7).trans (But.new nq0)) (hb7.new nq0) upd_same ⟨hcu, hkd, x, rfl, hx⟩ trivial rfl rfl
end

/-! ### scripts put together -/
def Sc.app : Sc → Sc → Sc
  | .nil, d => d
  | .op o r, d => .op o (r.app d)
  | .ifs t a b r, d => .ifs t a b (r.app d)
theorem ScAt.app {H : Hp} {d : Sc} {ys : List V} (hd : ScAt H d ys) : ∀ {c : Sc} {xs : List V}, ScAt H c xs → ScAt H (c.app d) (xs ++ ys)
  | .nil, xs, h => by
    rw [show xs = [] from h]
    exact hd
  | .op p r, xs, ⟨a, xs', e, h, hr⟩ => by
    rw [e]
    exact ⟨a, xs' ++ ys, rfl, h, ScAt.app hd hr⟩
  | .ifs t a b r, xs, ⟨p, pt, pa, pb, ya, yb, xs', e, h1, h2, h3, h4, h5, h6, h7⟩ => by
    rw [e]
    exact ⟨p, pt, pa, pb, ya, yb, xs' ++ ys, rfl, h1, h2, h3, h4, h5, h6, ScAt.app hd h7⟩
theorem ScG.app {d : Sc} : ∀ {n : Nat} {c : Sc}, ScG n d → ScG n c → ScG n (c.app d)
  | n, .nil, hd, _ => hd
  | 0, .op p r, hd, h => ⟨h.1, h.2.1, ScG.app (c := r) hd h.2.2⟩
  | n + 1, .op p r, hd, h => ⟨h.1, h.2.1, ScG.app (c := r) hd h.2.2⟩
  | 0, .ifs t a b r, hd, h => h.elim
  | n + 1, .ifs t a b r, hd, h => ⟨h.1, h.2.1, h.2.2.1, ScG.app (c := r) hd h.2.2.2⟩
theorem ScG.op1 {n : Nat} {o : Op} (h1 : OpG o) (h2 : OpN o) : ScG n (.op o .nil) := by
  cases n <;> exact ⟨h1, h2, trivial⟩
theorem ScG.ifs1 {n : Nat} {t : Ts} {a b : Sc} (h1 : TsG t) (h2 : ScG n a) (h3 : ScG n b) : ScG (n + 1) (.ifs t a b .nil) := ⟨h1, h2, h3, trivial⟩
theorem ScAt.op1 {H : Hp} {q : Addr} {o : Op} (hq : H q = some (.tup o.vs)) : ScAt H (.op o .nil) [.ref q] := ⟨q, [], rfl, hq, rfl⟩
theorem ScAt.ifs1 {H : Hp} {p pt pa pb : Addr} {t : Ts} {a b : Sc} {ya yb : List V} (hp : H p = some (.tup [.str "if", .ref pt, .ref pa, .ref pb])) (ht : H pt = some (.tup t.vs)) (h1 : H pa = some (.tup ya)) (h2 : ScAt H a ya) (h3 : H pb = some (.tup yb)) (h4 : ScAt H b yb) : ScAt H (.ifs t a b .nil) [.ref p] :=
  ⟨p, pt, pa, pb, ya, yb, [], rfl, hp, ht, h1, h2, h3, h4, rfl⟩
theorem cnt_app (d : Sc) : ∀ c : Sc, (c.app d).cnt = c.cnt + d.cnt
  | .nil => by
    show d.cnt = 0 + d.cnt
    omega
  | .op p r => by
    show 1 + (r.app d).cnt = 1 + r.cnt + d.cnt
    rw [cnt_app d r]
    omega
  | .ifs t a b r => by
    show 1 + a.cnt + b.cnt + (r.app d).cnt = 1 + a.cnt + b.cnt + r.cnt + d.cnt
    rw [cnt_app d r]
    omega
theorem cop_app (d : Sc) : ∀ c : Sc, (c.app d).copies = c.copies + d.copies
  | .nil => by
    show d.copies = 0 + d.copies
    omega
  | .op p r => by
    show (if p.isCopy = true then 1 else 0) + (r.app d).copies = (if p.isCopy = true then 1 else 0) + r.copies + d.copies
    rw [cop_app d r]
    omega
  | .ifs t a b r => by
    show a.copies + b.copies + (r.app d).copies = a.copies + b.copies + r.copies + d.copies
    rw [cop_app d r]
    omega
theorem adds_app (d : Sc) : ∀ c : Sc, (c.app d).adds = c.adds + d.adds
  | .nil => by
    show d.adds = 0 + d.adds
    omega
  | .op p r => by
    show (if p.isAdd = true then 1 else 0) + (r.app d).adds = (if p.isAdd = true then 1 else 0) + r.adds + d.adds
    rw [adds_app d r]
    omega
  | .ifs t a b r => by
    show a.adds + b.adds + (r.app d).adds = a.adds + b.adds + r.adds + d.adds
    rw [adds_app d r]
    omega

/-! ### drawn lines: _law_deed_line, _law_test_line, _law_lines (without ifs) -/
def spDeedL : Sp := fun vs H Q _ => ∃ (b r p a1 a2 a3 : Addr) (k1 k2 ts : List Wd) (cb : Bool), vs = [.ref b, .ref p, .bl cb] ∧ BagAt H b r ∧ NAt H b p a1 a2 a3 k1 k2 ts ∧
  ∀ (q : Addr) (o : Op) (H' : Hp), But b H H' → BagAt H' b r → H' q = some (.tup o.vs) → OpG o → OpN o → (o.isCopy = true → cb = true) → Q (.ref q) H'
def spTestL : Sp := fun vs H Q _ => ∃ (b r p a1 a2 a3 : Addr) (k1 k2 ts : List Wd), vs = [.ref b, .ref p] ∧ BagAt H b r ∧ NAt H b p a1 a2 a3 k1 k2 ts ∧
  ∀ (q : Addr) (t : Ts) (H' : Hp), But b H H' → BagAt H' b r → H' q = some (.tup t.vs) → TsG t → Q (.ref q) H'
section
variable {P : Program} {w : World} {K : PySem.W.Frag} {mg : Str → Option Value} {base : Heap} {f : Addr} {fd : FuncData}
theorem ok_law_deed_line (F : Fun K "_law_deed_line" "_law_deed_line" s_law_deed_line f fd) (T : Txt mg) (c_law_take : Cal P w K mg base 1 "_law_take" spTake) (c_law_of : Cal P w K mg base 2 "_law_of" (spOf K)) (c_law_place : Cal P w K mg base 3 "_law_place" spPlaceL) : FnOk P w K mg base CX0 4 f fd ["_law_bag_z", "_law_names_z", "_law_copies"] spDeedL := by
  refine F.ok sc_law_deed_line (fun vs H Q E h => ?_) (fun cdv A outer s H vs Q E hr h => ?_)
  · obtain ⟨b, r, p, a1, a2, a3, k1, k2, ts, cb, rfl, _⟩ := h
    rfl
  · obtain ⟨b, r, p, a1, a2, a3, k1, k2, ts, cb, rfl, hb, hN, q⟩ := h
    refine ⟨_, (pss_cons (ps_asg (pe_tup (pa_cons (pe_c c_law_of hr (by omega) (by rfl) (pa_cons (pv 0) (pa_cons (pe_ix (ix_X K) (pv 1) pe_int (fun _ _ => rfl)) pa_nil))) (pa_cons (pe_c c_law_of hr (by omega) (by rfl) (pa_cons (pv 0) (pa_cons (pe_ix (ix_X K) (pv 1) pe_int (fun _ _ => rfl)) pa_nil))) (pa_cons (pe_c c_law_of hr (by omega) (by rfl) (pa_cons (pv 0) (pa_cons (pe_ix (ix_X K) (pv 1) pe_int (fun _ _ => rfl)) pa_nil))) (pa_cons (pe_c c_law_of hr (by omega) (by rfl) (pa_cons (pv 0) (pa_cons (pe_ix (ix_X K) (pv 1) pe_int (fun _ _ => rfl)) pa_nil))) pa_nil))))) (pg_tupX K (pg_tup (n := 4) (by rfl) (pgs_cons (pg_name (i := 3) sc_law_deed_line.nd rfl (.inl rfl)) (pgs_cons (pg_name (i := 4) sc_law_deed_line.nd rfl (.inl rfl)) (pgs_cons (pg_name (i := 5) sc_law_deed_line.nd rfl (.inl rfl)) (pgs_cons (pg_name (i := 6) sc_law_deed_line.nd rfl (.inl rfl)) pgs_nil)))))))
      (pss_cons (ps_set (i := 7) sc_law_deed_line.nd rfl (.inl rfl) (pe_c c_law_take hr (by omega) (by rfl) (pa_cons (pv 0) (pa_cons pe_int pa_nil))))
      (pss_cons (ps_if (pt_cmpR op_lt (pv 7) pe_int (nomark _)) (pss_one (ps_ret (pe_op (op_addX K) (pe_tup (pa_cons pe_str (pa_cons (pv 3) (pa_cons (pv 5) (pa_cons (pv 6) pa_nil))))) (pe_c c_law_place hr (by omega) (by rfl) (pa_cons (pv 0) (pa_cons (pv 1) pa_nil)))))) pss_nil)
      (pss_cons (ps_if (pt_cmpR op_lt (pv 7) pe_int (nomark _)) (pss_one (ps_ret (pe_op (op_addX K) (pe_tup (pa_cons pe_str (pa_cons (pv 3) pa_nil))) (pe_c c_law_place hr (by omega) (by rfl) (pa_cons (pv 0) (pa_cons (pv 1) pa_nil)))))) pss_nil)
      (pss_cons (ps_if (PW.pt (pw_and (pt_cmpR (op_eqX K hr) (pv 7) pe_int (nomark _)) (pw_and1 (pt_val (pv 2))))) (pss_one (ps_ret (pe_op (op_addX K) (pe_tup (pa_cons pe_str (pa_cons (pv 3) (pa_cons (pv 4) pa_nil)))) (pe_c c_law_place hr (by omega) (by rfl) (pa_cons (pv 0) (pa_cons (pv 1) pa_nil)))))) pss_nil)
      (pss_cons (ps_if (pt_cmpR op_lt (pv 7) pe_int (nomark _)) (pss_one (ps_ret (pe_tup (pa_cons pe_str (pa_cons (pv 3) (pa_cons (pv 4) (pa_cons (pv 5) (pa_cons (pv 6) pa_nil)))))))) pss_nil)
      (pss_cons (ps_if (pt_cmpR op_lt (pv 7) pe_int (nomark _)) (pss_one (ps_ret (pe_tup (pa_cons (pe_ix (ix_X K) (pe_lst (pa_cons pe_str (pa_cons pe_str pa_nil))) (pe_op op_sub (pv 7) pe_int) (fun _ _ => rfl)) (pa_cons (pv 3) pa_nil))))) pss_nil)
      (pss_cons (ps_if (pt_cmpR (op_eqX K hr) (pv 7) pe_int (nomark _)) (pss_one (ps_ret (pe_tup (pa_cons pe_str (pa_cons (pv 3) (pa_cons (pv 5) pa_nil)))))) pss_nil)
      (pss_one (ps_ret (pe_ifExp (pt_cmpR (op_eqX K hr) (pv 7) pe_int (nomark _)) (pe_tup (pa_cons pe_str (pa_cons (pv 3) (pa_cons (pv 6) pa_nil)))) (pe_tup (pa_cons pe_str pa_nil))))))))))))), ?_⟩
    change (_ : TS) _ [some (V.ref b), some (.ref p), some (.bl cb), none, none, none, none, none] _
    have hp0 := hN.hp
    k_extra "rr"
    refine of2 hb hN fun c1 H1 hc1 bb1 hb1 hN1 => ?_
    have hp1 := hN1.hp
    k_extra "rr"
    refine of2 hb1 hN1 fun c2 H2 hc2 bb2 hb2 hN2 => ?_
    have hp2 := hN2.hp
    k_extra "rr"
    refine of1 hb2 hN2 fun kd H3 hkd bb3 hb3 hN3 => ?_
    have hp3 := hN3.hp
    k_extra "rr"
    refine of3 hb3 hN3 fun tx H4 htx bb4 hb4 hN4 => ?_
    k_extra "rr"
    refine ⟨by k_extra "sz", fun tq ntq => ?_⟩
    have sq := same_upd (o := .tup [sS c1, sS c2, sS kd, sS tx]) ntq
    have htq : upd H4 tq (.tup [sS c1, sS c2, sS kd, sS tx]) tq = some (.tup [sS c1, sS c2, sS kd, sS tx]) := upd_same
    have hbq := hb4.new (o := .tup [sS c1, sS c2, sS kd, sS tx]) ntq
    generalize upd H4 tq (.tup [sS c1, sS c2, sS kd, sS tx]) = Hq at sq htq hbq
    have hNq := hN4.but (But.of_same sq)
    have bbq := (((bb1.trans bb2).trans bb3).trans bb4).trans (But.of_same sq)
    clear hp0 hp1 hp2 hp3 hN hN1 hN2 hN3 hN4 hb1 hb2 hb3 hb4 hb bb1 bb2 bb3 bb4 sq
    k_extra "rr"
    refine ⟨b, r, 12, rfl, hbq, by omega, by omega, fun way H5 bb5' hb5 w0 w1 => ?_⟩
    have hN5 := hNq.but bb5'
    have bb5 := bbq.trans bb5'
    clear htq hNq hbq bbq bb5'
    k_extra "rr"
    by_cases h3 : way < 3
    · rw [decide_eq_true h3]
      k_extra "rr"
      refine ⟨by k_extra "sz", fun l1' nl1 => ?_⟩
      have s11 := same_upd (o := .tup [V.str "put", sS c1, sS kd, sS tx]) nl1
      have hl11 : upd H5 l1' (.tup [V.str "put", sS c1, sS kd, sS tx]) l1' = some (.tup [V.str "put", sS c1, sS kd, sS tx]) := upd_same
      have hb11 := hb5.new (o := .tup [V.str "put", sS c1, sS kd, sS tx]) nl1
      generalize upd H5 l1' (.tup [V.str "put", sS c1, sS kd, sS tx]) = H11 at s11 hl11 hb11
      have hN11 := hN5.but (But.of_same s11)
      have bb711 := bb5.trans (But.of_same s11)
      k_extra "rr"
      refine ⟨b, r, p, a1, a2, a3, k1, k2, ts, rfl, hb11, hN11, fun qp pw bs H12 bb12 hb12 hqp hgb hpb => ?_⟩
      have t12 := but_tup bb12 hb11
      have bb712 := bb711.trans bb12
      refine addT (t12 _ _ hl11) hqp (by show 4 + 2 ≤ sizeLine; rw [sizeLine_eq]; omega) fun ln H13 s13 hln => ?_
      have hln : H13 ln = some (.tup (Op.put c1 kd tx pw bs).vs) := hln
      k_extra "rr"
      exact q ln (Op.put c1 kd tx pw bs) H13 (bb712.trans (But.of_same s13)) (hb12.same s13) hln ⟨hc1, hkd, htx, hgb, hpb⟩ trivial (fun z => by cases z)
    · rw [decide_eq_false h3]
      k_extra "rr"
      by_cases h5 : way < 5
      · rw [decide_eq_true h5]
        k_extra "rr"
        refine ⟨by k_extra "sz", fun l1' nl1 => ?_⟩
        have s11 := same_upd (o := .tup [V.str "move", sS c1]) nl1
        have hl11 : upd H5 l1' (.tup [V.str "move", sS c1]) l1' = some (.tup [V.str "move", sS c1]) := upd_same
        have hb11 := hb5.new (o := .tup [V.str "move", sS c1]) nl1
        generalize upd H5 l1' (.tup [V.str "move", sS c1]) = H11 at s11 hl11 hb11
        have hN11 := hN5.but (But.of_same s11)
        have bb711 := bb5.trans (But.of_same s11)
        k_extra "rr"
        refine ⟨b, r, p, a1, a2, a3, k1, k2, ts, rfl, hb11, hN11, fun qp pw bs H12 bb12 hb12 hqp hgb hpb => ?_⟩
        have t12 := but_tup bb12 hb11
        have bb712 := bb711.trans bb12
        refine addT (t12 _ _ hl11) hqp (by show 2 + 2 ≤ sizeLine; rw [sizeLine_eq]; omega) fun ln H13 s13 hln => ?_
        have hln : H13 ln = some (.tup (Op.move c1 pw bs).vs) := hln
        k_extra "rr"
        exact q ln (Op.move c1 pw bs) H13 (bb712.trans (But.of_same s13)) (hb12.same s13) hln ⟨hc1, hgb, hpb⟩ trivial (fun z => by cases z)
      · rw [decide_eq_false h5]
        k_extra "rr"
        have wrapc : ∀ (Q2 : VK), (∀ v H', Q v H' → Q2 v H') → True := fun _ _ => trivial
        by_cases h6 : way = 5
        · rw [decide_eq_true h6]
          k_extra "rr"
          cases cb with
          | true =>
            k_extra "rr"
            refine ⟨by k_extra "sz", fun l1' nl1 => ?_⟩
            have s11 := same_upd (o := .tup [V.str "copy", sS c1, sS c2]) nl1
            have hl11 : upd H5 l1' (.tup [V.str "copy", sS c1, sS c2]) l1' = some (.tup [V.str "copy", sS c1, sS c2]) := upd_same
            have hb11 := hb5.new (o := .tup [V.str "copy", sS c1, sS c2]) nl1
            generalize upd H5 l1' (.tup [V.str "copy", sS c1, sS c2]) = H11 at s11 hl11 hb11
            have hN11 := hN5.but (But.of_same s11)
            have bb711 := bb5.trans (But.of_same s11)
            k_extra "rr"
            refine ⟨b, r, p, a1, a2, a3, k1, k2, ts, rfl, hb11, hN11, fun qp pw bs H12 bb12 hb12 hqp hgb hpb => ?_⟩
            have t12 := but_tup bb12 hb11
            have bb712 := bb711.trans bb12
            refine addT (t12 _ _ hl11) hqp (by show 3 + 2 ≤ sizeLine; rw [sizeLine_eq]; omega) fun ln H13 s13 hln => ?_
            have hln : H13 ln = some (.tup (Op.copy c1 c2 pw bs).vs) := hln
            k_extra "rr"
            exact q ln (Op.copy c1 c2 pw bs) H13 (bb712.trans (But.of_same s13)) (hb12.same s13) hln ⟨hc1, hc2, hgb, hpb⟩ trivial (fun _ => rfl)
          | false =>
            k_extra "rr"
            rw [decide_eq_true (show way < 7 by omega)]
            k_extra "rr"
            refine ⟨by k_extra "sz", fun ln nln => ?_⟩
            k_extra "rr"
            exact q ln (Op.wrap c1 c2 kd tx) _ (bb5.trans (But.new nln)) (hb5.new nln) upd_same ⟨hc1, hc2, hkd, htx⟩ trivial (fun z => by cases z)
        · rw [decide_eq_false h6]
          k_extra "rr"
          by_cases h7 : way < 7
          · rw [decide_eq_true h7]
            k_extra "rr"
            refine ⟨by k_extra "sz", fun ln nln => ?_⟩
            k_extra "rr"
            exact q ln (Op.wrap c1 c2 kd tx) _ (bb5.trans (But.new nln)) (hb5.new nln) upd_same ⟨hc1, hc2, hkd, htx⟩ trivial (fun z => by cases z)
          · rw [decide_eq_false h7]
            k_extra "rr"
            by_cases h9 : way < 9
            · rw [decide_eq_true h9]
              k_extra "rr"
              refine ⟨by k_extra "sz", fun lw nlw => ?_⟩
              have sw := same_upd (o := .lst [V.str "lift", .str "strike"]) nlw
              have hlw : upd H5 lw (.lst [V.str "lift", .str "strike"]) lw = some (.lst [V.str "lift", .str "strike"]) := upd_same
              have hbw := hb5.new (o := .lst [V.str "lift", .str "strike"]) nlw
              generalize upd H5 lw (.lst [V.str "lift", .str "strike"]) = Hw at sw hlw hbw
              have bbw := bb5.trans (But.of_same sw)
              k_extra "rr"
              by_cases h77 : way = 7
              · subst h77
                refine ixL (SqL.of hlw) (v := .str "lift") rfl ?_
                k_extra "rr"
                refine ⟨by k_extra "sz", fun ln nln => ?_⟩
                k_extra "rr"
                exact q ln (Op.lift c1) _ (bbw.trans (But.new nln)) (hbw.new nln) upd_same hc1 trivial (fun z => by cases z)
              · obtain rfl : way = 8 := by omega
                refine ixL (SqL.of hlw) (v := .str "strike") rfl ?_
                k_extra "rr"
                refine ⟨by k_extra "sz", fun ln nln => ?_⟩
                k_extra "rr"
                exact q ln (Op.strike c1) _ (bbw.trans (But.new nln)) (hbw.new nln) upd_same hc1 trivial (fun z => by cases z)
            · rw [decide_eq_false h9]
              k_extra "rr"
              by_cases h10 : way = 9
              · rw [decide_eq_true h10]
                k_extra "rr"
                refine ⟨by k_extra "sz", fun ln nln => ?_⟩
                k_extra "rr"
                exact q ln (Op.kind c1 kd) _ (bb5.trans (But.new nln)) (hb5.new nln) upd_same ⟨hc1, hkd⟩ trivial (fun z => by cases z)
              · rw [decide_eq_false h10]
                k_extra "rr"
                by_cases h11 : way = 10
                · rw [decide_eq_true h11]
                  k_extra "rr"
                  refine ⟨by k_extra "sz", fun ln nln => ?_⟩
                  k_extra "rr"
                  exact q ln (Op.text c1 tx) _ (bb5.trans (But.new nln)) (hb5.new nln) upd_same ⟨hc1, htx⟩ trivial (fun z => by cases z)
                · rw [decide_eq_false h11]
                  k_extra "rr"
                  refine ⟨by k_extra "sz", fun ln nln => ?_⟩
                  k_extra "rr"
                  exact q ln Op.fresh _ (bb5.trans (But.new nln)) (hb5.new nln) upd_same trivial trivial (fun z => by cases z)
theorem ok_law_test_line (F : Fun K "_law_test_line" "_law_test_line" s_law_test_line f fd) (T : Txt mg) (c_law_of : Cal P w K mg base 2 "_law_of" (spOf K)) : FnOk P w K mg base CX0 3 f fd ["_law_bag_z", "_law_names_z"] spTestL := by
  refine F.ok sc_law_test_line (fun vs H Q E h => ?_) (fun cdv A outer s H vs Q E hr h => ?_)
  · obtain ⟨b, r, p, a1, a2, a3, k1, k2, ts, rfl, _⟩ := h
    rfl
  · obtain ⟨b, r, p, a1, a2, a3, k1, k2, ts, rfl, hb, hN, q⟩ := h
    refine ⟨_, (pss_cons (ps_par3 (i := 2) (j := 3) (l := 4) (by rfl) sc_law_test_line.nd rfl rfl rfl (by decide) (by decide) (by decide) rfl rfl rfl (pa_cons (pe_c c_law_of hr (by omega) (by rfl) (pa_cons (pv 0) (pa_cons (pe_lst (pa_cons pe_str (pa_cons pe_str (pa_cons pe_str (pa_cons pe_str (pa_cons pe_str pa_nil)))))) pa_nil))) (pa_cons (pe_c c_law_of hr (by omega) (by rfl) (pa_cons (pv 0) (pa_cons (pe_ix (ix_X K) (pv 1) pe_int (fun _ _ => rfl)) pa_nil))) (pa_cons (pe_c c_law_of hr (by omega) (by rfl) (pa_cons (pv 0) (pa_cons (pe_ix (ix_X K) (pv 1) pe_int (fun _ _ => rfl)) pa_nil))) pa_nil))) (by rfl))
      (pss_cons (ps_if (pt_cmpR (op_eqX K hr) (pv 2) pe_str (nomark _)) (pss_one (ps_ret (pe_tup (pa_cons (pv 2) (pa_cons (pv 3) pa_nil))))) pss_nil)
      (pss_one (ps_ret (pe_ifExp (pt_cmpR (op_eqX K hr) (pv 2) pe_str (nomark _)) (pe_tup (pa_cons (pv 2) (pa_cons (pv 3) (pa_cons (pe_c c_law_of hr (by omega) (by rfl) (pa_cons (pv 0) (pa_cons (pe_ix (ix_X K) (pv 1) pe_int (fun _ _ => rfl)) pa_nil))) pa_nil)))) (pe_tup (pa_cons (pv 2) (pa_cons (pv 3) (pa_cons (pv 4) pa_nil))))))))), ?_⟩
    change (_ : TS) _ [some (V.ref b), some (.ref p), none, none, none] _
    k_extra "rr"
    refine ⟨by k_extra "sz", fun l1 nl1 => ?_⟩
    k_extra "rr"
    refine ofN hb nl1 (by show 0 < 5; omega) (by show 5 ≤ 1000; omega) fun i v H1 hv bb1 hb1 => ?_
    have hN1 := hN.but bb1
    have hp1 := hN1.hp
    have hv5 : v = .str "there" ∨ v = .str "is" ∨ v = .str "above" ∨ v = .str "ahead" ∨ v = .str "kind" := by
      match i, hv with
      | 0, hv => cases hv; exact .inl rfl
      | 1, hv => cases hv; exact .inr (.inl rfl)
      | 2, hv => cases hv; exact .inr (.inr (.inl rfl))
      | 3, hv => cases hv; exact .inr (.inr (.inr (.inl rfl)))
      | 4, hv => cases hv; exact .inr (.inr (.inr (.inr rfl)))
      | i + 5, hv => simp at hv
    clear hv
    k_extra "rr"
    refine of2 hb1 hN1 fun c1 H2 hc1 bb2 hb2 hN2 => ?_
    have hp2 := hN2.hp
    k_extra "rr"
    refine of2 hb2 hN2 fun c2 H3 hc2 bb3 hb3 hN3 => ?_
    have hp3 := hN3.hp
    have bb := (bb1.trans bb2).trans bb3
    clear hp1 hp2 hN hN1 hN2 hb hb1 hb2 bb1 bb2 bb3
    rcases hv5 with rfl | rfl | rfl | rfl | rfl
    · k_extra "qq"
      refine ⟨by k_extra "sz", fun ln nln => ?_⟩
      k_extra "qq"
      exact q ln (Ts.there c1) _ (bb.trans (But.new nln)) (hb3.new nln) upd_same hc1
    · k_extra "qq"
      refine ⟨by k_extra "sz", fun ln nln => ?_⟩
      k_extra "qq"
      exact q ln (Ts.is c1 c2) _ (bb.trans (But.new nln)) (hb3.new nln) upd_same ⟨hc1, hc2⟩
    · k_extra "qq"
      refine ⟨by k_extra "sz", fun ln nln => ?_⟩
      k_extra "qq"
      exact q ln (Ts.above c1 c2) _ (bb.trans (But.new nln)) (hb3.new nln) upd_same ⟨hc1, hc2⟩
    · k_extra "qq"
      refine ⟨by k_extra "sz", fun ln nln => ?_⟩
      k_extra "qq"
      exact q ln (Ts.ahead c1 c2) _ (bb.trans (But.new nln)) (hb3.new nln) upd_same ⟨hc1, hc2⟩
    · k_extra "qq"
      refine of1 hb3 hN3 fun kd H4 hkd bb4 hb4 hN4 => ?_
      k_extra "qq"
      refine ⟨by k_extra "sz", fun ln nln => ?_⟩
      k_extra "qq"
      exact q ln (Ts.kind c1 kd) _ ((bb.trans bb4).trans (But.new nln)) (hb4.new nln) upd_same ⟨hc1, hkd⟩
def spLinesL0 : Sp := fun vs H Q _ => ∃ (b r p a1 a2 a3 : Addr) (k1 k2 ts : List Wd) (many : Nat) (looks : Int), vs = [.ref b, .ref p, .int many, .int looks, .int 0] ∧ many ≤ 7 ∧ BagAt H b r ∧ NAt H b p a1 a2 a3 k1 k2 ts ∧
  ∀ (q : Addr) (xs : List V) (c : Sc) (H' : Hp), But b H H' → BagAt H' b r → H' q = some (.tup xs) → ScAt H' c xs → ScG 0 c → c.cnt ≤ many → c.copies = 0 → Q (.ref q) H'
theorem ok_law_lines0 (F : Fun K "_law_lines" "_law_lines" s_law_lines f fd) (T : Txt mg) (c_law_take : Cal P w K mg base 1 "_law_take" spTake) (c_law_look_line : Cal P w K mg base 3 "_law_look_line" spLineL) (c_law_deed_line : Cal P w K mg base 4 "_law_deed_line" spDeedL) (c_law_test_line : Cal P w K mg base 3 "_law_test_line" spTestL) (c_law_lines : Cal P w K mg base 1 "_law_lines" (fun _ _ _ _ => False)) : FnOk P w K mg base CX0 5 f fd ["_law_bag_z", "_law_names_z", "_law_many", "_law_looks", "_law_deep"] spLinesL0 := by
  refine F.ok sc_law_lines (fun vs H Q E h => ?_) (fun cdv A outer s H vs Q E hr h => ?_)
  · obtain ⟨b, r, p, a1, a2, a3, k1, k2, ts, many, looks, rfl, _⟩ := h
    rfl
  · obtain ⟨b, r, p, a1, a2, a3, k1, k2, ts, many, looks, rfl, hm, hb, hN, q⟩ := h
    refine ⟨_, (pss_cons (ps_par3 (i := 5) (j := 6) (l := 7) (by rfl) sc_law_lines.nd rfl rfl rfl (by decide) (by decide) (by decide) rfl rfl rfl (pa_cons (pe_lst pa_nil) (pa_cons (pv 3) (pa_cons pe_int pa_nil))) (by rfl))
      (pss_cons (ps_for PassesOwn.never rfl (pi_range1 (by rfl) T.range (pa_cons (pe_c c_law_take hr (by omega) (by rfl) (pa_cons (pv 0) (pa_cons (pe_op (op_addX K) (pv 2) pe_int) pa_nil))) pa_nil)) (pg_name (i := 8) sc_law_lines.nd rfl (.inl rfl)) (pss_cons (ps_set (i := 9) sc_law_lines.nd rfl (.inl rfl) (pe_c c_law_take hr (by omega) (by rfl) (pa_cons (pv 0) (pa_cons pe_int pa_nil))))
      (pss_one (ps_if (PW.pt (pw_and (pt_cmpR op_lt (pv 9) pe_int (nomark _)) (pw_and1 (pt_cmpR op_gt (pv 6) pe_int (nomark _))))) (pss_cons (ps_expr (pe_bmX K (pe_bm PySem.F.plainAttrs_list PySem.F.slot_list_append PySem.F.type_list_append mt_append (pv 5) (pa_cons (pe_c c_law_look_line hr (by omega) (by rfl) (pa_cons (pv 0) (pa_cons (pv 1) pa_nil))) pa_nil))))
      (pss_one (ps_set (i := 6) sc_law_lines.nd rfl (.inl rfl) (pe_op op_sub (pv 6) pe_int)))) (pss_one (ps_if (PW.pt (pw_and (pt_cmpR (op_eqX K hr) (pv 9) pe_int (nomark _)) (pw_and1 (pt_cmpR op_gt (pv 4) pe_int (nomark _))))) (pss_cons (ps_par (i := 10) (j := 11) (by rfl) sc_law_lines.nd rfl rfl (by decide) rfl rfl (pa_cons (pe_c c_law_test_line hr (by omega) (by rfl) (pa_cons (pv 0) (pa_cons (pv 1) pa_nil))) (pa_cons (pe_lst pa_nil) pa_nil)) (by rfl))
      (pss_cons (ps_for PassesOwn.never rfl (pi_range1 (by rfl) T.range (pa_cons pe_int pa_nil)) (pg_name (i := 12) sc_law_lines.nd rfl (.inl rfl)) (pss_cons (ps_expr (pe_bmX K (pe_bm PySem.F.plainAttrs_list PySem.F.slot_list_append PySem.F.type_list_append mt_append (pv 11) (pa_cons (pe_c c_law_lines hr (by omega) (by rfl) (pa_cons (pv 0) (pa_cons (pv 1) (pa_cons pe_int (pa_cons (pe_callTy cr_int (by rfl) T.int (by decide +kernel) (pa_cons (pe_cmpR op_gt (pv 6) pe_int (nomark _)) pa_nil)) (pa_cons (pe_op op_sub (pv 4) pe_int) pa_nil)))))) pa_nil))))
      (pss_one (ps_set (i := 6) sc_law_lines.nd rfl (.inl rfl) (pe_op op_sub (pv 6) (pe_callTy cr_int (by rfl) T.int (by decide +kernel) (pa_cons (pe_cmpR op_gt (pv 6) pe_int (nomark _)) pa_nil)))))))
      (pss_one (ps_expr (pe_bmX K (pe_bm PySem.F.plainAttrs_list PySem.F.slot_list_append PySem.F.type_list_append mt_append (pv 5) (pa_cons (pe_tup (pa_cons pe_str (pa_cons (pv 10) (pa_cons (pe_ix (ix_X K) (pv 11) pe_int (fun _ _ => rfl)) (pa_cons (pe_ix (ix_X K) (pv 11) pe_int (fun _ _ => rfl)) pa_nil))))) pa_nil))))))) (pss_cons (ps_expr (pe_bmX K (pe_bm PySem.F.plainAttrs_list PySem.F.slot_list_append PySem.F.type_list_append mt_append (pv 5) (pa_cons (pe_c c_law_deed_line hr (by omega) (by rfl) (pa_cons (pv 0) (pa_cons (pv 1) (pa_cons (pe_and (pe_cmpR op_gt (pv 4) pe_int (nomark _)) (pe_one (pe_cmpR op_lt (pv 7) pe_int (nomark _)))) pa_nil)))) pa_nil))))
      (pss_one (ps_set (i := 7) sc_law_lines.nd rfl (.inl rfl) (pe_op (op_addX K) (pv 7) (pe_callTy cr_int (by rfl) T.int (by decide +kernel) (pa_cons (pe_cmpR (op_eqX K hr) (pe_ix (ix_X K) (pe_ix (ix_X K) (pv 5) (pe_un un_neg pe_int) (fun _ _ => rfl)) pe_int (fun _ _ => rfl)) pe_str (nomark _)) pa_nil))))))))))))
      (pss_one (ps_ret (pe_callTy (cr_tuple K) (by rfl) T.tuple (by decide +kernel) (pa_cons (pv 5) pa_nil)))))), ?_⟩
    change (_ : TS) _ [some (V.ref b), some (.ref p), some (.int many), some (.int looks), some (.int 0), none, none, none, none, none, none, none, none] _
    k_extra "rr"
    refine ⟨by k_extra "sz", fun D nD => ?_⟩
    have bb0 := But.new (b := b) (o := .lst []) nD
    have hb0 := hb.new (o := .lst []) nD
    have Db : D ≠ b := (hb.ne_none nD).1
    have Dr : D ≠ r := (hb.ne_none nD).2
    have hN0 := hN.but bb0
    have hD0 : upd H D (.lst []) D = some (.lst []) := upd_same
    generalize upd H D (.lst []) = H0 at bb0 hb0 hN0 hD0
    k_extra "rr"
    refine ⟨b, r, _, rfl, hb0, by omega, by omega, fun kk H1 bb1 hb1 k0 k1' => ?_⟩
    have hN1 := hN0.but bb1
    have hD1 := bb1 _ _ hD0 Db
    have bb01 := bb0.trans bb1
    k_extra "rr"
    obtain ⟨W, hW⟩ : ∃ W : Nat → L2.St → Hp → Prop, ∀ i σ H', W i σ H' ↔ ∃ (lf cp : Int) (v8 v9 : Option V) (xs : List V) (c : Sc), σ = [some (.ref b), some (.ref p), some (.int many), some (.int looks), some (.int 0), some (.ref D), some (.int lf), some (.int cp), v8, v9, none, none, none] ∧ But b H H' ∧ BagAt H' b r ∧ NAt H' b p a1 a2 a3 k1 k2 ts ∧ H' D = some (.lst xs) ∧ ScAt H' c xs ∧ xs.length ≤ i ∧ ScG 0 c ∧ c.cnt = i ∧ c.copies = 0 := ⟨_, fun _ _ _ => Iff.rfl⟩
    refine for_range (lo := 0) (n := kk.toNat) W ((hW _ _ _).mpr ⟨looks, 0, none, none, [], .nil, rfl, bb01, hb1, hN1, hD1, rfl, Nat.le_refl _, trivial, rfl, rfl⟩) ?_ ?_
    · intro i σ H3 hi hw
      obtain ⟨lf, cp, v8, v9, xs, c, rfl, bb3, hb3, hN3, hD3, hA3, hl3, hS3, hcn3, hcc3⟩ := (hW _ _ _).mp hw
      clear hw
      k_extra "rr"
      refine ⟨b, r, 6, rfl, hb3, by omega, by omega, fun way H4 bb4 hb4 w0 w1 => ?_⟩
      have hN4 := hN3.but bb4
      have hD4 := bb4 _ _ hD3 Db
      have bb34 := bb3.trans bb4
      have hA4 := hA3.le (but_tup bb4 hb3)
      have fin : ∀ (H5 : Hp) (ln : Addr) (o : Op) (lf cp way : Int), But b H4 H5 → BagAt H5 b r → H5 ln = some (.tup o.vs) → OpG o → o.isCopy = false → W (i + 1) [some (.ref b), some (.ref p), some (.int many), some (.int looks), some (.int 0), some (.ref D), some (.int lf), some (.int cp), some (.int (0 + (i : Int))), some (.int way), none, none, none] (upd H5 D (.lst (xs ++ [.ref ln]))) := fun H5 ln o lf cp way bb5 hb5 hln ho hcp => by
        have hD5 := bb5 _ _ hD4 Db
        have hN5 := hN4.but bb5
        refine (hW _ _ _).mpr ⟨lf, cp, _, _, _, c.snoc o, rfl, but_mut2 (bb34.trans bb5) nD, bag_upd hb5 Db Dr, ?_, upd_same, ((hA4.le (but_tup bb5 hb4)).snoc hln).le (TupLe.lst hD5), by rw [List.length_append]; show _ + 1 ≤ _; omega, ScG.snoc ho trivial hS3, by rw [Sc.cnt_snoc]; omega, by rw [cop_snoc, hcp]; exact hcc3⟩
        exact hN.but (but_mut2 (bb34.trans bb5) nD)
      k_extra "rr"
      by_cases h3 : way < 3
      · rw [decide_eq_true h3]
        k_extra "rr"
        by_cases hl : 0 < lf
        · rw [decide_eq_true hl]
          k_extra "rr"
          refine ⟨tyvL hD4, ?_⟩
          k_extra "rr"
          refine ⟨b, r, p, a1, a2, a3, k1, k2, ts, rfl, hb4, hN4, fun ln o H5 bb5 hb5 hln ho1 ho2 hcp _ => ?_⟩
          have hD5 := bb5 _ _ hD4 Db
          k_extra "rr"
          refine app hD5 (by rw [sizeLine_eq]; omega) ?_
          k_extra "rr"
          exact fin H5 ln o _ cp way bb5 hb5 hln ho1 hcp
        · rw [decide_eq_false hl]
          k_extra "rr"
          rw [decide_eq_false (show ¬ way = 3 by omega)]
          k_extra "rr"
          refine ⟨tyvL hD4, ?_⟩
          k_extra "rr"
          refine ⟨b, r, p, a1, a2, a3, k1, k2, ts, false, rfl, hb4, hN4, fun ln o H5 bb5 hb5 hln ho1 ho2 ho3 => ?_⟩
          have hcp : o.isCopy = false := by
            cases e : o.isCopy with
            | false => rfl
            | true => cases ho3 e
          have hD5 := bb5 _ _ hD4 Db
          obtain ⟨vr, ev⟩ := o.vs_word
          have hln2 := hln
          rw [ev] at hln2
          k_extra "rr"
          refine app hD5 (by rw [sizeLine_eq]; omega) ?_
          have hf := fun cp2 => fin H5 ln o lf cp2 way bb5 hb5 hln ho1 hcp
          have hDn : upd H5 D (.lst (xs ++ [.ref ln])) D = some (.lst (xs ++ [.ref ln])) := upd_same
          have hln3 : upd H5 D (.lst (xs ++ [.ref ln])) ln = some (.tup (V.str o.word :: vr)) := TupLe.lst hD5 _ _ hln2
          generalize upd H5 D (.lst (xs ++ [.ref ln])) = H6 at hf hDn hln3
          k_extra "rr"
          refine ixL (SqL.of hDn) (atI_last (xs := xs)) ?_
          k_extra "rr"
          refine ixT (SqT.of hln3) (atI_nat (xs := V.str o.word :: vr) (j := 0) rfl) ?_
          k_extra "rr"
          refine .inr ⟨_, rfl, ?_⟩
          k_extra "rr"
          exact hf _
      · rw [decide_eq_false h3]
        k_extra "rr"
        by_cases h33 : way = 3
        · rw [decide_eq_true h33]
          k_extra "rr"
          rw [decide_eq_false (show ¬ ((0 : Int) < 0) by omega)]
          k_extra "rr"
          refine ⟨tyvL hD4, ?_⟩
          k_extra "rr"
          refine ⟨b, r, p, a1, a2, a3, k1, k2, ts, false, rfl, hb4, hN4, fun ln o H5 bb5 hb5 hln ho1 ho2 ho3 => ?_⟩
          have hcp : o.isCopy = false := by
            cases e : o.isCopy with
            | false => rfl
            | true => cases ho3 e
          have hD5 := bb5 _ _ hD4 Db
          obtain ⟨vr, ev⟩ := o.vs_word
          have hln2 := hln
          rw [ev] at hln2
          k_extra "rr"
          refine app hD5 (by rw [sizeLine_eq]; omega) ?_
          have hf := fun cp2 => fin H5 ln o lf cp2 way bb5 hb5 hln ho1 hcp
          have hDn : upd H5 D (.lst (xs ++ [.ref ln])) D = some (.lst (xs ++ [.ref ln])) := upd_same
          have hln3 : upd H5 D (.lst (xs ++ [.ref ln])) ln = some (.tup (V.str o.word :: vr)) := TupLe.lst hD5 _ _ hln2
          generalize upd H5 D (.lst (xs ++ [.ref ln])) = H6 at hf hDn hln3
          k_extra "rr"
          refine ixL (SqL.of hDn) (atI_last (xs := xs)) ?_
          k_extra "rr"
          refine ixT (SqT.of hln3) (atI_nat (xs := V.str o.word :: vr) (j := 0) rfl) ?_
          k_extra "rr"
          refine .inr ⟨_, rfl, ?_⟩
          k_extra "rr"
          exact hf _
        · rw [decide_eq_false h33]
          k_extra "rr"
          refine ⟨tyvL hD4, ?_⟩
          k_extra "rr"
          refine ⟨b, r, p, a1, a2, a3, k1, k2, ts, false, rfl, hb4, hN4, fun ln o H5 bb5 hb5 hln ho1 ho2 ho3 => ?_⟩
          have hcp : o.isCopy = false := by
            cases e : o.isCopy with
            | false => rfl
            | true => cases ho3 e
          have hD5 := bb5 _ _ hD4 Db
          obtain ⟨vr, ev⟩ := o.vs_word
          have hln2 := hln
          rw [ev] at hln2
          k_extra "rr"
          refine app hD5 (by rw [sizeLine_eq]; omega) ?_
          have hf := fun cp2 => fin H5 ln o lf cp2 way bb5 hb5 hln ho1 hcp
          have hDn : upd H5 D (.lst (xs ++ [.ref ln])) D = some (.lst (xs ++ [.ref ln])) := upd_same
          have hln3 : upd H5 D (.lst (xs ++ [.ref ln])) ln = some (.tup (V.str o.word :: vr)) := TupLe.lst hD5 _ _ hln2
          generalize upd H5 D (.lst (xs ++ [.ref ln])) = H6 at hf hDn hln3
          k_extra "rr"
          refine ixL (SqL.of hDn) (atI_last (xs := xs)) ?_
          k_extra "rr"
          refine ixT (SqT.of hln3) (atI_nat (xs := V.str o.word :: vr) (j := 0) rfl) ?_
          k_extra "rr"
          refine .inr ⟨_, rfl, ?_⟩
          k_extra "rr"
          exact hf _
    · intro σ H3 hw
      obtain ⟨lf, cp, v8, v9, xs, c, rfl, bb3, hb3, hN3, hD3, hA3, hl3, hS3, hcn3, hcc3⟩ := (hW _ _ _).mp hw
      k_extra "rr"
      refine tupL (SqL.of hD3) fun q0 nq0 => ?_
      exact q q0 xs c _ (bb3.trans (But.new nq0)) (hb3.new nq0) upd_same (hA3.le (TupLe.new nq0)) hS3 (by omega) hcc3
end

/-! ### drawn lines: _law_lines, one deep -/
def PtAt (H : Hp) (v : V) (c : Sc) : Prop := ∃ (q : Addr) (ys : List V), v = .ref q ∧ H q = some (.tup ys) ∧ ScAt H c ys ∧ ScG 0 c ∧ c.cnt ≤ 2 ∧ c.copies = 0
theorem PtAt.le {H H' : Hp} {v : V} {c : Sc} (s : TupLe H H') (h : PtAt H v c) : PtAt H' v c :=
  let ⟨q, ys, e, h1, h2, h3⟩ := h
  ⟨q, ys, e, s _ _ h1, h2.le s, h3⟩
def spLinesL1 : Sp := fun vs H Q _ => ∃ (b r p a1 a2 a3 : Addr) (k1 k2 ts : List Wd) (many : Nat) (looks : Int), vs = [.ref b, .ref p, .int many, .int looks, .int 1] ∧ many ≤ 7 ∧ BagAt H b r ∧ NAt H b p a1 a2 a3 k1 k2 ts ∧
  ∀ (q : Addr) (xs : List V) (c : Sc) (H' : Hp), But b H H' → BagAt H' b r → H' q = some (.tup xs) → ScAt H' c xs → ScG 1 c → c.cnt ≤ 5 * many → c.copies ≤ 2 → c.adds + 4 * c.copies ≤ 4 * many → Q (.ref q) H'
section
variable {P : Program} {w : World} {K : PySem.W.Frag} {mg : Str → Option Value} {base : Heap} {f : Addr} {fd : FuncData}
theorem ok_law_lines1 (F : Fun K "_law_lines" "_law_lines" s_law_lines f fd) (T : Txt mg) (c_law_take : Cal P w K mg base 1 "_law_take" spTake) (c_law_look_line : Cal P w K mg base 3 "_law_look_line" spLineL) (c_law_deed_line : Cal P w K mg base 4 "_law_deed_line" spDeedL) (c_law_test_line : Cal P w K mg base 3 "_law_test_line" spTestL) (c_law_lines : Cal P w K mg base 5 "_law_lines" spLinesL0) : FnOk P w K mg base CX0 6 f fd ["_law_bag_z", "_law_names_z", "_law_many", "_law_looks", "_law_deep"] spLinesL1 := by
  refine F.ok sc_law_lines (fun vs H Q E h => ?_) (fun cdv A outer s H vs Q E hr h => ?_)
  · obtain ⟨b, r, p, a1, a2, a3, k1, k2, ts, many, looks, rfl, _⟩ := h
    rfl
  · obtain ⟨b, r, p, a1, a2, a3, k1, k2, ts, many, looks, rfl, hm, hb, hN, q⟩ := h
    refine ⟨_, (pss_cons (ps_par3 (i := 5) (j := 6) (l := 7) (by rfl) sc_law_lines.nd rfl rfl rfl (by decide) (by decide) (by decide) rfl rfl rfl (pa_cons (pe_lst pa_nil) (pa_cons (pv 3) (pa_cons pe_int pa_nil))) (by rfl))
      (pss_cons (ps_for PassesOwn.never rfl (pi_range1 (by rfl) T.range (pa_cons (pe_c c_law_take hr (by omega) (by rfl) (pa_cons (pv 0) (pa_cons (pe_op (op_addX K) (pv 2) pe_int) pa_nil))) pa_nil)) (pg_name (i := 8) sc_law_lines.nd rfl (.inl rfl)) (pss_cons (ps_set (i := 9) sc_law_lines.nd rfl (.inl rfl) (pe_c c_law_take hr (by omega) (by rfl) (pa_cons (pv 0) (pa_cons pe_int pa_nil))))
      (pss_one (ps_if (PW.pt (pw_and (pt_cmpR op_lt (pv 9) pe_int (nomark _)) (pw_and1 (pt_cmpR op_gt (pv 6) pe_int (nomark _))))) (pss_cons (ps_expr (pe_bmX K (pe_bm PySem.F.plainAttrs_list PySem.F.slot_list_append PySem.F.type_list_append mt_append (pv 5) (pa_cons (pe_c c_law_look_line hr (by omega) (by rfl) (pa_cons (pv 0) (pa_cons (pv 1) pa_nil))) pa_nil))))
      (pss_one (ps_set (i := 6) sc_law_lines.nd rfl (.inl rfl) (pe_op op_sub (pv 6) pe_int)))) (pss_one (ps_if (PW.pt (pw_and (pt_cmpR (op_eqX K hr) (pv 9) pe_int (nomark _)) (pw_and1 (pt_cmpR op_gt (pv 4) pe_int (nomark _))))) (pss_cons (ps_par (i := 10) (j := 11) (by rfl) sc_law_lines.nd rfl rfl (by decide) rfl rfl (pa_cons (pe_c c_law_test_line hr (by omega) (by rfl) (pa_cons (pv 0) (pa_cons (pv 1) pa_nil))) (pa_cons (pe_lst pa_nil) pa_nil)) (by rfl))
      (pss_cons (ps_for PassesOwn.never rfl (pi_range1 (by rfl) T.range (pa_cons pe_int pa_nil)) (pg_name (i := 12) sc_law_lines.nd rfl (.inl rfl)) (pss_cons (ps_expr (pe_bmX K (pe_bm PySem.F.plainAttrs_list PySem.F.slot_list_append PySem.F.type_list_append mt_append (pv 11) (pa_cons (pe_c c_law_lines hr (by omega) (by rfl) (pa_cons (pv 0) (pa_cons (pv 1) (pa_cons pe_int (pa_cons (pe_callTy cr_int (by rfl) T.int (by decide +kernel) (pa_cons (pe_cmpR op_gt (pv 6) pe_int (nomark _)) pa_nil)) (pa_cons (pe_op op_sub (pv 4) pe_int) pa_nil)))))) pa_nil))))
      (pss_one (ps_set (i := 6) sc_law_lines.nd rfl (.inl rfl) (pe_op op_sub (pv 6) (pe_callTy cr_int (by rfl) T.int (by decide +kernel) (pa_cons (pe_cmpR op_gt (pv 6) pe_int (nomark _)) pa_nil)))))))
      (pss_one (ps_expr (pe_bmX K (pe_bm PySem.F.plainAttrs_list PySem.F.slot_list_append PySem.F.type_list_append mt_append (pv 5) (pa_cons (pe_tup (pa_cons pe_str (pa_cons (pv 10) (pa_cons (pe_ix (ix_X K) (pv 11) pe_int (fun _ _ => rfl)) (pa_cons (pe_ix (ix_X K) (pv 11) pe_int (fun _ _ => rfl)) pa_nil))))) pa_nil))))))) (pss_cons (ps_expr (pe_bmX K (pe_bm PySem.F.plainAttrs_list PySem.F.slot_list_append PySem.F.type_list_append mt_append (pv 5) (pa_cons (pe_c c_law_deed_line hr (by omega) (by rfl) (pa_cons (pv 0) (pa_cons (pv 1) (pa_cons (pe_and (pe_cmpR op_gt (pv 4) pe_int (nomark _)) (pe_one (pe_cmpR op_lt (pv 7) pe_int (nomark _)))) pa_nil)))) pa_nil))))
      (pss_one (ps_set (i := 7) sc_law_lines.nd rfl (.inl rfl) (pe_op (op_addX K) (pv 7) (pe_callTy cr_int (by rfl) T.int (by decide +kernel) (pa_cons (pe_cmpR (op_eqX K hr) (pe_ix (ix_X K) (pe_ix (ix_X K) (pv 5) (pe_un un_neg pe_int) (fun _ _ => rfl)) pe_int (fun _ _ => rfl)) pe_str (nomark _)) pa_nil))))))))))))
      (pss_one (ps_ret (pe_callTy (cr_tuple K) (by rfl) T.tuple (by decide +kernel) (pa_cons (pv 5) pa_nil)))))), ?_⟩
    change (_ : TS) _ [some (V.ref b), some (.ref p), some (.int many), some (.int looks), some (.int 1), none, none, none, none, none, none, none, none] _
    k_extra "rr"
    refine ⟨by k_extra "sz", fun D nD => ?_⟩
    have bb0 := But.new (b := b) (o := .lst []) nD
    have hb0 := hb.new (o := .lst []) nD
    have Db : D ≠ b := (hb.ne_none nD).1
    have Dr : D ≠ r := (hb.ne_none nD).2
    have hN0 := hN.but bb0
    have hD0 : upd H D (.lst []) D = some (.lst []) := upd_same
    generalize upd H D (.lst []) = H0 at bb0 hb0 hN0 hD0
    k_extra "rr"
    refine ⟨b, r, _, rfl, hb0, by omega, by omega, fun kk H1 bb1 hb1 k0 k1' => ?_⟩
    have hN1 := hN0.but bb1
    have hD1 := bb1 _ _ hD0 Db
    have bb01 := bb0.trans bb1
    k_extra "rr"
    obtain ⟨W, hW⟩ : ∃ W : Nat → L2.St → Hp → Prop, ∀ i σ H', W i σ H' ↔ ∃ (lf : Int) (v8 v9 v10 v11 v12 : Option V) (xs : List V) (c : Sc), σ = [some (.ref b), some (.ref p), some (.int many), some (.int looks), some (.int 1), some (.ref D), some (.int lf), some (.int (c.copies : Int)), v8, v9, v10, v11, v12] ∧ But b H H' ∧ BagAt H' b r ∧ NAt H' b p a1 a2 a3 k1 k2 ts ∧ H' D = some (.lst xs) ∧ ScAt H' c xs ∧ xs.length ≤ i ∧ ScG 1 c ∧ c.cnt ≤ 5 * i ∧ c.copies ≤ 2 ∧ c.adds + 4 * c.copies ≤ 4 * i := ⟨_, fun _ _ _ => Iff.rfl⟩
    refine for_range (lo := 0) (n := kk.toNat) W ((hW _ _ _).mpr ⟨looks, none, none, none, none, none, [], .nil, rfl, bb01, hb1, hN1, hD1, rfl, Nat.le_refl _, trivial, Nat.le_refl _, Nat.zero_le _, Nat.le_refl _⟩) ?_ ?_
    · intro i σ H3 hi hw
      obtain ⟨lf, v8, v9, v10, v11, v12, xs, c, rfl, bb3, hb3, hN3, hD3, hA3, hl3, hS3, hcn3, hcc3, hca3⟩ := (hW _ _ _).mp hw
      clear hw
      k_extra "rr"
      refine ⟨b, r, 6, rfl, hb3, by omega, by omega, fun way H4 bb4 hb4 w0 w1 => ?_⟩
      have hN4 := hN3.but bb4
      have hD4 := bb4 _ _ hD3 Db
      have bb34 := bb3.trans bb4
      have hA4 := hA3.le (but_tup bb4 hb3)
      have fin : ∀ (H5 : Hp) (ln : Addr) (e : Sc) (lf cp : Int) (v8 v9 v10 v11 v12 : Option V), But b H4 H5 → BagAt H5 b r → ScAt H5 e [.ref ln] → ScG 1 e → e.cnt ≤ 5 → cp = ((c.copies + e.copies : Nat) : Int) → c.copies + e.copies ≤ 2 → e.adds + 4 * e.copies ≤ 4 → W (i + 1) [some (.ref b), some (.ref p), some (.int many), some (.int looks), some (.int 1), some (.ref D), some (.int lf), some (.int cp), v8, v9, v10, v11, v12] (upd H5 D (.lst (xs ++ [.ref ln]))) := fun H5 ln e lf cp v8 v9 v10 v11 v12 bb5 hb5 hA5 hG5 hn5 hc5 hc2 ha5 => by
        have hD5 := bb5 _ _ hD4 Db
        refine (hW _ _ _).mpr ⟨lf, v8, v9, v10, v11, v12, _, c.app e, by rw [hc5, cop_app], but_mut2 (bb34.trans bb5) nD, bag_upd hb5 Db Dr, ?_, upd_same, (ScAt.app hA5 (hA4.le (but_tup bb5 hb4))).le (TupLe.lst hD5), by rw [List.length_append]; show _ + 1 ≤ _; omega, ScG.app hG5 hS3, by rw [cnt_app]; omega, by rw [cop_app]; omega, by rw [cop_app, adds_app]; omega⟩
        exact hN.but (but_mut2 (bb34.trans bb5) nD)
      k_extra "rr"
      by_cases h3 : way < 3
      · rw [decide_eq_true h3]
        k_extra "rr"
        by_cases hl : 0 < lf
        · rw [decide_eq_true hl]
          k_extra "rr"
          refine ⟨tyvL hD4, ?_⟩
          k_extra "rr"
          refine ⟨b, r, p, a1, a2, a3, k1, k2, ts, rfl, hb4, hN4, fun ln o H5 bb5 hb5 hln ho1 ho2 hcp hcq => ?_⟩
          have hD5 := bb5 _ _ hD4 Db
          k_extra "rr"
          refine app hD5 (by rw [sizeLine_eq]; omega) ?_
          k_extra "rr"
          refine fin H5 ln (.op o .nil) _ _ _ _ _ _ _ bb5 hb5 (ScAt.op1 hln) (ScG.op1 ho1 ho2) (by show 1 + 0 ≤ 5; omega) ?_ ?_ ?_
          · show _ = ((c.copies + ((if o.isCopy = true then 1 else 0) + 0) : Nat) : Int)
            rw [hcp]
            rfl
          · show c.copies + ((if o.isCopy = true then 1 else 0) + 0) ≤ 2
            rw [hcp]
            exact hcc3
          · show ((if o.isAdd = true then 1 else 0) + 0) + 4 * ((if o.isCopy = true then 1 else 0) + 0) ≤ 4
            rw [hcp, hcq]
            decide
        · rw [decide_eq_false hl]
          k_extra "rr"
          rw [decide_eq_false (show ¬ way = 3 by omega)]
          k_extra "rr"
          refine ⟨tyvL hD4, ?_⟩
          k_extra "rr"
          rw [decide_eq_true (show (0 : Int) < 1 by omega)]
          k_extra "rr"
          refine ⟨b, r, p, a1, a2, a3, k1, k2, ts, decide ((c.copies : Int) < 2), rfl, hb4, hN4, fun ln o H5 bb5 hb5 hln ho1 ho2 ho3 => ?_⟩
          have hD5 := bb5 _ _ hD4 Db
          obtain ⟨vr, ev⟩ := o.vs_word
          have hln2 := hln
          rw [ev] at hln2
          k_extra "rr"
          refine app hD5 (by rw [sizeLine_eq]; omega) ?_
          have hf := fun cp2 hcp2 => fin H5 ln (.op o .nil) lf cp2 (some (.int (0 + (i : Int)))) (some (.int way)) v10 v11 v12 bb5 hb5 (ScAt.op1 hln) (ScG.op1 ho1 ho2) (by show 1 + 0 ≤ 5; omega) hcp2 (by
            show c.copies + ((if o.isCopy = true then 1 else 0) + 0) ≤ 2
            by_cases ec : o.isCopy = true
            · have := of_decide_eq_true (ho3 ec)
              rw [if_pos ec]
              omega
            · rw [if_neg ec]
              omega) (by
            show ((if o.isAdd = true then 1 else 0) + 0) + 4 * ((if o.isCopy = true then 1 else 0) + 0) ≤ 4
            cases o <;> exact Nat.le_of_ble_eq_true rfl)
          have hDn : upd H5 D (.lst (xs ++ [.ref ln])) D = some (.lst (xs ++ [.ref ln])) := upd_same
          have hln3 : upd H5 D (.lst (xs ++ [.ref ln])) ln = some (.tup (V.str o.word :: vr)) := TupLe.lst hD5 _ _ hln2
          generalize upd H5 D (.lst (xs ++ [.ref ln])) = H6 at hf hDn hln3
          k_extra "rr"
          refine ixL (SqL.of hDn) (atI_last (xs := xs)) ?_
          k_extra "rr"
          refine ixT (SqT.of hln3) (atI_nat (xs := V.str o.word :: vr) (j := 0) rfl) ?_
          k_extra "rr"
          cases ec : o.isCopy with
          | true =>
            rw [decide_eq_true ((Op.word_copy o).mpr ec)]
            k_extra "rr"
            refine .inr ⟨_, rfl, ?_⟩
            k_extra "rr"
            exact hf _ (by show _ = ((c.copies + ((if o.isCopy = true then 1 else 0) + 0) : Nat) : Int); rw [ec]; rfl)
          | false =>
            rw [decide_eq_false (fun z => by rw [(Op.word_copy o).mp z] at ec; cases ec)]
            k_extra "rr"
            refine .inr ⟨_, rfl, ?_⟩
            k_extra "rr"
            exact hf _ (by show _ = ((c.copies + ((if o.isCopy = true then 1 else 0) + 0) : Nat) : Int); rw [ec]; exact Int.add_zero _)
      · rw [decide_eq_false h3]
        k_extra "rr"
        by_cases h33 : way = 3
        · rw [decide_eq_true h33]
          k_extra "rr"
          rw [decide_eq_true (show (0 : Int) < 1 by omega)]
          k_extra "rr"
          refine ⟨b, r, p, a1, a2, a3, k1, k2, ts, rfl, hb4, hN4, fun qt t H5 bb5 hb5 hqt htg => ?_⟩
          have hD5 := bb5 _ _ hD4 Db
          have hN5 := hN4.but bb5
          k_extra "rr"
          refine ⟨by k_extra "sz", fun I nI => ?_⟩
          have bbI := But.new (b := b) (o := .lst []) nI
          have hbI := hb5.new (o := .lst []) nI
          have Ib : I ≠ b := (hb5.ne_none nI).1
          have Ir : I ≠ r := (hb5.ne_none nI).2
          have DI : D ≠ I := ne_of_none hD5 nI
          k_extra "rr"
          refine for_range (lo := 0) (n := (2 : Int).toNat) (fun i2 σ H' => ∃ (lf : Int) (v12 : Option V) (zs : List V), σ = [some (.ref b), some (.ref p), some (.int many), some (.int looks), some (.int 1), some (.ref D), some (.int lf), some (.int (c.copies : Int)), some (.int (0 + (i : Int))), some (.int way), some (.ref qt), some (.ref I), v12] ∧ But b H5 H' ∧ BagAt H' b r ∧ H' I = some (.lst zs) ∧ zs.length = i2 ∧ ∀ v ∈ zs, ∃ c, PtAt H' v c) ⟨lf, _, [], rfl, bbI, hbI, upd_same, rfl, fun v hv => (List.not_mem_nil hv).elim⟩ ?_ ?_
          · rintro i2 σ H6 hi2 ⟨lf2, w12, zs, rfl, bb6, hb6, hI6, hzl, hzs⟩
            have hN6 := hN5.but bb6
            k_extra "rr"
            refine ⟨tyvL hI6, ?_⟩
            have i22 : i2 < 2 := hi2
            k_extra "rr"
            refine .inr ⟨_, rfl, ?_⟩
            k_extra "rr"
            refine ⟨b, r, p, a1, a2, a3, k1, k2, ts, 2, _, rfl, by omega, hb6, hN6, fun qn ys cn H7 bb7 hb7 hqn hAn hSn hcnn hccn => ?_⟩
            have hI7 := bb7 _ _ hI6 Ib
            k_extra "rr"
            refine app hI7 (by rw [hzl, sizeLine_eq]; omega) ?_
            k_extra "rr"
            refine .inr ⟨_, rfl, ?_⟩
            k_extra "rr"
            refine ⟨_, _, zs ++ [.ref qn], rfl, but_mut2 (bb6.trans bb7) nI, bag_upd hb7 Ib Ir, upd_same, by rw [List.length_append, hzl]; rfl, fun v hv => ?_⟩
            rcases List.mem_append.mp hv with hv | hv
            · obtain ⟨c2, h2⟩ := hzs v hv
              exact ⟨c2, (h2.le (but_tup bb7 hb6)).le (TupLe.lst hI7)⟩
            · rw [List.mem_singleton.mp hv]
              exact ⟨cn, PtAt.le (TupLe.lst hI7) ⟨qn, ys, rfl, hqn, hAn, hSn, hcnn, hccn⟩⟩
          · rintro σ H6 ⟨lf2, w12, zs, rfl, bb6, hb6, hI6, hzl, hzs⟩
            obtain ⟨z0, z1, rfl⟩ : ∃ z0 z1, zs = [z0, z1] := by
              match zs, hzl with
              | [z0, z1], _ => exact ⟨_, _, rfl⟩
            obtain ⟨c0, q0, y0, rfl, e0, A0, G0, n0, m0⟩ := hzs z0 (by simp)
            obtain ⟨c1, q1, y1, rfl, e1, A1, G1, n1, m1⟩ := hzs z1 (by simp)
            have hD6 := bb6 _ _ hD5 Db
            k_extra "rr"
            refine ⟨tyvL hD6, ?_⟩
            k_extra "rr"
            refine ⟨by k_extra "sz", fun ln nln => ?_⟩
            have s7 := same_upd (o := .tup [V.str "if", .ref qt, .ref q0, .ref q1]) nln
            have hln : upd H6 ln (.tup [V.str "if", .ref qt, .ref q0, .ref q1]) ln = some (.tup [V.str "if", .ref qt, .ref q0, .ref q1]) := upd_same
            have hb7 := hb6.new (o := .tup [V.str "if", .ref qt, .ref q0, .ref q1]) nln
            generalize upd H6 ln (.tup [V.str "if", .ref qt, .ref q0, .ref q1]) = H7 at s7 hln hb7
            k_extra "rr"
            refine app (s7 _ _ hD6) (by rw [sizeLine_eq]; omega) ?_
            k_extra "rr"
            have a0 := adds_le c0
            have a1' := adds_le c1
            refine fin H7 ln (.ifs t c0 c1 .nil) _ _ _ _ _ _ _ ((bb5.trans bb6).trans (But.of_same s7)) hb7 (ScAt.ifs1 hln (s7 _ _ (but_tup bb6 hb5 _ _ hqt)) (s7 _ _ e0) (A0.le (TupLe.same s7)) (s7 _ _ e1) (A1.le (TupLe.same s7))) (ScG.ifs1 htg G0 G1) ?_ ?_ ?_ ?_
            · show 1 + c0.cnt + c1.cnt + 0 ≤ 5
              omega
            · show _ = ((c.copies + (c0.copies + c1.copies + 0) : Nat) : Int)
              rw [m0, m1]
              rfl
            · show c.copies + (c0.copies + c1.copies + 0) ≤ 2
              omega
            · show c0.adds + c1.adds + 0 + 4 * (c0.copies + c1.copies + 0) ≤ 4
              omega
        · rw [decide_eq_false h33]
          k_extra "rr"
          refine ⟨tyvL hD4, ?_⟩
          k_extra "rr"
          rw [decide_eq_true (show (0 : Int) < 1 by omega)]
          k_extra "rr"
          refine ⟨b, r, p, a1, a2, a3, k1, k2, ts, decide ((c.copies : Int) < 2), rfl, hb4, hN4, fun ln o H5 bb5 hb5 hln ho1 ho2 ho3 => ?_⟩
          have hD5 := bb5 _ _ hD4 Db
          obtain ⟨vr, ev⟩ := o.vs_word
          have hln2 := hln
          rw [ev] at hln2
          k_extra "rr"
          refine app hD5 (by rw [sizeLine_eq]; omega) ?_
          have hf := fun cp2 hcp2 => fin H5 ln (.op o .nil) lf cp2 (some (.int (0 + (i : Int)))) (some (.int way)) v10 v11 v12 bb5 hb5 (ScAt.op1 hln) (ScG.op1 ho1 ho2) (by show 1 + 0 ≤ 5; omega) hcp2 (by
            show c.copies + ((if o.isCopy = true then 1 else 0) + 0) ≤ 2
            by_cases ec : o.isCopy = true
            · have := of_decide_eq_true (ho3 ec)
              rw [if_pos ec]
              omega
            · rw [if_neg ec]
              omega) (by
            show ((if o.isAdd = true then 1 else 0) + 0) + 4 * ((if o.isCopy = true then 1 else 0) + 0) ≤ 4
            cases o <;> exact Nat.le_of_ble_eq_true rfl)
          have hDn : upd H5 D (.lst (xs ++ [.ref ln])) D = some (.lst (xs ++ [.ref ln])) := upd_same
          have hln3 : upd H5 D (.lst (xs ++ [.ref ln])) ln = some (.tup (V.str o.word :: vr)) := TupLe.lst hD5 _ _ hln2
          generalize upd H5 D (.lst (xs ++ [.ref ln])) = H6 at hf hDn hln3
          k_extra "rr"
          refine ixL (SqL.of hDn) (atI_last (xs := xs)) ?_
          k_extra "rr"
          refine ixT (SqT.of hln3) (atI_nat (xs := V.str o.word :: vr) (j := 0) rfl) ?_
          k_extra "rr"
          cases ec : o.isCopy with
          | true =>
            rw [decide_eq_true ((Op.word_copy o).mpr ec)]
            k_extra "rr"
            refine .inr ⟨_, rfl, ?_⟩
            k_extra "rr"
            exact hf _ (by show _ = ((c.copies + ((if o.isCopy = true then 1 else 0) + 0) : Nat) : Int); rw [ec]; rfl)
          | false =>
            rw [decide_eq_false (fun z => by rw [(Op.word_copy o).mp z] at ec; cases ec)]
            k_extra "rr"
            refine .inr ⟨_, rfl, ?_⟩
            k_extra "rr"
            exact hf _ (by show _ = ((c.copies + ((if o.isCopy = true then 1 else 0) + 0) : Nat) : Int); rw [ec]; exact Int.add_zero _)
    · intro σ H3 hw
      obtain ⟨lf, v8, v9, v10, v11, v12, xs, c, rfl, bb3, hb3, hN3, hD3, hA3, hl3, hS3, hcn3, hcc3, hca3⟩ := (hW _ _ _).mp hw
      k_extra "rr"
      refine tupL (SqL.of hD3) fun q0 nq0 => ?_
      exact q q0 xs c _ (bb3.trans (But.new nq0)) (hb3.new nq0) upd_same (hA3.le (TupLe.new nq0)) hS3 (by omega) hcc3 (by omega)
end

/-! ### the law's own check of a line -/
theorem fits_t {l : List Nat} (h : ∀ c ∈ l, OkC c) : (l.map signB).all id = (!decide (34 ∈ l) && !decide (10 ∈ l)) := by
  induction l with
  | nil => rfl
  | cons c r ih =>
    rw [List.map_cons, List.all_cons, ih fun d hd => h d (List.mem_cons_of_mem _ hd)]
    have hc := h c (List.mem_cons_self ..)
    have e : signB c = ((!decide (c = 34)) && !decide (c = 10)) := by
      unfold signB
      rcases hc with ⟨h1, h2⟩ | h1
      · rw [decide_eq_true h1, decide_eq_true h2, Bool.true_and, Bool.true_and, decide_eq_false (show ¬ c = 10 by omega)]
        simp
      · rw [h1]
        rfl
    rw [show id (signB c) = signB c from rfl, e]
    have e1 : decide (34 ∈ c :: r) = (decide (c = 34) || decide (34 ∈ r)) := by
      rw [← Bool.decide_or]
      exact decide_eq_decide.mpr ⟨fun z => (List.mem_cons.mp z).imp Eq.symm id, fun z => List.mem_cons.mpr (z.imp Eq.symm id)⟩
    have e2 : decide (10 ∈ c :: r) = (decide (c = 10) || decide (10 ∈ r)) := by
      rw [← Bool.decide_or]
      exact decide_eq_decide.mpr ⟨fun z => (List.mem_cons.mp z).imp Eq.symm id, fun z => List.mem_cons.mpr (z.imp Eq.symm id)⟩
    rw [e1, e2]
    cases decide (c = 34) <;> cases decide (c = 10) <;> cases decide (34 ∈ r) <;> cases decide (10 ∈ r) <;> rfl
def rowsK (ks : List (Str × List Nat)) : List (Key × V) := ks.map fun p => (.inr p.1, .str (SX.S p.2))
theorem rowsK_get (z : Str) : ∀ ks : List (Str × List Nat), valV (rowsK ks) (Sum.inr z : Key) = (ks.lookup z).map fun l => .str (SX.S l)
  | [] => rfl
  | (a, l) :: r => by
    rw [List.lookup_cons]
    by_cases h : z = a
    · subst h
      rw [beq_self_eq_true]
      exact valV_pos (κ := Key) (p := (Sum.inr z, V.str (SX.S l))) rfl
    · rw [beq_eq_false_iff_ne.mpr h]
      show valV ((Sum.inr a, V.str (SX.S l)) :: rowsK r) (Sum.inr z : Key) = _
      rw [valV_neg (fun e => h (Sum.inr.inj e).symm)]
      exact rowsK_get z r
def formB (tst : PyData → Bool) (ks : List (Str × List Nat)) : PyData → Bool
  | .tuple (.str z :: r) => match ks.lookup z with
    | some ls => allFitB tst ls (.str z :: r)
    | none => false
  | _ => false
theorem formB_str (tst : PyData → Bool) (ks : List (Str × List Nat)) (z : Str) (r : List PyData) : formB tst ks (.tuple (.str z :: r)) = match ks.lookup z with
    | some ls => allFitB tst ls (.str z :: r)
    | none => false := rfl
theorem testB_str (z : Str) (r : List PyData) : testB (.tuple (.str z :: r)) = match testK.lookup z with
    | some ls => allFitB (fun _ => false) ls (.str z :: r)
    | none => false := rfl
theorem formB_no {tst : PyData → Bool} {ks : List (Str × List Nat)} {d : PyData} (h : ∀ z r, d ≠ .tuple (.str z :: r)) : formB tst ks d = false := by
  unfold formB
  split
  · rename_i z r
    exact absurd rfl (h z r)
  · rfl
theorem formB_test (tst : PyData → Bool) (d : PyData) : formB tst testK d = testB d := by
  by_cases h : ∃ z r, d = .tuple (.str z :: r)
  · obtain ⟨z, r, rfl⟩ := h
    rw [formB_str, testB_str]
    cases hk : testK.lookup z with
    | none => rfl
    | some ls => exact allFit_no115 _ _ (testK_ok _ (lookup_mem hk)).2.2 _
  · rw [formB_no fun z r e => h ⟨z, r, e⟩]
    unfold testB
    split
    · rename_i z r
      exact absurd ⟨z, r, rfl⟩ h
    · rfl
theorem depth_mem : ∀ {ds : List PyData} {d : PyData}, d ∈ ds → d.depth ≤ PyData.depthAll ds
  | [], d, h => by cases h
  | x :: r, d, h => by
    unfold PyData.depthAll
    rcases List.mem_cons.mp h with rfl | h
    · omega
    · have := depth_mem h
      omega
def spLFits (B S : Bool) : Sp := fun vs H Q _ => ∃ (v : V) (b : Addr) (d : PyData) (c : Nat), vs = [.str ⟨#[c]⟩, v] ∧ Dq b H d v ∧ gD d = true ∧ sz d ≤ 10000 ∧ d.depth ≤ 60 ∧ (c = 98 → B = true) ∧ (c = 115 → S = true) ∧ ∀ H', Same H H' → Q (.bl (fitB testB c d)) H'
def spLForm (B S : Bool) : Sp := fun vs H Q _ => ∃ (v : V) (b p : Addr) (d : PyData) (ks : List (Str × List Nat)), vs = [v, .ref p] ∧ Dq b H d v ∧ H p = some (.dK (rowsK ks)) ∧ gD d = true ∧ sz d ≤ 10000 ∧ d.depth ≤ 60 ∧
  (∀ q ∈ ks, q.2.length ≤ 10 ∧ (∀ c ∈ q.2, c < 128) ∧ (98 ∈ q.2 → B = true) ∧ (115 ∈ q.2 → S = true)) ∧ ∀ H', Same H H' → Q (.bl (formB testB ks d)) H'
section
variable {P : Program} {w : World} {K : PySem.W.Frag} {mg : Str → Option Value} {base : Heap} {f : Addr} {fd : FuncData}
theorem ok_law_word (F : Fun K "_law_word" "_law_word" s_law_word f fd) (T : Txt mg) : FnOk P w K mg base CX0 1 f fd ["_law_value", "_law_most"] (spWord K) := by
  refine F.ok sc_law_word (fun vs H Q E h => ?_) (fun cdv A outer s H vs Q E hr h => ?_)
  · obtain ⟨x, m, rfl, _⟩ := h
    rfl
  · obtain ⟨x, m, rfl, hx, q⟩ := h
    refine ⟨_, (pss_one (ps_ret (pe_and (pe_callB (cr_isi K) (by rfl) T.isinstance (by decide +kernel) (pa_cons (pv 0) (pa_cons (pe_bltn (v := .ty "str") (by rfl) T.str (by decide +kernel) rfl) pa_nil))) (pe_and (pe_chain op_leX op_leX pe_int (pe_callB (call_lenX K) (by rfl) T.len PySem.boot_len (pa_cons (pv 0) pa_nil)) (pv 1)) (pe_one (pe_callB (cr_allX K (by rfl)) (by rfl) T.all (by decide +kernel) (pa_cons (pe_lc (own := [("_law_sign", 2)]) (g := gName 2) (tt := tYes) (by rfl) sc_law_word.nd (pi_str (pv 0)) (blkOk_by (own := [("_law_sign", 2)]) (N := ["_law_value", "_law_most", "_law_sign"]) (sc := defScope s_law_word) (by decide +kernel)) (fun _ _ _ _ _ => pg_name (i := 2) sc_law_word.nd rfl (Or.inl rfl)) (fun _ _ _ _ _ => pts_nil) (fun _ _ _ _ _ => (pe_cmpR (op_inX K) (pv 2) pe_str (by rfl)))) pa_nil))))))), ?_⟩
    rcases hx with ⟨l, rfl, hl⟩ | ⟨hn, T', hT, hk⟩
    · change (_ : TS) _ [some (V.str (SX.S l)), some (.int m), none] _
      have hs : (SX.S l).length ≤ sizeLine := by rw [SX.S_len, sizeLine_eq]; omega
      k_extra "rr"
      refine iteD (fun h1 => ?_) (fun h1 => ?_)
      · k_extra "rr"
        cases h2 : decide (((SX.S l).length : Int) ≤ m) with
        | false =>
          k_extra "rr"
          have e : wordB (.str (SX.S l)) m = false := by
            show (_ && (decide (((SX.S l).length : Int) ≤ m) && _)) = false
            rw [h2, Bool.false_and, Bool.and_false]
          rw [← e]
          exact q H (Same.refl H)
        | true =>
          k_extra "rr"
          intro D nD
          refine lc_signs (p := fun c => decide (c ∈ letters)) (fun c H' Q' hc q' => ?_) (fun v => rfl) hl ?_
          · k_extra "rr"
            rw [letters_eq]
            exact q'
          · k_extra "rr"
            refine all_ (SqL.of upd_same) ?_
            have e : wordB (.str (SX.S l)) m = (l.map fun c => decide (c ∈ letters)).all id := by
              show (decide (1 ≤ ((SX.S l).length : Int)) && (decide (((SX.S l).length : Int) ≤ m) && _)) = _
              rw [h2, decide_eq_true h1, Bool.true_and, Bool.true_and]
            rw [← e]
            exact q _ (same_upd nD)
      · k_extra "rr"
        have e : wordB (.str (SX.S l)) m = false := by
          show (decide (1 ≤ ((SX.S l).length : Int)) && _) = false
          rw [decide_eq_false h1, Bool.false_and]
        rw [← e]
        exact q H (Same.refl H)
    · change (_ : TS) _ [some x, some (.int m), none] _
      k_extra "rr"
      refine isi hT (kit_ty hk) ?_
      k_extra "rr"
      rw [← wordB_no hn m]
      exact q H (Same.refl H)
theorem ok_law_fits {B S : Bool} {m k n : Nat} {spF spT : Sp} (hm : m ≤ n) (hk : k ≤ n) (hn : 1 ≤ n) (F : Fun K "_law_fits" "_law_fits" s_law_fits f fd) (T : Txt mg) (c_law_word : Cal P w K mg base 1 "_law_word" (spWord K))
    (c_law_fits : Cal P w K mg base m "_law_fits" spF) (hF : B = true → ∀ vs H Q E, spLFits false false vs H Q E → spF vs H Q E) (c_law_form : Cal P w K mg base k "_law_form" spT) (hS : S = true → ∀ vs H Q E, spLForm false false vs H Q E → spT vs H Q E) : FnOk P w K mg base CX0 (n + 1) f fd ["_law_letter", "_law_value"] (spLFits B S) := by
  refine F.ok sc_law_fits (fun vs H Q E h => ?_) (fun cdv A outer s H vs Q E hr h => ?_)
  · obtain ⟨v, b, d, c, rfl, _⟩ := h
    rfl
  · obtain ⟨v, b, d, c, rfl, hv, g, hs, hdp, hB, hc, q⟩ := h
    refine ⟨_, (pss_cons (ps_if (pt_cmpR (op_eqX K hr) (pv 0) pe_str (nomark _)) (pss_one (ps_ret (pe_and (pe_c c_law_word hr (by omega) (by rfl) (pa_cons (pv 1) (pa_cons pe_int pa_nil))) (pe_one (pe_cmpR (op_ninX K) (pv 1) (pe_lst (pa_cons pe_str (pa_cons pe_str (pa_cons pe_str pa_nil)))) (by rfl)))))) pss_nil)
      (pss_cons (ps_if (pt_cmpR (op_eqX K hr) (pv 0) pe_str (nomark _)) (pss_one (ps_ret (pe_and (pe_c c_law_word hr (by omega) (by rfl) (pa_cons (pv 1) (pa_cons pe_int pa_nil))) (pe_one (pe_cmpR (op_neX K hr) (pv 1) pe_str (nomark _)))))) pss_nil)
      (pss_cons (ps_if (pt_cmpR (op_eqX K hr) (pv 0) pe_str (nomark _)) (pss_one (ps_ret (pe_and (pe_callB (cr_isi K) (by rfl) T.isinstance (by decide +kernel) (pa_cons (pv 1) (pa_cons (pe_bltn (v := .ty "str") (by rfl) T.str (by decide +kernel) rfl) pa_nil))) (pe_and (pe_cmpR op_le (pe_callB (call_lenX K) (by rfl) T.len PySem.boot_len (pa_cons (pv 1) pa_nil)) pe_int (nomark _)) (pe_and (pe_cmpR (op_ninX K) pe_str (pv 1) (by rfl)) (pe_one (pe_cmpR (op_ninX K) pe_str (pv 1) (by rfl)))))))) pss_nil)
      (pss_cons (ps_if (pt_cmpR (op_eqX K hr) (pv 0) pe_str (nomark _)) (pss_one (ps_ret (pe_and (pe_callB (cr_isi K) (by rfl) T.isinstance (by decide +kernel) (pa_cons (pv 1) (pa_cons (pe_bltn (v := .ty "str") (by rfl) T.str (by decide +kernel) rfl) pa_nil))) (pe_one (pe_cmpR (op_inX K) (pv 1) (pe_lst (pa_cons pe_str (pa_cons pe_str (pa_cons pe_str (pa_cons pe_str pa_nil))))) (by rfl)))))) pss_nil)
      (pss_cons (ps_if (pt_cmpR (op_eqX K hr) (pv 0) pe_str (nomark _)) (pss_one (ps_ret (pe_or (pe_cmpR (op_eqX K hr) (pv 1) pe_str (nomark _)) (pe_one (pe_c c_law_fits hr (by omega) (by rfl) (pa_cons pe_str (pa_cons (pv 1) pa_nil))))))) pss_nil)
      (pss_cons (ps_set (i := 2) sc_law_fits.nd rfl (.inl rfl) (pe_disp (pps_cons pe_str pe_str (pps_cons pe_str pe_str (pps_cons pe_str pe_str (pps_cons pe_str pe_str (pps_cons pe_str pe_str pps_nil))))) (by rfl) (by rfl) (fun z => by cases z) (by decide)))
      (pss_one (ps_ret (pe_ifExp (pt_cmpR (op_eqX K hr) (pv 0) pe_str (nomark _)) (pe_c c_law_form hr (by omega) (by rfl) (pa_cons (pv 1) (pa_cons (pv 2) pa_nil))) (pe_callB (cr_isi K) (by rfl) T.isinstance (by decide +kernel) (pa_cons (pv 1) (pa_cons (pe_bltn (v := .ty "tuple") (by rfl) T.tuple (by decide +kernel) rfl) pa_nil)))))))))))), ?_⟩
    change (_ : TS) _ [some (V.str ⟨#[c]⟩), some v, none] _
    have e1 := sg_lit c 99 (z := "c") (by decide +kernel)
    have e2 := sg_lit c 107 (z := "k") (by decide +kernel)
    have e3 := sg_lit c 116 (z := "t") (by decide +kernel)
    have e4 := sg_lit c 119 (z := "w") (by decide +kernel)
    have e5 := sg_lit c 98 (z := "b") (by decide +kernel)
    have e6 := sg_lit c 115 (z := "s") (by decide +kernel)
    have qf : ∀ {r : Bool}, r = fitB testB c d → ∀ H', Same H H' → Q (.bl r) H' := fun e H' s' => e ▸ q H' s'
    clear q
    unfold fitB at qf
    k_extra "rr"
    rw [e1]
    refine iteD (fun h1 => ?_) (fun h1 => ?_)
    · rw [if_pos h1] at qf
      k_extra "rr"
      refine ⟨v, 3, rfl, hv.strOr g, fun H1 s1 => ?_⟩
      rw [hv.word]
      cases ew : wordB (vOf d) 3 with
      | false =>
        k_extra "rr"
        have e : cursorB d = false := by unfold cursorB; rw [ew, Bool.false_and]
        exact qf e.symm H1 s1
      | true =>
        obtain ⟨z1, rfl⟩ : ∃ z1, d = .str z1 := by
          cases d <;> first | exact ⟨_, rfl⟩ | cases ew
        simp only [Dq] at hv
        subst hv
        k_extra "rr"
        refine ⟨by k_extra "sz", fun p np => ?_⟩
        k_extra "rr"
        refine ninSeq (.inl (SqL.of upd_same)) rfl rfl ?_
        have e : cursorB (.str z1) = !inV (.str z1) barT := by unfold cursorB; rw [ew, Bool.true_and]; rfl
        exact qf e.symm _ (s1.trans (same_upd np))
    rw [if_neg h1] at qf
    k_extra "rr"
    rw [e2]
    refine iteD (fun h2 => ?_) (fun h2 => ?_)
    · rw [if_pos h2] at qf
      k_extra "rr"
      refine ⟨v, 6, rfl, hv.strOr g, fun H1 s1 => ?_⟩
      rw [hv.word]
      cases ew : wordB (vOf d) 6 with
      | false =>
        k_extra "rr"
        have e : kindB d = false := by unfold kindB; rw [ew, Bool.false_and]
        exact qf e.symm H1 s1
      | true =>
        obtain ⟨z1, rfl⟩ : ∃ z1, d = .str z1 := by
          cases d <;> first | exact ⟨_, rfl⟩ | cases ew
        simp only [Dq] at hv
        subst hv
        k_extra "rr"
        have e : kindB (.str z1) = !decide (z1 = Str.ofString "rest") := by
          unfold kindB
          rw [ew, Bool.true_and]
          show _ = !decide (z1 = "rest")
          rw [show decide (vOf (.str z1) = V.str "rest") = decide (z1 = "rest") from decide_eq_decide.mpr ⟨V.str.inj, congrArg _⟩]
        exact qf e.symm H1 s1
    rw [if_neg h2] at qf
    k_extra "rr"
    rw [e3]
    refine iteD (fun h3 => ?_) (fun h3 => ?_)
    · rw [if_pos h3] at qf
      k_extra "rr"
      refine isi hv.ty (kit_ty (kit_isS d)) ?_
      rcases hv.isS with ⟨es, z, rfl, rfl⟩ | ⟨es, _⟩
      · rw [es]
        simp only [gD] at g
        obtain ⟨gl, gc⟩ := gS_ok g
        have et : textB (vOf (.str z)) = (decide ((z.length : Int) ≤ 20) && (!decide (34 ∈ z.cps.toList) && !decide (10 ∈ z.cps.toList))) := by
          show (decide ((z.length : Int) ≤ 20) && (z.cps.toList.map signB).all id) = _
          rw [fits_t gc]
        rw [et] at qf
        have hz : z.length ≤ sizeLine := by rw [sizeLine_eq]; omega
        k_extra "rr"
        cases d1 : decide ((z.length : Int) ≤ 20) with
        | false =>
          k_extra "rr"
          exact qf (by rw [d1, Bool.false_and]) H (Same.refl H)
        | true =>
          rw [d1, Bool.true_and] at qf
          rw [show Str.ofString "\"" = (⟨#[34]⟩ : Str) by decide +kernel, show Str.ofString "\n" = (⟨#[10]⟩ : Str) by decide +kernel]
          k_extra "rr"
          cases d2 : decide (34 ∈ z.cps.toList) with
          | true =>
            k_extra "rr"
            exact qf (by rw [d2]; rfl) H (Same.refl H)
          | false =>
            k_extra "rr"
            exact qf (by rw [d2]; rfl) H (Same.refl H)
      · rw [es]
        k_extra "rr"
        have e : textB (vOf d) = false := by
          cases d <;> first | rfl | cases es
        exact qf e.symm H (Same.refl H)
    rw [if_neg h3] at qf
    k_extra "rr"
    rw [e4]
    refine iteD (fun h4 => ?_) (fun h4 => ?_)
    · rw [if_pos h4] at qf
      k_extra "rr"
      refine isi hv.ty (kit_ty (kit_isS d)) ?_
      rcases hv.isS with ⟨es, z, rfl, rfl⟩ | ⟨es, _⟩
      · rw [es]
        k_extra "rr"
        refine ⟨by k_extra "sz", fun p np => ?_⟩
        k_extra "rr"
        exact inSeq (.inl (SqL.of upd_same)) rfl rfl (qf (by rw [es, Bool.true_and]; rfl) _ (same_upd np))
      · rw [es]
        k_extra "rr"
        exact qf (by rw [es, Bool.false_and]) H (Same.refl H)
    rw [if_neg h4] at qf
    k_extra "rr"
    rw [e5]
    refine iteD (fun h5 => ?_) (fun h5 => ?_)
    · rw [if_pos h5] at qf
      k_extra "rr"
      rcases hv.isS with ⟨es, z, rfl, rfl⟩ | ⟨es, _⟩
      · have ez : decide (vOf (.str z) = V.str "") = decide (z = Str.ofString "") := decide_eq_decide.mpr ⟨V.str.inj, congrArg _⟩
        rw [es, Bool.true_and, ez] at qf
        k_extra "rr"
        cases hz : decide (z = Str.ofString "") with
        | true =>
          k_extra "rr"
          exact qf (by rw [hz, Bool.true_or]) H (Same.refl H)
        | false =>
          k_extra "rr"
          refine hF (hB h5) _ _ _ _ ⟨.str z, b, _, 99, by rw [show Str.ofString "c" = (⟨#[99]⟩ : Str) by decide +kernel], hv, g, hs, hdp, (fun z => by cases z), (fun z => by cases z), fun H' s' => ?_⟩
          exact qf (by rw [hz, Bool.false_or]; rfl) H' s'
      · rw [es, Bool.false_and] at qf
        have ev : PyData.eqv d (.str "") = false := by
          cases d <;> first | rfl | cases es
        refine eqDd hv.dp (e := .str "") (.str _) (shaped_gD g (by omega)) (shaped_gD (d := .str "") (by decide +kernel) (by decide)) ?_
        rw [ev]
        k_extra "rr"
        refine hF (hB h5) _ _ _ _ ⟨v, b, d, 99, by rw [show Str.ofString "c" = (⟨#[99]⟩ : Str) by decide +kernel], hv, g, hs, hdp, (fun z => by cases z), (fun z => by cases z), fun H' s' => ?_⟩
        refine qf ?_ H' s'
        show cursorB d = false
        unfold cursorB
        cases d <;> first | rfl | cases es
    rw [if_neg h5] at qf
    k_extra "rr"
    intro p np
    k_extra "rr"
    refine ⟨upd_same, [(.inr "there", .str "c"), (.inr "is", .str "cc"), (.inr "above", .str "cc"), (.inr "ahead", .str "cc"), (.inr "kind", .str "ck")], rfl, by decide, ?_⟩
    rw [show mergeK [] [((.inr "there" : Key), V.str "c"), (.inr "is", .str "cc"), (.inr "above", .str "cc"), (.inr "ahead", .str "cc"), (.inr "kind", .str "ck")] = rowsK testK by decide +kernel]
    have s0 : Same H (upd (upd H p (.dK [])) p (.dK (rowsK testK))) := same_mut (same_upd np) np
    have hp0 : upd (upd H p (.dK [])) p (.dK (rowsK testK)) p = some (.dK (rowsK testK)) := upd_same
    generalize upd (upd H p (.dK [])) p (.dK (rowsK testK)) = H0 at s0 hp0
    have hv0 : Dq b H0 d v := hv.le (Le.same s0)
    k_extra "rr"
    rw [e6]
    refine iteD (fun h6 => ?_) (fun h6 => ?_)
    · rw [if_pos h6] at qf
      k_extra "rr"
      refine hS (hc h6) _ _ _ _ ⟨v, b, p, d, testK, rfl, hv0, hp0, g, hs, hdp, fun q hq => ?_, fun H' s' => qf (formB_test _ _) H' (s0.trans s')⟩
      obtain ⟨k1, k2, k3⟩ := testK_ok q hq
      exact ⟨k1, k2, fun z => absurd z ((show ∀ q ∈ testK, 98 ∉ q.2 by decide +kernel) q hq), fun z => absurd z k3⟩
    rw [if_neg h6] at qf
    k_extra "rr"
    exact isi hv0.ty (kit_ty (kit_isT d)) (qf rfl H0 s0)
theorem ok_law_form {B S : Bool} {n : Nat} (F : Fun K "_law_form" "_law_form" s_law_form f fd) (T : Txt mg) (c_law_fits : Cal P w K mg base n "_law_fits" (spLFits B S)) : FnOk P w K mg base CX0 (n + 1) f fd ["_law_value", "_law_forms"] (spLForm B S) := by
  refine F.ok sc_law_form (fun vs H Q E h => ?_) (fun cdv A outer s H vs Q E hr h => ?_)
  · obtain ⟨v, b, p, d, ks, rfl, _⟩ := h
    rfl
  · obtain ⟨v, b, p, d, ks, rfl, hv, hp, g, hs, hdp, hks, q⟩ := h
    refine ⟨_, (pss_cons (ps_if (PW.pt (pw_or (pt_not (pt_val (pe_callB (cr_isi K) (by rfl) T.isinstance (by decide +kernel) (pa_cons (pv 0) (pa_cons (pe_bltn (v := .ty "tuple") (by rfl) T.tuple (by decide +kernel) rfl) pa_nil))))) (pw_or (pt_cmpR (op_eqX K hr) (pe_callB (call_lenX K) (by rfl) T.len PySem.boot_len (pa_cons (pv 0) pa_nil)) pe_int (nomark _)) (pw_or1 (pt_not (pt_val (pe_callB (cr_isi K) (by rfl) T.isinstance (by decide +kernel) (pa_cons (pe_ix (ix_X K) (pv 0) pe_int (fun _ _ => rfl)) (pa_cons (pe_bltn (v := .ty "str") (by rfl) T.str (by decide +kernel) rfl) pa_nil))))))))) (pss_one (ps_ret pe_bl)) pss_nil)
      (pss_cons (ps_set (i := 2) sc_law_form.nd rfl (.inr rfl) (pe_dget2 (hu_of hr) (pv 1) (pe_ix (ix_X K) (pv 0) pe_int (fun _ _ => rfl)) pe_non ⟨rfl, rfl, rfl, rfl⟩))
      (pss_cons (ps_if (PW.pt (pw_or (pt_cmpR op_isNn (pv 2) pe_non (nomark _)) (pw_or1 (pt_cmpR (op_neX K hr) (pe_callB (call_lenX K) (by rfl) T.len PySem.boot_len (pa_cons (pv 2) pa_nil)) (pe_op op_sub (pe_callB (call_lenX K) (by rfl) T.len PySem.boot_len (pa_cons (pv 0) pa_nil)) pe_int) (nomark _))))) (pss_one (ps_ret pe_bl)) pss_nil)
      (pss_one (ps_ret (pe_callB (cr_allX K (by rfl)) (by rfl) T.all (by decide +kernel) (pa_cons (pe_lc (own := [("_law_k", 3)]) (g := gName 3) (tt := tYes) (by rfl) sc_law_form.nd (pi_range1 (by rfl) T.range (pa_cons (pe_callB (call_lenX K) (by rfl) T.len PySem.boot_len (pa_cons (pv 2) pa_nil)) pa_nil)) (blkOk_by (own := [("_law_k", 3)]) (N := ["_law_value", "_law_forms", "_law_letters", "_law_k"]) (sc := defScope s_law_form) (by decide +kernel)) (fun _ _ _ _ _ => pg_name (i := 3) sc_law_form.nd rfl (Or.inl rfl)) (fun _ _ _ _ _ => pts_nil) (fun _ _ _ _ _ => (pe_c c_law_fits hr (by omega) (by rfl) (pa_cons (pe_ix (ix_X K) (pv 2) (pv 3) (fun _ _ => rfl)) (pa_cons (pe_ix (ix_X K) (pv 0) (pe_op (op_addX K) (pv 3) pe_int) (fun _ _ => rfl)) pa_nil))))) pa_nil))))))), ?_⟩
    change (_ : TS) _ [some v, some (.ref p), none, none] _
    k_extra "rr"
    refine isi hv.ty (kit_ty (kit_isT d)) ?_
    k_extra "rr"
    cases hT : isT d with
    | false =>
      k_extra "rr"
      have e : formB testB ks d = false := formB_no fun z r e => by rw [e] at hT; cases hT
      rw [← e]
      exact q H (Same.refl H)
    | true =>
    obtain ⟨ds, rfl⟩ := isT_inv hT
    obtain ⟨a, l, rfl, ha, hl⟩ := id hv.tup
    have len := hl.len
    have dlen := szA_len ds
    k_extra "rr"
    match ds, hl, len with
    | [], hl, len =>
      obtain rfl := hl.inv0
      k_extra "rr"
      rw [← formB_no (tst := testB) (ks := ks) (d := .tuple []) fun z r e => by cases e]
      exact q H (Same.refl H)
    | d0 :: ds, hl, len =>
    obtain ⟨v0, l0, rfl, h0, hl0⟩ := hl.inv
    have at0 : ∀ u : V, atI (u :: l0) 0 = some u := fun u => (show atI (u :: l0) ((0 : Nat) : Int) = some u from atI_nat rfl)
    k_extra "rr"
    rw [show decide (((v0 :: l0).length : Int) = 0) = false from decide_eq_false (by rw [List.length_cons]; omega)]
    k_extra "rr"
    refine ixT (SqT.of ha) (at0 v0) ?_
    k_extra "rr"
    refine isi h0.ty (kit_ty (kit_isS d0)) ?_
    k_extra "rr"
    rcases h0.isS with ⟨es, z, rfl, rfl⟩ | ⟨es, _⟩
    · rw [es]
      k_extra "rr"
      refine ⟨p, rfl, .inl ⟨_, .inl hp⟩, ?_⟩
      refine Rg.op ?_
      k_extra "rr"
      refine ixT (SqT.of ha) (at0 _) ?_
      k_extra "rr"
      refine ⟨_, .inl ⟨_, .inr z, .inl hp, rfl, rfl⟩, ?_⟩
      rw [formB_str] at q
      rw [rowsK_get]
      cases hk : ks.lookup z with
      | none =>
        rw [hk] at q
        k_extra "rr"
        exact q H (Same.refl H)
      | some ls =>
      rw [hk] at q
      obtain ⟨k1, k2, k3, k4⟩ : ls.length ≤ 10 ∧ (∀ c ∈ ls, c < 128) ∧ (98 ∈ ls → B = true) ∧ (115 ∈ ls → S = true) := hks _ (lookup_mem hk)
      have q : ∀ H', Same H H' → Q (.bl (allFitB testB ls (.str z :: ds))) H' := q
      unfold allFitB at q
      show gName 2 (.str (SX.S ls)) _ _ _
      have hs1 : (SX.S ls).length ≤ sizeLine := by rw [SX.S_len, sizeLine_eq]; omega
      k_extra "rr"
      have e0 : decide (((SX.S ls).length : Int) = ((V.str z :: l0).length : Int) - 1) = decide (ls.length + 1 = (PyData.str z :: ds).length) := by
        rw [SX.S_len, len]
        exact decide_eq_decide.mpr (by simp only [List.length_cons]; omega)
      rw [e0]
      cases hl1 : decide (ls.length + 1 = (PyData.str z :: ds).length) with
      | false =>
        rw [hl1, Bool.false_and] at q
        k_extra "rr"
        exact q H (Same.refl H)
      | true =>
      rw [hl1, Bool.true_and] at q
      have hl2 := of_decide_eq_true hl1
      have hb1 : ((SX.S ls).length : Int) ≤ 10 := by rw [SX.S_len]; omega
      k_extra "rr"
      intro D nD
      simp only [gD] at g
      simp only [PyData.depth] at hdp
      simp only [sz] at hs
      have q : ∀ H', Same H H' → Q (.bl (((ls.zip ds).map fun p => fitB testB p.1 p.2).all id)) H' := q
      refine lc_range (lo := 0) (n := (((SX.S ls).length : Int)).toNat) (fun i H' => H' D = some (.lst ((((ls.zip ds).take i).map fun p => fitB testB p.1 p.2).map V.bl)) ∧ Same H H') ⟨upd_same, same_upd nD⟩ ?_ ?_
      · rintro i H2 hi ⟨eD, s2⟩
        have hi2 : i < ls.length := by
          have : ((SX.S ls).length : Int) = ls.length := by rw [SX.S_len]
          omega
        have hi3 : i < ds.length := by simp only [List.length_cons] at hl2; omega
        obtain ⟨y, hy, hd1⟩ := hl0.at (List.getElem?_eq_getElem hi3)
        have m1 : ds[i] ∈ PyData.str z :: ds := List.mem_cons_of_mem _ (List.getElem_mem hi3)
        have gd1 := gA_mem g m1
        have sd1 := szA_mem m1
        have dd1 : (ds[i]).depth ≤ 60 := by
          have := depth_mem m1
          omega
        have hd2 := hd1.le (Le.same (b := b) s2)
        k_extra "rr"
        refine ⟨rfl, ?_⟩
        k_extra "rr"
        refine ixS (k := ls[i]) hs1 ?_ ?_
        · rw [show (0 : Int) + (i : Int) = (i : Int) by omega]
          refine atI_nat ?_
          simp [SX.S]
        k_extra "rr"
        refine ixT (SqT.of (s2 _ _ ha)) (show atI (V.str z :: l0) (0 + (i : Int) + 1) = some y from ?_) ?_
        · rw [show (0 : Int) + (i : Int) + 1 = ((i + 1 : Nat) : Int) by omega]
          exact atI_nat hy
        k_extra "rr"
        refine ⟨y, b, ds[i], ls[i], rfl, hd2, gd1, by omega, dd1, fun e => k3 (e ▸ List.getElem_mem hi2), fun e => k4 (e ▸ List.getElem_mem hi2), fun H4 s4 => ?_⟩
        have ez : (ls.zip ds)[i]? = some (ls[i], ds[i]) := by
          rw [List.getElem?_zip_eq_some]
          exact ⟨List.getElem?_eq_getElem hi2, List.getElem?_eq_getElem hi3⟩
        refine ⟨_, s4 _ _ eD, ?_, ?_, same_mut (s2.trans s4) nD⟩
        · rw [List.length_map, List.length_map, List.length_take, sizeLine_eq]
          omega
        · rw [upd_same, List.take_add_one, ez, List.map_append, List.map_append]
          rfl
      · rintro H2 ⟨eD, s2⟩
        rw [List.take_of_length_le (by
          have : ((SX.S ls).length : Int) = ls.length := by rw [SX.S_len]
          rw [List.length_zip]
          omega)] at eD
        k_extra "rr"
        refine all_ (SqL.of eD) ?_
        exact q H2 s2
    · rw [es]
      k_extra "rr"
      rw [← formB_no (tst := testB) (ks := ks) (d := .tuple (d0 :: ds)) fun z r e => by cases e; cases es]
      exact q H (Same.refl H)
end

/-! ### _law_good_line -/
theorem upd_id {H : Hp} {p : Addr} {o : HO} (h : H p = some o) : upd H p o = H := by
  funext b
  by_cases e : b = p
  · rw [e, upd_same, h]
  · rw [upd_ne e]
def constP (r : Str × Str) : TE × TE := (tC (.str r.1), tC (.str r.2))
theorem pairsL_go {σ : L2.St} {p : Addr} {Q : Hp → Prop} : ∀ (rows : List (Str × Str)) (H : Hp) (cur : List (Key × V)), H p = some (.dK cur) → cur.length + rows.length < sizeLine →
    Q (upd H p (.dK (rows.foldl (fun acc r => putK acc (.inr r.1) (.str r.2)) cur))) → Lg.tPairsL p (rows.map constP) σ H Q
  | [], H, cur, h, _, q => by
    have q : Q (upd H p (.dK cur)) := q
    rw [upd_id h] at q
    exact q
  | r :: rs, H, cur, h, hl, q => by
    rw [List.length_cons] at hl
    refine ⟨.inr r.1, cur, rfl, h, by omega, ?_⟩
    refine pairsL_go rs _ (putK cur (.inr r.1) (.str r.2)) upd_same (by have := length_putK cur (Sum.inr r.1 : Key) (.str r.2); omega) ?_
    have e : ∀ o, upd (upd H p (.dK (putK cur (.inr r.1) (.str r.2)))) p o = upd H p o := fun o => by
      funext b
      by_cases e : b = p
      · rw [e, upd_same, upd_same]
      · rw [upd_ne e, upd_ne e, upd_ne e]
    rw [e]
    exact q
theorem dispL_ {σ : L2.St} {H : Hp} {Q : VK} (rows : List (Str × Str)) (ks : List (Str × List Nat)) {trs : List (TE × TE)} (e : trs = rows.map constP) (hl : rows.length ≤ 100) (ek : rows.foldl (fun acc r => putK acc (.inr r.1) (.str r.2)) [] = rowsK ks)
    (q : ∀ p H', Same H H' → H' p = some (.dK (rowsK ks)) → Q (.ref p) H') : Lg.tDispL trs σ H Q := by
  subst e
  intro p np
  refine pairsL_go rows _ [] upd_same (by rw [sizeLine_eq]; show 0 + _ < _; omega) ?_
  rw [ek]
  exact q p _ (same_mut (same_upd np) np) upd_same
def formRows : List (Str × Str) := [("first", "ckb"), ("last", "ckb"), ("up", "ckc"), ("over", "ckcc"), ("next", "ckc"), ("back", "ckc"), ("put", "cktwb"), ("copy", "ccwb"), ("move", "cwb"), ("wrap", "cckt"), ("lift", "c"), ("strike", "c"), ("kind", "ck"), ("text", "ct"), ("fresh", ""), ("if", "sll")]
theorem formRows_eq : formRows.foldl (fun acc r => putK acc (.inr r.1) (.str r.2)) [] = rowsK formK := by decide +kernel
section
variable {P : Program} {w : World} {K : PySem.W.Frag} {mg : Str → Option Value} {base : Heap} {f : Addr} {fd : FuncData}
def spLGood : Sp := fun vs H Q _ => ∃ (v : V) (b : Addr) (d : PyData), vs = [v] ∧ Dq b H d v ∧ gD d = true ∧ sz d ≤ 10000 ∧ d.depth ≤ 60 ∧ ∀ H', Same H H' → Q (.bl (lineB d)) H'
theorem ok_law_good_line {n : Nat} (F : Fun K "_law_good_line" "_law_good_line" s_law_good_line f fd) (T : Txt mg) (c_law_form : Cal P w K mg base n "_law_form" (spLForm true true)) : FnOk P w K mg base CX0 (n + 1) f fd ["_law_value"] spLGood := by
  refine F.ok sc_law_good_line (fun vs H Q E h => ?_) (fun cdv A outer s H vs Q E hr h => ?_)
  · obtain ⟨v, b, d, rfl, _⟩ := h
    rfl
  · obtain ⟨v, b, d, rfl, hv, g, hs, hdp, q⟩ := h
    refine ⟨_, (pss_cons (ps_set (i := 1) sc_law_good_line.nd rfl (.inl rfl) (Lg.pe_dispL (Lg.ppl_cons pe_str pe_str (Lg.ppl_cons pe_str pe_str (Lg.ppl_cons pe_str pe_str (Lg.ppl_cons pe_str pe_str (Lg.ppl_cons pe_str pe_str (Lg.ppl_cons pe_str pe_str (Lg.ppl_cons pe_str pe_str (Lg.ppl_cons pe_str pe_str (Lg.ppl_cons pe_str pe_str (Lg.ppl_cons pe_str pe_str (Lg.ppl_cons pe_str pe_str (Lg.ppl_cons pe_str pe_str (Lg.ppl_cons pe_str pe_str (Lg.ppl_cons pe_str pe_str (Lg.ppl_cons pe_str pe_str (Lg.ppl_cons pe_str pe_str Lg.ppl_nil)))))))))))))))) (by rfl) (by rfl) (by rfl)))
      (pss_cons (ps_if (pt_not (pt_val (pe_c c_law_form hr (by omega) (by rfl) (pa_cons (pv 0) (pa_cons (pv 1) pa_nil))))) (pss_one (ps_ret pe_bl)) pss_nil)
      (pss_one (ps_ret (pe_or (pe_cmpR (op_ninX K) (pe_ix (ix_X K) (pv 0) pe_int (fun _ _ => rfl)) (pe_lst (pa_cons pe_str (pa_cons pe_str (pa_cons pe_str pa_nil)))) (by rfl)) (pe_or (pe_cmpR (op_neX K hr) (pe_ix (ix_X K) (pv 0) (pe_un un_neg pe_int) (fun _ _ => rfl)) pe_str (nomark _)) (pe_one (pe_cmpR (op_inX K) (pe_ix (ix_X K) (pv 0) (pe_un un_neg pe_int) (fun _ _ => rfl)) (pe_lst (pa_cons pe_str (pa_cons pe_str pa_nil))) (by rfl))))))))), ?_⟩
    change (_ : TS) _ [some v, none] _
    k_extra "rr"
    refine dispL_ formRows formK rfl (by decide) formRows_eq fun p H0 s0 hp0 => ?_
    have hv0 : Dq b H0 d v := hv.le (Le.same s0)
    k_extra "rr"
    refine ⟨v, b, p, d, formK, rfl, hv0, hp0, g, hs, hdp, fun q hq => ?_, fun H1 s1 => ?_⟩
    · obtain ⟨k1, k2, k3⟩ := formK_ok q hq
      exact ⟨k1, k2, fun _ => rfl, fun _ => rfl⟩
    have s01 := s0.trans s1
    have hv1 := hv0.le (Le.same (b := b) s1)
    k_extra "rr"
    by_cases hdx : ∃ z r, d = .tuple (.str z :: r)
    case neg =>
      rw [formB_no fun z r e => hdx ⟨z, r, e⟩]
      k_extra "rr"
      have e : lineB d = false := by
        cases hl : lineB d with
        | false => rfl
        | true => exact absurd (line_str hl) hdx
      rw [← e]
      exact q H1 s01
    obtain ⟨z, r, rfl⟩ := hdx
    rw [formB_str]
    cases hk : formK.lookup z with
    | none =>
      have e : lineB (.tuple (.str z :: r)) = false := by
        show (match formK.lookup z with | some ls => allFitB testB ls (.str z :: r) && (!decide (119 ∈ ls) || tailB (.str z :: r)) | none => false) = _
        rw [hk]
      k_extra "rr"
      rw [← e]
      exact q H1 s01
    | some ls =>
    obtain ⟨k1, k2, k3⟩ : ls.length ≤ 10 ∧ (∀ c ∈ ls, c < 128) ∧ (119 ∈ ls → ls = [99, 107, 116, 119, 98] ∨ ls = [99, 99, 119, 98] ∨ ls = [99, 119, 98]) := formK_ok _ (lookup_mem hk)
    have e : lineB (.tuple (.str z :: r)) = (allFitB testB ls (.str z :: r) && (!decide (119 ∈ ls) || tailB (.str z :: r))) := by
      show (match formK.lookup z with | some ls => allFitB testB ls (.str z :: r) && (!decide (119 ∈ ls) || tailB (.str z :: r)) | none => false) = _
      rw [hk]
    rw [e] at q
    show if (!allFitB testB ls (.str z :: r)) = true then _ else _
    cases hf : allFitB testB ls (.str z :: r) with
    | false =>
      k_extra "rr"
      rw [hf, Bool.false_and] at q
      exact q H1 s01
    | true =>
    rw [hf, Bool.true_and] at q
    have ew : inV (.str z) [V.str "put", .str "copy", .str "move"] = decide (119 ∈ ls) := (show ∀ p ∈ formK, inV (.str p.1) [V.str "put", .str "copy", .str "move"] = decide (119 ∈ p.2) by decide +kernel) _ (lookup_mem hk)
    have hz0 : ∃ a l, v = .ref a ∧ H1 a = some (.tup (.str z :: l)) := by
      obtain ⟨a, l, rfl, ha, hd⟩ := id hv1.tup
      obtain ⟨v0, l0, rfl, h0, _⟩ := hd.inv
      simp only [Dq] at h0
      subst h0
      exact ⟨a, l0, rfl, ha⟩
    obtain ⟨a0, l0, rfl, ha0⟩ := hz0
    k_extra "rr"
    refine ixT (SqT.of ha0) (show atI (V.str z :: l0) ((0 : Nat) : Int) = some _ from atI_nat rfl) ?_
    k_extra "rr"
    refine ⟨by k_extra "sz", fun p1 np1 => ?_⟩
    have s1x := same_upd (o := .lst [V.str "put", .str "copy", .str "move"]) np1
    have hp1 : upd H1 p1 (.lst [V.str "put", .str "copy", .str "move"]) p1 = some (.lst [V.str "put", .str "copy", .str "move"]) := upd_same
    have hv1 := hv1.le (Le.same (b := b) s1x)
    have s01 := s01.trans s1x
    generalize upd H1 p1 (.lst [V.str "put", .str "copy", .str "move"]) = H1 at hp1 hv1 s01
    k_extra "rr"
    refine ninSeq (.inl (SqL.of hp1)) rfl rfl ?_
    rw [ew]
    cases hw : decide (119 ∈ ls) with
    | false =>
      k_extra "rr"
      rw [hw] at q
      exact q H1 s01
    | true =>
    rw [hw, Bool.not_true, Bool.false_or] at q
    obtain ⟨a, l, ea, ha, hd⟩ := id hv1.tup
    cases ea
    have len := hd.len
    unfold allFitB at hf
    rw [Bool.and_eq_true, decide_eq_true_eq, List.all_map, List.all_eq_true] at hf
    obtain ⟨hf1, hf2⟩ := hf
    obtain ⟨pre, w0, b0, rfl, fw, fb⟩ : ∃ (pre : List PyData) (w0 b0 : PyData), r = pre ++ [w0, b0] ∧ isS w0 = true ∧ isS b0 = true := by
      have fin : ∀ {w0 b0 : PyData}, fitB testB 119 w0 = true → fitB testB 98 b0 = true → isS w0 = true ∧ isS b0 = true := fun {w0 b0} h1 h2 => by
        have h1 : (isS w0 && inV (vOf w0) placesT) = true := h1
        have h2 : (isS b0 && (decide (vOf b0 = .str "") || cursorB b0)) = true := h2
        rw [Bool.and_eq_true] at h1 h2
        exact ⟨h1.1, h2.1⟩
      rcases k3 (of_decide_eq_true hw) with rfl | rfl | rfl
      · match r, hf1, hf2 with
        | [x1, x2, x3, w0, b0], _, hf2 =>
          obtain ⟨i1, i2⟩ := fin (w0 := w0) (b0 := b0) (hf2 (119, w0) (by simp)) (hf2 (98, b0) (by simp))
          exact ⟨[x1, x2, x3], w0, b0, rfl, i1, i2⟩
      · match r, hf1, hf2 with
        | [x1, x2, w0, b0], _, hf2 =>
          obtain ⟨i1, i2⟩ := fin (w0 := w0) (b0 := b0) (hf2 (119, w0) (by simp)) (hf2 (98, b0) (by simp))
          exact ⟨[x1, x2], w0, b0, rfl, i1, i2⟩
      · match r, hf1, hf2 with
        | [x1, w0, b0], _, hf2 =>
          obtain ⟨i1, i2⟩ := fin (w0 := w0) (b0 := b0) (hf2 (119, w0) (by simp)) (hf2 (98, b0) (by simp))
          exact ⟨[x1], w0, b0, rfl, i1, i2⟩
    obtain ⟨zw, rfl⟩ : ∃ zw, w0 = .str zw := by
      cases w0 <;> first | exact ⟨_, rfl⟩ | cases fw
    obtain ⟨zb, rfl⟩ : ∃ zb, b0 = .str zb := by
      cases b0 <;> first | exact ⟨_, rfl⟩ | cases fb
    have et : tailB (.str z :: (pre ++ [.str zw, .str zb])) = (!decide (zb = Str.ofString "") || inV (.str zw) endsT) := by
      unfold tailB
      rw [show (PyData.str z :: (pre ++ [.str zw, .str zb])).reverse = .str zb :: .str zw :: (PyData.str z :: pre).reverse by simp]
      show (!decide (V.str zb = V.str "") || _) = _
      rw [show decide (V.str zb = V.str "") = decide (zb = Str.ofString "") from decide_eq_decide.mpr ⟨V.str.inj, congrArg _⟩]
      rfl
    rw [et] at q
    obtain ⟨l1, v1, rfl, hd1, hb1⟩ := DqA.unsnoc (ds := .str z :: (pre ++ [.str zw])) (d := .str zb) (by simpa using hd)
    obtain ⟨l2, v2, rfl, hd2, hw1⟩ := DqA.unsnoc (ds := .str z :: pre) (d := .str zw) (by simpa using hd1)
    simp only [Dq] at hb1 hw1
    subst hb1 hw1
    have i1 : atI (l2 ++ [V.str zw] ++ [V.str zb]) (-1) = some (.str zb) := L2.atI_last _ _
    have i2 : atI (l2 ++ [V.str zw] ++ [V.str zb]) (-2) = some (.str zw) := atI_last2 _ _ _
    k_extra "rr"
    refine ixT (SqT.of ha) i1 ?_
    k_extra "rr"
    cases hz : decide (zb = Str.ofString "") with
    | false =>
      k_extra "rr"
      rw [hz] at q
      exact q H1 s01
    | true =>
      rw [hz, Bool.not_true, Bool.false_or] at q
      k_extra "rr"
      refine ixT (SqT.of ha) i2 ?_
      k_extra "rr"
      refine ⟨by k_extra "sz", fun p2 np2 => ?_⟩
      k_extra "rr"
      exact inSeq (.inl (SqL.of upd_same)) rfl rfl (q _ (s01.trans (same_upd np2)))
end

/-! ### _law_bad: the number of the first wrong line, by the law -/
def cvB (n : Int) (r : Int × Int) : Int × Int := if 0 ≤ r.1 then (n + r.1, 0) else (-1, n + r.2)
def spLBad (g : List PyData → Int × Int) (dep : Int) : Sp := fun vs H Q _ => ∃ (a b : Addr) (l : List V) (ds : List PyData) (num : Int), vs = [.ref a, .int num, .int dep] ∧ H a = some (.tup l) ∧ DqA b H ds l ∧ gA ds = true ∧ szA ds < 10000 ∧ PyData.depthAll ds ≤ 60 ∧ 0 ≤ num ∧
  ∀ (p : Addr) (H' : Hp), Same H H' → H' p = some (.tup [.int (cvB num (g ds)).1, .int (cvB num (g ds)).2]) → Q (.ref p) H'
section
variable {P : Program} {w : World} {K : PySem.W.Frag} {mg : Str → Option Value} {base : Heap} {f : Addr} {fd : FuncData}
theorem ok_law_bad {m n : Nat} {rec_ : List PyData → Int × Int} {ok : Bool} {dep : Int} {spR : Sp} (hn : 1 ≤ n) (hm : m ≤ n) (hok : ok = !decide (dep > 3)) (hnn : ∀ es, 0 ≤ (rec_ es).2) (F : Fun K "_law_bad" "_law_bad" s_law_bad f fd) (T : Txt mg) (c_law_good_line : Cal P w K mg base n "_law_good_line" spLGood)
    (c_law_bad : Cal P w K mg base m "_law_bad" spR) (hR : ok = true → ∀ vs H Q E, spLBad rec_ (dep + 1) vs H Q E → spR vs H Q E) : FnOk P w K mg base CX0 (n + 1) f fd ["_law_lines_z", "_law_number", "_law_depth"] (spLBad (fun ds => faultL rec_ ok ds 0) dep) := by
  refine F.ok sc_law_bad (fun vs H Q E h => ?_) (fun cdv A outer s H vs Q E hr h => ?_)
  · obtain ⟨a, b, l, ds, num, rfl, _⟩ := h
    rfl
  · obtain ⟨a, b, l, ds, num, rfl, hD, hd, g, hs, hdp, hnum, q⟩ := h
    have len := hd.len
    have q : ∀ (p : Addr) (H' : Hp), Same H H' → H' p = some (.tup [.int (cvB num (faultL rec_ ok ds 0)).1, .int (cvB num (faultL rec_ ok ds 0)).2]) → Q (.ref p) H' := q
    obtain ⟨res, hres⟩ : ∃ res, faultL rec_ ok ds 0 = res := ⟨_, rfl⟩
    rw [hres] at q
    refine ⟨_, (pss_cons (ps_set (i := 3) sc_law_bad.nd rfl (.inl rfl) (pv 1))
      (pss_cons (ps_for PassesOwn.never rfl (pi_tupX K (pv 0)) (pg_name (i := 4) sc_law_bad.nd rfl (.inl rfl)) (pss_cons (ps_if (PW.pt (pw_or (pt_not (pt_val (pe_c c_law_good_line hr (by omega) (by rfl) (pa_cons (pv 4) pa_nil)))) (pw_or1 (PW.pt (pw_and (pt_cmpR (op_eqX K hr) (pe_ix (ix_X K) (pv 4) pe_int (fun _ _ => rfl)) pe_str (nomark _)) (pw_and1 (pt_cmpR op_gt (pv 2) pe_int (nomark _)))))))) (pss_one (ps_ret (pe_tup (pa_cons (pv 3) (pa_cons pe_int pa_nil))))) pss_nil)
      (pss_cons (ps_set (i := 3) sc_law_bad.nd rfl (.inl rfl) (pe_op (op_addX K) (pv 3) pe_int))
      (pss_one (ps_if (pt_cmpR (op_eqX K hr) (pe_ix (ix_X K) (pv 4) pe_int (fun _ _ => rfl)) pe_str (nomark _)) (pss_one (ps_for PassesOwn.never rfl (pi_tupX K (pe_slice (sl_X K) (pv 4) (po_some pe_int) po_none)) (pg_name (i := 5) sc_law_bad.nd rfl (.inl rfl)) (pss_cons (ps_asg (pe_c c_law_bad hr (by omega) (by rfl) (pa_cons (pv 5) (pa_cons (pv 3) (pa_cons (pe_op (op_addX K) (pv 2) pe_int) pa_nil)))) (pg_tupX K (pg_tup (n := 2) (by rfl) (pgs_cons (pg_name (i := 6) sc_law_bad.nd rfl (.inl rfl)) (pgs_cons (pg_name (i := 3) sc_law_bad.nd rfl (.inl rfl)) pgs_nil)))))
      (pss_one (ps_if (pt_cmpR op_ge (pv 6) pe_int (nomark _)) (pss_one (ps_ret (pe_tup (pa_cons (pv 6) (pa_cons pe_int pa_nil))))) pss_nil))))) pss_nil)))))
      (pss_one (ps_ret (pe_tup (pa_cons (pe_un un_neg pe_int) (pa_cons (pv 3) pa_nil))))))), ?_⟩
    change (_ : TS) _ [some (V.ref a), some (.int num), some (.int dep), none, none, none, none] _
    k_extra "rr"
    refine ⟨a, rfl, ⟨l, SqT.of hD⟩, ?_⟩
    refine for_it (walk_tup (K := K) (a := a) (xs := l)) (fun i σ H' => ∃ (mi : Int) (v4 v5 v6 : Option V), σ = [some (.ref a), some (.int num), some (.int dep), some (.int (num + mi)), v4, v5, v6] ∧ 0 ≤ mi ∧ Same H H' ∧ faultL rec_ ok (ds.drop i) mi = res) ⟨0, _, _, _, by rw [Int.add_zero]; rfl, Int.le_refl _, Same.refl _, hres⟩ (fun i σ H' _ ⟨_, _, _, _, _, _, s, _⟩ => SqT.of (s _ _ hD)) ?_ ?_
    · rintro i x σ H1 H2 hi ⟨mi, v4, v5, v6, rfl, m0, s1, hbx⟩ ⟨rfl, hx⟩
      obtain ⟨d, ed, hd1⟩ := hd.get hx
      have hdm := List.mem_of_getElem? ed
      have gd := gA_mem g hdm
      have sd := szA_mem hdm
      have dd := depth_mem hdm
      have hdd := hd1.le (Le.same (b := b) s1)
      rw [faultL_drop ed] at hbx
      have fault : ∀ {H' : Hp} {p : Addr} {u : Int × Int}, Same H H' → H' p = none → res = u → 0 ≤ u.1 → Q (.ref p) (upd H' p (.tup [.int (num + u.1), .int 0])) := fun {H' p u} s' np e h0 => by
        refine q p _ (s'.trans (same_upd np)) ?_
        rw [upd_same, e]
        unfold cvB
        rw [if_pos h0]
      k_extra "rr"
      refine ⟨x, b, d, rfl, hdd, gd, by omega, by omega, fun H3 s3 => ?_⟩
      have s13 := s1.trans s3
      have hd3 := hdd.le (Le.same (b := b) s3)
      unfold stepF at hbx
      cases hl : lineB d with
      | false =>
        rw [hl, if_pos rfl] at hbx
        k_extra "rr"
        refine ⟨by k_extra "sz", fun p np => ?_⟩
        k_extra "rr"
        exact fault (u := (mi, mi)) s13 np hbx.symm m0
      | true =>
      rw [hl, if_neg (by decide)] at hbx
      obtain ⟨z, r, rfl⟩ := line_str hl
      obtain ⟨ad, ld, rfl, had, hld⟩ := id hd3.tup
      obtain ⟨v0, lr, rfl, h0, hlr⟩ := hld.inv
      simp only [Dq] at h0
      subst h0
      have at0 : atI (V.str z :: lr) 0 = some (.str z) := (show atI (V.str z :: lr) ((0 : Nat) : Int) = some _ from atI_nat rfl)
      have ez : decide (z = Str.ofString "if") = ifB (.tuple (.str z :: r)) := rfl
      k_extra "rr"
      refine ixT (SqT.of had) at0 ?_
      k_extra "rr"
      rw [ez]
      cases hi : ifB (.tuple (.str z :: r)) with
      | false =>
        rw [hi, if_neg (by decide)] at hbx
        k_extra "rr"
        refine ixT (SqT.of had) at0 ?_
        k_extra "rr"
        rw [ez, hi]
        k_extra "rr"
        exact ⟨mi + 1, _, _, _, by rw [Int.add_assoc]; rfl, by omega, s13, hbx⟩
      | true =>
      rw [hi, if_pos rfl] at hbx
      k_extra "rr"
      have hok2 : decide (dep > 3) = !ok := by rw [hok, Bool.not_not]
      rw [hok2]
      cases ho : ok with
      | false =>
        rw [ho, if_neg (by decide)] at hbx
        k_extra "rr"
        refine ⟨by k_extra "sz", fun p np => ?_⟩
        k_extra "rr"
        exact fault (u := (mi, mi)) s13 np hbx.symm m0
      | true =>
      rw [ho, if_pos rfl] at hbx
      obtain ⟨t, da, db, ee, ht⟩ := line_if hl hi
      cases ee
      obtain ⟨vt, lr1, rfl, ht1, hlr1⟩ := hlr.inv
      obtain ⟨va, lr2, rfl, ha1, hlr2⟩ := hlr1.inv
      obtain ⟨vb, lr3, rfl, hb1, hlr3⟩ := hlr2.inv
      obtain rfl := hlr3.inv0
      k_extra "rr"
      rw [show decide (Str.ofString "if" = Str.ofString "if") = true from decide_eq_true rfl]
      k_extra "rr"
      refine slTX had fun pr H4 s4 h4 => ?_
      rw [show cutV [V.str (Str.ofString "if"), vt, va, vb] (some 2) none = [va, vb] from cutV_drop (xs := [V.str (Str.ofString "if"), vt, va, vb]) (i := 2) (by simp)] at h4
      refine ⟨pr, rfl, ⟨_, SqT.of h4⟩, ?_⟩
      have s14 := s13.trans s4
      have dA : ∀ {j : Nat} {y : V}, [va, vb][j]? = some y → ∃ dj, [da, db][j]? = some dj ∧ Dq b H3 (.tuple dj) y ∧ gA dj = true ∧ szA dj < 10000 ∧ PyData.depthAll dj ≤ 60 := fun {j y} hy => by
        simp only [gD, gA, Bool.and_eq_true] at gd
        simp only [sz, szA] at sd
        simp only [PyData.depth, PyData.depthAll] at dd
        match j, hy with
        | 0, hy =>
          cases hy
          exact ⟨da, rfl, ha1, gd.2.2.1, by omega, by omega⟩
        | 1, hy =>
          cases hy
          exact ⟨db, rfl, hb1, gd.2.2.2.1, by omega, by omega⟩
      refine for_it (walk_tup (K := K) (a := pr) (xs := [va, vb])) (fun j σ H' => ∃ (mj : Int) (v5 v6 : Option V), σ = [some (.ref a), some (.int num), some (.int dep), some (.int (num + mj)), some (.ref ad), v5, v6] ∧ 0 ≤ mj ∧ Same H4 H' ∧ partsF rec_ ([da, db].drop j) mj = partsF rec_ [da, db] (mi + 1)) ⟨mi + 1, _, _, by rw [Int.add_assoc]; rfl, by omega, Same.refl _, rfl⟩ (fun j σ H' _ ⟨_, _, _, _, _, s, _⟩ => SqT.of (s _ _ h4)) ?_ ?_
      · rintro j y σ H5 H6 hj ⟨mj, v5, v6, rfl, mj0, s5, hpj⟩ ⟨rfl, hy⟩
        obtain ⟨dj, edj, hdj, gdj, sdj, ddj⟩ := dA hy
        have hdj5 := hdj.le (Le.same (b := b) (s4.trans s5))
        obtain ⟨aj, lj, rfl, haj, hlj⟩ := id hdj5.tup
        have ep : partsF rec_ ([da, db].drop j) mj = if 0 ≤ (rec_ dj).1 then .inl (mj + (rec_ dj).1, mj) else partsF rec_ ([da, db].drop (j + 1)) (mj + (rec_ dj).2) := by
          match j, edj with
          | 0, e => cases e; rfl
          | 1, e => cases e; rfl
        rw [ep] at hpj
        have n2 := hnn dj
        k_extra "rr"
        refine hR ho _ _ _ _ ⟨aj, b, lj, dj, num + mj, rfl, haj, hlj, gdj, sdj, ddj, by omega, fun pq H7 s7 h7 => ?_⟩
        have s17 := (s14.trans s5).trans s7
        by_cases h0 : 0 ≤ (rec_ dj).1
        · rw [if_pos h0] at hpj
          rw [show cvB (num + mj) (rec_ dj) = (num + mj + (rec_ dj).1, 0) from if_pos h0] at h7
          k_extra "rr"
          rw [show decide ((0 : Int) ≤ num + mj + (rec_ dj).1) = true from decide_eq_true (by omega)]
          k_extra "rr"
          refine ⟨by k_extra "sz", fun p np => ?_⟩
          k_extra "rr"
          have er : res = (mj + (rec_ dj).1, mj) := by
            rw [← hbx]
            show (match partsF rec_ [da, db] (mi + 1) with | .inl res => res | .inr m' => faultL rec_ true (ds.drop (i + 1)) m') = _
            rw [← hpj]
          have := fault (u := (mj + (rec_ dj).1, mj)) s17 np er (by show 0 ≤ mj + _; omega)
          rw [show num + (mj + (rec_ dj).1, mj).1 = num + mj + (rec_ dj).1 from (Int.add_assoc ..).symm] at this
          exact this
        · rw [if_neg h0] at hpj
          rw [show cvB (num + mj) (rec_ dj) = (-1, num + mj + (rec_ dj).2) from if_neg h0] at h7
          k_extra "rr"
          rw [show decide ((0 : Int) ≤ -1) = false by decide]
          k_extra "rr"
          exact ⟨mj + (rec_ dj).2, _, _, by rw [Int.add_assoc]; rfl, by omega, s5.trans s7, hpj⟩
      · rintro σ H5 ⟨mj, v5, v6, rfl, mj0, s5, hpj⟩
        k_extra "rr"
        refine ⟨mj, _, _, _, rfl, mj0, s14.trans s5, ?_⟩
        rw [← hbx]
        show _ = (match partsF rec_ [da, db] (mi + 1) with | .inl res => res | .inr m' => faultL rec_ true (ds.drop (i + 1)) m')
        rw [← hpj]
        rfl
    · rintro σ H1 ⟨mi, v4, v5, v6, rfl, m0, s1, hbx⟩
      rw [len, List.drop_length] at hbx
      have hbx : ((-1 : Int), mi) = res := hbx
      k_extra "rr"
      refine ⟨by k_extra "sz", fun p np => ?_⟩
      k_extra "rr"
      refine q p _ (s1.trans (same_upd np)) ?_
      rw [upd_same, ← hbx]
      rfl
end

/-! ### tuples headed by copy: what bent lines may hold -/
mutual
def hC : PyData → Nat
  | .tuple ds => (if copyB (.tuple ds) = true then 1 else 0) + hCA ds
  | .none => 0
  | .bool _ => 0
  | .int _ => 0
  | .str _ => 0
  | .list _ => 0
  | .dict _ => 0
def hCA : List PyData → Nat
  | [] => 0
  | d :: r => hC d + hCA r
end
theorem hCA_app : ∀ ds es : List PyData, hCA (ds ++ es) = hCA ds + hCA es
  | [], es => by simp [hCA]
  | d :: ds, es => by
    simp only [List.cons_append, hCA, hCA_app ds es]
    omega
theorem hCA_in (d : PyData) : (if copyB d = true then 1 else 0) + (hCA (inA d) + hCA (inB d)) ≤ hC d ∨ copyB d = false ∧ inA d = [] ∧ inB d = [] := by
  cases d with
  | tuple ds =>
    refine .inl ?_
    have e : hCA (inA (.tuple ds)) + hCA (inB (.tuple ds)) ≤ hCA ds := by
      unfold inA inB
      split
      · rename_i x y a z e
        cases e
        split
        · rename_i x2 y2 z2 b e
          cases e
          simp only [hCA, hC]
          omega
        · simp only [hCA, hC]
          omega
      · split
        · rename_i x y z b e
          cases e
          simp only [hCA, hC]
          omega
        · simp only [hCA]
          omega
    simp only [hC]
    omega
  | _ => exact .inr ⟨show decide (Str.ofString "" = Str.ofString "copy") = false by decide +kernel, rfl, rfl⟩
theorem everyL_cop {rec_ : List PyData → List PyData} (h : ∀ ds, ((rec_ ds).filter copyB).length ≤ hCA ds) : ∀ ds : List PyData, ((everyL rec_ ds).filter copyB).length ≤ hCA ds
  | [] => Nat.zero_le _
  | d :: r => by
    have ih := everyL_cop h r
    show ((d :: ((if ifB d = true then rec_ (inA d) ++ rec_ (inB d) else []) ++ everyL rec_ r)).filter copyB).length ≤ hC d + hCA r
    have hm : ((if ifB d = true then rec_ (inA d) ++ rec_ (inB d) else []).filter copyB).length ≤ hCA (inA d) + hCA (inB d) := by
      split
      · rw [List.filter_append, List.length_append]
        have ha := h (inA d)
        have hb := h (inB d)
        omega
      · exact Nat.zero_le _
    have hd : (if copyB d = true then 1 else 0) + (hCA (inA d) + hCA (inB d)) ≤ hC d := by
      rcases hCA_in d with h1 | ⟨h1, h2, h3⟩
      · exact h1
      · rw [h1, h2, h3]
        exact Nat.zero_le _
    rw [List.filter_cons, List.filter_append]
    cases hc : copyB d with
    | true =>
      rw [hc, if_pos rfl] at hd
      rw [if_pos rfl, List.length_cons, List.length_append]
      omega
    | false =>
      rw [hc, if_neg (by decide)] at hd
      rw [if_neg (by decide), List.length_append]
      omega
theorem everyN_cop : ∀ (n : Nat) (ds : List PyData), ((everyN n ds).filter copyB).length ≤ hCA ds
  | 0, ds => everyL_cop (fun _ => Nat.zero_le _) ds
  | n + 1, ds => everyL_cop (everyN_cop n) ds
theorem open_cons (d : PyData) (r : List PyData) : openD (.tuple (d :: r)) = openD (.tuple [d]) := by cases d <;> rfl
theorem copy_cons (d : PyData) (r : List PyData) : copyB (.tuple (d :: r)) = copyB (.tuple [d]) := by
  unfold copyB
  rw [open_cons]
theorem hC_put {d0 o : PyData} {r : List PyData} {s : Nat} (hs : s < (d0 :: r).length) (h0 : hC o = 0) (ho : copyB (.tuple [o]) = false) : hC (.tuple ((d0 :: r).take s ++ [o] ++ (d0 :: r).drop (s + 1))) ≤ hC (.tuple (d0 :: r)) := by
  have e1 : hCA (d0 :: r) = hCA ((d0 :: r).take s) + (hC (d0 :: r)[s] + hCA ((d0 :: r).drop (s + 1))) := by
    have : (d0 :: r) = (d0 :: r).take s ++ ((d0 :: r)[s] :: (d0 :: r).drop (s + 1)) := by rw [← List.drop_eq_getElem_cons hs, List.take_append_drop]
    conv => lhs; rw [this]
    rw [hCA_app]
    simp only [hCA]
  have e2 : copyB (.tuple ((d0 :: r).take s ++ [o] ++ (d0 :: r).drop (s + 1))) = true → copyB (.tuple (d0 :: r)) = true := by
    cases s with
    | zero =>
      intro z
      rw [show (d0 :: r).take 0 ++ [o] ++ (d0 :: r).drop (0 + 1) = o :: r from rfl, copy_cons, ho] at z
      cases z
    | succ k =>
      intro z
      rw [show (d0 :: r).take (k + 1) ++ [o] ++ (d0 :: r).drop (k + 1 + 1) = d0 :: (r.take k ++ [o] ++ r.drop (k + 1)) from rfl, copy_cons] at z
      rw [copy_cons]
      exact z
  simp only [hC]
  rw [hCA_app, hCA_app, e1]
  simp only [hCA, h0]
  have e3 : (if copyB (.tuple ((d0 :: r).take s ++ [o] ++ (d0 :: r).drop (s + 1))) = true then 1 else 0) ≤ (if copyB (.tuple (d0 :: r)) = true then 1 else 0) := by
    split
    · rename_i h
      rw [if_pos (e2 h)]
      exact Nat.le_refl _
    · exact Nat.zero_le _
  omega
theorem hC_snoc {d0 o : PyData} {r : List PyData} (h0 : hC o = 0) : hC (.tuple (d0 :: r ++ [o])) = hC (.tuple (d0 :: r)) := by
  rw [List.cons_append]
  simp only [hC, hCA, hCA_app, h0]
  rw [copy_cons, copy_cons d0 r]
  omega

/-! ### _law_bent_lines -/
def oddL0 : List Lit := [.non, (.int 3), (.tup []), (.str "fresh"), (.tup [(.str "fresh"), (.str "x")]), (.tup [(.str "lift")]), (.tup [(.str "first"), (.str "x"), (.str "rest"), (.str "")]), (.tup [(.str "put"), (.str "x"), (.str "a"), (.str ""), (.str "ahead"), (.str "")]), (.tup [(.str "up"), (.str "x"), (.str "a"), (.str "")]), (.tup [(.str "if"), (.tup [(.str "there"), (.str "x")]), (.tup [])]), (.tup [(.str "if"), (.tup [(.str "there"), (.str "if")]), (.tup []), (.tup [])]), (.tup [(.str "move"), (.str "x"), (.str "near"), (.str "y")]), (.lst [(.str "fresh")])]
theorem oddL0_te : (Lit.lst oddL0).te = (tLst (tCons (tC .non) (tCons (tC (.int 3)) (tCons (tTup tNil) (tCons (tC (.str "fresh")) (tCons (tTup (tCons (tC (.str "fresh")) (tCons (tC (.str "x")) tNil))) (tCons (tTup (tCons (tC (.str "lift")) tNil)) (tCons (tTup (tCons (tC (.str "first")) (tCons (tC (.str "x")) (tCons (tC (.str "rest")) (tCons (tC (.str "")) tNil))))) (tCons (tTup (tCons (tC (.str "put")) (tCons (tC (.str "x")) (tCons (tC (.str "a")) (tCons (tC (.str "")) (tCons (tC (.str "ahead")) (tCons (tC (.str "")) tNil))))))) (tCons (tTup (tCons (tC (.str "up")) (tCons (tC (.str "x")) (tCons (tC (.str "a")) (tCons (tC (.str "")) tNil))))) (tCons (tTup (tCons (tC (.str "if")) (tCons (tTup (tCons (tC (.str "there")) (tCons (tC (.str "x")) tNil))) (tCons (tTup tNil) tNil)))) (tCons (tTup (tCons (tC (.str "if")) (tCons (tTup (tCons (tC (.str "there")) (tCons (tC (.str "if")) tNil))) (tCons (tTup tNil) (tCons (tTup tNil) tNil))))) (tCons (tTup (tCons (tC (.str "move")) (tCons (tC (.str "x")) (tCons (tC (.str "near")) (tCons (tC (.str "y")) tNil))))) (tCons (tLst (tCons (tC (.str "fresh")) tNil)) tNil)))))))))))))) := by
  unfold oddL0
  simp only [Lit.te, Lit.ta]
  try rfl
def oddL1 : List Lit := [.non, (.int 3), (.str ""), (.str "A"), (.str "rest"), (.str "is"), (.str "end"), (.str "abcd"), (.str "abcdefg"), (.tup []), (.lst []), (.mul "t" 21), (.str "head"), (.str "\""), (.tup [(.str "there"), (.str "x")])]
theorem oddL1_te : (Lit.lst oddL1).te = (tLst (tCons (tC .non) (tCons (tC (.int 3)) (tCons (tC (.str "")) (tCons (tC (.str "A")) (tCons (tC (.str "rest")) (tCons (tC (.str "is")) (tCons (tC (.str "end")) (tCons (tC (.str "abcd")) (tCons (tC (.str "abcdefg")) (tCons (tTup tNil) (tCons (tLst tNil) (tCons (tOp rMulX (tC (.str "t")) (tC (.int 21))) (tCons (tC (.str "head")) (tCons (tC (.str "\"")) (tCons (tTup (tCons (tC (.str "there")) (tCons (tC (.str "x")) tNil))) tNil)))))))))))))))) := by
  unfold oddL1
  simp only [Lit.te, Lit.ta]
  try rfl
theorem oddL0_ok : ∀ d ∈ Lit.dataA oddL0, gD d = true ∧ d.depth ≤ 4 ∧ sz d ≤ 10 ∧ hC d = 0 ∧ copyB (.tuple [d]) = false := by
  unfold oddL0
  simp only [Lit.dataA, Lit.data, List.mem_cons, List.not_mem_nil, or_false, forall_eq_or_imp, forall_eq]
  refine ⟨?_, ?_, ?_, ?_, ?_, ?_, ?_, ?_, ?_, ?_, ?_, ?_, ?_⟩ <;> (refine ⟨?_, ?_, ?_, ?_, ?_⟩ <;> first | decide +kernel | (simp only [gD, gA, Bool.and_true, Bool.and_self]; decide +kernel) | (simp only [PyData.depth, PyData.depthAll]; decide) | (simp only [sz, szA]; decide))
theorem oddL1_ok : ∀ d ∈ Lit.dataA oddL1, gD d = true ∧ d.depth ≤ 4 ∧ sz d ≤ 10 ∧ hC d = 0 ∧ copyB (.tuple [d]) = false := by
  unfold oddL1
  simp only [Lit.dataA, Lit.data, List.mem_cons, List.not_mem_nil, or_false, forall_eq_or_imp, forall_eq]
  refine ⟨?_, ?_, ?_, ?_, ?_, ?_, ?_, ?_, ?_, ?_, ?_, ?_, ?_, ?_, ?_⟩ <;> (refine ⟨?_, ?_, ?_, ?_, ?_⟩ <;> first | decide +kernel | (simp only [gD, gA, Bool.and_true, Bool.and_self]; decide +kernel) | (simp only [PyData.depth, PyData.depthAll]; decide) | (simp only [sz, szA]; decide))
theorem depthAll_app : ∀ ds es : List PyData, PyData.depthAll (ds ++ es) = max (PyData.depthAll ds) (PyData.depthAll es)
  | [], es => by simp [PyData.depthAll]
  | d :: ds, es => by
    simp only [List.cons_append, PyData.depthAll, depthAll_app ds es]
    omega
structure BentD (ds es : List PyData) : Prop where
  g : gA es = true
  dp : PyData.depthAll es ≤ PyData.depthAll ds + 5
  sz : szA es ≤ szA ds + 12
  hc : hCA es ≤ hCA ds
  cp : copyB (.tuple es) = false
theorem andShare {p : Prop} [Decidable p] {te : TE} {σ : L2.St} {H1 : Hp} {A B : Hp → Prop} (Ok : Hp → Prop) (ok1 : Ok H1) (hB : ∀ H, Ok H → B H) (hT : p → (∀ H, Ok H → B H) → tTest te σ H1 (fun b H => if b = true then A H else B H)) :
    if decide p = true then tTest te σ H1 (fun b H => if b = true then A H else B H) else B H1 := iteD (fun h => hT h hB) fun _ => hB H1 ok1
def spBentL (okf : List PyData → Bool) : Sp := fun vs H Q _ => ∃ (bg r a : Addr) (l : List V) (ds : List PyData), vs = [.ref bg, .ref a] ∧ BagAt H bg r ∧ H a = some (.tup l) ∧ DqA bg H ds l ∧ okf ds = true ∧ gA ds = true ∧ szA ds ≤ 9000 ∧
  ∀ (p : Addr) (m : List V) (es : List PyData) (H' : Hp), But bg H H' → BagAt H' bg r → H' p = some (.tup m) → DqA bg H' es m → BentD ds es → Q (.ref p) H'
theorem dA_split {ds : List PyData} {k : Nat} (hk : k < ds.length) : ds = ds.take k ++ (ds[k] :: ds.drop (k + 1)) := by rw [← List.drop_eq_getElem_cons hk, List.take_append_drop]
theorem BentD.put {ds : List PyData} {k : Nat} {o : PyData} (hk : k < ds.length) (g : gA ds = true) (g1 : gD o = true) (d1 : o.depth ≤ ds[k].depth + 5) (s1 : Pf.sz o ≤ Pf.sz ds[k] + 12) (h1 : hC o ≤ hC ds[k]) (c1 : copyB (.tuple [o]) = false) (c0 : ∀ d ∈ ds, copyB (.tuple [d]) = false) : BentD ds (ds.take k ++ [o] ++ ds.drop (k + 1)) := by
  have e := dA_split hk
  have gs := g
  rw [e, gA_app] at gs
  simp only [gA, Bool.and_eq_true] at gs
  refine ⟨?_, ?_, ?_, ?_, ?_⟩
  · rw [gA_app, gA_app]
    simp only [gA, g1, gs, Bool.and_self]
  · have e2 := congrArg PyData.depthAll e
    rw [depthAll_app] at e2
    rw [depthAll_app, depthAll_app]
    simp only [PyData.depthAll] at e2 ⊢
    omega
  · have e2 := congrArg szA e
    rw [szA_app] at e2
    rw [szA_app, szA_app]
    simp only [szA] at e2 ⊢
    omega
  · have e2 := congrArg hCA e
    rw [hCA_app] at e2
    rw [hCA_app, hCA_app]
    simp only [hCA] at e2 ⊢
    omega
  · cases k with
    | zero =>
      rw [show ds.take 0 ++ [o] ++ ds.drop (0 + 1) = o :: ds.drop 1 from rfl, copy_cons]
      exact c1
    | succ k =>
      match ds, hk with
      | d0 :: r, _ =>
        rw [show (d0 :: r).take (k + 1) ++ [o] ++ (d0 :: r).drop (k + 1 + 1) = d0 :: (r.take k ++ [o] ++ r.drop (k + 1)) from rfl, copy_cons]
        exact c0 d0 List.mem_cons_self
theorem BentD.snoc {ds : List PyData} {o : PyData} (g : gA ds = true) (g1 : gD o = true) (d1 : o.depth ≤ 4) (s1 : Pf.sz o ≤ 10) (h1 : hC o = 0) (c1 : copyB (.tuple [o]) = false) (c0 : ∀ d ∈ ds, copyB (.tuple [d]) = false) : BentD ds (ds ++ [o]) := by
  refine ⟨?_, ?_, ?_, ?_, ?_⟩
  · rw [gA_app, g]
    simp only [gA, g1, Bool.and_self]
  · rw [depthAll_app]
    simp only [PyData.depthAll]
    omega
  · rw [szA_app]
    simp only [szA]
    omega
  · rw [hCA_app]
    simp only [hCA, h1]
    omega
  · match ds with
    | [] => exact c1
    | d0 :: r =>
      rw [List.cons_append, copy_cons]
      exact c0 d0 List.mem_cons_self
theorem copy_tup (es : List PyData) : copyB (.tuple [.tuple es]) = false := show decide (Str.ofString "" = Str.ofString "copy") = false by decide +kernel
section
variable {P : Program} {w : World} {K : PySem.W.Frag} {mg : Str → Option Value} {base : Heap} {f : Addr} {fd : FuncData}
theorem ok_law_bent_lines {m n : Nat} {rk : List PyData → Bool} {ok : Bool} {spR : Sp} (hn : 2 ≤ n) (hm : m ≤ n) (F : Fun K "_law_bent_lines" "_law_bent_lines" s_law_bent_lines f fd) (T : Txt mg) (c_law_take : Cal P w K mg base 1 "_law_take" spTake) (c_law_of : Cal P w K mg base 2 "_law_of" (spOf K))
    (c_law_bent_lines : Cal P w K mg base m "_law_bent_lines" spR) (hR : ok = true → ∀ vs H Q E, spBentL rk vs H Q E → spR vs H Q E) : FnOk P w K mg base CX0 (n + 1) f fd ["_law_bag_z", "_law_lines_z"] (spBentL (okL rk ok)) := by
  refine F.ok sc_law_bent_lines (fun vs H Q E h => ?_) (fun cdv A outer s H vs Q E hr h => ?_)
  · obtain ⟨bg, r, a, l, ds, rfl, _⟩ := h
    rfl
  · obtain ⟨bg, r, a, l, ds, rfl, hb, ha, hl, hok, g, hs, q⟩ := h
    have len := hl.len
    have hdl := szA_len ds
    have hokd : ∀ d ∈ ds, lineB d = true ∧ (ifB d = true → ok = true ∧ rk (inA d) = true) := fun d hd => by
      unfold okL at hok
      rw [List.all_eq_true] at hok
      have := hok d hd
      rw [Bool.and_eq_true, Bool.or_eq_true, Bool.and_eq_true, Bool.and_eq_true] at this
      exact ⟨this.1, fun hi => let ⟨x, y, _⟩ := this.2.resolve_left (by rw [hi]; decide)
        ⟨x, y⟩⟩
    have c0 : ∀ d ∈ ds, copyB (.tuple [d]) = false := fun d hd => by
      obtain ⟨z, r, rfl⟩ := line_str (hokd d hd).1
      exact copy_tup _
    refine ⟨_, (pss_cons (ps_set (i := 2) sc_law_bent_lines.nd rfl (.inl rfl) (pe_c c_law_take hr (by omega) (by rfl) (pa_cons (pv 0) (pa_cons (pe_op (op_addX K) (pe_callB (call_lenX K) (by rfl) T.len PySem.boot_len (pa_cons (pv 1) pa_nil)) pe_int) pa_nil))))
      (pss_cons (ps_if (pt_cmpR (op_eqX K hr) (pv 2) (pe_callB (call_lenX K) (by rfl) T.len PySem.boot_len (pa_cons (pv 1) pa_nil)) (nomark _)) (pss_cons (ps_set (i := 3) sc_law_bent_lines.nd rfl (.inl rfl) (pe_c c_law_of hr (by omega) (by rfl) (pa_cons (pv 0) (pa_cons (pe_lst (pa_cons pe_non (pa_cons pe_int (pa_cons (pe_tup pa_nil) (pa_cons pe_str (pa_cons (pe_tup (pa_cons pe_str (pa_cons pe_str pa_nil))) (pa_cons (pe_tup (pa_cons pe_str pa_nil)) (pa_cons (pe_tup (pa_cons pe_str (pa_cons pe_str (pa_cons pe_str (pa_cons pe_str pa_nil))))) (pa_cons (pe_tup (pa_cons pe_str (pa_cons pe_str (pa_cons pe_str (pa_cons pe_str (pa_cons pe_str (pa_cons pe_str pa_nil))))))) (pa_cons (pe_tup (pa_cons pe_str (pa_cons pe_str (pa_cons pe_str (pa_cons pe_str pa_nil))))) (pa_cons (pe_tup (pa_cons pe_str (pa_cons (pe_tup (pa_cons pe_str (pa_cons pe_str pa_nil))) (pa_cons (pe_tup pa_nil) pa_nil)))) (pa_cons (pe_tup (pa_cons pe_str (pa_cons (pe_tup (pa_cons pe_str (pa_cons pe_str pa_nil))) (pa_cons (pe_tup pa_nil) (pa_cons (pe_tup pa_nil) pa_nil))))) (pa_cons (pe_tup (pa_cons pe_str (pa_cons pe_str (pa_cons pe_str (pa_cons pe_str pa_nil))))) (pa_cons (pe_lst (pa_cons pe_str pa_nil)) pa_nil)))))))))))))) pa_nil))))
      (pss_one (ps_ret (pe_op (op_addX K) (pv 1) (pe_tup (pa_cons (pv 3) pa_nil)))))) pss_nil)
      (pss_cons (ps_set (i := 4) sc_law_bent_lines.nd rfl (.inl rfl) (pe_ix (ix_X K) (pv 1) (pv 2) (fun _ _ => rfl)))
      (C8.pss_cut (ps_if (PW.pt (pw_and (pt_cmpR (op_eqX K hr) (pe_ix (ix_X K) (pv 4) pe_int (fun _ _ => rfl)) pe_str (nomark _)) (pw_and1 (pt_cmpR (op_eqX K hr) (pe_c c_law_take hr (by omega) (by rfl) (pa_cons (pv 0) (pa_cons pe_int pa_nil))) pe_int (nomark _))))) (pss_one (ps_set (i := 5) sc_law_bent_lines.nd rfl (.inl rfl) (pe_tup (pa_cons pe_str (pa_cons (pe_ix (ix_X K) (pv 4) pe_int (fun _ _ => rfl)) (pa_cons (pe_c c_law_bent_lines hr (by omega) (by rfl) (pa_cons (pv 0) (pa_cons (pe_ix (ix_X K) (pv 4) pe_int (fun _ _ => rfl)) pa_nil))) (pa_cons (pe_ix (ix_X K) (pv 4) pe_int (fun _ _ => rfl)) pa_nil))))))) (pss_cons (ps_set (i := 6) sc_law_bent_lines.nd rfl (.inl rfl) (pe_c c_law_take hr (by omega) (by rfl) (pa_cons (pv 0) (pa_cons (pe_callB (call_lenX K) (by rfl) T.len PySem.boot_len (pa_cons (pv 4) pa_nil)) pa_nil))))
      (pss_cons (ps_set (i := 3) sc_law_bent_lines.nd rfl (.inl rfl) (pe_c c_law_of hr (by omega) (by rfl) (pa_cons (pv 0) (pa_cons (pe_lst (pa_cons pe_non (pa_cons pe_int (pa_cons pe_str (pa_cons pe_str (pa_cons pe_str (pa_cons pe_str (pa_cons pe_str (pa_cons pe_str (pa_cons pe_str (pa_cons (pe_tup pa_nil) (pa_cons (pe_lst pa_nil) (pa_cons (pe_op op_mulX pe_str pe_int) (pa_cons pe_str (pa_cons pe_str (pa_cons (pe_tup (pa_cons pe_str (pa_cons pe_str pa_nil))) pa_nil)))))))))))))))) pa_nil))))
      (pss_one (ps_set (i := 5) sc_law_bent_lines.nd rfl (.inl rfl) (pe_ifExp (pt_cmpR op_gt (pe_c c_law_take hr (by omega) (by rfl) (pa_cons (pv 0) (pa_cons pe_int pa_nil))) pe_int (nomark _)) (pe_op (op_addX K) (pe_op (op_addX K) (pe_slice (sl_X K) (pv 4) po_none (po_some (pv 6))) (pe_tup (pa_cons (pv 3) pa_nil))) (pe_slice (sl_X K) (pv 4) (po_some (pe_op (op_addX K) (pv 6) pe_int)) po_none)) (pe_op (op_addX K) (pv 4) (pe_tup (pa_cons (pv 3) pa_nil)))))))))
      (pss_one (ps_ret (pe_op (op_addX K) (pe_op (op_addX K) (pe_slice (sl_X K) (pv 1) po_none (po_some (pv 2))) (pe_tup (pa_cons (pv 5) pa_nil))) (pe_slice (sl_X K) (pv 1) (po_some (pe_op (op_addX K) (pv 2) pe_int)) po_none)))))))), ?_⟩
    change (_ : TS) _ [some (V.ref bg), some (V.ref a), none, none, none, none, none] _
    k_extra "rr"
    refine ⟨bg, r, _, rfl, hb, by omega, by omega, fun k H1 bb1 hb1 k0 k1 => ?_⟩
    have le1 := hb.le bb1
    have ha1 := le1.tup _ _ ha
    have hl1 := hl.le le1
    k_extra "rl"
    refine iteD (fun ek => ?_) (fun ek => ?_)
    · k_extra "rl"
      refine lit_of oddL0_te (by decide +kernel) (by decide +kernel) hb1 fun vx od H2 mod bb2 hb2 hod2 => ?_
      obtain ⟨o1, o2, o3, o4, o5⟩ := oddL0_ok od mod
      have le2 := hb1.le bb2
      have ha2 := le2.tup _ _ ha1
      have hl2 := hl1.le le2
      k_extra "rr"
      refine ⟨by k_extra "sz", fun p1 n1 => ?_⟩
      refine addT (same_upd n1 _ _ ha2) upd_same (by rw [len, sizeLine_eq]; show _ + 1 ≤ _; omega) fun p2 H3 s3 h3 => ?_
      have s23 := (same_upd (o := .tup [vx]) n1).trans s3
      exact q p2 _ (ds ++ [od]) H3 ((bb1.trans bb2).trans (But.of_same s23)) (hb2.same s23) h3 ((hl2.le (Le.same s23)).app (.cons (hod2.le (Le.same s23)) .nil)) (.snoc g o1 o2 o3 o4 o5 c0)
    · have hkl : k.toNat < ds.length := by omega
      have hd := List.getElem?_eq_getElem hkl
      have m := List.getElem_mem hkl
      have gd := gA_mem g m
      have sle := szA_mem m
      obtain ⟨hln, hif⟩ := hokd _ m
      obtain ⟨vd, hvd, qd⟩ := hl1.at hd
      have hvi : atI l k = some vd := by
        have := atI_nat hvd
        rwa [show ((k.toNat : Nat) : Int) = k by omega] at this
      have hk : k.toNat ≤ l.length := by omega
      have ck : cutV l none (some k) = l.take k.toNat := by
        rw [← cutV_take hk, show ((k.toNat : Nat) : Int) = k by omega]
      have cd : cutV l (some (k + 1)) none = l.drop (k.toNat + 1) := by
        rw [← cutV_drop (xs := l) (i := k.toNat + 1) (by omega), show ((k.toNat + 1 : Nat) : Int) = k + 1 by omega]
      have put := fun (o : PyData) => BentD.put (o := o) hkl g
      generalize ds[k.toNat] = dk at gd sle hln hif qd put
      obtain ⟨z, rr, rfl⟩ := line_str hln
      obtain ⟨ad, ld, rfl, had, hld⟩ := id qd.tup
      obtain ⟨v0, lr, rfl, h0, hlr⟩ := id hld.inv
      simp only [Dq] at h0
      subst h0
      have at0 : atI (V.str z :: lr) 0 = some (.str z) := (show atI (V.str z :: lr) ((0 : Nat) : Int) = some _ from atI_nat rfl)
      k_extra "rr"
      refine ixT (SqT.of ha1) hvi ?_
      k_extra "rr"
      refine Rg.cut (fun σ H' => ∃ (late : Addr) (ll : List V) (o : PyData) (v3 v6 : Option V), σ = [some (V.ref bg), some (V.ref a), some (.int k), v3, some (.ref ad), some (.ref late), v6] ∧ But bg H1 H' ∧ BagAt H' bg r ∧ Dq bg H' o (.ref late) ∧ gD o = true ∧ o.depth ≤ (PyData.tuple (.str z :: rr)).depth + 5 ∧ Pf.sz o ≤ Pf.sz (PyData.tuple (.str z :: rr)) + 12 ∧ hC o ≤ hC (PyData.tuple (.str z :: rr)) ∧ copyB (.tuple [o]) = false) ?_ ?_
      · k_extra "rr"
        refine ixT (SqT.of had) at0 ?_
        k_extra "rl"
        refine andShare (fun H' => But bg H1 H' ∧ BagAt H' bg r) ⟨fun c u e _ => e, hb1⟩ (fun H2 ⟨bb2, hb2⟩ => ?_) (fun ez els => ?_)
        · have hle := hld.len
          have le2 := hb1.le bb2
          have had2 := le2.tup _ _ had
          have hld2 := hld.le le2
          simp only [Pf.sz] at sle
          have hzl := szA_len (PyData.str z :: rr)
          have hl1' : 0 < (V.str z :: lr).length := by simp
          k_extra "rr"
          refine ⟨bg, r, _, rfl, hb2, by omega, by omega, fun s3 H3 bb3 hb3 s30 s31 => ?_⟩
          have le3 := hb2.le bb3
          k_extra "rl"
          refine lit_of oddL1_te (by decide +kernel) (by decide +kernel) hb3 fun vx od H4 mod bb4 hb4 hod4 => ?_
          obtain ⟨o1, o2, o3, o4, o5⟩ := oddL1_ok od mod
          have le4 := le3.trans (hb3.le bb4)
          k_extra "rr"
          refine ⟨bg, r, _, rfl, hb4, by omega, by omega, fun s5 H5 bb5 hb5 s50 s51 => ?_⟩
          have le5 := le4.trans (hb4.le bb5)
          have had5 := le5.tup _ _ had2
          have hld5 := hld2.le le5
          have hod5 := hod4.le (hb4.le bb5)
          have bb25 := (((bb2.trans bb3).trans bb4).trans bb5)
          have e3 : ((s3.toNat : Nat) : Int) = s3 := by omega
          have hs3 : s3.toNat < (PyData.str z :: rr).length := by omega
          have hs3v : s3.toNat < (V.str z :: lr).length := by omega
          have ck5 : cutV (V.str z :: lr) none (some s3) = (V.str z :: lr).take s3.toNat := by
            rw [← cutV_take (by omega), e3]
          have cd5 : cutV (V.str z :: lr) (some (s3 + 1)) none = (V.str z :: lr).drop (s3.toNat + 1) := by
            rw [← cutV_drop (xs := V.str z :: lr) (i := s3.toNat + 1) (by omega), show ((s3.toNat + 1 : Nat) : Int) = s3 + 1 by omega]
          have gd' := gd
          simp only [gD] at gd'
          k_extra "rr"
          refine iteD (fun e5 => ?_) (fun e5 => ?_)
          · k_extra "rr"
            refine slTX had5 fun p6 H6 s6 h6 => ?_
            rw [ck5] at h6
            k_extra "rr"
            refine ⟨by k_extra "sz", fun p7 n7 => ?_⟩
            refine addT (same_upd n7 _ _ h6) upd_same (by rw [List.length_take, sizeLine_eq]; show _ + 1 ≤ _; omega) fun p8 H8 s8 h8 => ?_
            have s68 := (s6.trans (same_upd (o := .tup [vx]) n7)).trans s8
            have had8 := s68 _ _ had5
            k_extra "rr"
            refine slTX had8 fun p9 H9 s9 h9 => ?_
            rw [cd5] at h9
            refine addT (s9 _ _ h8) h9 (by rw [List.length_append, List.length_take, List.length_drop, sizeLine_eq]; show _ + 1 + _ ≤ _; omega) fun p10 H10 s10 h10 => ?_
            have s510 := (s68.trans s9).trans s10
            have hl10 := hld5.le (Le.same (b := bg) s510)
            have sp := dA_split hs3
            have gs := gd'
            rw [sp, gA_app] at gs
            simp only [gA, Bool.and_eq_true] at gs
            have ed := congrArg PyData.depthAll sp
            rw [depthAll_app] at ed
            have es := congrArg szA sp
            rw [szA_app] at es
            k_extra "rr"
            refine ⟨p10, [], .tuple ((PyData.str z :: rr).take s3.toNat ++ [od] ++ (PyData.str z :: rr).drop (s3.toNat + 1)), _, _, rfl, bb25.trans (But.of_same s510), hb5.same s510, Dq.tup_mk h10 (((hl10.take _).app (.cons (hod5.le (Le.same s510)) .nil)).app (hl10.drop _)), ?_, ?_, ?_, hC_put hs3 o4 o5, copy_tup _⟩
            · simp only [gD]
              rw [gA_app, gA_app]
              simp only [gA, o1, gs, Bool.and_self]
            · simp only [PyData.depth]
              rw [depthAll_app, depthAll_app]
              simp only [PyData.depthAll] at ed ⊢
              omega
            · simp only [Pf.sz]
              rw [szA_app, szA_app]
              simp only [szA] at es ⊢
              omega
          · k_extra "rr"
            refine ⟨by k_extra "sz", fun p7 n7 => ?_⟩
            refine addT (same_upd n7 _ _ had5) upd_same (by rw [sizeLine_eq]; show _ + 1 ≤ _; omega) fun p8 H8 s8 h8 => ?_
            have s58 := (same_upd (o := .tup [vx]) n7).trans s8
            have hl8 := hld5.le (Le.same (b := bg) s58)
            k_extra "rr"
            refine ⟨p8, [], .tuple ((PyData.str z :: rr) ++ [od]), _, _, rfl, bb25.trans (But.of_same s58), hb5.same s58, Dq.tup_mk h8 (hl8.app (.cons (hod5.le (Le.same s58)) .nil)), ?_, ?_, ?_, Nat.le_of_eq (hC_snoc o4), copy_tup _⟩
            · simp only [gD]
              rw [gA_app, gd']
              simp only [gA, o1, Bool.and_self]
            · simp only [PyData.depth]
              rw [depthAll_app]
              simp only [PyData.depthAll]
              omega
            · simp only [Pf.sz]
              rw [szA_app]
              simp only [szA]
              omega
        · subst ez
          obtain ⟨t, da, db, ee, ht⟩ := line_if hln (decide_eq_true rfl)
          cases ee
          obtain ⟨rok, rka⟩ := hif (decide_eq_true rfl)
          obtain ⟨vt, lr1, rfl, ht1, hlr1⟩ := hlr.inv
          obtain ⟨va, lr2, rfl, ha1', hlr2⟩ := hlr1.inv
          obtain ⟨vb, lr3, rfl, hb1', hlr3⟩ := hlr2.inv
          obtain rfl := hlr3.inv0
          simp only [Pf.sz, szA] at sle
          simp only [gD, gA, Bool.and_eq_true] at gd
          k_extra "rr"
          refine ⟨bg, r, _, rfl, hb1, by omega, by omega, fun s2 H2 bb2 hb2 s20 s21 => ?_⟩
          have le2 := hb1.le bb2
          have had2 := le2.tup _ _ had
          k_extra "rr"
          refine iteD (fun e2 => ?_) (fun e2 => els H2 ⟨bb2, hb2⟩)
          obtain ⟨aa, la, rfl, haa, hla⟩ := id (ha1'.le le2).tup
          k_extra "rr"
          refine hR rok _ _ _ _ ⟨bg, r, aa, la, da, rfl, hb2, haa, hla, rka, gd.2.2.1, by omega, fun p m es H3 bb3 hb3 hp hm hB => ?_⟩
          have le3 := le2.trans (hb2.le bb3)
          have had3 := le3.tup _ _ had
          k_extra "rr"
          refine ⟨by k_extra "sz", fun p4 n4 => ?_⟩
          have s4 := same_upd (o := .tup [V.str (Str.ofString "if"), vt, .ref p, vb]) n4
          have le4 := le3.trans (Le.same s4)
          k_extra "rr"
          obtain ⟨b1, b2, b3, b4, b5⟩ := hB
          refine ⟨p4, [], .tuple [.str "if", t, .tuple es, .tuple db], _, _, rfl, (bb2.trans bb3).trans (But.of_same s4), hb3.same s4, Dq.tup_mk upd_same (.cons (Dq.str_mk _) (.cons (ht1.le le4) (.cons (Dq.tup_mk (s4 _ _ hp) (hm.le (Le.same s4))) (.cons (hb1'.le le4) .nil)))), ?_, ?_, ?_, ?_, copy_tup _⟩
          · simp only [gD, gA, b1, gd, Bool.and_self]
          · simp only [PyData.depth, PyData.depthAll]
            omega
          · simp only [Pf.sz, szA]
            omega
          · simp only [hC, hCA, b5]
            have c1 : copyB (.tuple [.str "if", t, .tuple es, .tuple db]) = copyB (.tuple [.str "if", t, .tuple da, .tuple db]) := rfl
            rw [c1]
            have : (if false = true then 1 else 0 : Nat) = 0 := rfl
            omega
      · rintro σ H2 ⟨late, ll, o, v3, v6, rfl, bb2, hb2, ho, g1, d1, s1, h1, c1⟩
        have le2 := hb1.le bb2
        have ha2 := le2.tup _ _ ha1
        k_extra "rr"
        refine slTX ha2 fun p4 H4 s4 h4 => ?_
        rw [ck] at h4
        k_extra "rr"
        refine ⟨by k_extra "sz", fun p5 n5 => ?_⟩
        refine addT (same_upd n5 _ _ h4) upd_same (by rw [List.length_take, len, sizeLine_eq]; show _ + 1 ≤ _; omega) fun p6 H6 s6 h6 => ?_
        have s46 := (s4.trans (same_upd (o := .tup [V.ref late]) n5)).trans s6
        have ha6 := s46 _ _ ha2
        k_extra "rr"
        refine slTX ha6 fun p7 H7 s7 h7 => ?_
        rw [cd] at h7
        refine addT (s7 _ _ h6) h7 (by rw [List.length_append, List.length_take, List.length_drop, len, sizeLine_eq]; show _ + 1 + _ ≤ _; omega) fun p8 H8 s8 h8 => ?_
        have s38 := (s46.trans s7).trans s8
        have hl8 := hl1.le (le2.trans (Le.same s38))
        exact q p8 _ _ H8 ((bb1.trans bb2).trans (But.of_same s38)) (hb2.same s38) h8 (((hl8.take _).app (.cons (ho.le (Le.same s38)) .nil)).app (hl8.drop _)) (put o g1 d1 s1 h1 c1 c0)
end

/-! ### copies of drawn lines -/
theorem hCA_strs : ∀ zs : List Str, hCA (zs.map PyData.str) = 0
  | [] => by simp [hCA]
  | z :: r => by simp [hCA, hC, hCA_strs r]
theorem hC_op (o : Op) : hC (.tuple o.ds) = if o.isCopy = true then 1 else 0 := by
  simp only [hC]
  rw [Op.copyB_eq, o.zs_ds, hCA_strs]
  omega
theorem hC_ts (t : Ts) : hC (.tuple t.ds) = 0 := by
  have h : copyB (.tuple t.ds) = false := by
    cases t with
    | there c => exact (show decide (Str.ofString "there" = Str.ofString "copy") = false by decide +kernel)
    | is c d => exact (show decide (Str.ofString "is" = Str.ofString "copy") = false by decide +kernel)
    | above c d => exact (show decide (Str.ofString "above" = Str.ofString "copy") = false by decide +kernel)
    | ahead c d => exact (show decide (Str.ofString "ahead" = Str.ofString "copy") = false by decide +kernel)
    | kind c k => exact (show decide (Str.ofString "kind" = Str.ofString "copy") = false by decide +kernel)
  simp only [hC]
  rw [h, t.zs_ds, hCA_strs]
  rfl
theorem copy_nil : copyB (.tuple []) = false := show decide (Str.ofString "" = Str.ofString "copy") = false by decide +kernel
theorem copy_sc : ∀ c : Sc, copyB (.tuple (scD c)) = false
  | .nil => copy_nil
  | .op o r => (copy_cons _ _).trans (copy_tup _)
  | .ifs t a b r => (copy_cons _ _).trans (copy_tup _)
theorem hC_if (t : PyData) (a b : List PyData) : hC (.tuple [.str "if", t, .tuple a, .tuple b]) = hC t + ((if copyB (.tuple a) = true then 1 else 0) + hCA a) + ((if copyB (.tuple b) = true then 1 else 0) + hCA b) := by
  have h : copyB (.tuple [.str "if", t, .tuple a, .tuple b]) = false := if_cp
  simp only [hC, hCA]
  rw [h]
  have : (if false = true then 1 else 0 : Nat) = 0 := rfl
  omega
theorem hCA_sc : ∀ c : Sc, hCA (scD c) = c.copies
  | .nil => rfl
  | .op o r => by
    show hC (.tuple o.ds) + hCA (scD r) = _
    rw [hC_op, hCA_sc r]
    rfl
  | .ifs t a b r => by
    show hC (.tuple [.str "if", .tuple t.ds, .tuple (scD a), .tuple (scD b)]) + hCA (scD r) = _
    rw [hC_if, hC_ts, copy_sc, copy_sc, hCA_sc a, hCA_sc b, hCA_sc r]
    show 0 + (0 + a.copies) + (0 + b.copies) + r.copies = a.copies + b.copies + r.copies
    omega

/-! ### Script(v) and Script(v).lines() within _law_why -/
theorem scr_init {C C1 C2 : Addr} {E : XK} {v : V} {b : Addr} {d : PyData} {H1 : Hp} {Q : Addr → Hp → Prop} (hv : Dq b H1 d v) (g : gD d = true) (hs : sz d ≤ 10000) (q : resS d = .ok → ∀ x H2, Same H1 H2 → ScrAt C H2 (seqD d) x → Q x H2) (qE : Told C1 C2 (resS d) H1 E) :
    ∀ x dx, H1 x = none → H1 dx = none → dx ≠ x → spScrX C C1 C2 (.ref x :: ([v] ++ [])) (upd (upd H1 dx (.own x)) x (.ins C dx [])) (fun u H2 => u = .non ∧ Q x H2) E := fun x dx nx nd ne => by
  have s1 : Same H1 (upd (upd H1 dx (.own x)) x (.ins C dx [])) := (same_upd nd).trans (same_upd (by rw [upd_ne (Ne.symm ne)]; exact nx))
  exact ⟨x, dx, v, b, d, rfl, upd_same, hv.le (Le.same s1), g, hs, fun hR H' keep hS => ⟨rfl, q hR x H' (fun c u e => keep c u (s1 _ _ e) (ne_of_none e nx)) hS⟩, qE.le s1⟩
theorem field_script : fldOf "BadScript" = some "line" := by decide +kernel
theorem field_many : fldOf "TooMany" = some "most" := by decide +kernel
theorem code_line : (("code" : Str) == ("line" : Str)) = false := by decide
theorem code_most : (("code" : Str) == ("most" : Str)) = false := by decide
def dueE : Rs → PyData → PyData
  | .ok, d => .tuple [.str "", d]
  | .bad n, _ => .tuple [.str "BadScript", .int n]
  | .many n, _ => .tuple [.str "TooMany", .int n]
structure ErrK (K : PySem.W.Frag) (u1 u2 u3 C1 C2 : Addr) : Prop where
  m1 : PySem.W.exmAny K (.ref C1) [.ref u1, .ref u2, .ref u3] = some true
  m2 : PySem.W.exmAny K (.ref C2) [.ref u1, .ref u2, .ref u3] = some true
  x1 : XfC K C1
  x2 : XfC K C2
  n1 : PySem.W.findIn K (.ref C1) "code" = some none
  n2 : PySem.W.findIn K (.ref C1) "line" = some none
  n3 : PySem.W.findIn K (.ref C2) "code" = some none
  n4 : PySem.W.findIn K (.ref C2) "most" = some none
theorem told_why {K : PySem.W.Frag} {u1 u2 u3 C1 C2 : Addr} {r : Rs} {H1 : Hp} {Q : VK} (k : ErrK K u1 u2 u3 C1 C2) (q : ∀ p H2 (d : PyData), r ≠ .ok → Same H1 H2 → (∀ b, Dq b H2 (dueE r d) (.ref p)) → Q (.ref p) H2) : Told C1 C2 r H1 (whyX K (.ref u1) (.ref u2) (.ref u3) Q) := by
  refine ⟨fun n e H' dd s' he => ?_, fun n e H' dd s' he => ?_⟩
  · refine why_x k.m1 k.x1 k.n1 k.n2 field_script code_line he fun p H2 s2 h2 => ?_
    subst e
    exact q p H2 .none (fun z => by cases z) (s'.trans s2) fun b => Dq.tup_mk h2 (.cons (Dq.str_mk _) (.cons (Dq.int_mk _) .nil))
  · refine why_x k.m2 k.x2 k.n3 k.n4 field_many code_most he fun p H2 s2 h2 => ?_
    subst e
    exact q p H2 .none (fun z => by cases z) (s'.trans s2) fun b => Dq.tup_mk h2 (.cons (Dq.str_mk _) (.cons (Dq.int_mk _) .nil))
theorem why_lines {K : PySem.W.Frag} {u1 u2 u3 C C1 C2 PA : Addr} {σ : L2.St} {H : Hp} {Q : VK} {t : XK → TE} (k : ErrK K u1 u2 u3 C1 C2) {b : Addr} {d : PyData} {v : V} (hT : LamX.Tabs (tabQ PA) H) (hv : Dq b H d v) (g : gD d = true) (hs : sz d ≤ 10000)
    (ht : ∀ (E : XK) (H1 : Hp) (Q1 : VK), LamX.ExtN H H1 → Dq b H1 d v → (resS d = .ok → ∀ x H2, Same H1 H2 → ScrAt C H2 (seqD d) x → ∃ dx t e n, H2 x = some (.ins C dx (scrF t e n)) ∧ Q1 (.ref t) H2) → Told C1 C2 (resS d) H1 E → t E σ H1 Q1)
    (q : ∀ (p : Addr) (H1 H2 : Hp), LamX.ExtN H H1 → Same H1 H2 → LamX.Tabs (tabQ PA) H2 → Dq b H2 (dueE (resS d) (.tuple (seqD d))) (.ref p) → Q (.ref p) H2) : LamX.tLam (tabQ PA) (TTwhy K (.ref u1) (.ref u2) (.ref u3)) t σ H Q := by
  refine why_ hT fun H1 e1 hT1 => ht _ _ _ e1 (hv.le (Le.ext e1)) (fun hR x H2 s2 hx => ?_) (told_why k fun p H2 d0 hn s2 hp => ?_)
  · obtain ⟨dx, tt, e, n, lt, le, h1, h2, h3, h4, h5, h6⟩ := hx
    refine ⟨dx, tt, e, n, h1, Nat.le_of_ble_eq_true rfl, fun p np => ?_⟩
    have s3 := s2.trans (same_upd (o := .tup [V.str "", .ref tt]) np)
    refine q p H1 _ e1 s3 (hT1.ext fun c o h => s3 c o h) ?_
    rw [hR]
    exact Dq.tup_mk upd_same (.cons (Dq.str_mk _) (.cons (Dq.tup_mk (same_upd np _ _ h2) ((h4 b).le (Le.same (same_upd np)))) .nil))
  · refine q p H1 H2 e1 s2 (hT1.ext fun c o h => s2 c o h) ?_
    cases hr : resS d with
    | ok => exact absurd hr hn
    | bad n => rw [hr] at hp; exact hp b
    | many n => rw [hr] at hp; exact hp b
def codeE : Rs → Str
  | .ok => ""
  | .bad _ => "BadScript"
  | .many _ => "TooMany"
theorem why_made {K : PySem.W.Frag} {u1 u2 u3 C C1 C2 PA : Addr} {σ : L2.St} {H : Hp} {Q : VK} {t : XK → TE} (k : ErrK K u1 u2 u3 C1 C2) (r : Rs) (hT : LamX.Tabs (tabQ PA) H)
    (ht : ∀ (E : XK) (H1 : Hp) (Q1 : VK), LamX.ExtN H H1 → (r = .ok → ∀ x H2, Same H1 H2 → Q1 (.ref x) H2) → Told C1 C2 r H1 E → t E σ H1 Q1)
    (q : ∀ (p : Addr) (H1 H2 : Hp) (u : V), LamX.ExtN H H1 → Same H1 H2 → LamX.Tabs (tabQ PA) H2 → H2 p = some (.tup [.str (codeE r), u]) → (∀ n, (r = .bad n ∨ r = .many n) → u = .int n) → Q (.ref p) H2) : LamX.tLam (tabQ PA) (TTwhy K (.ref u1) (.ref u2) (.ref u3)) t σ H Q := by
  refine why_ hT fun H1 e1 hT1 => ht _ _ _ e1 (fun hR x H2 s2 => ?_) (told_why k fun p H2 d0 hn s2 hp => ?_)
  · refine ⟨Nat.le_of_ble_eq_true rfl, fun p np => ?_⟩
    have s3 := s2.trans (same_upd (o := .tup [V.str "", .ref x]) np)
    refine q p H1 _ (.ref x) e1 s3 (hT1.ext fun c o h => s3 c o h) (by rw [hR]; exact upd_same) fun n hn => ?_
    rw [hR] at hn
    rcases hn with hn | hn <;> cases hn
  · cases hr : r with
    | ok => exact absurd hr hn
    | bad n =>
      rw [hr] at hp
      obtain ⟨a, l, e, h1, h2⟩ := (hp p).tup
      cases e
      obtain ⟨v1, l1, rfl, e1', h2⟩ := h2.inv
      obtain ⟨v2, l2, rfl, e2', h2⟩ := h2.inv
      obtain rfl := h2.inv0
      simp only [Dq] at e1' e2'
      subst e1' e2'
      exact q p H1 H2 _ e1 s2 (hT1.ext fun c o h => s2 c o h) (by rw [hr]; exact h1) fun m hm => by
        rw [hr] at hm
        rcases hm with hm | hm <;> cases hm
        rfl
    | many n =>
      rw [hr] at hp
      obtain ⟨a, l, e, h1, h2⟩ := (hp p).tup
      cases e
      obtain ⟨v1, l1, rfl, e1', h2⟩ := h2.inv
      obtain ⟨v2, l2, rfl, e2', h2⟩ := h2.inv
      obtain rfl := h2.inv0
      simp only [Dq] at e1' e2'
      subst e1' e2'
      exact q p H1 H2 _ e1 s2 (hT1.ext fun c o h => s2 c o h) (by rw [hr]; exact h1) fun m hm => by
        rw [hr] at hm
        rcases hm with hm | hm <;> cases hm
        rfl

/-! ### scripts without lines, made by the default -/
theorem SqT.keepX {K : PySem.W.Frag} {H H' : Hp} {t x : Addr} {xs : List V} {C dx : Addr} {fs : List (Str × V)} (k : ∀ b u, H b = some u → b ≠ x → H' b = some u) (hx : H x = some (.ins C dx fs)) (h : SqT K H t xs) : SqT K H' t xs := by
  rcases h with (h | ⟨o, h⟩) | h
  · refine .inl (.inl (k _ _ h fun z => ?_))
    rw [z, hx] at h
    cases h
  · refine .inl (.inr ⟨o, k _ _ h fun z => ?_⟩)
    rw [z, hx] at h
    cases h
  · exact .inr h
def ScrE (K : PySem.W.Frag) (C : Addr) (H : Hp) (x : Addr) : Prop := ∃ (dx t e : Addr), H x = some (.ins C dx (scrF t e 0)) ∧ SqT K H t [] ∧ H e = some (.lst [])
theorem ScrE.same {K : PySem.W.Frag} {C : Addr} {H H' : Hp} {x : Addr} (s : Same H H') : ScrE K C H x → ScrE K C H' x := fun ⟨dx, t, e, h1, h2, h3⟩ => ⟨dx, t, e, s _ _ h1, Rg.Same.seqT s h2, s _ _ h3⟩
theorem ScrE.keep {K : PySem.W.Frag} {C C' dy : Addr} {H H' : Hp} {x y : Addr} (h : ScrE K C H x) (k : ∀ b u, H b = some u → b ≠ y → H' b = some u) (hy : H y = some (.ins C' dy [])) : ScrE K C H' x := by
  obtain ⟨dx, t, e, h1, h2, h3⟩ := h
  refine ⟨dx, t, e, k _ _ h1 fun z => ?_, SqT.keepX k hy h2, k _ _ h3 fun z => ?_⟩
  · rw [z, hy] at h1
    cases h1
  · rw [z, hy] at h3
    cases h3
def spEvery0 (K : PySem.W.Frag) : Sp := fun vs H Q _ => ∃ a, vs = [.ref a] ∧ SqT K H a [] ∧ ∀ (p : Addr) (H' : Hp), Same H H' → H p = none → H' p = some (.lst []) → Q (.ref p) H'
def spFault0 (K : PySem.W.Frag) : Sp := fun vs H Q _ => ∃ a, vs = [.ref a, .int 1] ∧ SqT K H a [] ∧ ∀ (p : Addr) (H' : Hp), Same H H' → H' p = some (.tup [.int (-1), .int 0]) → Q (.ref p) H'
def spChk0 (K : PySem.W.Frag) : Sp := fun vs H Q _ => ∃ a, vs = [.ref a] ∧ SqT K H a [] ∧ ∀ H', Same H H' → Q .non H'
def spScrI0 (K : PySem.W.Frag) (C : Addr) : Sp := fun vs H Q _ => ∃ (x dx a : Addr), vs = [.ref x, .ref a] ∧ H x = some (.ins C dx []) ∧ SqT K H a [] ∧ ∀ H', (∀ b u, H b = some u → b ≠ x → H' b = some u) → ScrE K C H' x → Q .non H'
section
variable {P : Program} {w : World} {K : PySem.W.Frag} {mg : Str → Option Value} {base : Heap} {f C aL : Addr} {fd : FuncData}
theorem ok_every_line0 {m : Nat} {spR : Sp} (F : Fun K "every_line" "every_line" s_every_line f fd) (T : Txt mg) (c_every_line : Cal P w K mg base m "every_line" spR) : FnOk P w K mg base CX0 (m + 1) f fd ["lines"] (spEvery0 K) := by
  refine F.ok sc_every_line (fun vs H Q E h => ?_) (fun cdv A outer s H vs Q E hr h => ?_)
  · obtain ⟨a, rfl, _⟩ := h
    rfl
  · obtain ⟨a, rfl, hD, q⟩ := h
    refine ⟨_, (pss_cons (ps_set (i := 1) sc_every_line.nd rfl (.inl rfl) (pe_lst pa_nil))
      (pss_cons (ps_for PassesOwn.never rfl (pi_tupX K (pv 0)) (pg_name (i := 2) sc_every_line.nd rfl (.inl rfl)) (pss_cons (ps_expr (pe_bmX K (pe_bm PySem.F.plainAttrs_list PySem.F.slot_list_append PySem.F.type_list_append mt_append (pv 1) (pa_cons (pv 2) pa_nil))))
      (pss_one (ps_if (pt_cmpR (op_eqX K hr) (pe_ix (ix_X K) (pv 2) pe_int (fun _ _ => rfl)) pe_str (nomark _)) (pss_cons (ps_for PassesOwn.never rfl (pi_listX K (pe_c c_every_line hr (by omega) (by rfl) (pa_cons (pe_ix (ix_X K) (pv 2) pe_int (fun _ _ => rfl)) pa_nil))) (pg_name (i := 3) sc_every_line.nd rfl (.inl rfl)) (pss_one (ps_expr (pe_bmX K (pe_bm PySem.F.plainAttrs_list PySem.F.slot_list_append PySem.F.type_list_append mt_append (pv 1) (pa_cons (pv 3) pa_nil))))))
      (pss_one (ps_for PassesOwn.never rfl (pi_listX K (pe_c c_every_line hr (by omega) (by rfl) (pa_cons (pe_ix (ix_X K) (pv 2) pe_int (fun _ _ => rfl)) pa_nil))) (pg_name (i := 3) sc_every_line.nd rfl (.inl rfl)) (pss_one (ps_expr (pe_bmX K (pe_bm PySem.F.plainAttrs_list PySem.F.slot_list_append PySem.F.type_list_append mt_append (pv 1) (pa_cons (pv 3) pa_nil)))))))) pss_nil))))
      (pss_one (ps_ret (pv 1))))), ?_⟩
    change (_ : TS) _ [some (V.ref a), none, none, none] _
    k_extra "rr"
    refine ⟨by k_extra "sz", fun D nD => ?_⟩
    have sD := same_upd (o := .lst []) nD
    k_extra "rr"
    refine ⟨a, rfl, ⟨[], Rg.Same.seqT sD hD⟩, ?_⟩
    refine for_it (walk_tup (K := K) (a := a) (xs := [])) (fun i σ H' => ∃ v2 v3 : Option V, σ = [some (.ref a), some (.ref D), v2, v3] ∧ Same H H' ∧ H' D = some (.lst [])) ⟨_, _, rfl, sD, upd_same⟩ (fun i σ H' _ ⟨_, _, _, s, _⟩ => Rg.Same.seqT s hD) ?_ ?_
    · rintro i x σ H1 H2 hi _ _
      exact absurd hi (Nat.not_lt_zero _)
    · rintro σ H1 ⟨v2, v3, rfl, s1, h1⟩
      k_extra "rr"
      exact q D H1 s1 nD h1
theorem ok_fault_in0 {m n : Nat} {sp1 spR : Sp} (hm : m ≤ n) (F : Fun K "fault_in" "fault_in" s_fault_in f fd) (T : Txt mg) (c_is_line : Cal P w K mg base n "is_line" sp1) (c_fault_in : Cal P w K mg base m "fault_in" spR) : FnOk P w K mg base CX0 (n + 1) f fd ["lines", "depth"] (spFault0 K) := by
  refine F.ok sc_fault_in (fun vs H Q E h => ?_) (fun cdv A outer s H vs Q E hr h => ?_)
  · obtain ⟨a, rfl, _⟩ := h
    rfl
  · obtain ⟨a, rfl, hD, q⟩ := h
    refine ⟨_, (pss_cons (ps_set (i := 2) sc_fault_in.nd rfl (.inl rfl) pe_int)
      (pss_cons (ps_for PassesOwn.never rfl (pi_tupX K (pv 0)) (pg_name (i := 3) sc_fault_in.nd rfl (.inl rfl)) (pss_cons (ps_if (PW.pt (pw_or (pt_not (pt_val (pe_c c_is_line hr (by omega) (by rfl) (pa_cons (pv 3) pa_nil)))) (pw_or1 (PW.pt (pw_and (pt_cmpR (op_eqX K hr) (pe_ix (ix_X K) (pv 3) pe_int (fun _ _ => rfl)) pe_str (nomark _)) (pw_and1 (pt_cmpR op_gt (pv 1) (pe_gc (by rfl) T.g_MOST_DEPTH) (nomark _)))))))) (pss_one (ps_ret (pe_tup (pa_cons (pv 2) (pa_cons (pv 2) pa_nil))))) pss_nil)
      (pss_cons (ps_set (i := 2) sc_fault_in.nd rfl (.inl rfl) (pe_op (op_addX K) (pv 2) pe_int))
      (pss_one (ps_if (pt_cmpR (op_eqX K hr) (pe_ix (ix_X K) (pv 3) pe_int (fun _ _ => rfl)) pe_str (nomark _)) (pss_one (ps_for PassesOwn.never rfl (pi_tupX K (pe_slice (sl_X K) (pv 3) (po_some pe_int) po_none)) (pg_name (i := 4) sc_fault_in.nd rfl (.inl rfl)) (pss_cons (ps_asg (pe_c c_fault_in hr (by omega) (by rfl) (pa_cons (pv 4) (pa_cons (pe_op (op_addX K) (pv 1) pe_int) pa_nil))) (pg_tupX K (pg_tup (n := 2) (by rfl) (pgs_cons (pg_name (i := 5) sc_fault_in.nd rfl (.inl rfl)) (pgs_cons (pg_name (i := 6) sc_fault_in.nd rfl (.inl rfl)) pgs_nil)))))
      (pss_cons (ps_if (pt_cmpR op_ge (pv 5) pe_int (nomark _)) (pss_one (ps_ret (pe_tup (pa_cons (pe_op (op_addX K) (pv 2) (pv 5)) (pa_cons (pv 2) pa_nil))))) pss_nil)
      (pss_one (ps_set (i := 2) sc_fault_in.nd rfl (.inl rfl) (pe_op (op_addX K) (pv 2) (pv 6)))))))) pss_nil)))))
      (pss_one (ps_ret (pe_tup (pa_cons (pe_un un_neg pe_int) (pa_cons (pv 2) pa_nil))))))), ?_⟩
    change (_ : TS) _ [some (V.ref a), some (.int 1), none, none, none, none, none] _
    k_extra "rr"
    refine ⟨a, rfl, ⟨[], hD⟩, ?_⟩
    refine for_it (walk_tup (K := K) (a := a) (xs := [])) (fun i σ H' => ∃ v3 v4 v5 v6 : Option V, σ = [some (.ref a), some (.int 1), some (.int 0), v3, v4, v5, v6] ∧ Same H H') ⟨_, _, _, _, rfl, Same.refl _⟩ (fun i σ H' _ ⟨_, _, _, _, _, s⟩ => Rg.Same.seqT s hD) ?_ ?_
    · rintro i x σ H1 H2 hi _ _
      exact absurd hi (Nat.not_lt_zero _)
    · rintro σ H1 ⟨v3, v4, v5, v6, rfl, s1⟩
      k_extra "rr"
      refine ⟨by k_extra "sz", fun p np => ?_⟩
      k_extra "rr"
      exact q p _ (s1.trans (same_upd np)) upd_same
theorem ok_check_lines0X {C1 C2 : Addr} {k m : Nat} (hk : 2 ≤ k) (hm : m ≤ k) (F : Fun K "check_lines" "check_lines" s_check_lines f fd) (T : Txt mg) (c_every_line : Cal P w K mg base m "every_line" (spEvery0 K)) (c_fault_in : Cal P w K mg base k "fault_in" (spFault0 K)) (err_BadScript : ErrC P w K mg base "BadScript" C1 2 (spIni K "BadScript" "line")) (err_TooMany : ErrC P w K mg base "TooMany" C2 2 (spIni K "TooMany" "most")) : FnOk P w K mg base (L2.CX P w) (k + 1) f fd ["lines"] (spChk0 K) := by
  refine F.okX sc_check_lines (fun vs H Q E h => ?_) (fun cdv A outer s H vs Q E hr h => ?_)
  · obtain ⟨a, rfl, _⟩ := h
    rfl
  · obtain ⟨a, rfl, hD, q⟩ := h
    refine ⟨_, (pss_cons (ps_if (pt_not (pt_val (pe_callB (cr_isiT K) (by rfl) T.isinstance (by decide +kernel) (pa_cons (pv 0) (pa_cons (pe_tup (pa_cons (pe_bltn (v := .ty "list") (by rfl) T.list (by decide +kernel) rfl) (pa_cons (pe_bltn (v := .ty "tuple") (by rfl) T.tuple (by decide +kernel) rfl) pa_nil))) pa_nil))))) (pss_one (ps_rz rfl (takes_of rfl rfl rfl rfl) err_BadScript hr (by omega) (by rfl) (pa_cons pe_int pa_nil))) pss_nil)
      (pss_cons (ps_asg (pe_c c_fault_in hr (by omega) (by rfl) (pa_cons (pv 0) (pa_cons pe_int pa_nil))) (pg_tupX K (pg_tup (n := 2) (by rfl) (pgs_cons (pg_name (i := 1) sc_check_lines.nd rfl (.inl rfl)) (pgs_cons (pg_name (i := 2) sc_check_lines.nd rfl (.inl rfl)) pgs_nil)))))
      (pss_cons (ps_if (pt_cmpR op_ge (pv 1) pe_int (nomark _)) (pss_one (ps_rz rfl (takes_of rfl rfl rfl rfl) err_BadScript hr (by omega) (by rfl) (pa_cons (pv 1) pa_nil))) pss_nil)
      (pss_cons (ps_if (pt_cmpR op_gt (pv 2) (pe_gc (by rfl) T.g_MOST_LINES) (nomark _)) (pss_one (ps_rz rfl (takes_of rfl rfl rfl rfl) err_TooMany hr (by omega) (by rfl) (pa_cons (pe_gc (by rfl) T.g_MOST_LINES) pa_nil))) pss_nil)
      (pss_one (ps_if (pt_cmpR op_gt (pe_callB (call_lenX K) (by rfl) T.len PySem.boot_len (pa_cons (pe_lc (own := [("line", 3)]) (g := gName 3) (by rfl) sc_check_lines.nd (pi_listX K (pe_c c_every_line hr (by omega) (by rfl) (pa_cons (pv 0) pa_nil))) (blkOk_by (own := [("line", 3)]) (N := ["lines", "fault", "many", "line"]) (sc := defScope s_check_lines) (by decide +kernel)) (fun _ _ _ _ _ => pg_name (i := 3) sc_check_lines.nd rfl (Or.inl rfl)) (fun _ _ _ _ _ => (pts_one (pt_cmpR (op_eqX K hr) (pe_ix (ix_X K) (pv 3) pe_int (fun _ _ => rfl)) pe_str (nomark _)))) (fun _ _ _ _ _ => (pv 3))) pa_nil)) (pe_gc (by rfl) T.g_MOST_COPIES) (nomark _)) (pss_one (ps_rz rfl (takes_of rfl rfl rfl rfl) err_TooMany hr (by omega) (by rfl) (pa_cons (pe_gc (by rfl) T.g_MOST_COPIES) pa_nil))) pss_nil)))))), ?_⟩
    change (_ : TS) _ [some (V.ref a), none, none, none] _
    k_extra "rr"
    refine ⟨by k_extra "sz", fun p0 np0 => ?_⟩
    k_extra "rr"
    have s0 := same_upd (o := .tup [V.ty "list", V.ty "tuple"]) np0
    have hD0 := Rg.Same.seqT s0 hD
    refine isiT (b := true) upd_same (cls2 _ _) (tyx_T hD0) (kitAny2 kB_tuple_list kB_tuple_tuple) ?_
    generalize upd H p0 (.tup [V.ty "list", V.ty "tuple"]) = H0 at s0 hD0
    k_extra "rr"
    refine ⟨a, rfl, hD0, fun p1 H1 s1 h1 => ?_⟩
    have hD1 := Rg.Same.seqT s1 hD0
    k_extra "rr"
    rw [show decide ((0 : Int) ≤ -1) = false by decide]
    k_extra "rr"
    rw [show decide ((40 : Int) < 0) = false by decide]
    k_extra "rr"
    refine ⟨a, rfl, hD1, fun p2 H2 s2 n2 h2 => ?_⟩
    refine ⟨p2, rfl, ⟨_, SqL.of h2⟩, fun D nD => ?_⟩
    refine lc_it (walk_list (K := K) (a := p2) (xs := [])) (fun j H' => Same H2 H' ∧ H' D = some (.lst [])) ⟨same_upd nD, upd_same⟩ (fun j H' _ s => SqL.of (s.1 _ _ h2)) ?_ ?_
    · rintro j x H5 H6 hj _ _
      exact absurd hj (Nat.not_lt_zero _)
    · rintro H5 ⟨s5, hD5⟩
      k_extra "rr"
      rw [show decide ((4 : Int) < (([] : List V).length : Int)) = false by decide]
      k_extra "rr"
      exact q _ (((s0.trans s1).trans s2).trans s5)
theorem ok_Script_init0X {k m : Nat} {dvs : List V} (hm : m ≤ k) (F : FunD K "__init__" "Script.__init__" (defArgs s_Script___init__) (defBody s_Script___init__) (defScope s_Script___init__) dvs [] f fd) (T : Txt mg) (R : ScriptC K C) (gT_LOOKS : ∃ u, mg "LOOKS" = some u ∧ RelV (.ref aL) u)
    (c_check_lines : CalR P w K mg base k "check_lines" (spChk0 K)) (c_every_line : Cal P w K mg base m "every_line" (spEvery0 K)) : FnOk P w K mg base (L2.CX P w) (k + 1) f fd ["self", "lines"] (spScrI0 K C) := by
  refine FunD.ok F sc_Script___init__ (fun vs H Q E h => ?_) (fun cdv A outer s H vs Q E hr h => ?_)
  · obtain ⟨x, dx, a, rfl, _⟩ := h
    rfl
  · obtain ⟨x, dx, a, rfl, hx, hD, q⟩ := h
    obtain ⟨cl, n1, n2, n3⟩ := R
    refine ⟨_, (pss_cons (ps_expr (pe_cR (takes_of rfl rfl rfl rfl) c_check_lines hr (by omega) (by rfl) (pa_cons (pv 1) pa_nil)))
      (pss_cons (ps_fld (pv 0) (pe_callTy (cr_tuple K) (by rfl) T.tuple (by decide +kernel) (pa_cons (pv 1) pa_nil)) rfl)
      (pss_cons (ps_fld (pv 0) (pe_c c_every_line hr (by omega) (by rfl) (pa_cons (pv 1) pa_nil)) rfl)
      (pss_one (ps_fld (pv 0) (pe_callB (call_lenX K) (by rfl) T.len PySem.boot_len (pa_cons (pe_lc (own := [("line", 2)]) (g := gName 2) (by rfl) sc_Script___init__.nd (pi_listX K (pe_fldX K (pe_fld (pv 0) rfl))) (blkOk_by (own := [("line", 2)]) (N := ["self", "lines", "line"]) (sc := defScope s_Script___init__) (by decide +kernel)) (fun _ _ _ _ _ => pg_name (i := 2) sc_Script___init__.nd rfl (Or.inl rfl)) (fun _ _ _ _ _ => (pts_one (pt_cmpR (op_inX K) (pe_ix (ix_X K) (pv 2) pe_int (fun _ _ => rfl)) (pe_gc (by rfl) gT_LOOKS) (by rfl)))) (fun _ _ _ _ _ => (pv 2))) pa_nil)) rfl))))), ?_⟩
    change (_ : TS) _ [some (V.ref x), some (.ref a), none] _
    k_extra "rr"
    refine ⟨a, rfl, hD, fun H1 s1 => ?_⟩
    have hD1 := Rg.Same.seqT s1 hD
    have hx1 := s1 _ _ hx
    k_extra "rr"
    refine ⟨a, [], rfl, .inr ⟨hD1, ?_⟩⟩
    k_extra "rr"
    rw [show putF "rows" (V.ref a) [] = scr1 a from rfl]
    have hx3 : upd H1 x (.ins C dx (scr1 a)) x = some (.ins C dx (scr1 a)) := upd_same
    have k3 : ∀ b u, H1 b = some u → b ≠ x → upd H1 x (.ins C dx (scr1 a)) b = some u := fun b u e n => upd2 n e
    have hD3 := SqT.keepX k3 hx1 hD1
    generalize upd H1 x (.ins C dx (scr1 a)) = H3 at hx3 k3 hD3
    k_extra "rr"
    refine ⟨a, rfl, hD3, fun p H4 s4 np hp => ?_⟩
    have hx4 := s4 _ _ hx3
    have px : p ≠ x := (ne_of_none hx3 np).symm
    k_extra "rr"
    rw [show putF "every" (V.ref p) (scr1 a) = scr2 a p from rfl]
    have hx5 : upd H4 x (.ins C dx (scr2 a p)) x = some (.ins C dx (scr2 a p)) := upd_same
    have k5 : ∀ b u, H4 b = some u → b ≠ x → upd H4 x (.ins C dx (scr2 a p)) b = some u := fun b u e n => upd2 n e
    have hD5 := SqT.keepX k5 hx4 (Rg.Same.seqT s4 hD3)
    have hp5 := k5 _ _ hp px
    generalize upd H4 x (.ins C dx (scr2 a p)) = H5 at hx5 k5 hp5 hD5
    k_extra "rr"
    intro D nD
    refine lc_it (walk_list (K := K) (a := p) (xs := [])) (fun j H' => Same H5 H' ∧ H' D = some (.lst [])) ⟨same_upd nD, upd_same⟩ (fun j H' _ s => SqL.of (s.1 _ _ hp5)) ?_ ?_
    · rintro j y H6 H7 hj _ _
      exact absurd hj (Nat.not_lt_zero _)
    · rintro H6 ⟨s6, hD6⟩
      have hx6 := s6 _ _ hx5
      k_extra "rr"
      rw [show putF "many_looks" (V.int (([] : List V).length : Int)) (scr2 a p) = scrF a p 0 from rfl]
      have k7 : ∀ b u, H6 b = some u → b ≠ x → upd H6 x (.ins C dx (scrF a p 0)) b = some u := fun b u e n => upd2 n e
      exact q _ (fun c u e n => k7 c u (s6 _ _ (k5 _ _ (s4 _ _ (k3 _ _ (s1 _ _ e) n)) n)) n) ⟨dx, a, p, upd_same, SqT.keepX k7 hx6 (Rg.Same.seqT s6 hD5), k7 _ _ (s6 _ _ hp5) px⟩
def spScrLinesG (C : Addr) : Sp := fun vs H Q _ => ∃ (x dx t e : Addr) (n : Int), vs = [.ref x] ∧ H x = some (.ins C dx (scrF t e n)) ∧ Q (.ref t) H
theorem ok_Script_linesG (F : Fun K "lines" "Script.lines" s_Script_lines f fd) (R : ScriptC K C) : FnOk P w K mg base CX0 1 f fd ["self"] (spScrLinesG C) := by
  refine F.ok sc_Script_lines (fun vs H Q E h => ?_) (fun cdv A outer s H vs Q E hr h => ?_)
  · obtain ⟨x, dx, t, e, n, rfl, _⟩ := h
    rfl
  · obtain ⟨x, dx, t, e, n, rfl, hx, q⟩ := h
    obtain ⟨cl, n1, n2, n3⟩ := R
    refine ⟨_, (pss_one (ps_ret (pe_fldX K (pe_fld (pv 0) rfl)))), ?_⟩
    change (_ : TS) _ [some (V.ref x)] _
    k_extra "rr"
    exact q
end

/-! ### _law_why(lambda: e) within a comprehension: its reading names nothing of the comprehension's own context -/
theorem pe_whyC {X : Cx} {Pr : Program} {w : World} {K : PySem.W.Frag} {mg : Str → Option Value} {base : Heap} {c1 c2 c3 : Value} {c P : Addr} {j : Nat} {params : Arguments} {body : Expr} {scope : Scope} {t : XK → TE} {p lpos pos : Pos} (q : Str) (k : Nat) (hW : WhyC Pr w K mg base c1 c2 c3) (TB : LamX.TabB base mg c P) (hcode : X.env.code = .ref c) (hr : Room j X.A) (hk : k + 3 ≤ j) (L : LamX.LamS X.env.scope scope)
    (hbind : ∀ (q : Str) (cl : List (Str × Addr)) (pm cv ctv : Value), bindArgs (PySem.W.kla_fn "<lambda>" q params body scope cl pm cv ctv) ⟨[], []⟩ = pure [])
    (hbody : ∀ (A : Around) (outer : List Env) (s : Shared) (H : Hp) (E : XK) (f c' : Addr), Room k (A.deeper (LamX.lamEnv X scope s.heap.objs.size f c')) → PE (LamX.lamCx X A outer s H E scope f c') body (t E))
    (e1 : X.prog = Pr := by rfl) (e2 : X.w = w := by rfl) (e3 : X.K = K := by rfl) (e4 : X.mg = mg := by rfl) (e5 : X.base = base := by rfl) (e7 : X.env.qual = q := by rfl)
    (hg : Gl X "_law_why" := by rfl) (hdef : defaultsOf params X.env = ([], []) := by rfl) :
    PE X (.Call (.Name "_law_why" p) [.Lambda params body scope lpos] [] pos) (LamX.tLam [(P, q ++ "<lambda>")] (TTwhy K c1 c2 c3) t) := by
  subst e1 e2 e3 e4 e5 e7
  exact pe_why k hW TB hcode hr hk L hbind hbody hg hdef

/-! ### the law -/
def oddS : List Lit := [.non, (.int 3), (.str ""), (.str "fresh"), (.bl true)]
theorem oddS_te : (Lit.lst oddS).te = (tLst (tCons (tC .non) (tCons (tC (.int 3)) (tCons (tC (.str "")) (tCons (tC (.str "fresh")) (tCons (tC (.bl true)) tNil)))))) := by
  unfold oddS
  simp only [Lit.te, Lit.ta]
  try rfl
theorem ScG.le {n m : Nat} {c : Sc} (h : n ≤ m) (g : ScG n c) : ScG m c := by
  induction m with
  | zero =>
    have : n = 0 := by omega
    rw [← this]
    exact g
  | succ m ih =>
    by_cases e : n = m + 1
    · rw [← e]
      exact g
    · exact (ih (by omega)).mono
theorem depth_strs : ∀ zs : List Str, PyData.depthAll (zs.map PyData.str) = 0
  | [] => by simp [PyData.depthAll]
  | z :: r => by
    have ih := depth_strs r
    simp only [List.map_cons, PyData.depthAll, PyData.depth, ih]
    rfl
theorem Sc.dep : ∀ {n : Nat} {c : Sc}, ScG n c → PyData.depthAll (scD c) ≤ 2 * n + 1
  | n, .nil, _ => by
    show PyData.depthAll [] ≤ _
    simp [PyData.depthAll]
  | n, .op o r, h => by
    have h : OpG o ∧ OpN o ∧ ScG n r := by cases n <;> exact h
    have ih := Sc.dep (c := r) h.2.2
    show PyData.depthAll (.tuple o.ds :: scD r) ≤ _
    simp only [PyData.depthAll, PyData.depth]
    rw [o.zs_ds, depth_strs]
    omega
  | n + 1, .ifs t a b r, h => by
    obtain ⟨_, ha, hb, hr⟩ := h
    have i1 := Sc.dep (c := a) ha
    have i2 := Sc.dep (c := b) hb
    have i3 := Sc.dep (c := r) hr
    show PyData.depthAll (.tuple [.str "if", .tuple t.ds, .tuple (scD a), .tuple (scD b)] :: scD r) ≤ _
    simp only [PyData.depthAll, PyData.depth]
    rw [t.zs_ds, depth_strs]
    omega
theorem oddS_ok : ∀ d ∈ Lit.dataA oddS, resS d = .bad 0 ∧ gD d = true ∧ sz d ≤ 10 := by
  unfold oddS
  simp only [Lit.dataA, Lit.data, List.mem_cons, List.not_mem_nil, or_false, forall_eq_or_imp, forall_eq]
  refine ⟨?_, ?_, ?_, ?_, ?_⟩ <;> exact ⟨rfl, by decide +kernel, by decide +kernel⟩
def deepD : Nat → PyData
  | 0 => .tuple [.str "if", .tuple [.str "there", .str "x"], .tuple [], .tuple []]
  | k + 1 => .tuple [.str "if", .tuple [.str "kind", .str "x", .str "a"], .tuple [.tuple [.str "fresh"]], .tuple [deepD k]]
theorem NAt.ext {H H' : Hp} {b p a1 a2 a3 : Addr} {k1 k2 ts : List Wd} (h : NAt H b p a1 a2 a3 k1 k2 ts) (e : LamX.ExtN H H') : NAt H' b p a1 a2 a3 k1 k2 ts := { h with hp := ext_lst e h.hp, h1 := ext_lst e h.h1, h2 := ext_lst e h.h2, h3 := ext_lst e h.h3 }
theorem NAt.same {H H' : Hp} {b p a1 a2 a3 : Addr} {k1 k2 ts : List Wd} (h : NAt H b p a1 a2 a3 k1 k2 ts) (e : Same H H') : NAt H' b p a1 a2 a3 k1 k2 ts := h.but (But.of_same e)
theorem nl_deep : ∀ j, nl (deepD j) = true
  | 0 => by decide +kernel
  | j + 1 => by
    have ih := nl_deep j
    show nl (.tuple [.str "if", .tuple [.str "kind", .str "x", .str "a"], .tuple [.tuple [.str "fresh"]], .tuple [deepD j]]) = true
    simp only [nl, nlA, ih, Bool.and_self]
theorem nl_deeps (j : Nat) : nlA ((List.range j).map deepD) = true := nlA_of fun d hd => by
  obtain ⟨k, _, rfl⟩ := List.mem_map.mp hd
  exact nl_deep k
def okV (x : PyData) : Prop := ∃ ds, x = .tuple ds ∧ gA ds = true ∧ szA ds ≤ 9000 ∧ PyData.depthAll ds ≤ 40 ∧ hCA ds ≤ 4
theorem res_few {ds : List PyData} (h : hCA ds ≤ 4) (h1 : ¬ 0 ≤ (faultN 3 ds).1) (h2 : (faultN 3 ds).2 ≤ 40) : resL ds = .ok := by
  unfold resL
  have := everyN_cop 3 ds
  rw [if_neg h1, if_neg (by omega), if_neg (by omega)]
theorem mkR_ {C : Addr} {sp : Sp} {dvs : List V} {W : WX} {t : TA} {σ : L2.St} {H : Hp} {Q : VK} (q : t σ H fun vs H1 => ∀ x dx, H1 x = none → H1 dx = none → dx ≠ x → sp (.ref x :: (vs ++ dvs)) (upd (upd H1 dx (.own x)) x (.ins C dx [])) (fun v H2 => v = .non ∧ Q (.ref x) H2) fun cls d H2 => W cls d σ H2) : Lg.tMakR C sp dvs W t σ H Q := q
theorem mkRK_ {C : Addr} {m : Nat} {sp : Sp} {gV : List V → List V → List V} {W : WX} {tk : TA} {σ : L2.St} {H : Hp} {Q : VK} (q : tk σ H fun zs H1 => zs.length = m ∧ ∀ x dx, H1 x = none → H1 dx = none → dx ≠ x → sp (gV [.ref x] zs) (upd (upd H1 dx (.own x)) x (.ins C dx [])) (fun v H2 => v = .non ∧ Q (.ref x) H2) fun cls d H2 => W cls d σ H2) : Lg.tMakRK C m sp gV W tk σ H Q := q
theorem told_ok {C1 C2 : Addr} {r : Rs} {H : Hp} {E : XK} (h : r = .ok) : Told C1 C2 r H E := ⟨fun n e => (by rw [h] at e; cases e), fun n e => (by rw [h] at e; cases e)⟩
theorem resL_sc {c : Sc} (g : ScG 3 c) (h1 : c.cnt ≤ 40) (h2 : c.copies ≤ 4) : resL (scD c) = .ok := by
  have ok := Sc.ok g h1 h2
  unfold resL
  rw [faultN_cnt 3 _ ok.ok, if_neg (by show ¬ (0 : Int) ≤ -1; decide), if_neg (by have := ok.few; show ¬ (40 : Int) < ((everyN 3 (scD c)).length : Int); omega), if_neg (by have := ok.cop; omega)]
section
variable {P : Program} {w : World} {K : PySem.W.Frag} {mg : Str → Option Value} {base : Heap} {f CS C1 C2 cA PA de : Addr}
theorem ok_law {u1 u2 u3 : Addr} {oc dc pm ct kV : Value} {od an : Option Addr} {sl : Array (Option Value)} {LB LE LS LA : Nat} (h1 : LB ≤ 40) (h3 : LE ≤ 40) (h4 : LS ≤ 15) (h5 : LA ≤ 70) (lk : K.lookup f = some ⟨oc, od, .func (PySem.W.fnOf "law" "law" (defArgs s_law) (defBody s_law) (defScope s_law) .none kV dc pm an (.ref cA) ct), sl⟩) (hcd : PySem.W.codeIn K (.ref cA) "law" = true) (T : Txt mg) (TB : LamX.TabB base mg cA PA)
    (hW : WhyC P w K mg base (.ref u1) (.ref u2) (.ref u3)) (ek : ErrK K u1 u2 u3 C1 C2)
    (c_law_bag : Cal P w K mg base 1 "_law_bag" (spBag K)) (c_law_names : Cal P w K mg base 4 "_law_names" spNames3) (c_law_of : Cal P w K mg base 2 "_law_of" (spOf K)) (c_law_lines : Cal P w K mg base 6 "_law_lines" spLinesL1) (c_law_bent_lines : Cal P w K mg base LE "_law_bent_lines" (spBentL (okN 1))) (c_law_bad : Cal P w K mg base LB "_law_bad" (spLBad (faultN 3) 1)) (c_law_alike : Cal P w K mg base LA "_law_alike" (spAlike K 61))
    (mk_Script : Lg.MakR P w K mg base LS "Script" CS (spScrX CS C1 C2) []) (mk_Script_lines : Lg.MakRK P w K mg base LS "Script" CS ["lines"] (fun us ws => us ++ ws) (spScrX CS C1 C2)) (hde : ∀ H, SqT K H de []) (mk_Script0 : Lg.MakR P w K mg base LS "Script" CS (spScrI0 K CS) [.ref de]) (c_Script_lines : C8.Met P w K mg base 1 CS "lines" (spScrLinesG CS) []) :
    FnOk P w K mg base CX0 101 f (PySem.W.fnOf "law" "law" (defArgs s_law) (defBody s_law) (defScope s_law) .none kV dc pm an (.ref cA) ct) ["_law_script"] (spLaw K PA) := by
  refine fn_of lk hcd sc_law (fun vs H Q E h => ?_) fun A outer s H vs Q E hr h => ?_
  · obtain ⟨a, ns, rfl, _⟩ := h
    rfl
  · suffices ∃ t, PSs (cxOf CX0 P w K mg base ["_law_script", "_law_bag_z", "_law_names_z", "_law_turn", "_law_lines_z", "_law_late", "_law_more", "_law_value", "_law_fault", "_law_many", "_law_found", "_law_odd", "_law_deep", "_law_rows", "_law_level", "_law_told", "_law_row"] "law" (defScope s_law) f (.ref cA) A outer s H E).nox (defBody s_law) t ∧ t { nx := fun _ H' => Q .non H', rt := Q } (L2.start ["_law_script", "_law_bag_z", "_law_names_z", "_law_turn", "_law_lines_z", "_law_late", "_law_more", "_law_value", "_law_fault", "_law_many", "_law_found", "_law_odd", "_law_deep", "_law_rows", "_law_level", "_law_told", "_law_row"] vs) H from
      let ⟨t, h1, h2⟩ := this
      ⟨t, h1.nox, h2⟩
    obtain ⟨a, ns, rfl, hS, hl, hP, q⟩ := h
    refine ⟨_, (pss_cons (ps_set (i := 1) sc_law.nd rfl (.inl rfl) (pe_c c_law_bag hr (by omega) (by rfl) (pa_cons (pv 0) pa_nil)))
      (pss_cons (ps_set (i := 2) sc_law.nd rfl (.inl rfl) (pe_c c_law_names hr (by omega) (by rfl) (pa_cons (pv 1) pa_nil)))
      (pss_cons (ps_for PassesOwn.never rfl (pi_range1 (by rfl) T.range (pa_cons pe_int pa_nil)) (pg_name (i := 3) sc_law.nd rfl (.inl rfl)) (pss_cons (ps_set (i := 4) sc_law.nd rfl (.inl rfl) (pe_c c_law_lines hr (by omega) (by rfl) (pa_cons (pv 1) (pa_cons (pv 2) (pa_cons pe_int (pa_cons pe_int (pa_cons pe_int pa_nil)))))))
      (pss_cons (ps_if (PW.pt (pw_or (pt_not (pt_val (pe_c c_law_alike hr (by omega) (by rfl) (pa_cons (C8.pe_mt0 c_Script_lines hr (by omega) (Lg.pe_mkR takes0 mk_Script hr (by omega) (by rfl) (pa_cons (pv 4) pa_nil))) (pa_cons (pv 4) pa_nil))))) (pw_or1 (pt_not (pt_val (pe_c c_law_alike hr (by omega) (by rfl) (pa_cons (C8.pe_mt0 c_Script_lines hr (by omega) (Lg.pe_mkR takes0 mk_Script hr (by omega) (by rfl) (pa_cons (pe_callTy (cr_list K) (by rfl) T.list (by decide +kernel) (pa_cons (pv 4) pa_nil)) pa_nil))) (pa_cons (pv 4) pa_nil)))))))) (pss_one (ps_ret pe_bl)) pss_nil)
      (pss_cons (ps_set (i := 5) sc_law.nd rfl (.inl rfl) (pe_c c_law_bent_lines hr (by omega) (by rfl) (pa_cons (pv 1) (pa_cons (pv 4) pa_nil))))
      (pss_cons (ps_set (i := 6) sc_law.nd rfl (.inl rfl) (pe_tup (pa_cons pe_str (pa_cons (pe_tup (pa_cons pe_str (pa_cons (pe_ix (ix_X K) (pe_ix (ix_X K) (pv 2) pe_int (fun _ _ => rfl)) pe_int (fun _ _ => rfl)) pa_nil))) (pa_cons (pv 5) (pa_cons (pv 4) pa_nil))))))
      (pss_cons (ps_for PassesOwn.never rfl (pi_listX K (pe_lst (pa_cons (pv 5) (pa_cons (pe_op (op_addX K) (pv 5) (pe_tup (pa_cons pe_non pa_nil))) (pa_cons (pe_tup (pa_cons (pv 6) (pa_cons pe_non pa_nil))) (pa_cons (pe_tup (pa_cons (pe_tup (pa_cons pe_str (pa_cons (pe_tup (pa_cons pe_str (pa_cons (pe_ix (ix_X K) (pe_ix (ix_X K) (pv 2) pe_int (fun _ _ => rfl)) pe_int (fun _ _ => rfl)) (pa_cons (pe_ix (ix_X K) (pe_ix (ix_X K) (pv 2) pe_int (fun _ _ => rfl)) pe_int (fun _ _ => rfl)) pa_nil)))) (pa_cons (pv 4) (pa_cons (pv 5) pa_nil))))) pa_nil)) pa_nil)))))) (pg_name (i := 7) sc_law.nd rfl (.inr rfl)) (pss_cons (ps_asg (pe_c c_law_bad hr (by omega) (by rfl) (pa_cons (pv 7) (pa_cons pe_int (pa_cons pe_int pa_nil)))) (pg_tupX K (pg_tup (n := 2) (by rfl) (pgs_cons (pg_name (i := 8) sc_law.nd rfl (.inl rfl)) (pgs_cons (pg_name (i := 9) sc_law.nd rfl (.inl rfl)) pgs_nil)))))
      (pss_cons (ps_set (i := 10) sc_law.nd rfl (.inl rfl) (pe_why 20 hW TB rfl hr (by omega) (LamX.lamS_by (by show LamX.lamSB (defScope s_law) _ = true; decide +kernel)) (fun _ _ _ _ _ => rfl) (fun A outer s H E f c' hrL => (C8.pe_mt0 c_Script_lines hrL (by omega) (Lg.pe_mkR (takes_of rfl rfl rfl rfl) mk_Script hrL (by omega) (by rfl) (pa_cons (pv 7) pa_nil))))))
      (pss_one (ps_if (PW.pt (pw_and (pt_cmpR op_le (pv 9) pe_int (nomark _)) (pw_and1 (pt_not (pt_val (pe_c c_law_alike hr (by omega) (by rfl) (pa_cons (pv 10) (pa_cons (pe_ifExp (pt_cmpR op_ge (pv 8) pe_int (nomark _)) (pe_tup (pa_cons pe_str (pa_cons (pv 8) pa_nil))) (pe_tup (pa_cons pe_str (pa_cons (pv 7) pa_nil)))) pa_nil)))))))) (pss_one (ps_ret pe_bl)) pss_nil)))))
      (pss_cons (ps_set (i := 11) sc_law.nd rfl (.inr rfl) (pe_c c_law_of hr (by omega) (by rfl) (pa_cons (pv 1) (pa_cons (pe_lst (pa_cons pe_non (pa_cons pe_int (pa_cons pe_str (pa_cons pe_str (pa_cons pe_bl pa_nil)))))) pa_nil))))
      (pss_one (ps_if (pt_not (pt_val (pe_c c_law_alike hr (by omega) (by rfl) (pa_cons (pe_why 20 hW TB rfl hr (by omega) (LamX.lamS_by (by show LamX.lamSB (defScope s_law) _ = true; decide +kernel)) (fun _ _ _ _ _ => rfl) (fun A outer s H E f c' hrL => (Lg.pe_mkRK (takes_of rfl rfl rfl rfl) mk_Script_lines hrL (by omega) (by rfl) (pk_cons (pv 11) pk_nil)))) (pa_cons (pe_tup (pa_cons pe_str (pa_cons pe_int pa_nil))) pa_nil))))) (pss_one (ps_ret pe_bl)) pss_nil)))))))))
      (pss_cons (ps_set (i := 12) sc_law.nd rfl (.inl rfl) (pe_litX (.tup [(.str "if"), (.tup [(.str "there"), (.str "x")]), (.tup []), (.tup [])]) (by first | (simp only [Lit.te, Lit.ta]; done) | (simp only [Lit.te, Lit.ta]; rfl)) (pe_tup (pa_cons pe_str (pa_cons (pe_tup (pa_cons pe_str (pa_cons pe_str pa_nil))) (pa_cons (pe_tup pa_nil) (pa_cons (pe_tup pa_nil) pa_nil)))))))
      (pss_cons (ps_set (i := 13) sc_law.nd rfl (.inr rfl) (pe_lst pa_nil))
      (pss_cons (ps_for PassesOwn.never rfl (pi_range1 (by rfl) T.range (pa_cons pe_int pa_nil)) (pg_name (i := 14) sc_law.nd rfl (.inl rfl)) (pss_cons (ps_expr (pe_bmX K (pe_bm PySem.F.plainAttrs_list PySem.F.slot_list_append PySem.F.type_list_append mt_append (pv 13) (pa_cons (pv 12) pa_nil))))
      (pss_one (ps_set (i := 12) sc_law.nd rfl (.inl rfl) (pe_tup (pa_cons pe_str (pa_cons (pe_tup (pa_cons pe_str (pa_cons pe_str (pa_cons pe_str pa_nil)))) (pa_cons (pe_litX (.tup [(.tup [(.str "fresh")])]) (by first | (simp only [Lit.te, Lit.ta]; done) | (simp only [Lit.te, Lit.ta]; rfl)) (pe_tup (pa_cons (pe_tup (pa_cons pe_str pa_nil)) pa_nil))) (pa_cons (pe_tup (pa_cons (pv 12) pa_nil)) pa_nil)))))))))
      (pss_cons (ps_setLc (i := 15) (own := [("_law_row", 16)]) (g := gName 16) (tt := tYes) (by rfl) sc_law.nd rfl rfl (sw_true rfl rfl rfl (by decide +kernel)) (pi_listX K (pv 13)) (blkOk_by (own := [("_law_row", 16)]) (N := ["_law_script", "_law_bag_z", "_law_names_z", "_law_turn", "_law_lines_z", "_law_late", "_law_more", "_law_value", "_law_fault", "_law_many", "_law_found", "_law_odd", "_law_deep", "_law_rows", "_law_level", "_law_told", "_law_row"]) (sc := defScope s_law) (by decide +kernel)) (fun _ _ _ _ _ => pg_name (i := 16) sc_law.nd rfl (Or.inr rfl)) (fun _ _ _ _ _ => pts_nil) (fun _ _ _ _ _ => (pe_ix (ix_X K) (pe_whyC "law.<locals>." 20 hW TB rfl hr (by omega) (LamX.lamS_by (by rfl)) (fun _ _ _ _ _ => rfl) (fun A outer s H E f c' hrL => (Lg.pe_mkR (takes_of rfl rfl rfl rfl) mk_Script hrL (by omega) (by rfl) (pa_cons (pe_lst (pa_cons (pv 16) pa_nil)) pa_nil)))) pe_int (fun _ _ => rfl))))
      (pss_cons (ps_expr (pe_bmX K (pe_bm PySem.F.plainAttrs_list PySem.F.slot_list_append PySem.F.type_list_append mt_append (pv 15) (pa_cons (pe_why 20 hW TB rfl hr (by omega) (LamX.lamS_by (by show LamX.lamSB (defScope s_law) _ = true; decide +kernel)) (fun _ _ _ _ _ => rfl) (fun A outer s H E f c' hrL => (Lg.pe_mkR (takes_of rfl rfl rfl rfl) mk_Script hrL (by omega) (by rfl) (pa_cons (pe_lst (pa_cons (pe_tup (pa_cons pe_str pa_nil)) (pa_cons (pe_ix (ix_X K) (pv 13) pe_int (fun _ _ => rfl)) pa_nil))) pa_nil)))) pa_nil))))
      (pss_one (ps_ret (pe_and (pe_cmpR (op_eqX K hr) (pv 15) (pe_litX (.lst [(.str ""), (.str ""), (.str ""), (.str "BadScript"), (.tup [(.str "BadScript"), (.int 7)])]) (by first | (simp only [Lit.te, Lit.ta]; done) | (simp only [Lit.te, Lit.ta]; rfl)) (pe_lst (pa_cons pe_str (pa_cons pe_str (pa_cons pe_str (pa_cons pe_str (pa_cons (pe_tup (pa_cons pe_str (pa_cons pe_int pa_nil))) pa_nil))))))) (nomark _)) (pe_and (pe_cmpR (op_eqX K hr) (C8.pe_mt0 c_Script_lines hr (by omega) (Lg.pe_mkR0 takes0 mk_Script0 hr (by omega) (by rfl))) (pe_tup pa_nil) (nomark _)) (pe_one (pe_cmpR (op_eqX K hr) (C8.pe_mt0 c_Script_lines hr (by omega) (Lg.pe_mkR takes0 mk_Script hr (by omega) (by rfl) (pa_cons (pe_lst pa_nil) pa_nil))) (pe_tup pa_nil) (nomark _))))))))))))))), ?_⟩
    change (_ : TS) _ [some (V.ref a), none, none, none, none, none, none, none, none, none, none, none, none, none, none, none, none] _
    k_extra "rr"
    have hT : LamX.Tabs (tabQ PA) H := fun p hp => List.mem_singleton.mp hp ▸ LamX.TabS.nil hP
    refine ⟨a, ns, rfl, hS, hl, fun H1 b r s1 nb hb => ?_⟩
    have hT1 : LamX.Tabs (tabQ PA) H1 := hT.ext fun c o h => s1 c o h
    obtain ⟨lb, hlb⟩ := hb.lst
    k_extra "rr"
    refine ⟨b, r, rfl, hb, fun p a1 a2 a3 k1 k2 ts H2 bb2 hb2 hp ha1 ha2 ha3 l1 l2 l3 g1 g2 g3 np na1 na2 na3 => ?_⟩
    have hN : NAt H2 b p a1 a2 a3 k1 k2 ts := ⟨hp, ha1, ha2, ha3, (hb.ne_none np).1, (hb.ne_none na1).1, (hb.ne_none na2).1, (hb.ne_none na3).1, l1, l2, l3, g1, g2, g3⟩
    have hT2 := Tabs.but hT1 bb2 hlb
    clear hp ha1 ha2 ha3 np na1 na2 na3 hT hT1
    obtain ⟨w0, w1, w2, rfl⟩ : ∃ w0 w1 w2, k2 = [w0, w1, w2] := by
      match k2, l2 with
      | [w0, w1, w2], _ => exact ⟨_, _, _, rfl⟩
    k_extra "rr"
    refine for_range (lo := 0) (n := (5 : Int).toNat) (fun i σ H' => ∃ (v3 v4 v5 v6 v7 v8 v9 v10 v11 : Option V), σ = [some (.ref a), some (.ref b), some (.ref p), v3, v4, v5, v6, v7, v8, v9, v10, v11, none, none, none, none, none] ∧ BagAt H' b r ∧ NAt H' b p a1 a2 a3 k1 [w0, w1, w2] ts ∧ LamX.Tabs (tabQ PA) H')
      ⟨none, none, none, none, none, none, none, none, none, rfl, hb2, hN, hT2⟩ ?_ ?_
    · rintro i σ H3 hi ⟨v3, v4, v5, v6, v7, v8, v9, v10, v11, rfl, hb3, hN3, hT3⟩
      obtain ⟨lb3, hlb3⟩ := hb3.lst
      k_extra "rr"
      refine ⟨b, r, p, a1, a2, a3, k1, [w0, w1, w2], ts, 6, 4, rfl, by omega, hb3, hN3, fun q1 x1 c1 H4 bb4 hb4 hq1 hA1 hG1 hn1 hc1 _ => ?_⟩
      have hN4 := hN3.but bb4
      have hT4 := Tabs.but hT3 bb4 hlb3
      have hG3 := ScG.le (m := 3) (by omega) hG1
      have okc := Sc.ok hG3 (by omega) (by omega)
      have zc := Sc.sz hG3
      have gc := Sc.g hG3
      have dc := Sc.dep hG1
      have hDq : ∀ b', Dq b' H4 (.tuple (scD c1)) (.ref q1) := fun b' => Dq.tup_mk hq1 hA1.dq
      have rok := resL_sc hG3 (by omega) (by omega)
      have gT : gD (.tuple (scD c1)) = true := by simp only [gD]; exact gc
      have gL : gD (.list (scD c1)) = true := by simp only [gD]; exact gc
      have zT : sz (.tuple (scD c1)) ≤ 10000 := by simp only [sz]; omega
      have zL : sz (.list (scD c1)) ≤ 10000 := by simp only [sz]; omega
      have dT : (PyData.tuple (scD c1)).depth ≤ 20 := by simp only [PyData.depth]; omega
      k_extra "rr"
      refine mkR_ ?_
      k_extra "rr"
      refine scr_init (hDq b) gT zT (fun _ x H5 s5 hx => ?_) (told_ok rok)
      obtain ⟨dx, tt, e, n, lt, le, hx1, hx2, hx3, hx4, hx5, hx6⟩ := hx
      refine ⟨x, dx, _, rfl, hx1, by k_extra "lk", ?_⟩
      k_extra "rr"
      refine ⟨x, dx, tt, e, n, rfl, hx1, ?_⟩
      have hDq5 : ∀ b', Dq b' H5 (.tuple (scD c1)) (.ref q1) := fun b' => (hDq b').le (Le.same s5)
      k_extra "rr"
      refine ⟨_, _, rfl, Dq.alk (b := b) (b' := b) (d := .tuple (scD c1)) 60 (by omega) (by omega) (Dq.tup_mk hx2 (hx4 b)) (hDq5 b), fun H6 s6 => ?_⟩
      have s46 := s5.trans s6
      k_extra "rr"
      refine mkR_ ?_
      k_extra "rr"
      have hq6 := s46 _ _ hq1
      refine listT (SqT.of hq6) fun L nL => ?_
      have hb6 := hb4.same s46
      have nLb : L ≠ b := (hb6.ne_none nL).1
      have s7 : Same H4 (upd H6 L (.lst x1)) := s46.trans (same_upd nL)
      have hL7 : upd H6 L (.lst x1) L = some (.lst x1) := upd_same
      generalize upd H6 L (.lst x1) = H7 at s7 hL7
      have hDq7 : Dq b H7 (.list (scD c1)) (.ref L) := Dq.lst_mk nLb hL7 ((hA1.dq (b := b)).le (Le.same s7))
      k_extra "rr"
      refine scr_init hDq7 gL zL (fun _ x2 H8 s8 hx' => ?_) (told_ok rok)
      obtain ⟨dx2, tt2, e2, n2, lt2, le2, hy1, hy2, hy3, hy4, hy5, hy6⟩ := hx'
      refine ⟨x2, dx2, _, rfl, hy1, by k_extra "lk", ?_⟩
      k_extra "rr"
      refine ⟨x2, dx2, tt2, e2, n2, rfl, hy1, ?_⟩
      have s48 := s7.trans s8
      k_extra "rr"
      refine ⟨_, _, rfl, Dq.alk (b := b) (b' := b) (d := .tuple (scD c1)) 60 (by omega) (by omega) (Dq.tup_mk hy2 (hy4 b)) ((hDq b).le (Le.same s48)), fun H9 s9 => ?_⟩
      have s49 := s48.trans s9
      have hb9 := hb4.same s49
      have hN9 := hN4.same s49
      have hT9 := hT4.ext fun c o h => s49 c o h
      have hq9 := s49 _ _ hq1
      have hA9 : DqA b H9 (scD c1) x1 := (hA1.dq (b := b)).le (Le.same s49)
      have ok1 := Sc.okN hG1
      clear hx1 hx2 hx3 hx4 hx5 hx6 hy1 hy2 hy3 hy4 hy5 hy6 hDq5 hDq7 hL7 s5 s6 s46 s7 s8 s48 s9 hq6 hb6 nL nLb
      k_extra "rr"
      refine ⟨b, r, q1, x1, scD c1, rfl, hb9, hq9, hA9, ok1, gc, by omega, fun q2 m2 es HA bbA hbA hq2 hm2 hB => ?_⟩
      obtain ⟨lb9, hlb9⟩ := hb9.lst
      have hTA := Tabs.but hT9 bbA hlb9
      have hNA := hN9.but bbA
      have leA := hb9.le bbA
      have hqA := leA.tup _ _ hq9
      have hlA := hA9.le leA
      obtain ⟨b1, b2, b3, b4, b5⟩ := hB
      have hpA := hNA.hp
      have h2A := hNA.h2
      rw [show kws [w0, w1, w2] = [sS w0, sS w1, sS w2] from rfl] at h2A
      k_extra "rr"
      refine ⟨by k_extra "sz", fun pt npt => ?_⟩
      k_extra "rr"
      refine ⟨by k_extra "sz", fun pm npm => ?_⟩
      have sB := (same_upd (o := .tup [V.str (Str.ofString "there"), sS w0]) npt).trans (same_upd (o := .tup [V.str (Str.ofString "if"), V.ref pt, .ref q2, .ref q1]) npm)
      have htB : upd (upd HA pt (.tup [V.str (Str.ofString "there"), sS w0])) pm (.tup [V.str (Str.ofString "if"), V.ref pt, .ref q2, .ref q1]) pt = some (.tup [V.str (Str.ofString "there"), sS w0]) := same_upd npm _ _ upd_same
      have hmB : upd (upd HA pt (.tup [V.str (Str.ofString "there"), sS w0])) pm (.tup [V.str (Str.ofString "if"), V.ref pt, .ref q2, .ref q1]) pm = some (.tup [V.str (Str.ofString "if"), V.ref pt, .ref q2, .ref q1]) := upd_same
      generalize upd (upd HA pt (.tup [V.str (Str.ofString "there"), sS w0])) pm (.tup [V.str (Str.ofString "if"), V.ref pt, .ref q2, .ref q1]) = HB at sB htB hmB
      have hq2B := sB _ _ hq2
      have hqB := sB _ _ hqA
      have hmm := hm2.le (Le.same (b := b) sB)
      have hll := hlA.le (Le.same (b := b) sB)
      have hml := hmm.len
      have hes := szA_len es
      k_extra "rr"
      refine ⟨by k_extra "sz", fun pn npn => ?_⟩
      refine addT (same_upd npn _ _ hq2B) upd_same (by rw [hml, sizeLine_eq]; show _ + 1 ≤ _; omega) fun q3 HD sDx h3 => ?_
      have sBD := (same_upd (o := .tup [V.non]) npn).trans sDx
      k_extra "rr"
      refine ⟨by k_extra "sz", fun q4 nq4 => ?_⟩
      have sE := same_upd (o := .tup [V.ref pm, .non]) nq4
      have h4 : upd HD q4 (.tup [V.ref pm, .non]) q4 = some (.tup [V.ref pm, .non]) := upd_same
      have h3' := sE _ _ h3
      have sAE := (sB.trans sBD).trans sE
      have sBE := sBD.trans sE
      generalize upd HD q4 (.tup [V.ref pm, .non]) = HE at sE h4 h3' sAE sBE
      have hpE := sAE _ _ hpA
      have h2E := sAE _ _ h2A
      k_extra "rr"
      refine ⟨by k_extra "sz", fun p5 n5 => ?_⟩
      k_extra "rr"
      refine ⟨by k_extra "sz", fun p6 n6 => ?_⟩
      k_extra "rr"
      refine ⟨by k_extra "sz", fun p7 n7 => ?_⟩
      k_extra "rr"
      refine ⟨by k_extra "sz", fun L nL => ?_⟩
      have s5' := ((same_upd (o := .tup [V.str (Str.ofString "is"), sS w0, sS w1]) n5).trans (same_upd (o := .tup [V.str (Str.ofString "if"), V.ref p5, .ref q1, .ref q2]) n6)).trans ((same_upd (o := .tup [V.ref p6]) n7).trans (same_upd (o := .lst [V.ref q2, V.ref q3, V.ref q4, V.ref p7]) nL))
      have h7 := same_upd (o := .lst [V.ref q2, V.ref q3, V.ref q4, V.ref p7]) nL _ _ (upd_same (H := upd (upd HE p5 (.tup [V.str (Str.ofString "is"), sS w0, sS w1])) p6 (.tup [V.str (Str.ofString "if"), V.ref p5, .ref q1, .ref q2])) (a := p7) (o := .tup [V.ref p6]))
      have h6 := ((same_upd (o := .tup [V.ref p6]) n7).trans (same_upd (o := .lst [V.ref q2, V.ref q3, V.ref q4, V.ref p7]) nL)) _ _ (upd_same (H := upd HE p5 (.tup [V.str (Str.ofString "is"), sS w0, sS w1])) (a := p6) (o := .tup [V.str (Str.ofString "if"), V.ref p5, .ref q1, .ref q2]))
      have h5 := ((same_upd (o := .tup [V.str (Str.ofString "if"), V.ref p5, .ref q1, .ref q2]) n6).trans ((same_upd (o := .tup [V.ref p6]) n7).trans (same_upd (o := .lst [V.ref q2, V.ref q3, V.ref q4, V.ref p7]) nL))) _ _ (upd_same (H := HE) (a := p5) (o := .tup [V.str (Str.ofString "is"), sS w0, sS w1]))
      have hLL : upd (upd (upd (upd HE p5 (.tup [V.str (Str.ofString "is"), sS w0, sS w1])) p6 (.tup [V.str (Str.ofString "if"), V.ref p5, .ref q1, .ref q2])) p7 (.tup [V.ref p6])) L (.lst [V.ref q2, V.ref q3, V.ref q4, V.ref p7]) L = some (.lst [V.ref q2, V.ref q3, V.ref q4, V.ref p7]) := upd_same
      have sAF := sAE.trans s5'
      have sBF := sBE.trans s5'
      have nLb : L ≠ b := (((((hbA.same sAE).new (o := .tup [V.str (Str.ofString "is"), sS w0, sS w1]) n5).new (o := .tup [V.str (Str.ofString "if"), V.ref p5, .ref q1, .ref q2]) n6).new (o := .tup [V.ref p6]) n7).ne_none nL).1
      generalize upd (upd (upd (upd HE p5 (.tup [V.str (Str.ofString "is"), sS w0, sS w1])) p6 (.tup [V.str (Str.ofString "if"), V.ref p5, .ref q1, .ref q2])) p7 (.tup [V.ref p6])) L (.lst [V.ref q2, V.ref q3, V.ref q4, V.ref p7]) = HF at s5' h7 h6 h5 hLL sAF sBF
      have g0 := g2 w0 (by simp)
      have g1' := g2 w1 (by simp)
      have hmF : DqA b HF es m2 := hm2.le (Le.same sAF)
      have hlF : DqA b HF (scD c1) x1 := hlA.le (Le.same sAF)
      have hq2F : Dq b HF (.tuple es) (.ref q2) := Dq.tup_mk (sAF _ _ hq2) hmF
      have hqF : Dq b HF (.tuple (scD c1)) (.ref q1) := Dq.tup_mk (sAF _ _ hqA) hlF
      have hq3F : Dq b HF (.tuple (es ++ [.none])) (.ref q3) := Dq.tup_mk (s5' _ _ h3') (hmF.app (.cons Dq.non_mk .nil))
      have hthF : Dq b HF (.tuple [.str "there", sD w0]) (.ref pt) := Dq.tup_mk (sBF _ _ htB) (.cons (Dq.str_mk _) (.cons (Dq.str_mk _) .nil))
      have hmoF : Dq b HF (.tuple [.str "if", .tuple [.str "there", sD w0], .tuple es, .tuple (scD c1)]) (.ref pm) := Dq.tup_mk (sBF _ _ hmB) (.cons (Dq.str_mk _) (.cons hthF (.cons hq2F (.cons hqF .nil))))
      have hq4F : Dq b HF (.tuple [.tuple [.str "if", .tuple [.str "there", sD w0], .tuple es, .tuple (scD c1)], .none]) (.ref q4) := Dq.tup_mk (s5' _ _ h4) (.cons hmoF (.cons Dq.non_mk .nil))
      have hisF : Dq b HF (.tuple [.str "is", sD w0, sD w1]) (.ref p5) := Dq.tup_mk h5 (.cons (Dq.str_mk _) (.cons (Dq.str_mk _) (.cons (Dq.str_mk _) .nil)))
      have hp7F : Dq b HF (.tuple [.tuple [.str "if", .tuple [.str "is", sD w0, sD w1], .tuple (scD c1), .tuple es]]) (.ref p7) := Dq.tup_mk h7 (.cons (Dq.tup_mk h6 (.cons (Dq.str_mk _) (.cons hisF (.cons hqF (.cons hq2F .nil))))) .nil)
      have hvals : DqA b HF [.tuple es, .tuple (es ++ [.none]), .tuple [.tuple [.str "if", .tuple [.str "there", sD w0], .tuple es, .tuple (scD c1)], .none], .tuple [.tuple [.str "if", .tuple [.str "is", sD w0, sD w1], .tuple (scD c1), .tuple es]]] [V.ref q2, V.ref q3, V.ref q4, V.ref p7] := .cons hq2F (.cons hq3F (.cons hq4F (.cons hp7F .nil)))
      have hCc := hCA_sc c1
      have gw0 : gS (SX.S w0) = true := gD_c g0
      have gw1 : gS (SX.S w1) = true := gD_c g1'
      have gS1 : gD (.str "if") = true := by decide +kernel
      have gS2 : gD (.str "there") = true := by decide +kernel
      have gS3 : gD (.str "is") = true := by decide +kernel
      have t1 : hC (.tuple [.str "there", sD w0]) = 0 := hC_ts (.there w0)
      have t2 : hC (.tuple [.str "is", sD w0, sD w1]) = 0 := hC_ts (.is w0 w1)
      have hok : ∀ x ∈ [PyData.tuple es, .tuple (es ++ [.none]), .tuple [.tuple [.str "if", .tuple [.str "there", sD w0], .tuple es, .tuple (scD c1)], .none], .tuple [.tuple [.str "if", .tuple [.str "is", sD w0, sD w1], .tuple (scD c1), .tuple es]]], okV x := by
        intro x hx
        simp only [List.mem_cons, List.not_mem_nil, or_false] at hx
        rcases hx with rfl | rfl | rfl | rfl
        · exact ⟨_, rfl, b1, by omega, by omega, by omega⟩
        · refine ⟨_, rfl, ?_, ?_, ?_, ?_⟩
          · rw [gA_app, b1]
            rfl
          · rw [szA_app]
            simp only [szA, sz]
            omega
          · rw [depthAll_app]
            simp only [PyData.depthAll, PyData.depth]
            omega
          · rw [hCA_app]
            simp only [hCA, hC]
            omega
        · refine ⟨_, rfl, ?_, ?_, ?_, ?_⟩
          · simp only [gA, gD, b1, gc, Bool.and_self, Bool.and_true] at gS1 gS2 ⊢
            rw [gS1, gS2, gw0]
            rfl
          · simp only [szA, sz, sD]
            omega
          · simp only [PyData.depthAll, PyData.depth, sD]
            omega
          · simp only [hCA]
            rw [hC_if, t1, b5, copy_sc]
            simp only [hC]
            have : (if false = true then 1 else 0 : Nat) = 0 := rfl
            omega
        · refine ⟨_, rfl, ?_, ?_, ?_, ?_⟩
          · simp only [gA, gD, b1, gc, Bool.and_self, Bool.and_true] at gS1 gS3 ⊢
            rw [gS1, gS3, gw0, gw1]
            rfl
          · simp only [szA, sz, sD]
            omega
          · simp only [PyData.depthAll, PyData.depth, sD]
            omega
          · simp only [hCA]
            rw [hC_if, t2, b5, copy_sc]
            have : (if false = true then 1 else 0 : Nat) = 0 := rfl
            omega
      have hbF := hbA.same sAF
      have hNF := hNA.same sAF
      have hTF := hTA.ext fun c o h => sAF c o h
      generalize [PyData.tuple es, .tuple (es ++ [.none]), .tuple [.tuple [.str "if", .tuple [.str "there", sD w0], .tuple es, .tuple (scD c1)], .none], .tuple [.tuple [.str "if", .tuple [.str "is", sD w0, sD w1], .tuple (scD c1), .tuple es]]] = Ds at hvals hok
      generalize [V.ref q2, V.ref q3, V.ref q4, V.ref p7] = vs at hvals hLL
      clear hq2F hqF hq3F hthF hmoF hq4F hisF hp7F hmF hlF h3 h3' h4 h5 h6 h7 hpE h2E hmm hll hq2B hqB htB hmB sB sDx sBD sE sAE sBE s5' sBF n5 n6 n7 nq4 npn npt npm
      refine ⟨L, rfl, ⟨vs, SqL.of hLL⟩, ?_⟩
      refine for_list (K := K) (a := L) (xs := vs) (fun j σ H' => ∃ (y7 y8 y9 y10 : Option V), σ = [some (.ref a), some (.ref b), some (.ref p), some (.int (0 + (i : Int))), some (.ref q1), some (.ref q2), some (.ref pm), y7, y8, y9, y10, v11, none, none, none, none, none] ∧ BagAt H' b r ∧ NAt H' b p a1 a2 a3 k1 [w0, w1, w2] ts ∧ LamX.Tabs (tabQ PA) H' ∧ H' L = some (.lst vs) ∧ DqA b H' Ds vs)
        ⟨_, _, _, _, rfl, hbF, hNF, hTF, hLL, hvals⟩ (fun j σ H' _ ⟨_, _, _, _, _, _, _, _, h, _⟩ => SqL.of h) ?_ ?_
      · rintro j y σ H9' hj ⟨y7, y8, y9, y10, rfl, hbj, hNj, hTj, hLj, hvj⟩
        obtain ⟨D, eD, hD⟩ := hvj.get hj
        obtain ⟨ds, rfl, gds, zds, dds, cds⟩ := hok D (List.mem_of_getElem? eD)
        obtain ⟨aj, lj, rfl, haj, hlj⟩ := id hD.tup
        k_extra "rr"
        refine ⟨aj, b, lj, ds, 0, rfl, haj, hlj, gds, by omega, by omega, by omega, fun pq HG sG hpq => ?_⟩
        have hTG := hTj.ext fun c o h => sG c o h
        have hDG : Dq b HG (.tuple ds) (.ref aj) := hD.le (Le.same sG)
        have gDs : gD (.tuple ds) = true := by simp only [gD]; exact gds
        have zDs : sz (.tuple ds) ≤ 10000 := by simp only [sz]; omega
        k_extra "rr"
        refine why_lines (K := K) (C := CS) (PA := PA) ek hTG hDG gDs zDs (fun E' H1' Q1 e1 hd1 hq1' ht1 => ?_) (fun p3 HC HI eC sI hTI hdue => ?_)
        · k_extra "rr"
          refine mkR_ ?_
          k_extra "rr"
          refine scr_init hd1 gDs zDs (fun hR x H2' s2' hx => ?_) ht1
          obtain ⟨dx, tt, e, n, hx1, qq⟩ := hq1' hR x H2' s2' hx
          refine ⟨x, dx, _, rfl, hx1, by k_extra "lk", ?_⟩
          k_extra "rr"
          exact ⟨x, dx, tt, e, n, rfl, hx1, qq⟩
        · have hbI := ((hbj.same sG).ext eC).same sI
          have hNI := ((hNj.same sG).ext eC).same sI
          have hLI := sI _ _ (ext_lst eC (sG _ _ hLj))
          have hvI := ((hvj.le (Le.same (b := b) sG)).le (Le.ext eC)).le (Le.same (b := b) sI)
          have hDI := (hDG.le (Le.ext eC)).le (Le.same (b := b) sI)
          have next : ∀ {H' : Hp} {u7 u8 u9 u10 : Option V}, Same HI H' → ∃ (y7 y8 y9 y10 : Option V), [some (V.ref a), some (.ref b), some (.ref p), some (.int (0 + (i : Int))), some (.ref q1), some (.ref q2), some (.ref pm), u7, u8, u9, u10, v11, none, none, none, none, none] = [some (V.ref a), some (.ref b), some (.ref p), some (.int (0 + (i : Int))), some (.ref q1), some (.ref q2), some (.ref pm), y7, y8, y9, y10, v11, none, none, none, none, none] ∧ BagAt H' b r ∧ NAt H' b p a1 a2 a3 k1 [w0, w1, w2] ts ∧ LamX.Tabs (tabQ PA) H' ∧ H' L = some (.lst vs) ∧ DqA b H' Ds vs := fun s' => ⟨_, _, _, _, rfl, hbI.same s', hNI.same s', hTI.ext fun c o h => s' c o h, s' _ _ hLI, hvI.le (Le.same (b := b) s')⟩
          have hdue : Dq b HI (dueE (resL ds) (.tuple ds)) (.ref p3) := hdue
          clear hbj hNj hTj hLj hvj hTG hDG hbI hNI hTI hLI hvI
          by_cases h0 : 0 ≤ (faultN 3 ds).1
          · have ecv : cvB 0 (faultN 3 ds) = ((faultN 3 ds).1, 0) := by
              unfold cvB
              rw [if_pos h0, Int.zero_add]
            have er : resL ds = .bad (faultN 3 ds).1 := if_pos h0
            rw [er] at hdue
            rw [ecv]
            k_extra "rr"
            rw [show decide ((0 : Int) ≤ 40) = true by decide]
            k_extra "ri"
            k_extra "r"
            k_extra "rr"
            rw [decide_eq_true h0]
            k_extra "rr"
            refine ⟨by k_extra "sz", fun pd npd => ?_⟩
            have sd := same_upd (o := .tup [V.str (Str.ofString "BadScript"), .int (faultN 3 ds).1]) npd
            k_extra "rr"
            refine ⟨_, _, rfl, Dq.alk (b := b) (b' := b) 60 (d := .tuple [.str "BadScript", .int (faultN 3 ds).1]) (by simp only [PyData.depth, PyData.depthAll]; decide) (by simp only [sz, szA]; decide) (hdue.le (Le.same sd)) (Dq.tup_mk upd_same (.cons (Dq.str_mk _) (.cons (Dq.int_mk _) .nil))), fun H6' s6' => ?_⟩
            k_extra "rr"
            exact next (sd.trans s6')
          · have ecv : cvB 0 (faultN 3 ds) = (-1, (faultN 3 ds).2) := by
              unfold cvB
              rw [if_neg h0, Int.zero_add]
            rw [ecv]
            k_extra "rr"
            refine iteD (fun h40 => ?_) (fun h40 => ?_)
            · have er : resL ds = .ok := res_few cds h0 h40
              rw [er] at hdue
              k_extra "rr"
              rw [show decide ((0 : Int) ≤ -1) = false by decide]
              k_extra "rr"
              refine ⟨by k_extra "sz", fun pd npd => ?_⟩
              have sd := same_upd (o := .tup [V.str (Str.ofString ""), .ref aj]) npd
              k_extra "rr"
              refine ⟨_, _, rfl, Dq.alk (b := b) (b' := b) 60 (d := .tuple [.str "", .tuple ds]) (by simp only [PyData.depth, PyData.depthAll]; omega) (by simp only [sz, szA]; omega) (hdue.le (Le.same sd)) (Dq.tup_mk upd_same (.cons (Dq.str_mk _) (.cons (hDI.le (Le.same sd)) .nil))), fun H6' s6' => ?_⟩
              k_extra "rr"
              exact next (sd.trans s6')
            · k_extra "rr"
              exact next (Same.refl _)
      · rintro σ H9' ⟨y7, y8, y9, y10, rfl, hbj, hNj, hTj, hLj, hvj⟩
        k_extra "rl"
        refine lit_of oddS_te (by decide +kernel) (by decide +kernel) hbj fun vx od HX mod bbX hbX hodX => ?_
        obtain ⟨o1, o2, o3⟩ := oddS_ok od mod
        obtain ⟨lbj, hlbj⟩ := hbj.lst
        have hTX := Tabs.but hTj bbX hlbj
        have hNX := hNj.but bbX
        k_extra "rr"
        refine why_made (K := K) (C := CS) (PA := PA) ek (resS od) hTX (fun E' H1' Q1 e1 hq1' ht1 => ?_) (fun p3 HC HI u eC sI hTI hp3 hu => ?_)
        · refine mkRK_ ?_
          k_extra "rr"
          refine ⟨rfl, ?_⟩
          exact scr_init (hodX.le (Le.ext e1)) o2 (by omega) (fun hR x H2' s2' _ => hq1' hR x H2' s2') ht1
        · obtain rfl := hu 0 (.inl o1)
          rw [o1] at hp3
          have hp3 : HI p3 = some (.tup [V.str (Str.ofString "BadScript"), .int 0]) := hp3
          have hbI := (hbX.ext eC).same sI
          have hNI := (hNX.ext eC).same sI
          k_extra "rr"
          refine ⟨by k_extra "sz", fun pd npd => ?_⟩
          have sd := same_upd (o := .tup [V.str (Str.ofString "BadScript"), .int 0]) npd
          k_extra "rr"
          refine ⟨_, _, rfl, Dq.alk (b := b) (b' := b) 60 (d := .tuple [.str "BadScript", .int 0]) (by simp only [PyData.depth, PyData.depthAll]; decide) (by simp only [sz, szA]; decide) (Dq.tup_mk (sd _ _ hp3) (.cons (Dq.str_mk _) (.cons (Dq.int_mk _) .nil))) (Dq.tup_mk upd_same (.cons (Dq.str_mk _) (.cons (Dq.int_mk _) .nil))), fun H6' s6' => ?_⟩
          have sx := sd.trans s6'
          k_extra "rr"
          exact ⟨_, _, _, _, _, _, _, _, _, rfl, hbI.same sx, hNI.same sx, hTI.ext fun c o h => sx c o h⟩
    · rintro σ H3 ⟨v3, v4, v5, v6, v7, v8, v9, v10, v11, rfl, hb3, hN3, hT3⟩
      k_extra "rr"
      obtain ⟨lb3, hlb3⟩ := hb3.lst
      refine lit_go hlb3 (by decide +kernel) fun v0 H4 s4 hv4 => ?_
      have hT4 := hT3.ext fun c o h => s4 c o h
      have hb4 := hb3.same s4
      k_extra "rr"
      refine ⟨by k_extra "sz", fun R nR => ?_⟩
      k_extra "rr"
      have Rb : R ≠ b := (hb4.ne_none nR).1
      have Rr : R ≠ r := (hb4.ne_none nR).2
      have hbR := hb4.new (o := .lst []) nR
      have hTR := hT4.ext fun c o h => same_upd (o := .lst []) nR c o h
      have hRR : upd H4 R (.lst []) R = some (.lst []) := upd_same
      have hvR : Dq b (upd H4 R (.lst [])) (deepD 0) v0 := hv4.le (Le.same (same_upd nR))
      generalize upd H4 R (.lst []) = H5 at hbR hTR hRR hvR
      refine for_range (lo := 0) (n := (4 : Int).toNat) (fun j σ H' => ∃ (y14 : Option V) (l : List V) (vd : V), σ = [some (V.ref a), some (.ref b), some (.ref p), v3, v4, v5, v6, v7, v8, v9, v10, v11, some vd, some (.ref R), y14, none, none] ∧ BagAt H' b r ∧ LamX.Tabs (tabQ PA) H' ∧ H' R = some (.lst l) ∧ DqA b H' ((List.range j).map deepD) l ∧ Dq b H' (deepD j) vd)
        ⟨_, _, _, rfl, hbR, hTR, hRR, .nil, hvR⟩ ?_ ?_
      · rintro j σ H6 hj ⟨y14, l, vd, rfl, hb6, hT6, hR6, hl6, hd6⟩
        have ll := hl6.len
        rw [List.length_map, List.length_range] at ll
        have hj4 : j < 4 := hj
        k_extra "rr"
        refine ⟨tyvL hR6, ?_⟩
        k_extra "rr"
        refine app hR6 (by rw [sizeLine_eq]; omega) ?_
        have tl7 := TupLe.lst (m := l ++ [vd]) hR6
        have hb7 := bag_upd (o := .lst (l ++ [vd])) hb6 Rb Rr
        have hT7 := Tabs.but (H' := upd H6 R (.lst (l ++ [vd]))) hT6 (fun c u e ne => (upd_ne ne).trans e) hR6
        have hR7 : upd H6 R (.lst (l ++ [vd])) R = some (.lst (l ++ [vd])) := upd_same
        have hl7 : DqA b (upd H6 R (.lst (l ++ [vd]))) ((List.range (j + 1)).map deepD) (l ++ [vd]) := by
          rw [List.range_succ, List.map_append]
          exact (hl6.tle tl7 (nl_deeps j)).app (.cons (hd6.tle tl7 (nl_deep j)) .nil)
        have hd7 := hd6.tle (b' := b) tl7 (nl_deep j)
        generalize upd H6 R (.lst (l ++ [vd])) = H7 at tl7 hb7 hT7 hR7 hl7 hd7
        obtain ⟨lb7, hlb7⟩ := hb7.lst
        k_extra "rr"
        refine ⟨by k_extra "sz", fun p1 n1 => ?_⟩
        have s1' := same_upd (o := .tup [V.str (Str.ofString "kind"), .str (Str.ofString "x"), .str (Str.ofString "a")]) n1
        have h1' : upd H7 p1 (.tup [V.str (Str.ofString "kind"), .str (Str.ofString "x"), .str (Str.ofString "a")]) p1 = some (.tup [V.str (Str.ofString "kind"), .str (Str.ofString "x"), .str (Str.ofString "a")]) := upd_same
        generalize upd H7 p1 (.tup [V.str (Str.ofString "kind"), .str (Str.ofString "x"), .str (Str.ofString "a")]) = H8 at s1' h1'
        k_extra "rr"
        refine lit_go (s1' _ _ hlb7) (by decide +kernel) fun vf H9 s9 hvf => ?_
        k_extra "rr"
        refine ⟨by k_extra "sz", fun p2 n2 => ?_⟩
        k_extra "rr"
        refine ⟨by k_extra "sz", fun p3 n3 => ?_⟩
        have s79 := s1'.trans s9
        have s9b := (same_upd (o := .tup [vd]) n2).trans (same_upd (o := .tup [V.str (Str.ofString "if"), V.ref p1, vf, .ref p2]) n3)
        have h2' := same_upd (o := .tup [V.str (Str.ofString "if"), V.ref p1, vf, .ref p2]) n3 _ _ (upd_same (H := H9) (a := p2) (o := .tup [vd]))
        have h3' : upd (upd H9 p2 (.tup [vd])) p3 (.tup [V.str (Str.ofString "if"), V.ref p1, vf, .ref p2]) p3 = some (.tup [V.str (Str.ofString "if"), V.ref p1, vf, .ref p2]) := upd_same
        generalize upd (upd H9 p2 (.tup [vd])) p3 (.tup [V.str (Str.ofString "if"), V.ref p1, vf, .ref p2]) = HA at s9b h2' h3'
        have s7A := s79.trans s9b
        k_extra "rr"
        refine ⟨_, _, .ref p3, rfl, hb7.same s7A, hT7.ext fun c o h => s7A c o h, s7A _ _ hR7, hl7.le (Le.same s7A), ?_⟩
        exact Dq.tup_mk h3' (.cons (Dq.str_mk _) (.cons (Dq.tup_mk ((s9.trans s9b) _ _ h1') (.cons (Dq.str_mk _) (.cons (Dq.str_mk _) (.cons (Dq.str_mk _) .nil)))) (.cons (hvf.le (Le.same s9b)) (.cons (Dq.tup_mk h2' (.cons (hd7.le (Le.same s7A)) .nil)) .nil))))
      · rintro σ H6 ⟨y14, l, vd, rfl, hb6, hT6, hR6, hl6, hd6⟩
        have hl6 : DqA b H6 [deepD 0, deepD 1, deepD 2, deepD 3] l := hl6
        clear hd6 hN3 hlb3 hb3 hT3 hvR hTR hbR hRR hv4
        have ll := hl6.len
        k_extra "rr"
        intro D nD
        refine lc_it (walk_list (K := K) (a := R) (xs := l)) (fun j H' => BagAt H' b r ∧ LamX.Tabs (tabQ PA) H' ∧ H' R = some (.lst l) ∧ DqA b H' [deepD 0, deepD 1, deepD 2, deepD 3] l ∧ H' D = some (.lst ((([0, 1, 2, 3] : List Nat).take j).map fun k => V.str (codeE (resL [deepD k])))))
          ⟨hb6.new nD, hT6.ext fun c o h => same_upd nD c o h, same_upd nD _ _ hR6, hl6.le (Le.same (same_upd nD)), upd_same⟩ (fun j H' _ h => SqL.of h.2.2.1) ?_ ?_
        · rintro j x H7 H8 hj ⟨hb7, hT7, hR7, hl7, hD7⟩ ⟨rfl, hx⟩
          obtain ⟨d, ed, hd⟩ := hl7.get hx
          obtain ⟨ej, hj4⟩ : ([0, 1, 2, 3] : List Nat)[j]? = some j ∧ d = deepD j := by
            match j, ed with
            | 0, e => cases e; exact ⟨rfl, rfl⟩
            | 1, e => cases e; exact ⟨rfl, rfl⟩
            | 2, e => cases e; exact ⟨rfl, rfl⟩
            | 3, e => cases e; exact ⟨rfl, rfl⟩
          subst hj4
          have gd : gD (.list [deepD j]) = true ∧ sz (.list [deepD j]) ≤ 10000 := by
            match j, ed with
            | 0, _ => exact ⟨by decide +kernel, by decide +kernel⟩
            | 1, _ => exact ⟨by decide +kernel, by decide +kernel⟩
            | 2, _ => exact ⟨by decide +kernel, by decide +kernel⟩
            | 3, _ => exact ⟨by decide +kernel, by decide +kernel⟩
          k_extra "rr"
          refine ⟨rfl, ?_⟩
          k_extra "rr"
          refine why_made (K := K) (C := CS) (PA := PA) ek (resL [deepD j]) hT7 (fun E' H1' Q1 e1 hq1' ht1 => ?_) (fun p3 HC HI u eC sI hTI hp3 hu => ?_)
          · have hbe := hb7.ext e1
            have hde' := hd.le (Le.ext e1)
            refine mkR_ ?_
            k_extra "rr"
            refine ⟨by k_extra "sz", fun q nq => ?_⟩
            have sq := same_upd (o := .lst [x]) nq
            k_extra "rr"
            exact scr_init (d := .list [deepD j]) (Dq.lst_mk (hbe.ne_none nq).1 upd_same (.cons (hde'.le (Le.same sq)) .nil)) gd.1 gd.2 (fun hR x' H2' s2' _ => hq1' hR x' H2' (sq.trans s2')) (ht1.le sq)
          · k_extra "rr"
            have hDI := sI _ _ (ext_lst eC hD7)
            refine ⟨_, hDI, by rw [List.length_map, sizeLine_eq]; exact Nat.lt_of_le_of_lt (show (([0, 1, 2, 3] : List Nat).take j).length ≤ ([0, 1, 2, 3] : List Nat).length by rw [List.length_take]; exact Nat.min_le_right ..) (by decide), ?_⟩
            have nDb : D ≠ b := (hb6.ne_none nD).1
            have nDr : D ≠ r := (hb6.ne_none nD).2
            have nDR : R ≠ D := fun z => by rw [← z, hR6] at nD; cases nD
            have hbI := (hb7.ext eC).same sI
            have hRI := sI _ _ (ext_lst eC hR7)
            have hlI := (hl7.le (Le.ext eC)).le (Le.same (b := b) sI)
            have tl := TupLe.lst (m := (([0, 1, 2, 3] : List Nat).take j).map (fun k => V.str (codeE (resL [deepD k]))) ++ [V.str (codeE (resL [deepD j]))]) hDI
            refine ⟨bag_upd hbI nDb nDr, Tabs.but hTI (fun c u e ne => (upd_ne ne).trans e) hDI, upd2 nDR hRI, hlI.tle tl (nl_deeps 4), ?_⟩
            rw [upd_same, List.take_add_one, ej, List.map_append]
            rfl
        · rintro H7 ⟨hb7, hT7, hR7, hl7, hD7⟩
          rw [ll] at hD7
          have hD7 : H7 D = some (.lst [V.str (codeE (resL [deepD 0])), .str (codeE (resL [deepD 1])), .str (codeE (resL [deepD 2])), .str (codeE (resL [deepD 3]))]) := hD7
          rw [show codeE (resL [deepD 0]) = "" by decide +kernel, show codeE (resL [deepD 1]) = "" by decide +kernel, show codeE (resL [deepD 2]) = "" by decide +kernel, show codeE (resL [deepD 3]) = "BadScript" by decide +kernel] at hD7
          obtain ⟨x0, x1, x2, x3, rfl⟩ : ∃ x0 x1 x2 x3, l = [x0, x1, x2, x3] := by
            match l, ll with
            | [x0, x1, x2, x3], _ => exact ⟨_, _, _, _, rfl⟩
          obtain ⟨xx, ex, hx3⟩ := hl7.at (i := 3) (d := deepD 3) rfl
          cases ex
          k_extra "rr"
          refine ⟨tyvL hD7, ?_⟩
          k_extra "rr"
          have nDb : D ≠ b := (hb6.ne_none nD).1
          have nDr : D ≠ r := (hb6.ne_none nD).2
          refine why_made (K := K) (C := CS) (PA := PA) ek (resL [.tuple [.str "fresh"], deepD 3]) hT7 (fun E' H1' Q1 e1 hq1' ht1 => ?_) (fun p3 HC HI u eC sI hTI hp3 hu => ?_)
          · have hbe := hb7.ext e1
            have hRe := ext_lst e1 hR7
            have hde' := hx3.le (Le.ext e1)
            refine mkR_ ?_
            k_extra "rr"
            refine ⟨by k_extra "sz", fun q nq => ?_⟩
            have sq := same_upd (o := .tup [V.str (Str.ofString "fresh")]) nq
            have hRq := sq _ _ hRe
            k_extra "rr"
            refine ⟨by k_extra "sz", fun q2 nq2 => ?_⟩
            have sq2 := sq.trans (same_upd (o := .lst [V.ref q, x3]) nq2)
            k_extra "rr"
            exact scr_init (d := .list [.tuple [.str "fresh"], deepD 3]) (Dq.lst_mk ((hbe.same sq).ne_none nq2).1 upd_same (.cons (Dq.tup_mk (same_upd nq2 _ _ upd_same) (.cons (Dq.str_mk _) .nil)) (.cons (hde'.le (Le.same sq2)) .nil))) (by decide +kernel) (by decide +kernel) (fun hR x' H2' s2' _ => hq1' hR x' H2' (sq2.trans s2')) (ht1.le sq2)
          · have e7 : resL [.tuple [.str "fresh"], deepD 3] = .bad 7 := by decide +kernel
            obtain rfl := hu 7 (.inl e7)
            rw [e7] at hp3
            have hp3 : HI p3 = some (.tup [V.str (Str.ofString "BadScript"), .int 7]) := hp3
            have hDI := sI _ _ (ext_lst eC hD7)
            k_extra "rr"
            refine app hDI (by rw [sizeLine_eq]; decide) ?_
            have hpJ := TupLe.lst (m := [V.str "", .str "", .str "", .str "BadScript"] ++ [V.ref p3]) hDI _ _ hp3
            have hbJ := bag_upd (o := .lst ([V.str "", .str "", .str "", .str "BadScript"] ++ [V.ref p3])) ((hb7.ext eC).same sI) nDb nDr
            have hDJ : upd HI D (.lst ([V.str "", .str "", .str "", .str "BadScript"] ++ [V.ref p3])) D = some (.lst ([V.str "", .str "", .str "", .str "BadScript"] ++ [V.ref p3])) := upd_same
            generalize upd HI D (.lst ([V.str "", .str "", .str "", .str "BadScript"] ++ [V.ref p3])) = HJ at hpJ hbJ hDJ
            obtain ⟨lbJ, hlbJ⟩ := hbJ.lst
            k_extra "rr"
            refine lit_go hlbJ (by decide +kernel) fun vL HK sK hvL => ?_
            have hvL : Dq b HK (.list [.str "", .str "", .str "", .str "BadScript", .tuple [.str "BadScript", .int 7]]) vL := by simpa only [Lit.data, Lit.dataA] using hvL
            k_extra "rr"
            refine eqDd (d := .list [.str "", .str "", .str "", .str "BadScript", .tuple [.str "BadScript", .int 7]]) (e := .list [.str "", .str "", .str "", .str "BadScript", .tuple [.str "BadScript", .int 7]]) (.lst (SqL.of (sK _ _ hDJ)) (DqA.dp (b := b) (.cons (Dq.str_mk _) (.cons (Dq.str_mk _) (.cons (Dq.str_mk _) (.cons (Dq.str_mk _) (.cons (Dq.tup_mk (sK _ _ hpJ) (.cons (Dq.str_mk _) (.cons (Dq.int_mk _) .nil))) .nil))))))) hvL.dp (by decide +kernel) (by decide +kernel) ?_
            rw [show PyData.eqv (.list [.str "", .str "", .str "", .str "BadScript", .tuple [.str "BadScript", .int 7]]) (.list [.str "", .str "", .str "", .str "BadScript", .tuple [.str "BadScript", .int 7]]) = true by decide +kernel]
            k_extra "rr"
            refine mkR_ ?_
            k_extra "rr"
            intro x dx nx nd ne
            refine ⟨x, dx, de, rfl, upd_same, hde _, fun H' keep hE => ⟨rfl, ?_⟩⟩
            obtain ⟨dx', t, e, hz1, hz2, hz3⟩ := hE
            refine ⟨x, dx', _, rfl, hz1, by k_extra "lk", ?_⟩
            k_extra "rr"
            refine ⟨x, dx', t, e, 0, rfl, hz1, ?_⟩
            k_extra "rr"
            refine ⟨by k_extra "sz", fun pe npe => ?_⟩
            k_extra "rr"
            refine eqDd (d := .tuple []) (e := .tuple []) (.tup (Rg.Same.seqT (same_upd npe) hz2) .nil) (.tup (SqT.of upd_same) .nil) (by decide +kernel) (by decide +kernel) ?_
            rw [show PyData.eqv (.tuple []) (.tuple []) = true by decide +kernel]
            k_extra "rr"
            refine mkR_ ?_
            k_extra "rr"
            refine ⟨by k_extra "sz", fun q0 nq0 => ?_⟩
            k_extra "rr"
            refine scr_init (d := .list []) (b := pe) (Dq.lst_mk (ne_of_none upd_same nq0).symm upd_same .nil) (by decide +kernel) (by decide +kernel) (fun _ x2 H2' s2' hx => ?_) (told_ok (by decide +kernel))
            obtain ⟨dx2, tt2, e2, n2, lt2, le2, hy1, hy2, hy3, hy4, hy5, hy6⟩ := hx
            obtain rfl := (hy4 0).inv0
            refine ⟨x2, dx2, _, rfl, hy1, by k_extra "lk", ?_⟩
            k_extra "rr"
            refine ⟨x2, dx2, tt2, e2, n2, rfl, hy1, ?_⟩
            k_extra "rr"
            refine ⟨by k_extra "sz", fun pe2 npe2 => ?_⟩
            k_extra "rr"
            refine eqDd (d := .tuple []) (e := .tuple []) (.tup (SqT.of (same_upd npe2 _ _ hy2)) .nil) (.tup (SqT.of upd_same) .nil) (by decide +kernel) (by decide +kernel) ?_
            rw [show PyData.eqv (.tuple []) (.tuple []) = true by decide +kernel]
            k_extra "rr"
            exact q _
end

/-! ### what the top has written, and the head -/
theorem cal_alike {P : Program} {w : World} {K : PySem.W.Frag} {mg : Str → Option Value} {base : Heap} {f : Addr} {fd : FuncData} (F : Fun K "_law_alike" "_law_alike" s_law_alike f fd) (T : Txt mg)
    (m : mg "_law_alike" = some (.ref f)) (k : PySem.W.keepIn K (.ref f) = true) (b : Binds K fd ["_law_found", "_law_due"] []) : ∀ n, Cal P w K mg base (n + 1) "_law_alike" (spAlike K n)
  | 0 => ⟨_, _, _, ok_law_alike0 F, m, k, b⟩
  | n + 1 => ⟨_, _, _, ok_law_alike1 F T (cal_alike F T m k b n), m, k, b⟩
theorem cal_every {P : Program} {w : World} {K : PySem.W.Frag} {mg : Str → Option Value} {base : Heap} {f : Addr} {fd : FuncData} (F : Fun K "every_line" "every_line" s_every_line f fd) (T : Txt mg)
    (m : mg "every_line" = some (.ref f)) (k : PySem.W.keepIn K (.ref f) = true) (b : Binds K fd ["lines"] []) : ∀ n, CalE P w K mg base (n + 2) n
  | 0 => ⟨_, _, _, ok_every_line (m := 1) (rk := fun _ => true) (rec_ := fun _ => []) (ok := false) (spR := fun _ _ _ _ => False) (fun es h => okL_nl (fun z => by cases z) h) (fun _ _ => rfl) (fun _ => Nat.zero_le _) F T ⟨_, _, _, F.ok (sp := fun _ _ _ _ => False) sc_every_line (fun _ _ _ _ h => h.elim) (fun _ _ _ _ _ _ _ _ _ h => h.elim), m, k, b⟩ (fun z => by cases z), m, k, b⟩
  | n + 1 => ⟨_, _, _, ok_every_line (m := n + 2) (rk := okN n) (rec_ := everyN n) (ok := true) (spR := spEvery (okN n) (everyN n)) (fun es h => okL_nl (fun _ es h => okN_nl n h) h) (fun es h => everyN_nl n h) (everyN_len n) F T (cal_every F T m k b n) (fun _ _ _ _ _ h => h), m, k, b⟩
theorem wtup {K : PySem.W.Frag} {a : Addr} {xs : List V} {its : Array Value} {n : Nat} (h : K.lookup a = some ⟨.type "tuple", none, .seq its n, #[]⟩) (hz : its.size ≤ sizeLine) (hv : Vals xs its.toList) : ∀ H, SqT K H a xs := fun _ => .inr ⟨_, its, n, h, rfl, rfl, hz, hv⟩
def EntT (w : World) : List DictEntry → List (Str × List Nat) → Prop
  | [], [] => True
  | e :: r, (z, l) :: k => (∃ t u, e = ⟨PyData.keyHash w.params z, .str z t, .str (SX.S l) u⟩) ∧ EntT w r k
  | _, _ => False
theorem EntT.lit {w : World} : ∀ {es : List DictEntry} {k : List (Str × List Nat)}, EntT w es k → PySem.W.KeysLit w.params es
  | [], [], _ => trivial
  | _ :: _, (_, _) :: _, ⟨⟨t, _, e⟩, h⟩ => by
    subst e
    exact ⟨⟨_, t, rfl, rfl⟩, h.lit⟩
theorem EntT.find {w : World} (z : Str) : ∀ {es : List DictEntry} {k : List (Str × List Nat)}, EntT w es k → RelO ((txtT k).lookup z) ((es.find? fun e => Value.isStrOf z e.key).map (·.val))
  | [], [], _ => trivial
  | _ :: r, (x, l) :: k, ⟨⟨t, u, e⟩, h⟩ => by
    subst e
    have ih := EntT.find z h
    unfold txtT at ih ⊢
    rw [List.map_cons, List.lookup_cons, List.find?_cons]
    by_cases hz : z = x
    · subst hz
      rw [beq_self_eq_true, show Value.isStrOf z (Value.str z t) = true by simp [Value.isStrOf]]
      exact ⟨u, rfl⟩
    · rw [beq_false_of_ne hz, show Value.isStrOf z (Value.str x t) = false by simp [Value.isStrOf]; exact fun q => hz q.symm]
      exact ih
theorem tab_txt {K : PySem.W.Frag} {w : World} {aS : Addr} {es : Array DictEntry} {n : Nat} {k : List (Str × List Nat)} (h : K.lookup aS = some ⟨.type "dict", none, .dict es n, #[]⟩) (he : EntT w es.toList k) (hs : (aS == sysModules) = false) : KTab K w aS (txtT k) := by
  refine ⟨_, _, h, he.lit, hs, fun z => ?_⟩
  have := he.find z
  unfold findBy
  rw [← Array.find?_toList]
  exact this
theorem ent_cons {w : World} {z v : Str} {l : List Nat} {t u : Tok} {r : List DictEntry} {k : List (Str × List Nat)} (e : v = SX.S l) (h : EntT w r k) : EntT w (⟨PyData.keyHash w.params z, .str z t, .str v u⟩ :: r) ((z, l) :: k) := ⟨⟨t, u, by rw [e]⟩, h⟩
theorem all_mk {l : PySem.W.OpenLaw} {w : World} {K : PySem.W.Frag} {h : Heap} {mg : Str → Option Value} {fa f_is_word f_is_kind f_is_sign f_is_text f_is_cursor f_is_named f_fits f_opening f_all_fit f_is_test f_is_line f_every_line f_fault_in f_check_lines f_law_bag f_law_take f_law_of f_law_words f_law_names f_law_look_line f_law_place f_law_deed_line f_law_test_line f_law_lines f_law_field f_law_why f_law_alike f_law_word f_law_fits f_law_form f_law_good_line f_law_bad f_law_bent_lines f_law cA PA : Addr} (X : K.In h) (G : h.Ns mainGlobals mg) (hfa : mg "law" = some (.ref fa))
    {od_is_word an_is_word od_is_kind an_is_kind od_is_sign an_is_sign od_is_text an_is_text od_is_cursor an_is_cursor od_is_named an_is_named od_fits an_fits od_opening an_opening od_all_fit an_all_fit od_is_test an_is_test od_is_line an_is_line od_every_line an_every_line od_fault_in an_fault_in od_check_lines an_check_lines od_law_bag an_law_bag od_law_take an_law_take od_law_of an_law_of od_law_words an_law_words od_law_names an_law_names od_law_look_line an_law_look_line od_law_place an_law_place od_law_deed_line an_law_deed_line od_law_test_line an_law_test_line od_law_lines an_law_lines od_law_field an_law_field od_law_why an_law_why od_law_alike an_law_alike od_law_word an_law_word od_law_fits an_law_fits od_law_form an_law_form od_law_good_line an_law_good_line od_law_bad an_law_bad od_law_bent_lines an_law_bent_lines od_law an_law : Option Addr} {sl_is_word sl_is_kind sl_is_sign sl_is_text sl_is_cursor sl_is_named sl_fits sl_opening sl_all_fit sl_is_test sl_is_line sl_every_line sl_fault_in sl_check_lines sl_law_bag sl_law_take sl_law_of sl_law_words sl_law_names sl_law_look_line sl_law_place sl_law_deed_line sl_law_test_line sl_law_lines sl_law_field sl_law_why sl_law_alike sl_law_word sl_law_fits sl_law_form sl_law_good_line sl_law_bad sl_law_bent_lines sl_law : Array (Option Value)} {oc_is_word kV_is_word dc_is_word pm_is_word cd_is_word ct_is_word oc_is_kind kV_is_kind dc_is_kind pm_is_kind cd_is_kind ct_is_kind oc_is_sign kV_is_sign dc_is_sign pm_is_sign cd_is_sign ct_is_sign oc_is_text kV_is_text dc_is_text pm_is_text cd_is_text ct_is_text oc_is_cursor kV_is_cursor dc_is_cursor pm_is_cursor cd_is_cursor ct_is_cursor oc_is_named kV_is_named dc_is_named pm_is_named cd_is_named ct_is_named oc_fits kV_fits dc_fits pm_fits cd_fits ct_fits oc_opening kV_opening dc_opening pm_opening cd_opening ct_opening oc_all_fit kV_all_fit dc_all_fit pm_all_fit cd_all_fit ct_all_fit oc_is_test kV_is_test dc_is_test pm_is_test cd_is_test ct_is_test oc_is_line kV_is_line dc_is_line pm_is_line cd_is_line ct_is_line oc_every_line kV_every_line dc_every_line pm_every_line cd_every_line ct_every_line oc_fault_in kV_fault_in dc_fault_in pm_fault_in cd_fault_in ct_fault_in oc_check_lines kV_check_lines dc_check_lines pm_check_lines cd_check_lines ct_check_lines oc_law_bag kV_law_bag dc_law_bag pm_law_bag cd_law_bag ct_law_bag oc_law_take kV_law_take dc_law_take pm_law_take cd_law_take ct_law_take oc_law_of kV_law_of dc_law_of pm_law_of cd_law_of ct_law_of oc_law_words kV_law_words dc_law_words pm_law_words cd_law_words ct_law_words oc_law_names kV_law_names dc_law_names pm_law_names cd_law_names ct_law_names oc_law_look_line kV_law_look_line dc_law_look_line pm_law_look_line cd_law_look_line ct_law_look_line oc_law_place kV_law_place dc_law_place pm_law_place cd_law_place ct_law_place oc_law_deed_line kV_law_deed_line dc_law_deed_line pm_law_deed_line cd_law_deed_line ct_law_deed_line oc_law_test_line kV_law_test_line dc_law_test_line pm_law_test_line cd_law_test_line ct_law_test_line oc_law_lines kV_law_lines dc_law_lines pm_law_lines cd_law_lines ct_law_lines oc_law_field kV_law_field dc_law_field pm_law_field cd_law_field ct_law_field oc_law_why kV_law_why dc_law_why pm_law_why cd_law_why ct_law_why oc_law_alike kV_law_alike dc_law_alike pm_law_alike cd_law_alike ct_law_alike oc_law_word kV_law_word dc_law_word pm_law_word cd_law_word ct_law_word oc_law_fits kV_law_fits dc_law_fits pm_law_fits cd_law_fits ct_law_fits oc_law_form kV_law_form dc_law_form pm_law_form cd_law_form ct_law_form oc_law_good_line kV_law_good_line dc_law_good_line pm_law_good_line cd_law_good_line ct_law_good_line oc_law_bad kV_law_bad dc_law_bad pm_law_bad cd_law_bad ct_law_bad oc_law_bent_lines kV_law_bent_lines dc_law_bent_lines pm_law_bent_lines cd_law_bent_lines ct_law_bent_lines oc_law kV_law dc_law pm_law ct_law : Value} {t_SMALL t_REST t_MOST_LETTERS_documents t_MOST_SIGNS t_MOST_LETTERS_lines t_MOST_DEPTH t_MOST_LINES t_MOST_COPIES : Tok}
    (a_is_word : PySem.W.nsIn K mainGlobals "is_word" = some (some (.ref f_is_word))) (l_is_word : K.lookup f_is_word = some ⟨oc_is_word, od_is_word, .func (PySem.W.fnOf "is_word" "is_word" (defArgs s_is_word) (defBody s_is_word) (defScope s_is_word) .none kV_is_word dc_is_word pm_is_word an_is_word cd_is_word ct_is_word), sl_is_word⟩) (c_is_word : PySem.W.codeIn K cd_is_word "is_word" = true) (k_is_word : PySem.W.keepIn K (.ref f_is_word) = true)
    (a_is_kind : PySem.W.nsIn K mainGlobals "is_kind" = some (some (.ref f_is_kind))) (l_is_kind : K.lookup f_is_kind = some ⟨oc_is_kind, od_is_kind, .func (PySem.W.fnOf "is_kind" "is_kind" (defArgs s_is_kind) (defBody s_is_kind) (defScope s_is_kind) .none kV_is_kind dc_is_kind pm_is_kind an_is_kind cd_is_kind ct_is_kind), sl_is_kind⟩) (c_is_kind : PySem.W.codeIn K cd_is_kind "is_kind" = true) (k_is_kind : PySem.W.keepIn K (.ref f_is_kind) = true)
    (a_is_sign : PySem.W.nsIn K mainGlobals "is_sign" = some (some (.ref f_is_sign))) (l_is_sign : K.lookup f_is_sign = some ⟨oc_is_sign, od_is_sign, .func (PySem.W.fnOf "is_sign" "is_sign" (defArgs s_is_sign) (defBody s_is_sign) (defScope s_is_sign) .none kV_is_sign dc_is_sign pm_is_sign an_is_sign cd_is_sign ct_is_sign), sl_is_sign⟩) (c_is_sign : PySem.W.codeIn K cd_is_sign "is_sign" = true) (k_is_sign : PySem.W.keepIn K (.ref f_is_sign) = true)
    (a_is_text : PySem.W.nsIn K mainGlobals "is_text" = some (some (.ref f_is_text))) (l_is_text : K.lookup f_is_text = some ⟨oc_is_text, od_is_text, .func (PySem.W.fnOf "is_text" "is_text" (defArgs s_is_text) (defBody s_is_text) (defScope s_is_text) .none kV_is_text dc_is_text pm_is_text an_is_text cd_is_text ct_is_text), sl_is_text⟩) (c_is_text : PySem.W.codeIn K cd_is_text "is_text" = true) (k_is_text : PySem.W.keepIn K (.ref f_is_text) = true)
    (a_is_cursor : PySem.W.nsIn K mainGlobals "is_cursor" = some (some (.ref f_is_cursor))) (l_is_cursor : K.lookup f_is_cursor = some ⟨oc_is_cursor, od_is_cursor, .func (PySem.W.fnOf "is_cursor" "is_cursor" (defArgs s_is_cursor) (defBody s_is_cursor) (defScope s_is_cursor) .none kV_is_cursor dc_is_cursor pm_is_cursor an_is_cursor cd_is_cursor ct_is_cursor), sl_is_cursor⟩) (c_is_cursor : PySem.W.codeIn K cd_is_cursor "is_cursor" = true) (k_is_cursor : PySem.W.keepIn K (.ref f_is_cursor) = true)
    (a_is_named : PySem.W.nsIn K mainGlobals "is_named" = some (some (.ref f_is_named))) (l_is_named : K.lookup f_is_named = some ⟨oc_is_named, od_is_named, .func (PySem.W.fnOf "is_named" "is_named" (defArgs s_is_named) (defBody s_is_named) (defScope s_is_named) .none kV_is_named dc_is_named pm_is_named an_is_named cd_is_named ct_is_named), sl_is_named⟩) (c_is_named : PySem.W.codeIn K cd_is_named "is_named" = true) (k_is_named : PySem.W.keepIn K (.ref f_is_named) = true)
    (a_fits : PySem.W.nsIn K mainGlobals "fits" = some (some (.ref f_fits))) (l_fits : K.lookup f_fits = some ⟨oc_fits, od_fits, .func (PySem.W.fnOf "fits" "fits" (defArgs s_fits) (defBody s_fits) (defScope s_fits) .none kV_fits dc_fits pm_fits an_fits cd_fits ct_fits), sl_fits⟩) (c_fits : PySem.W.codeIn K cd_fits "fits" = true) (k_fits : PySem.W.keepIn K (.ref f_fits) = true)
    (a_opening : PySem.W.nsIn K mainGlobals "opening" = some (some (.ref f_opening))) (l_opening : K.lookup f_opening = some ⟨oc_opening, od_opening, .func (PySem.W.fnOf "opening" "opening" (defArgs s_opening) (defBody s_opening) (defScope s_opening) .none kV_opening dc_opening pm_opening an_opening cd_opening ct_opening), sl_opening⟩) (c_opening : PySem.W.codeIn K cd_opening "opening" = true) (k_opening : PySem.W.keepIn K (.ref f_opening) = true)
    (a_all_fit : PySem.W.nsIn K mainGlobals "all_fit" = some (some (.ref f_all_fit))) (l_all_fit : K.lookup f_all_fit = some ⟨oc_all_fit, od_all_fit, .func (PySem.W.fnOf "all_fit" "all_fit" (defArgs s_all_fit) (defBody s_all_fit) (defScope s_all_fit) .none kV_all_fit dc_all_fit pm_all_fit an_all_fit cd_all_fit ct_all_fit), sl_all_fit⟩) (c_all_fit : PySem.W.codeIn K cd_all_fit "all_fit" = true) (k_all_fit : PySem.W.keepIn K (.ref f_all_fit) = true)
    (a_is_test : PySem.W.nsIn K mainGlobals "is_test" = some (some (.ref f_is_test))) (l_is_test : K.lookup f_is_test = some ⟨oc_is_test, od_is_test, .func (PySem.W.fnOf "is_test" "is_test" (defArgs s_is_test) (defBody s_is_test) (defScope s_is_test) .none kV_is_test dc_is_test pm_is_test an_is_test cd_is_test ct_is_test), sl_is_test⟩) (c_is_test : PySem.W.codeIn K cd_is_test "is_test" = true) (k_is_test : PySem.W.keepIn K (.ref f_is_test) = true)
    (a_is_line : PySem.W.nsIn K mainGlobals "is_line" = some (some (.ref f_is_line))) (l_is_line : K.lookup f_is_line = some ⟨oc_is_line, od_is_line, .func (PySem.W.fnOf "is_line" "is_line" (defArgs s_is_line) (defBody s_is_line) (defScope s_is_line) .none kV_is_line dc_is_line pm_is_line an_is_line cd_is_line ct_is_line), sl_is_line⟩) (c_is_line : PySem.W.codeIn K cd_is_line "is_line" = true) (k_is_line : PySem.W.keepIn K (.ref f_is_line) = true)
    (a_every_line : PySem.W.nsIn K mainGlobals "every_line" = some (some (.ref f_every_line))) (l_every_line : K.lookup f_every_line = some ⟨oc_every_line, od_every_line, .func (PySem.W.fnOf "every_line" "every_line" (defArgs s_every_line) (defBody s_every_line) (defScope s_every_line) .none kV_every_line dc_every_line pm_every_line an_every_line cd_every_line ct_every_line), sl_every_line⟩) (c_every_line : PySem.W.codeIn K cd_every_line "every_line" = true) (k_every_line : PySem.W.keepIn K (.ref f_every_line) = true)
    (a_fault_in : PySem.W.nsIn K mainGlobals "fault_in" = some (some (.ref f_fault_in))) (l_fault_in : K.lookup f_fault_in = some ⟨oc_fault_in, od_fault_in, .func (PySem.W.fnOf "fault_in" "fault_in" (defArgs s_fault_in) (defBody s_fault_in) (defScope s_fault_in) .none kV_fault_in dc_fault_in pm_fault_in an_fault_in cd_fault_in ct_fault_in), sl_fault_in⟩) (c_fault_in : PySem.W.codeIn K cd_fault_in "fault_in" = true) (k_fault_in : PySem.W.keepIn K (.ref f_fault_in) = true)
    (a_check_lines : PySem.W.nsIn K mainGlobals "check_lines" = some (some (.ref f_check_lines))) (l_check_lines : K.lookup f_check_lines = some ⟨oc_check_lines, od_check_lines, .func (PySem.W.fnOf "check_lines" "check_lines" (defArgs s_check_lines) (defBody s_check_lines) (defScope s_check_lines) .none kV_check_lines dc_check_lines pm_check_lines an_check_lines cd_check_lines ct_check_lines), sl_check_lines⟩) (c_check_lines : PySem.W.codeIn K cd_check_lines "check_lines" = true) (k_check_lines : PySem.W.keepIn K (.ref f_check_lines) = true)
    (a_law_bag : PySem.W.nsIn K mainGlobals "_law_bag" = some (some (.ref f_law_bag))) (l_law_bag : K.lookup f_law_bag = some ⟨oc_law_bag, od_law_bag, .func (PySem.W.fnOf "_law_bag" "_law_bag" (defArgs s_law_bag) (defBody s_law_bag) (defScope s_law_bag) .none kV_law_bag dc_law_bag pm_law_bag an_law_bag cd_law_bag ct_law_bag), sl_law_bag⟩) (c_law_bag : PySem.W.codeIn K cd_law_bag "_law_bag" = true) (k_law_bag : PySem.W.keepIn K (.ref f_law_bag) = true)
    (a_law_take : PySem.W.nsIn K mainGlobals "_law_take" = some (some (.ref f_law_take))) (l_law_take : K.lookup f_law_take = some ⟨oc_law_take, od_law_take, .func (PySem.W.fnOf "_law_take" "_law_take" (defArgs s_law_take) (defBody s_law_take) (defScope s_law_take) .none kV_law_take dc_law_take pm_law_take an_law_take cd_law_take ct_law_take), sl_law_take⟩) (c_law_take : PySem.W.codeIn K cd_law_take "_law_take" = true) (k_law_take : PySem.W.keepIn K (.ref f_law_take) = true)
    (a_law_of : PySem.W.nsIn K mainGlobals "_law_of" = some (some (.ref f_law_of))) (l_law_of : K.lookup f_law_of = some ⟨oc_law_of, od_law_of, .func (PySem.W.fnOf "_law_of" "_law_of" (defArgs s_law_of) (defBody s_law_of) (defScope s_law_of) .none kV_law_of dc_law_of pm_law_of an_law_of cd_law_of ct_law_of), sl_law_of⟩) (c_law_of : PySem.W.codeIn K cd_law_of "_law_of" = true) (k_law_of : PySem.W.keepIn K (.ref f_law_of) = true)
    (a_law_words : PySem.W.nsIn K mainGlobals "_law_words" = some (some (.ref f_law_words))) (l_law_words : K.lookup f_law_words = some ⟨oc_law_words, od_law_words, .func (PySem.W.fnOf "_law_words" "_law_words" (defArgs s_law_words) (defBody s_law_words) (defScope s_law_words) .none kV_law_words dc_law_words pm_law_words an_law_words cd_law_words ct_law_words), sl_law_words⟩) (c_law_words : PySem.W.codeIn K cd_law_words "_law_words" = true) (k_law_words : PySem.W.keepIn K (.ref f_law_words) = true)
    (a_law_names : PySem.W.nsIn K mainGlobals "_law_names" = some (some (.ref f_law_names))) (l_law_names : K.lookup f_law_names = some ⟨oc_law_names, od_law_names, .func (PySem.W.fnOf "_law_names" "_law_names" (defArgs s_law_names) (defBody s_law_names) (defScope s_law_names) .none kV_law_names dc_law_names pm_law_names an_law_names cd_law_names ct_law_names), sl_law_names⟩) (c_law_names : PySem.W.codeIn K cd_law_names "_law_names" = true) (k_law_names : PySem.W.keepIn K (.ref f_law_names) = true)
    (a_law_look_line : PySem.W.nsIn K mainGlobals "_law_look_line" = some (some (.ref f_law_look_line))) (l_law_look_line : K.lookup f_law_look_line = some ⟨oc_law_look_line, od_law_look_line, .func (PySem.W.fnOf "_law_look_line" "_law_look_line" (defArgs s_law_look_line) (defBody s_law_look_line) (defScope s_law_look_line) .none kV_law_look_line dc_law_look_line pm_law_look_line an_law_look_line cd_law_look_line ct_law_look_line), sl_law_look_line⟩) (c_law_look_line : PySem.W.codeIn K cd_law_look_line "_law_look_line" = true) (k_law_look_line : PySem.W.keepIn K (.ref f_law_look_line) = true)
    (a_law_place : PySem.W.nsIn K mainGlobals "_law_place" = some (some (.ref f_law_place))) (l_law_place : K.lookup f_law_place = some ⟨oc_law_place, od_law_place, .func (PySem.W.fnOf "_law_place" "_law_place" (defArgs s_law_place) (defBody s_law_place) (defScope s_law_place) .none kV_law_place dc_law_place pm_law_place an_law_place cd_law_place ct_law_place), sl_law_place⟩) (c_law_place : PySem.W.codeIn K cd_law_place "_law_place" = true) (k_law_place : PySem.W.keepIn K (.ref f_law_place) = true)
    (a_law_deed_line : PySem.W.nsIn K mainGlobals "_law_deed_line" = some (some (.ref f_law_deed_line))) (l_law_deed_line : K.lookup f_law_deed_line = some ⟨oc_law_deed_line, od_law_deed_line, .func (PySem.W.fnOf "_law_deed_line" "_law_deed_line" (defArgs s_law_deed_line) (defBody s_law_deed_line) (defScope s_law_deed_line) .none kV_law_deed_line dc_law_deed_line pm_law_deed_line an_law_deed_line cd_law_deed_line ct_law_deed_line), sl_law_deed_line⟩) (c_law_deed_line : PySem.W.codeIn K cd_law_deed_line "_law_deed_line" = true) (k_law_deed_line : PySem.W.keepIn K (.ref f_law_deed_line) = true)
    (a_law_test_line : PySem.W.nsIn K mainGlobals "_law_test_line" = some (some (.ref f_law_test_line))) (l_law_test_line : K.lookup f_law_test_line = some ⟨oc_law_test_line, od_law_test_line, .func (PySem.W.fnOf "_law_test_line" "_law_test_line" (defArgs s_law_test_line) (defBody s_law_test_line) (defScope s_law_test_line) .none kV_law_test_line dc_law_test_line pm_law_test_line an_law_test_line cd_law_test_line ct_law_test_line), sl_law_test_line⟩) (c_law_test_line : PySem.W.codeIn K cd_law_test_line "_law_test_line" = true) (k_law_test_line : PySem.W.keepIn K (.ref f_law_test_line) = true)
    (a_law_lines : PySem.W.nsIn K mainGlobals "_law_lines" = some (some (.ref f_law_lines))) (l_law_lines : K.lookup f_law_lines = some ⟨oc_law_lines, od_law_lines, .func (PySem.W.fnOf "_law_lines" "_law_lines" (defArgs s_law_lines) (defBody s_law_lines) (defScope s_law_lines) .none kV_law_lines dc_law_lines pm_law_lines an_law_lines cd_law_lines ct_law_lines), sl_law_lines⟩) (c_law_lines : PySem.W.codeIn K cd_law_lines "_law_lines" = true) (k_law_lines : PySem.W.keepIn K (.ref f_law_lines) = true)
    (a_law_field : PySem.W.nsIn K mainGlobals "_law_field" = some (some (.ref f_law_field))) (l_law_field : K.lookup f_law_field = some ⟨oc_law_field, od_law_field, .func (PySem.W.fnOf "_law_field" "_law_field" (defArgs s_law_field) (defBody s_law_field) (defScope s_law_field) .none kV_law_field dc_law_field pm_law_field an_law_field cd_law_field ct_law_field), sl_law_field⟩) (c_law_field : PySem.W.codeIn K cd_law_field "_law_field" = true) (k_law_field : PySem.W.keepIn K (.ref f_law_field) = true)
    (a_law_why : PySem.W.nsIn K mainGlobals "_law_why" = some (some (.ref f_law_why))) (l_law_why : K.lookup f_law_why = some ⟨oc_law_why, od_law_why, .func (PySem.W.fnOf "_law_why" "_law_why" (defArgs s_law_why) (defBody s_law_why) (defScope s_law_why) .none kV_law_why dc_law_why pm_law_why an_law_why cd_law_why ct_law_why), sl_law_why⟩) (c_law_why : PySem.W.codeIn K cd_law_why "_law_why" = true) (k_law_why : PySem.W.keepIn K (.ref f_law_why) = true)
    (a_law_alike : PySem.W.nsIn K mainGlobals "_law_alike" = some (some (.ref f_law_alike))) (l_law_alike : K.lookup f_law_alike = some ⟨oc_law_alike, od_law_alike, .func (PySem.W.fnOf "_law_alike" "_law_alike" (defArgs s_law_alike) (defBody s_law_alike) (defScope s_law_alike) .none kV_law_alike dc_law_alike pm_law_alike an_law_alike cd_law_alike ct_law_alike), sl_law_alike⟩) (c_law_alike : PySem.W.codeIn K cd_law_alike "_law_alike" = true) (k_law_alike : PySem.W.keepIn K (.ref f_law_alike) = true)
    (a_law_word : PySem.W.nsIn K mainGlobals "_law_word" = some (some (.ref f_law_word))) (l_law_word : K.lookup f_law_word = some ⟨oc_law_word, od_law_word, .func (PySem.W.fnOf "_law_word" "_law_word" (defArgs s_law_word) (defBody s_law_word) (defScope s_law_word) .none kV_law_word dc_law_word pm_law_word an_law_word cd_law_word ct_law_word), sl_law_word⟩) (c_law_word : PySem.W.codeIn K cd_law_word "_law_word" = true) (k_law_word : PySem.W.keepIn K (.ref f_law_word) = true)
    (a_law_fits : PySem.W.nsIn K mainGlobals "_law_fits" = some (some (.ref f_law_fits))) (l_law_fits : K.lookup f_law_fits = some ⟨oc_law_fits, od_law_fits, .func (PySem.W.fnOf "_law_fits" "_law_fits" (defArgs s_law_fits) (defBody s_law_fits) (defScope s_law_fits) .none kV_law_fits dc_law_fits pm_law_fits an_law_fits cd_law_fits ct_law_fits), sl_law_fits⟩) (c_law_fits : PySem.W.codeIn K cd_law_fits "_law_fits" = true) (k_law_fits : PySem.W.keepIn K (.ref f_law_fits) = true)
    (a_law_form : PySem.W.nsIn K mainGlobals "_law_form" = some (some (.ref f_law_form))) (l_law_form : K.lookup f_law_form = some ⟨oc_law_form, od_law_form, .func (PySem.W.fnOf "_law_form" "_law_form" (defArgs s_law_form) (defBody s_law_form) (defScope s_law_form) .none kV_law_form dc_law_form pm_law_form an_law_form cd_law_form ct_law_form), sl_law_form⟩) (c_law_form : PySem.W.codeIn K cd_law_form "_law_form" = true) (k_law_form : PySem.W.keepIn K (.ref f_law_form) = true)
    (a_law_good_line : PySem.W.nsIn K mainGlobals "_law_good_line" = some (some (.ref f_law_good_line))) (l_law_good_line : K.lookup f_law_good_line = some ⟨oc_law_good_line, od_law_good_line, .func (PySem.W.fnOf "_law_good_line" "_law_good_line" (defArgs s_law_good_line) (defBody s_law_good_line) (defScope s_law_good_line) .none kV_law_good_line dc_law_good_line pm_law_good_line an_law_good_line cd_law_good_line ct_law_good_line), sl_law_good_line⟩) (c_law_good_line : PySem.W.codeIn K cd_law_good_line "_law_good_line" = true) (k_law_good_line : PySem.W.keepIn K (.ref f_law_good_line) = true)
    (a_law_bad : PySem.W.nsIn K mainGlobals "_law_bad" = some (some (.ref f_law_bad))) (l_law_bad : K.lookup f_law_bad = some ⟨oc_law_bad, od_law_bad, .func (PySem.W.fnOf "_law_bad" "_law_bad" (defArgs s_law_bad) (defBody s_law_bad) (defScope s_law_bad) .none kV_law_bad dc_law_bad pm_law_bad an_law_bad cd_law_bad ct_law_bad), sl_law_bad⟩) (c_law_bad : PySem.W.codeIn K cd_law_bad "_law_bad" = true) (k_law_bad : PySem.W.keepIn K (.ref f_law_bad) = true)
    (a_law_bent_lines : PySem.W.nsIn K mainGlobals "_law_bent_lines" = some (some (.ref f_law_bent_lines))) (l_law_bent_lines : K.lookup f_law_bent_lines = some ⟨oc_law_bent_lines, od_law_bent_lines, .func (PySem.W.fnOf "_law_bent_lines" "_law_bent_lines" (defArgs s_law_bent_lines) (defBody s_law_bent_lines) (defScope s_law_bent_lines) .none kV_law_bent_lines dc_law_bent_lines pm_law_bent_lines an_law_bent_lines cd_law_bent_lines ct_law_bent_lines), sl_law_bent_lines⟩) (c_law_bent_lines : PySem.W.codeIn K cd_law_bent_lines "_law_bent_lines" = true) (k_law_bent_lines : PySem.W.keepIn K (.ref f_law_bent_lines) = true)
    (a_law : PySem.W.nsIn K mainGlobals "law" = some (some (.ref f_law))) (l_law : K.lookup f_law = some ⟨oc_law, od_law, .func (PySem.W.fnOf "law" "law" (defArgs s_law) (defBody s_law) (defScope s_law) .none kV_law dc_law pm_law an_law (.ref cA) ct_law), sl_law⟩) (c_law : PySem.W.codeIn K (.ref cA) "law" = true) (k_law : PySem.W.keepIn K (.ref f_law) = true)
    {occ : Value} {odc : Option Addr} {vsc : Array Value} {slc : Array (Option Value)} (lc_law : K.lookup cA = some ⟨occ, odc, .fields vsc, slc⟩) (eP_law : vsc[11]? = some (.ref PA)) (nt_law : PySem.W.noTabs K = true)
    {w_GroveError : Addr} (aw_GroveError : PySem.W.nsIn K mainGlobals "GroveError" = some (some (.ref w_GroveError))) (ew_GroveError : PySem.W.subIn K (.ref w_GroveError) (.type "BaseException") = some true) (iw_GroveError : PySem.W.isClsIn K w_GroveError = true) (tw_GroveError : PySem.W.typeIn K (.ref w_GroveError) = some (.type "type"))
    {w_Missing : Addr} (aw_Missing : PySem.W.nsIn K mainGlobals "Missing" = some (some (.ref w_Missing))) (ew_Missing : PySem.W.subIn K (.ref w_Missing) (.type "BaseException") = some true) (iw_Missing : PySem.W.isClsIn K w_Missing = true) (tw_Missing : PySem.W.typeIn K (.ref w_Missing) = some (.type "type"))
    {w_NothingLeft : Addr} (aw_NothingLeft : PySem.W.nsIn K mainGlobals "NothingLeft" = some (some (.ref w_NothingLeft))) (ew_NothingLeft : PySem.W.subIn K (.ref w_NothingLeft) (.type "BaseException") = some true) (iw_NothingLeft : PySem.W.isClsIn K w_NothingLeft = true) (tw_NothingLeft : PySem.W.typeIn K (.ref w_NothingLeft) = some (.type "type"))
    {C_BadScript fi_BadScript N_BadScript : Addr} {nm_BadScript q_BadScript : Str} {bs_BadScript bm_BadScript : List Value} {sn_BadScript : List Str} {sub_BadScript : List Value} {ab_BadScript : Bool} {col_BadScript : Option Bool} {dd_BadScript : Option Addr} {k0_BadScript k1_BadScript k2_BadScript k3_BadScript k5_BadScript : Option Value} {oci_BadScript kVi_BadScript dci_BadScript pmi_BadScript cdi_BadScript cti_BadScript : Value} {odi_BadScript ani_BadScript : Option Addr} {sli_BadScript : Array (Option Value)}
    (aC_BadScript : PySem.W.nsIn K mainGlobals "BadScript" = some (some (.ref C_BadScript))) (xL_BadScript : K.lookup C_BadScript = some (excClassObj nm_BadScript q_BadScript C_BadScript N_BadScript bs_BadScript bm_BadScript true sn_BadScript sub_BadScript ab_BadScript col_BadScript dd_BadScript k0_BadScript k1_BadScript k2_BadScript k3_BadScript k5_BadScript "ValueError.__new__")) (hb_BadScript : PySem.HandSPX.refsVE bm_BadScript = true) (sa_BadScript : PySem.W.findIn K (.ref C_BadScript) "__setattr__" = some (some (.builtin "object.__setattr__"))) (ga_BadScript : PySem.W.findIn K (.ref C_BadScript) "__getattribute__" = some (some (.builtin "BaseException.__getattribute__"))) (gg_BadScript : PySem.W.findIn K (.ref C_BadScript) "__getattr__" = some none) (hd_BadScript : PySem.W.hasDictIn K C_BadScript = true) (kC_BadScript : PySem.W.keepIn K (.ref C_BadScript) = true) (eC_BadScript : PySem.W.subIn K (.ref C_BadScript) (.type "BaseException") = some true) (tC_BadScript : PySem.W.typeIn K (.ref C_BadScript) = some (.type "type")) (nc_BadScript : PySem.W.findIn K (.ref C_BadScript) "code" = some none) (nf_BadScript : PySem.W.findIn K (.ref C_BadScript) "line" = some none) (ai_BadScript : PySem.W.findIn K (.ref C_BadScript) "__init__" = some (some (.ref fi_BadScript))) (ti_BadScript : PySem.W.typeIn K (.ref fi_BadScript) = some (.type "function")) (li_BadScript : K.lookup fi_BadScript = some ⟨oci_BadScript, odi_BadScript, .func (PySem.W.fnOf "__init__" "BadScript.__init__" (defArgs s_BadScript_init) (defBody s_BadScript_init) (defScope s_BadScript_init) .none kVi_BadScript dci_BadScript pmi_BadScript ani_BadScript cdi_BadScript cti_BadScript), sli_BadScript⟩) (ci_BadScript : PySem.W.codeIn K cdi_BadScript "BadScript.__init__" = true) (ki_BadScript : PySem.W.keepIn K (.ref fi_BadScript) = true)
    (sw_BadScript_GroveError : PySem.W.subIn K (.ref C_BadScript) (.ref w_GroveError) = some true)
    (sw_BadScript_Missing : PySem.W.subIn K (.ref C_BadScript) (.ref w_Missing) = some false)
    (sw_BadScript_NothingLeft : PySem.W.subIn K (.ref C_BadScript) (.ref w_NothingLeft) = some false)
    {C_TooMany fi_TooMany N_TooMany : Addr} {nm_TooMany q_TooMany : Str} {bs_TooMany bm_TooMany : List Value} {sn_TooMany : List Str} {sub_TooMany : List Value} {ab_TooMany : Bool} {col_TooMany : Option Bool} {dd_TooMany : Option Addr} {k0_TooMany k1_TooMany k2_TooMany k3_TooMany k5_TooMany : Option Value} {oci_TooMany kVi_TooMany dci_TooMany pmi_TooMany cdi_TooMany cti_TooMany : Value} {odi_TooMany ani_TooMany : Option Addr} {sli_TooMany : Array (Option Value)}
    (aC_TooMany : PySem.W.nsIn K mainGlobals "TooMany" = some (some (.ref C_TooMany))) (xL_TooMany : K.lookup C_TooMany = some (excClassObj nm_TooMany q_TooMany C_TooMany N_TooMany bs_TooMany bm_TooMany true sn_TooMany sub_TooMany ab_TooMany col_TooMany dd_TooMany k0_TooMany k1_TooMany k2_TooMany k3_TooMany k5_TooMany "ValueError.__new__")) (hb_TooMany : PySem.HandSPX.refsVE bm_TooMany = true) (sa_TooMany : PySem.W.findIn K (.ref C_TooMany) "__setattr__" = some (some (.builtin "object.__setattr__"))) (ga_TooMany : PySem.W.findIn K (.ref C_TooMany) "__getattribute__" = some (some (.builtin "BaseException.__getattribute__"))) (gg_TooMany : PySem.W.findIn K (.ref C_TooMany) "__getattr__" = some none) (hd_TooMany : PySem.W.hasDictIn K C_TooMany = true) (kC_TooMany : PySem.W.keepIn K (.ref C_TooMany) = true) (eC_TooMany : PySem.W.subIn K (.ref C_TooMany) (.type "BaseException") = some true) (tC_TooMany : PySem.W.typeIn K (.ref C_TooMany) = some (.type "type")) (nc_TooMany : PySem.W.findIn K (.ref C_TooMany) "code" = some none) (nf_TooMany : PySem.W.findIn K (.ref C_TooMany) "most" = some none) (ai_TooMany : PySem.W.findIn K (.ref C_TooMany) "__init__" = some (some (.ref fi_TooMany))) (ti_TooMany : PySem.W.typeIn K (.ref fi_TooMany) = some (.type "function")) (li_TooMany : K.lookup fi_TooMany = some ⟨oci_TooMany, odi_TooMany, .func (PySem.W.fnOf "__init__" "TooMany.__init__" (defArgs s_TooMany_init) (defBody s_TooMany_init) (defScope s_TooMany_init) .none kVi_TooMany dci_TooMany pmi_TooMany ani_TooMany cdi_TooMany cti_TooMany), sli_TooMany⟩) (ci_TooMany : PySem.W.codeIn K cdi_TooMany "TooMany.__init__" = true) (ki_TooMany : PySem.W.keepIn K (.ref fi_TooMany) = true)
    (sw_TooMany_GroveError : PySem.W.subIn K (.ref C_TooMany) (.ref w_GroveError) = some true)
    (sw_TooMany_Missing : PySem.W.subIn K (.ref C_TooMany) (.ref w_Missing) = some false)
    (sw_TooMany_NothingLeft : PySem.W.subIn K (.ref C_TooMany) (.ref w_NothingLeft) = some false)
    {C_Script : Addr} (aC_Script : PySem.W.nsIn K mainGlobals "Script" = some (some (.ref C_Script))) (pg_Script : PySem.W.plainGet K C_Script Str.empty = true) (hd_Script : PySem.W.hasDictIn K C_Script = true) (po_Script : PySem.W.plainOver K C_Script = true) (sa_Script : PySem.W.findIn K (.ref C_Script) "__setattr__" = some (some (.builtin "object.__setattr__"))) (mk_Script : PySem.W.makesIn K C_Script = true) (kc_Script : PySem.W.keepIn K (.ref C_Script) = true)
    (na_Script_rows : PySem.W.findIn K (.ref C_Script) "rows" = some none)
    (na_Script_every : PySem.W.findIn K (.ref C_Script) "every" = some none)
    (na_Script_many_looks : PySem.W.findIn K (.ref C_Script) "many_looks" = some none)
    {f_Script_init : Addr} {od_Script_init an_Script_init : Option Addr} {sl_Script_init : Array (Option Value)} {oc_Script_init kV_Script_init dc_Script_init pm_Script_init cd_Script_init ct_Script_init : Value}
    (at_Script_init : PySem.W.findIn K (.ref C_Script) "__init__" = some (some (.ref f_Script_init))) (fi_Script_init : PySem.W.isFn K (.ref f_Script_init) = true)
    {dT_Script_init de_Script_init : Addr} {dN_Script_init : Nat}
    (l_Script_init : K.lookup f_Script_init = some ⟨oc_Script_init, od_Script_init, .func (PySem.W.fnOf "__init__" "Script.__init__" (defArgs s_Script___init__) (defBody s_Script___init__) (defScope s_Script___init__) (.ref dT_Script_init) kV_Script_init dc_Script_init pm_Script_init an_Script_init cd_Script_init ct_Script_init), sl_Script_init⟩) (c_Script_init : PySem.W.codeIn K cd_Script_init "Script.__init__" = true) (k_Script_init : PySem.W.keepIn K (.ref f_Script_init) = true)
    (lq_Script_init : K.lookup dT_Script_init = some ⟨.type "tuple", none, .seq #[.ref de_Script_init] dN_Script_init, #[]⟩)
    {nE_Script_init : Nat} (le_Script_init : K.lookup de_Script_init = some ⟨.type "tuple", none, .seq #[] nE_Script_init, #[]⟩)
    {f_Script_lines : Addr} {od_Script_lines an_Script_lines : Option Addr} {sl_Script_lines : Array (Option Value)} {oc_Script_lines kV_Script_lines dc_Script_lines pm_Script_lines cd_Script_lines ct_Script_lines : Value}
    (at_Script_lines : PySem.W.findIn K (.ref C_Script) "lines" = some (some (.ref f_Script_lines))) (fi_Script_lines : PySem.W.isFn K (.ref f_Script_lines) = true)
    (l_Script_lines : K.lookup f_Script_lines = some ⟨oc_Script_lines, od_Script_lines, .func (PySem.W.fnOf "lines" "Script.lines" (defArgs s_Script_lines) (defBody s_Script_lines) (defScope s_Script_lines) .none kV_Script_lines dc_Script_lines pm_Script_lines an_Script_lines cd_Script_lines ct_Script_lines), sl_Script_lines⟩) (c_Script_lines : PySem.W.codeIn K cd_Script_lines "Script.lines" = true) (k_Script_lines : PySem.W.keepIn K (.ref f_Script_lines) = true)
    {aT_LOOKS : Addr} {nT_LOOKS : Nat} {tt0_LOOKS tt1_LOOKS tt2_LOOKS tt3_LOOKS tt4_LOOKS tt5_LOOKS : Tok}
    (qT_LOOKS : PySem.W.nsIn K mainGlobals "LOOKS" = some (some (.ref aT_LOOKS))) (lT_LOOKS : K.lookup aT_LOOKS = some ⟨.type "tuple", none, .seq #[.str "first" tt0_LOOKS, .str "last" tt1_LOOKS, .str "up" tt2_LOOKS, .str "over" tt3_LOOKS, .str "next" tt4_LOOKS, .str "back" tt5_LOOKS] nT_LOOKS, #[]⟩)
    {aT_PLACES : Addr} {nT_PLACES : Nat} {tt0_PLACES tt1_PLACES tt2_PLACES tt3_PLACES : Tok}
    (qT_PLACES : PySem.W.nsIn K mainGlobals "PLACES" = some (some (.ref aT_PLACES))) (lT_PLACES : K.lookup aT_PLACES = some ⟨.type "tuple", none, .seq #[.str "ahead" tt0_PLACES, .str "behind" tt1_PLACES, .str "head" tt2_PLACES, .str "tail" tt3_PLACES] nT_PLACES, #[]⟩)
    {aT_ENDS : Addr} {nT_ENDS : Nat} {tt0_ENDS tt1_ENDS : Tok}
    (qT_ENDS : PySem.W.nsIn K mainGlobals "ENDS" = some (some (.ref aT_ENDS))) (lT_ENDS : K.lookup aT_ENDS = some ⟨.type "tuple", none, .seq #[.str "head" tt0_ENDS, .str "tail" tt1_ENDS] nT_ENDS, #[]⟩)
    {aT_BARRED : Addr} {nT_BARRED : Nat} {tt0_BARRED tt1_BARRED tt2_BARRED : Tok}
    (qT_BARRED : PySem.W.nsIn K mainGlobals "BARRED" = some (some (.ref aT_BARRED))) (lT_BARRED : K.lookup aT_BARRED = some ⟨.type "tuple", none, .seq #[.str "if" tt0_BARRED, .str "is" tt1_BARRED, .str "end" tt2_BARRED] nT_BARRED, #[]⟩)
    {aS_FORMS : Addr} {nS_FORMS : Nat} {tk0_FORMS tv0_FORMS tk1_FORMS tv1_FORMS tk2_FORMS tv2_FORMS tk3_FORMS tv3_FORMS tk4_FORMS tv4_FORMS tk5_FORMS tv5_FORMS tk6_FORMS tv6_FORMS tk7_FORMS tv7_FORMS tk8_FORMS tv8_FORMS tk9_FORMS tv9_FORMS tk10_FORMS tv10_FORMS tk11_FORMS tv11_FORMS tk12_FORMS tv12_FORMS tk13_FORMS tv13_FORMS tk14_FORMS tv14_FORMS tk15_FORMS tv15_FORMS : Tok}
    (aD_FORMS : PySem.W.nsIn K mainGlobals "FORMS" = some (some (.ref aS_FORMS))) (lD_FORMS : K.lookup aS_FORMS = some ⟨.type "dict", none, .dict #[⟨PyData.keyHash w.params "first", .str "first" tk0_FORMS, .str "ckb" tv0_FORMS⟩, ⟨PyData.keyHash w.params "last", .str "last" tk1_FORMS, .str "ckb" tv1_FORMS⟩, ⟨PyData.keyHash w.params "up", .str "up" tk2_FORMS, .str "ckc" tv2_FORMS⟩, ⟨PyData.keyHash w.params "over", .str "over" tk3_FORMS, .str "ckcc" tv3_FORMS⟩, ⟨PyData.keyHash w.params "next", .str "next" tk4_FORMS, .str "ckc" tv4_FORMS⟩, ⟨PyData.keyHash w.params "back", .str "back" tk5_FORMS, .str "ckc" tv5_FORMS⟩, ⟨PyData.keyHash w.params "put", .str "put" tk6_FORMS, .str "cktwb" tv6_FORMS⟩, ⟨PyData.keyHash w.params "copy", .str "copy" tk7_FORMS, .str "ccwb" tv7_FORMS⟩, ⟨PyData.keyHash w.params "move", .str "move" tk8_FORMS, .str "cwb" tv8_FORMS⟩, ⟨PyData.keyHash w.params "wrap", .str "wrap" tk9_FORMS, .str "cckt" tv9_FORMS⟩, ⟨PyData.keyHash w.params "lift", .str "lift" tk10_FORMS, .str "c" tv10_FORMS⟩, ⟨PyData.keyHash w.params "strike", .str "strike" tk11_FORMS, .str "c" tv11_FORMS⟩, ⟨PyData.keyHash w.params "kind", .str "kind" tk12_FORMS, .str "ck" tv12_FORMS⟩, ⟨PyData.keyHash w.params "text", .str "text" tk13_FORMS, .str "ct" tv13_FORMS⟩, ⟨PyData.keyHash w.params "fresh", .str "fresh" tk14_FORMS, .str "" tv14_FORMS⟩, ⟨PyData.keyHash w.params "if", .str "if" tk15_FORMS, .str "sll" tv15_FORMS⟩] nS_FORMS, #[]⟩) (sD_FORMS : (aS_FORMS == sysModules) = false)
    {aS_TESTS : Addr} {nS_TESTS : Nat} {tk0_TESTS tv0_TESTS tk1_TESTS tv1_TESTS tk2_TESTS tv2_TESTS tk3_TESTS tv3_TESTS tk4_TESTS tv4_TESTS : Tok}
    (aD_TESTS : PySem.W.nsIn K mainGlobals "TESTS" = some (some (.ref aS_TESTS))) (lD_TESTS : K.lookup aS_TESTS = some ⟨.type "dict", none, .dict #[⟨PyData.keyHash w.params "there", .str "there" tk0_TESTS, .str "c" tv0_TESTS⟩, ⟨PyData.keyHash w.params "is", .str "is" tk1_TESTS, .str "cc" tv1_TESTS⟩, ⟨PyData.keyHash w.params "above", .str "above" tk2_TESTS, .str "cc" tv2_TESTS⟩, ⟨PyData.keyHash w.params "ahead", .str "ahead" tk3_TESTS, .str "cc" tv3_TESTS⟩, ⟨PyData.keyHash w.params "kind", .str "kind" tk4_TESTS, .str "ck" tv4_TESTS⟩] nS_TESTS, #[]⟩) (sD_TESTS : (aS_TESTS == sysModules) = false)
    (z_len : PySem.W.nsIn K mainGlobals "len" = some none) (z_int : PySem.W.nsIn K mainGlobals "int" = some none) (z_range : PySem.W.nsIn K mainGlobals "range" = some none) (z_isinstance : PySem.W.nsIn K mainGlobals "isinstance" = some none) (z_all : PySem.W.nsIn K mainGlobals "all" = some none) (z_list : PySem.W.nsIn K mainGlobals "list" = some none) (z_tuple : PySem.W.nsIn K mainGlobals "tuple" = some none) (z_str : PySem.W.nsIn K mainGlobals "str" = some none) (z_sorted : PySem.W.nsIn K mainGlobals "sorted" = some none) (z_zip : PySem.W.nsIn K mainGlobals "zip" = some none) (z_enumerate : PySem.W.nsIn K mainGlobals "enumerate" = some none) (z_max : PySem.W.nsIn K mainGlobals "max" = some none) (z_bool : PySem.W.nsIn K mainGlobals "bool" = some none) (z_dict : PySem.W.nsIn K mainGlobals "dict" = some none) (v_SMALL : PySem.W.nsIn K mainGlobals "SMALL" = some (some (.str "abcdefghijklmnopqrstuvwxyz" t_SMALL))) (v_REST : PySem.W.nsIn K mainGlobals "REST" = some (some (.str "rest" t_REST))) (v_MOST_LETTERS_documents : PySem.W.nsIn K mainGlobals "MOST_LETTERS_documents" = some (some (.int 6 t_MOST_LETTERS_documents))) (v_MOST_SIGNS : PySem.W.nsIn K mainGlobals "MOST_SIGNS" = some (some (.int 20 t_MOST_SIGNS))) (v_MOST_LETTERS_lines : PySem.W.nsIn K mainGlobals "MOST_LETTERS_lines" = some (some (.int 3 t_MOST_LETTERS_lines))) (v_MOST_DEPTH : PySem.W.nsIn K mainGlobals "MOST_DEPTH" = some (some (.int 3 t_MOST_DEPTH))) (v_MOST_LINES : PySem.W.nsIn K mainGlobals "MOST_LINES" = some (some (.int 40 t_MOST_LINES))) (v_MOST_COPIES : PySem.W.nsIn K mainGlobals "MOST_COPIES" = some (some (.int 4 t_MOST_COPIES))) :
    ∃ (fd : FuncData) (c P : Addr), PySem.W.tabIn K "law" = some (c, P) ∧ PySem.W.noTabs K = true ∧ (∀ (s : Shared) (v : Value), BindsTo s fd ⟨[v], []⟩ [("_law_script", v)]) ∧ ∀ base : Heap, K.In base → base.Ns mainGlobals mg → LamX.TabB base mg c P → FnOk l.prog w K mg base CX0 101 fa fd ["_law_script"] (spLaw K P) := by
  have e := hfa.symm.trans (PySem.W.mg_of X G a_law)
  cases e
  have T : Txt mg := ⟨PySem.W.mg_none_of X G z_len, PySem.W.mg_none_of X G z_int, PySem.W.mg_none_of X G z_range, PySem.W.mg_none_of X G z_isinstance, PySem.W.mg_none_of X G z_all, PySem.W.mg_none_of X G z_list, PySem.W.mg_none_of X G z_tuple, PySem.W.mg_none_of X G z_str, PySem.W.mg_none_of X G z_sorted, PySem.W.mg_none_of X G z_zip, PySem.W.mg_none_of X G z_enumerate, PySem.W.mg_none_of X G z_max, PySem.W.mg_none_of X G z_bool, PySem.W.mg_none_of X G z_dict, ⟨_, PySem.W.mg_of X G v_SMALL, _, rfl⟩, ⟨_, PySem.W.mg_of X G v_REST, _, rfl⟩, ⟨_, PySem.W.mg_of X G v_MOST_LETTERS_documents, _, rfl⟩, ⟨_, PySem.W.mg_of X G v_MOST_SIGNS, _, rfl⟩, ⟨_, PySem.W.mg_of X G v_MOST_LETTERS_lines, _, rfl⟩, ⟨_, PySem.W.mg_of X G v_MOST_DEPTH, _, rfl⟩, ⟨_, PySem.W.mg_of X G v_MOST_LINES, _, rfl⟩, ⟨_, PySem.W.mg_of X G v_MOST_COPIES, _, rfl⟩⟩
  have F_is_word := fun_mk (st := s_is_word) l_is_word c_is_word k_is_word
  have m_is_word := PySem.W.mg_of X G a_is_word
  have b_is_word := F_is_word.binds (ps := ["value", "most"]) fun _ _ _ _ _ _ us hl => match us, hl with | [_, _], _ => rfl
  have F_is_kind := fun_mk (st := s_is_kind) l_is_kind c_is_kind k_is_kind
  have m_is_kind := PySem.W.mg_of X G a_is_kind
  have b_is_kind := F_is_kind.binds (ps := ["value"]) fun _ _ _ _ _ _ us hl => match us, hl with | [_], _ => rfl
  have F_is_sign := fun_mk (st := s_is_sign) l_is_sign c_is_sign k_is_sign
  have m_is_sign := PySem.W.mg_of X G a_is_sign
  have b_is_sign := F_is_sign.binds (ps := ["sign"]) fun _ _ _ _ _ _ us hl => match us, hl with | [_], _ => rfl
  have F_is_text := fun_mk (st := s_is_text) l_is_text c_is_text k_is_text
  have m_is_text := PySem.W.mg_of X G a_is_text
  have b_is_text := F_is_text.binds (ps := ["value"]) fun _ _ _ _ _ _ us hl => match us, hl with | [_], _ => rfl
  have F_is_cursor := fun_mk (st := s_is_cursor) l_is_cursor c_is_cursor k_is_cursor
  have m_is_cursor := PySem.W.mg_of X G a_is_cursor
  have b_is_cursor := F_is_cursor.binds (ps := ["value"]) fun _ _ _ _ _ _ us hl => match us, hl with | [_], _ => rfl
  have F_is_named := fun_mk (st := s_is_named) l_is_named c_is_named k_is_named
  have m_is_named := PySem.W.mg_of X G a_is_named
  have b_is_named := F_is_named.binds (ps := ["value"]) fun _ _ _ _ _ _ us hl => match us, hl with | [_], _ => rfl
  have F_fits := fun_mk (st := s_fits) l_fits c_fits k_fits
  have m_fits := PySem.W.mg_of X G a_fits
  have b_fits := F_fits.binds (ps := ["letter", "value"]) fun _ _ _ _ _ _ us hl => match us, hl with | [_, _], _ => rfl
  have F_opening := fun_mk (st := s_opening) l_opening c_opening k_opening
  have m_opening := PySem.W.mg_of X G a_opening
  have b_opening := F_opening.binds (ps := ["value"]) fun _ _ _ _ _ _ us hl => match us, hl with | [_], _ => rfl
  have F_all_fit := fun_mk (st := s_all_fit) l_all_fit c_all_fit k_all_fit
  have m_all_fit := PySem.W.mg_of X G a_all_fit
  have b_all_fit := F_all_fit.binds (ps := ["letters", "value"]) fun _ _ _ _ _ _ us hl => match us, hl with | [_, _], _ => rfl
  have F_is_test := fun_mk (st := s_is_test) l_is_test c_is_test k_is_test
  have m_is_test := PySem.W.mg_of X G a_is_test
  have b_is_test := F_is_test.binds (ps := ["value"]) fun _ _ _ _ _ _ us hl => match us, hl with | [_], _ => rfl
  have F_is_line := fun_mk (st := s_is_line) l_is_line c_is_line k_is_line
  have m_is_line := PySem.W.mg_of X G a_is_line
  have b_is_line := F_is_line.binds (ps := ["value"]) fun _ _ _ _ _ _ us hl => match us, hl with | [_], _ => rfl
  have F_every_line := fun_mk (st := s_every_line) l_every_line c_every_line k_every_line
  have m_every_line := PySem.W.mg_of X G a_every_line
  have b_every_line := F_every_line.binds (ps := ["lines"]) fun _ _ _ _ _ _ us hl => match us, hl with | [_], _ => rfl
  have F_fault_in := fun_mk (st := s_fault_in) l_fault_in c_fault_in k_fault_in
  have m_fault_in := PySem.W.mg_of X G a_fault_in
  have b_fault_in := F_fault_in.binds (ps := ["lines", "depth"]) fun _ _ _ _ _ _ us hl => match us, hl with | [_, _], _ => rfl
  have F_check_lines := fun_mk (st := s_check_lines) l_check_lines c_check_lines k_check_lines
  have m_check_lines := PySem.W.mg_of X G a_check_lines
  have b_check_lines := F_check_lines.binds (ps := ["lines"]) fun _ _ _ _ _ _ us hl => match us, hl with | [_], _ => rfl
  have F_law_bag := fun_mk (st := s_law_bag) l_law_bag c_law_bag k_law_bag
  have m_law_bag := PySem.W.mg_of X G a_law_bag
  have b_law_bag := F_law_bag.binds (ps := ["_law_script"]) fun _ _ _ _ _ _ us hl => match us, hl with | [_], _ => rfl
  have F_law_take := fun_mk (st := s_law_take) l_law_take c_law_take k_law_take
  have m_law_take := PySem.W.mg_of X G a_law_take
  have b_law_take := F_law_take.binds (ps := ["_law_bag_z", "_law_many"]) fun _ _ _ _ _ _ us hl => match us, hl with | [_, _], _ => rfl
  have F_law_of := fun_mk (st := s_law_of) l_law_of c_law_of k_law_of
  have m_law_of := PySem.W.mg_of X G a_law_of
  have b_law_of := F_law_of.binds (ps := ["_law_bag_z", "_law_things"]) fun _ _ _ _ _ _ us hl => match us, hl with | [_, _], _ => rfl
  have F_law_words := fun_mk (st := s_law_words) l_law_words c_law_words k_law_words
  have m_law_words := PySem.W.mg_of X G a_law_words
  have b_law_words := F_law_words.binds (ps := ["_law_bag_z", "_law_many", "_law_most"]) fun _ _ _ _ _ _ us hl => match us, hl with | [_, _, _], _ => rfl
  have F_law_names := fun_mk (st := s_law_names) l_law_names c_law_names k_law_names
  have m_law_names := PySem.W.mg_of X G a_law_names
  have b_law_names := F_law_names.binds (ps := ["_law_bag_z"]) fun _ _ _ _ _ _ us hl => match us, hl with | [_], _ => rfl
  have F_law_look_line := fun_mk (st := s_law_look_line) l_law_look_line c_law_look_line k_law_look_line
  have m_law_look_line := PySem.W.mg_of X G a_law_look_line
  have b_law_look_line := F_law_look_line.binds (ps := ["_law_bag_z", "_law_names_z"]) fun _ _ _ _ _ _ us hl => match us, hl with | [_, _], _ => rfl
  have F_law_place := fun_mk (st := s_law_place) l_law_place c_law_place k_law_place
  have m_law_place := PySem.W.mg_of X G a_law_place
  have b_law_place := F_law_place.binds (ps := ["_law_bag_z", "_law_names_z"]) fun _ _ _ _ _ _ us hl => match us, hl with | [_, _], _ => rfl
  have F_law_deed_line := fun_mk (st := s_law_deed_line) l_law_deed_line c_law_deed_line k_law_deed_line
  have m_law_deed_line := PySem.W.mg_of X G a_law_deed_line
  have b_law_deed_line := F_law_deed_line.binds (ps := ["_law_bag_z", "_law_names_z", "_law_copies"]) fun _ _ _ _ _ _ us hl => match us, hl with | [_, _, _], _ => rfl
  have F_law_test_line := fun_mk (st := s_law_test_line) l_law_test_line c_law_test_line k_law_test_line
  have m_law_test_line := PySem.W.mg_of X G a_law_test_line
  have b_law_test_line := F_law_test_line.binds (ps := ["_law_bag_z", "_law_names_z"]) fun _ _ _ _ _ _ us hl => match us, hl with | [_, _], _ => rfl
  have F_law_lines := fun_mk (st := s_law_lines) l_law_lines c_law_lines k_law_lines
  have m_law_lines := PySem.W.mg_of X G a_law_lines
  have b_law_lines := F_law_lines.binds (ps := ["_law_bag_z", "_law_names_z", "_law_many", "_law_looks", "_law_deep"]) fun _ _ _ _ _ _ us hl => match us, hl with | [_, _, _, _, _], _ => rfl
  have F_law_field := fun_mk (st := s_law_field) l_law_field c_law_field k_law_field
  have m_law_field := PySem.W.mg_of X G a_law_field
  have b_law_field := F_law_field.binds (ps := ["_law_e"]) fun _ _ _ _ _ _ us hl => match us, hl with | [_], _ => rfl
  have F_law_why := fun_mk (st := s_law_why) l_law_why c_law_why k_law_why
  have m_law_why := PySem.W.mg_of X G a_law_why
  have b_law_why := F_law_why.binds (ps := ["_law_ask"]) fun _ _ _ _ _ _ us hl => match us, hl with | [_], _ => rfl
  have F_law_alike := fun_mk (st := s_law_alike) l_law_alike c_law_alike k_law_alike
  have m_law_alike := PySem.W.mg_of X G a_law_alike
  have b_law_alike := F_law_alike.binds (ps := ["_law_found", "_law_due"]) fun _ _ _ _ _ _ us hl => match us, hl with | [_, _], _ => rfl
  have F_law_word := fun_mk (st := s_law_word) l_law_word c_law_word k_law_word
  have m_law_word := PySem.W.mg_of X G a_law_word
  have b_law_word := F_law_word.binds (ps := ["_law_value", "_law_most"]) fun _ _ _ _ _ _ us hl => match us, hl with | [_, _], _ => rfl
  have F_law_fits := fun_mk (st := s_law_fits) l_law_fits c_law_fits k_law_fits
  have m_law_fits := PySem.W.mg_of X G a_law_fits
  have b_law_fits := F_law_fits.binds (ps := ["_law_letter", "_law_value"]) fun _ _ _ _ _ _ us hl => match us, hl with | [_, _], _ => rfl
  have F_law_form := fun_mk (st := s_law_form) l_law_form c_law_form k_law_form
  have m_law_form := PySem.W.mg_of X G a_law_form
  have b_law_form := F_law_form.binds (ps := ["_law_value", "_law_forms"]) fun _ _ _ _ _ _ us hl => match us, hl with | [_, _], _ => rfl
  have F_law_good_line := fun_mk (st := s_law_good_line) l_law_good_line c_law_good_line k_law_good_line
  have m_law_good_line := PySem.W.mg_of X G a_law_good_line
  have b_law_good_line := F_law_good_line.binds (ps := ["_law_value"]) fun _ _ _ _ _ _ us hl => match us, hl with | [_], _ => rfl
  have F_law_bad := fun_mk (st := s_law_bad) l_law_bad c_law_bad k_law_bad
  have m_law_bad := PySem.W.mg_of X G a_law_bad
  have b_law_bad := F_law_bad.binds (ps := ["_law_lines_z", "_law_number", "_law_depth"]) fun _ _ _ _ _ _ us hl => match us, hl with | [_, _, _], _ => rfl
  have F_law_bent_lines := fun_mk (st := s_law_bent_lines) l_law_bent_lines c_law_bent_lines k_law_bent_lines
  have m_law_bent_lines := PySem.W.mg_of X G a_law_bent_lines
  have b_law_bent_lines := F_law_bent_lines.binds (ps := ["_law_bag_z", "_law_lines_z"]) fun _ _ _ _ _ _ us hl => match us, hl with | [_, _], _ => rfl
  have F_law := fun_mk (st := s_law) l_law c_law k_law
  have m_law := PySem.W.mg_of X G a_law
  have b_law := F_law.binds (ps := ["_law_script"]) fun _ _ _ _ _ _ us hl => match us, hl with | [_], _ => rfl
  have cls_Script : Cls K C_Script := ⟨pg_Script, hd_Script, po_Script, sa_Script⟩
  have g_Script := PySem.W.mg_of X G aC_Script
  have F_Script_init : FunD K "__init__" "Script.__init__" (defArgs s_Script___init__) (defBody s_Script___init__) (defScope s_Script___init__) [V.ref de_Script_init] [] f_Script_init _ := ⟨⟨_, _, _, _, _, _, _, _, _, _, rfl, l_Script_init, c_Script_init, .inr ⟨by simp, dT_Script_init, _, [.ref de_Script_init], dN_Script_init, rfl, lq_Script_init, rfl, .cons rfl .nil⟩, .inl rfl⟩, k_Script_init⟩
  obtain ⟨ds_Script_init, vd_Script_init, b_Script_init⟩ := F_Script_init.binds1 (ps := ["self", "lines"]) 2 1 (by simp) rfl (fun _ _ _ _ _ _ _ us its hu hi => match us, its, hu, hi with | [_, _], [_], _, _ => ⟨_, rfl, rfl⟩)
  cases vd_Script_init
  have mk_Script_init : Mk K C_Script f_Script_init := ⟨mk_Script, at_Script_init, fi_Script_init, kc_Script⟩
  have F_Script_lines := fun_mk (st := s_Script_lines) l_Script_lines c_Script_lines k_Script_lines
  have b_Script_lines := F_Script_lines.binds (ps := ["self"]) fun _ _ _ _ _ _ us hl => match us, hl with | [_], _ => rfl
  have me_Script_lines : Meth K C_Script "lines" f_Script_lines := ⟨at_Script_lines, fi_Script_lines, k_Script_lines⟩
  have oex_BadScript : OexC K C_BadScript := ⟨⟨nm_BadScript, q_BadScript, N_BadScript, bs_BadScript, bm_BadScript, sn_BadScript, sub_BadScript, ab_BadScript, col_BadScript, dd_BadScript, k0_BadScript, k1_BadScript, k2_BadScript, k3_BadScript, k5_BadScript, xL_BadScript, hb_BadScript⟩, sa_BadScript, eC_BadScript, tC_BadScript, kC_BadScript⟩
  have xfc_BadScript : XfC K C_BadScript := ⟨ga_BadScript, gg_BadScript, eC_BadScript, hd_BadScript⟩
  have FI_BadScript := fun_mk (st := s_BadScript_init) li_BadScript ci_BadScript ki_BadScript
  have bi_BadScript := FI_BadScript.binds (ps := ["self", "line"]) fun _ _ _ _ _ _ us hl => match us, hl with | [_, _], _ => rfl
  have err_BadScript : ∀ base, ErrC l.prog w K mg base "BadScript" C_BadScript 2 (spIni K "BadScript" "line") := fun base => ⟨oex_BadScript, PySem.W.mg_of X G aC_BadScript, _, _, _, ai_BadScript, ti_BadScript, ok_ini FI_BadScript sc_BadScript_init (fun cdv A outer s H E => pss_cons (ps_ost (pv 0) pe_str) (pss_one (ps_ost (pv 0) (pv 1)))), bi_BadScript⟩
  have exm_BadScript : PySem.W.exmAny K (.ref C_BadScript) [.ref w_GroveError, .ref w_Missing, .ref w_NothingLeft] = some true := exm3 (exm1 ew_GroveError iw_GroveError tw_GroveError sw_BadScript_GroveError) (exm1 ew_Missing iw_Missing tw_Missing sw_BadScript_Missing) (exm1 ew_NothingLeft iw_NothingLeft tw_NothingLeft sw_BadScript_NothingLeft)
  have oex_TooMany : OexC K C_TooMany := ⟨⟨nm_TooMany, q_TooMany, N_TooMany, bs_TooMany, bm_TooMany, sn_TooMany, sub_TooMany, ab_TooMany, col_TooMany, dd_TooMany, k0_TooMany, k1_TooMany, k2_TooMany, k3_TooMany, k5_TooMany, xL_TooMany, hb_TooMany⟩, sa_TooMany, eC_TooMany, tC_TooMany, kC_TooMany⟩
  have xfc_TooMany : XfC K C_TooMany := ⟨ga_TooMany, gg_TooMany, eC_TooMany, hd_TooMany⟩
  have FI_TooMany := fun_mk (st := s_TooMany_init) li_TooMany ci_TooMany ki_TooMany
  have bi_TooMany := FI_TooMany.binds (ps := ["self", "most"]) fun _ _ _ _ _ _ us hl => match us, hl with | [_, _], _ => rfl
  have err_TooMany : ∀ base, ErrC l.prog w K mg base "TooMany" C_TooMany 2 (spIni K "TooMany" "most") := fun base => ⟨oex_TooMany, PySem.W.mg_of X G aC_TooMany, _, _, _, ai_TooMany, ti_TooMany, ok_ini FI_TooMany sc_TooMany_init (fun cdv A outer s H E => pss_cons (ps_ost (pv 0) pe_str) (pss_one (ps_ost (pv 0) (pv 1)))), bi_TooMany⟩
  have exm_TooMany : PySem.W.exmAny K (.ref C_TooMany) [.ref w_GroveError, .ref w_Missing, .ref w_NothingLeft] = some true := exm3 (exm1 ew_GroveError iw_GroveError tw_GroveError sw_TooMany_GroveError) (exm1 ew_Missing iw_Missing tw_Missing sw_TooMany_Missing) (exm1 ew_NothingLeft iw_NothingLeft tw_NothingLeft sw_TooMany_NothingLeft)
  have gw_GroveError := PySem.W.mg_of X G aw_GroveError
  have gw_Missing := PySem.W.mg_of X G aw_Missing
  have gw_NothingLeft := PySem.W.mg_of X G aw_NothingLeft
  refine ⟨PySem.W.fnOf "law" "law" (defArgs s_law) (defBody s_law) (defScope s_law) .none kV_law dc_law pm_law an_law (.ref cA) ct_law, cA, PA, tabIn_mk (o3 := none) a_law l_law rfl lc_law eP_law, nt_law, fun s v => .of_eq rfl, fun base _ _ TB => ?_⟩
  have rs : ScriptC K C_Script := ⟨cls_Script, na_Script_rows, na_Script_every, na_Script_many_looks⟩
  have gL : ∃ u, mg "LOOKS" = some u ∧ RelV (.ref aT_LOOKS) u := ⟨_, PySem.W.mg_of X G qT_LOOKS, rfl⟩
  have gP : ∃ u, mg "PLACES" = some u ∧ RelV (.ref aT_PLACES) u := ⟨_, PySem.W.mg_of X G qT_PLACES, rfl⟩
  have gE : ∃ u, mg "ENDS" = some u ∧ RelV (.ref aT_ENDS) u := ⟨_, PySem.W.mg_of X G qT_ENDS, rfl⟩
  have gB : ∃ u, mg "BARRED" = some u ∧ RelV (.ref aT_BARRED) u := ⟨_, PySem.W.mg_of X G qT_BARRED, rfl⟩
  have gF : ∃ u, mg "FORMS" = some u ∧ RelV (.ref aS_FORMS) u := ⟨_, PySem.W.mg_of X G aD_FORMS, rfl⟩
  have gT : ∃ u, mg "TESTS" = some u ∧ RelV (.ref aS_TESTS) u := ⟨_, PySem.W.mg_of X G aD_TESTS, rfl⟩
  have tL : ∀ H, SqT K H aT_LOOKS looksT := wtup lT_LOOKS (by rw [sizeLine_eq]; exact Nat.le_of_ble_eq_true rfl) (.cons ⟨_, rfl⟩ (.cons ⟨_, rfl⟩ (.cons ⟨_, rfl⟩ (.cons ⟨_, rfl⟩ (.cons ⟨_, rfl⟩ (.cons ⟨_, rfl⟩ .nil))))))
  have tP : ∀ H, SqT K H aT_PLACES placesT := wtup lT_PLACES (by rw [sizeLine_eq]; exact Nat.le_of_ble_eq_true rfl) (.cons ⟨_, rfl⟩ (.cons ⟨_, rfl⟩ (.cons ⟨_, rfl⟩ (.cons ⟨_, rfl⟩ .nil))))
  have tE : ∀ H, SqT K H aT_ENDS endsT := wtup lT_ENDS (by rw [sizeLine_eq]; exact Nat.le_of_ble_eq_true rfl) (.cons ⟨_, rfl⟩ (.cons ⟨_, rfl⟩ .nil))
  have tB : ∀ H, SqT K H aT_BARRED barT := wtup lT_BARRED (by rw [sizeLine_eq]; exact Nat.le_of_ble_eq_true rfl) (.cons ⟨_, rfl⟩ (.cons ⟨_, rfl⟩ (.cons ⟨_, rfl⟩ .nil)))
  have tF : KTab K w aS_FORMS (txtT formK) := tab_txt lD_FORMS (by unfold formK; repeat (first | exact trivial | refine ent_cons (by decide +kernel) ?_)) sD_FORMS
  have tT : KTab K w aS_TESTS (txtT testK) := tab_txt lD_TESTS (by unfold testK; repeat (first | exact trivial | refine ent_cons (by decide +kernel) ?_)) sD_TESTS
  have c_law_bag : Cal l.prog w K mg base 1 "_law_bag" (spBag K) := ⟨_, _, _, ok_law_bag F_law_bag T, m_law_bag, k_law_bag, b_law_bag⟩
  have c_law_take : Cal l.prog w K mg base 1 "_law_take" spTake := ⟨_, _, _, ok_law_take F_law_take T, m_law_take, k_law_take, b_law_take⟩
  have c_law_of : Cal l.prog w K mg base 2 "_law_of" (spOf K) := ⟨_, _, _, ok_law_of F_law_of T c_law_take, m_law_of, k_law_of, b_law_of⟩
  have c_law_words : Cal l.prog w K mg base 3 "_law_words" spWords := ⟨_, _, _, ok_law_words F_law_words T c_law_take c_law_of, m_law_words, k_law_words, b_law_words⟩
  have c_law_names : Cal l.prog w K mg base 4 "_law_names" spNames3 := ⟨_, _, _, ok_law_names3 F_law_names T c_law_take c_law_words, m_law_names, k_law_names, b_law_names⟩
  have c_is_sign : Cal l.prog w K mg base 1 "is_sign" spIsSign := ⟨_, _, _, ok_is_sign F_is_sign T, m_is_sign, k_is_sign, b_is_sign⟩
  have c_is_word : Cal l.prog w K mg base 1 "is_word" (spWord K) := ⟨_, _, _, ok_is_word F_is_word T, m_is_word, k_is_word, b_is_word⟩
  have c_is_kind : Cal l.prog w K mg base 2 "is_kind" (spKind K) := ⟨_, _, _, ok_is_kind F_is_kind T c_is_word, m_is_kind, k_is_kind, b_is_kind⟩
  have c_is_text : Cal l.prog w K mg base 2 "is_text" (spText K) := ⟨_, _, _, ok_is_text F_is_text T c_is_sign, m_is_text, k_is_text, b_is_text⟩
  have c_is_cursor : Cal l.prog w K mg base 2 "is_cursor" (spDat1 cursorB) := ⟨_, _, _, ok_is_cursor F_is_cursor T gB tB c_is_word, m_is_cursor, k_is_cursor, b_is_cursor⟩
  have c_is_named : Cal l.prog w K mg base 3 "is_named" (spDat1 kindB) := ⟨_, _, _, ok_is_named F_is_named T c_is_kind, m_is_named, k_is_named, b_is_named⟩
  have c_opening : Cal l.prog w K mg base 1 "opening" spOpening := ⟨_, _, _, ok_opening F_opening T, m_opening, k_opening, b_opening⟩
  have c_no_test : Cal l.prog w K mg base 1 "is_test" (fun _ _ _ _ => False) := ⟨_, _, _, F_is_test.ok (sp := fun _ _ _ _ => False) sc_is_test (fun _ _ _ _ h => h.elim) (fun _ _ _ _ _ _ _ _ _ h => h.elim), m_is_test, k_is_test, b_is_test⟩
  have c_fits0 : Cal l.prog w K mg base 4 "fits" (spFits false) := ⟨_, _, _, ok_fits (m := 1) (n := 3) (by omega) (by omega) F_fits T gP tP c_is_cursor c_is_named c_is_text c_no_test (fun z => by cases z), m_fits, k_fits, b_fits⟩
  have c_all_fit0 : Cal l.prog w K mg base 5 "all_fit" (spAllFit false) := ⟨_, _, _, ok_all_fit F_all_fit T c_fits0, m_all_fit, k_all_fit, b_all_fit⟩
  have c_is_test : Cal l.prog w K mg base 6 "is_test" (spDat1 testB) := ⟨_, _, _, ok_is_test (by omega) F_is_test T gT tT c_opening c_all_fit0, m_is_test, k_is_test, b_is_test⟩
  have c_fits1 : Cal l.prog w K mg base 7 "fits" (spFits true) := ⟨_, _, _, ok_fits (m := 6) (n := 6) (by omega) (by omega) F_fits T gP tP c_is_cursor c_is_named c_is_text c_is_test (fun _ _ _ _ _ h => h), m_fits, k_fits, b_fits⟩
  have c_all_fit1 : Cal l.prog w K mg base 8 "all_fit" (spAllFit true) := ⟨_, _, _, ok_all_fit F_all_fit T c_fits1, m_all_fit, k_all_fit, b_all_fit⟩
  have c_is_line : ∀ n, Cal l.prog w K mg base (n + 9) "is_line" (spDat1 lineB) := fun n => ⟨_, _, _, (ok_is_line (by omega) F_is_line T gF tF gE tE c_opening c_all_fit1).mono (by omega), m_is_line, k_is_line, b_is_line⟩
  have c_no_fault : Cal l.prog w K mg base 1 "fault_in" (fun _ _ _ _ => False) := ⟨_, _, _, F_fault_in.ok (sp := fun _ _ _ _ => False) sc_fault_in (fun _ _ _ _ h => h.elim) (fun _ _ _ _ _ _ _ _ _ h => h.elim), m_fault_in, k_fault_in, b_fault_in⟩
  have c_f0 : Cal l.prog w K mg base 10 "fault_in" (spFault (faultN 0) 4) := ⟨_, _, _, ok_fault_in (n := 9) (m := 1) (rec_ := fun _ => (0, 0)) (ok := false) (dep := 4) (by omega) (by omega) (by decide) F_fault_in T (c_is_line 0) c_no_fault (fun z => by cases z), m_fault_in, k_fault_in, b_fault_in⟩
  have c_f1 : Cal l.prog w K mg base 11 "fault_in" (spFault (faultN 1) 3) := ⟨_, _, _, ok_fault_in (n := 10) (m := 10) (rec_ := faultN 0) (ok := true) (dep := 3) (by omega) (by omega) (by decide) F_fault_in T (c_is_line 1) c_f0 (fun _ _ _ _ _ h => h), m_fault_in, k_fault_in, b_fault_in⟩
  have c_f2 : Cal l.prog w K mg base 12 "fault_in" (spFault (faultN 2) 2) := ⟨_, _, _, ok_fault_in (n := 11) (m := 11) (rec_ := faultN 1) (ok := true) (dep := 2) (by omega) (by omega) (by decide) F_fault_in T (c_is_line 2) c_f1 (fun _ _ _ _ _ h => h), m_fault_in, k_fault_in, b_fault_in⟩
  have c_f3 : Cal l.prog w K mg base 13 "fault_in" (spFault (faultN 3) 1) := ⟨_, _, _, ok_fault_in (n := 12) (m := 12) (rec_ := faultN 2) (ok := true) (dep := 1) (by omega) (by omega) (by decide) F_fault_in T (c_is_line 3) c_f2 (fun _ _ _ _ _ h => h), m_fault_in, k_fault_in, b_fault_in⟩
  have c_every : CalE l.prog w K mg base 5 3 := cal_every F_every_line T m_every_line k_every_line b_every_line 3
  have c_law_place : Cal l.prog w K mg base 3 "_law_place" spPlaceL := ⟨_, _, _, ok_law_place F_law_place T c_law_take c_law_of, m_law_place, k_law_place, b_law_place⟩
  have c_law_look_line : Cal l.prog w K mg base 3 "_law_look_line" spLineL := ⟨_, _, _, ok_law_look_line F_law_look_line T c_law_take c_law_of, m_law_look_line, k_law_look_line, b_law_look_line⟩
  have c_law_deed_line : Cal l.prog w K mg base 4 "_law_deed_line" spDeedL := ⟨_, _, _, ok_law_deed_line F_law_deed_line T c_law_take c_law_of c_law_place, m_law_deed_line, k_law_deed_line, b_law_deed_line⟩
  have c_law_test_line : Cal l.prog w K mg base 3 "_law_test_line" spTestL := ⟨_, _, _, ok_law_test_line F_law_test_line T c_law_of, m_law_test_line, k_law_test_line, b_law_test_line⟩
  have c_lines_no : Cal l.prog w K mg base 1 "_law_lines" (fun _ _ _ _ => False) := ⟨_, _, _, F_law_lines.ok (sp := fun _ _ _ _ => False) sc_law_lines (fun _ _ _ _ h => h.elim) (fun _ _ _ _ _ _ _ _ _ h => h.elim), m_law_lines, k_law_lines, b_law_lines⟩
  have c_lines0 : Cal l.prog w K mg base 5 "_law_lines" spLinesL0 := ⟨_, _, _, ok_law_lines0 F_law_lines T c_law_take c_law_look_line c_law_deed_line c_law_test_line c_lines_no, m_law_lines, k_law_lines, b_law_lines⟩
  have c_law_lines : Cal l.prog w K mg base 6 "_law_lines" spLinesL1 := ⟨_, _, _, ok_law_lines1 F_law_lines T c_law_take c_law_look_line c_law_deed_line c_law_test_line c_lines0, m_law_lines, k_law_lines, b_law_lines⟩
  have hde : ∀ H, SqT K H de_Script_init [] := wtup (xs := []) le_Script_init (Nat.zero_le _) .nil
  have c_every0 : Cal l.prog w K mg base 6 "every_line" (spEvery0 K) := ⟨_, _, _, ok_every_line0 F_every_line T c_every, m_every_line, k_every_line, b_every_line⟩
  have c_fault0 : Cal l.prog w K mg base 13 "fault_in" (spFault0 K) := ⟨_, _, _, ok_fault_in0 (n := 12) (m := 12) (by omega) F_fault_in T (c_is_line 3) c_f2, m_fault_in, k_fault_in, b_fault_in⟩
  have c_lword : Cal l.prog w K mg base 1 "_law_word" (spWord K) := ⟨_, _, _, ok_law_word F_law_word T, m_law_word, k_law_word, b_law_word⟩
  have c_lfits_no : Cal l.prog w K mg base 1 "_law_fits" (fun _ _ _ _ => False) := ⟨_, _, _, F_law_fits.ok (sp := fun _ _ _ _ => False) sc_law_fits (fun _ _ _ _ h => h.elim) (fun _ _ _ _ _ _ _ _ _ h => h.elim), m_law_fits, k_law_fits, b_law_fits⟩
  have c_lform_no : Cal l.prog w K mg base 1 "_law_form" (fun _ _ _ _ => False) := ⟨_, _, _, F_law_form.ok (sp := fun _ _ _ _ => False) sc_law_form (fun _ _ _ _ h => h.elim) (fun _ _ _ _ _ _ _ _ _ h => h.elim), m_law_form, k_law_form, b_law_form⟩
  have c_lfits0 : Cal l.prog w K mg base 2 "_law_fits" (spLFits false false) := ⟨_, _, _, ok_law_fits (m := 1) (k := 1) (n := 1) (by omega) (by omega) (by omega) F_law_fits T c_lword c_lfits_no (fun z => by cases z) c_lform_no (fun z => by cases z), m_law_fits, k_law_fits, b_law_fits⟩
  have c_lform0 : Cal l.prog w K mg base 3 "_law_form" (spLForm false false) := ⟨_, _, _, ok_law_form F_law_form T c_lfits0, m_law_form, k_law_form, b_law_form⟩
  have c_lfits1 : Cal l.prog w K mg base 4 "_law_fits" (spLFits true true) := ⟨_, _, _, ok_law_fits (m := 2) (k := 3) (n := 3) (by omega) (by omega) (by omega) F_law_fits T c_lword c_lfits0 (fun _ _ _ _ _ h => h) c_lform0 (fun _ _ _ _ _ h => h), m_law_fits, k_law_fits, b_law_fits⟩
  have c_lform1 : Cal l.prog w K mg base 5 "_law_form" (spLForm true true) := ⟨_, _, _, ok_law_form F_law_form T c_lfits1, m_law_form, k_law_form, b_law_form⟩
  have c_lgood : ∀ n, Cal l.prog w K mg base (n + 6) "_law_good_line" spLGood := fun n => ⟨_, _, _, (ok_law_good_line F_law_good_line T c_lform1).mono (by omega), m_law_good_line, k_law_good_line, b_law_good_line⟩
  have c_lbad_no : Cal l.prog w K mg base 1 "_law_bad" (fun _ _ _ _ => False) := ⟨_, _, _, F_law_bad.ok (sp := fun _ _ _ _ => False) sc_law_bad (fun _ _ _ _ h => h.elim) (fun _ _ _ _ _ _ _ _ _ h => h.elim), m_law_bad, k_law_bad, b_law_bad⟩
  have c_lbad0 : Cal l.prog w K mg base 7 "_law_bad" (spLBad (faultN 0) 4) := ⟨_, _, _, ok_law_bad (n := 6) (m := 1) (rec_ := fun _ => (0, 0)) (ok := false) (dep := 4) (by omega) (by omega) (by decide) (fun _ => Int.le_refl _) F_law_bad T (c_lgood 0) c_lbad_no (fun z => by cases z), m_law_bad, k_law_bad, b_law_bad⟩
  have c_lbad1 : Cal l.prog w K mg base 8 "_law_bad" (spLBad (faultN 1) 3) := ⟨_, _, _, ok_law_bad (n := 7) (m := 7) (rec_ := faultN 0) (ok := true) (dep := 3) (by omega) (by omega) (by decide) (faultN_nn 0) F_law_bad T (c_lgood 1) c_lbad0 (fun _ _ _ _ _ h => h), m_law_bad, k_law_bad, b_law_bad⟩
  have c_lbad2 : Cal l.prog w K mg base 9 "_law_bad" (spLBad (faultN 2) 2) := ⟨_, _, _, ok_law_bad (n := 8) (m := 8) (rec_ := faultN 1) (ok := true) (dep := 2) (by omega) (by omega) (by decide) (faultN_nn 1) F_law_bad T (c_lgood 2) c_lbad1 (fun _ _ _ _ _ h => h), m_law_bad, k_law_bad, b_law_bad⟩
  have c_lbad3 : Cal l.prog w K mg base 10 "_law_bad" (spLBad (faultN 3) 1) := ⟨_, _, _, ok_law_bad (n := 9) (m := 9) (rec_ := faultN 2) (ok := true) (dep := 1) (by omega) (by omega) (by decide) (faultN_nn 2) F_law_bad T (c_lgood 3) c_lbad2 (fun _ _ _ _ _ h => h), m_law_bad, k_law_bad, b_law_bad⟩
  have c_lbent_no : Cal l.prog w K mg base 1 "_law_bent_lines" (fun _ _ _ _ => False) := ⟨_, _, _, F_law_bent_lines.ok (sp := fun _ _ _ _ => False) sc_law_bent_lines (fun _ _ _ _ h => h.elim) (fun _ _ _ _ _ _ _ _ _ h => h.elim), m_law_bent_lines, k_law_bent_lines, b_law_bent_lines⟩
  have c_lbent0 : Cal l.prog w K mg base 3 "_law_bent_lines" (spBentL (okN 0)) := ⟨_, _, _, ok_law_bent_lines (n := 2) (m := 1) (rk := fun _ => true) (ok := false) (by omega) (by omega) F_law_bent_lines T c_law_take c_law_of c_lbent_no (fun z => by cases z), m_law_bent_lines, k_law_bent_lines, b_law_bent_lines⟩
  have c_lbent1 : Cal l.prog w K mg base 4 "_law_bent_lines" (spBentL (okN 1)) := ⟨_, _, _, ok_law_bent_lines (n := 3) (m := 3) (rk := okN 0) (ok := true) (by omega) (by omega) F_law_bent_lines T c_law_take c_law_of c_lbent0 (fun _ _ _ _ _ h => h), m_law_bent_lines, k_law_bent_lines, b_law_bent_lines⟩
  have c_check : CalR l.prog w K mg base 14 "check_lines" (spChkX C_BadScript C_TooMany) := ⟨_, _, _, ok_check_linesX (by omega) (by omega) F_check_lines T c_every c_f3 (err_BadScript base) nc_BadScript nf_BadScript (err_TooMany base) nc_TooMany nf_TooMany, m_check_lines, k_check_lines, b_check_lines⟩
  have c_check0 : CalR l.prog w K mg base 14 "check_lines" (spChk0 K) := ⟨_, _, _, ok_check_lines0X (by omega) (by omega) F_check_lines T c_every0 c_fault0 (err_BadScript base) (err_TooMany base), m_check_lines, k_check_lines, b_check_lines⟩
  have mk_Script : Lg.MakR l.prog w K mg base 15 "Script" C_Script (spScrX C_Script C_BadScript C_TooMany) [] := ⟨_, _, _, [], mk_Script_init, ok_Script_initX (by omega) F_Script_init T rs gL tL c_check c_every, g_Script, b_Script_init, .nil⟩
  obtain ⟨itsK, kbK⟩ := FunD.kbindsD F_Script_init (ps := ["self", "lines"]) 1 ["lines"] (fun us _ ws => us ++ ws) (by simp) (fun r1 _ r3 => r1.append r3) (fun _ _ _ _ _ _ _ us its ws hu hi hw => match us, its, ws, hu, hi, hw with | [_], [_], [_], _, _, _ => ⟨_, rfl, rfl⟩)
  have mk_Script_lines : Lg.MakRK l.prog w K mg base 15 "Script" C_Script ["lines"] (fun us ws => us ++ ws) (spScrX C_Script C_BadScript C_TooMany) := ⟨_, _, _, _, mk_Script_init, ok_Script_initX (by omega) F_Script_init T rs gL tL c_check c_every, g_Script, kbK⟩
  obtain ⟨ds0, vd0, bd0⟩ := F_Script_init.binds1 (ps := ["self", "lines"]) 1 0 (by simp) rfl (fun _ _ _ _ _ _ _ us its hu hi => match us, its, hu, hi with | [_], [_], _, _ => ⟨_, rfl, rfl⟩)
  have mk_Script0 : Lg.MakR l.prog w K mg base 15 "Script" C_Script (spScrI0 K C_Script) [.ref de_Script_init] := ⟨_, _, _, ds0, mk_Script_init, ok_Script_init0X (by omega) F_Script_init T rs gL c_check0 c_every0, g_Script, bd0, vd0⟩
  have c_slines : C8.Met l.prog w K mg base 1 C_Script "lines" (spScrLinesG C_Script) [] := ⟨_, _, _, [], cls_Script, me_Script_lines, ok_Script_linesG F_Script_lines rs, b_Script_lines, .nil⟩
  have hW : WhyC l.prog w K mg base (.ref w_GroveError) (.ref w_Missing) (.ref w_NothingLeft) := ⟨⟨_, _, F_law_why, m_law_why, k_law_why, b_law_why⟩, gw_GroveError, gw_Missing, gw_NothingLeft, ⟨_, _, ok_law_field F_law_field, m_law_field, k_law_field, b_law_field⟩⟩
  have ek : ErrK K w_GroveError w_Missing w_NothingLeft C_BadScript C_TooMany := ⟨exm_BadScript, exm_TooMany, xfc_BadScript, xfc_TooMany, nc_BadScript, nf_BadScript, nc_TooMany, nf_TooMany⟩
  exact ok_law (LB := 10) (LE := 4) (LS := 15) (LA := 62) (by omega) (by omega) (by omega) (by omega) l_law c_law T TB hW ek c_law_bag c_law_names c_law_of c_law_lines c_lbent1 c_lbad3 (cal_alike F_law_alike T m_law_alike k_law_alike b_law_alike 61) mk_Script mk_Script_lines hde mk_Script0 c_slines
theorem walkT {l : PySem.W.OpenLaw} {q : Program} {loose : List Str} {XP : (Str → Option Value) → Heap → Prop} {YP : World → Heap → Prop} {d : DefRec} {K : Params → PySem.W.Frag} (hn : l.most = some 63) (hdf : d.params.defaults = [])
    (hY : ∀ (w : World) (h : Heap), YP w h → (K w.params).In h) (law : d.name = "law") (found : (PyProof.Rows.recsOf q).find? (fun e => e.name == ("law" : Str)) = some d)
    (F : ∀ (w : World) (mg : Str → Option Value) (fa : Addr) (h : Heap), (K w.params).In h → h.Ns mainGlobals mg → mg "law" = some (.ref fa) →
      ∃ (fd : FuncData) (c P : Addr), PySem.W.tabIn (K w.params) "law" = some (c, P) ∧ PySem.W.noTabs (K w.params) = true ∧ (∀ (s : Shared) (u : Value), BindsTo s fd ⟨[u], []⟩ [("_law_script", u)]) ∧
        ∀ base : Heap, (K w.params).In base → base.Ns mainGlobals mg → LamX.TabB base mg c P → FnOk l.prog w (K w.params) mg base CX0 101 fa fd ["_law_script"] (spLaw (K w.params) P)) :
    PySem.W.WalkO q loose XP YP l.row.toRowW d [] (fun f vs => PySem.call f vs) :=
  Rg.walk_tab (n := 63) (k := 101) (x := "_law_script") (sp := fun w => spLaw (K w.params)) hn (by decide) hdf ⟨rfl, by decide, by decide⟩ hY law found F fun w H P a ns hl hP hS => ⟨a, ns, rfl, hS, hl, hP, fun _ => rfl⟩
end Pf
theorem PySem.W.Fast.tw1753161563765526677 : True := trivial
theorem PySem.W.Fast.tw6639896753958155305 : True := trivial
theorem PySem.W.Fast.tw8247371560701155548 : True := trivial
theorem PySem.W.Fast.tw14847128746777384624 : True := trivial
theorem PySem.W.Fast.tw15268160110478620572 : True := trivial
theorem PySem.W.Fast.tw978016953952249329 : True := trivial
theorem PySem.W.Fast.tw6160578768170205950 : True := trivial
theorem PySem.W.Fast.tw14414295364715994930 : True := trivial
theorem PySem.W.Fast.tw5548701791530505960 : True := trivial
theorem PySem.W.Fast.tw4541664045446991589 : True := trivial
theorem PySem.W.Fast.tw17281604588038808986 : True := trivial
theorem PySem.W.Fast.tw18347136065285672883 : True := trivial
theorem PySem.W.Fast.tw10439495114452213425 : True := trivial
theorem PySem.W.Fast.tw6564565030193456442 : True := trivial
theorem PySem.W.Fast.tw13598438500850378568 : True := trivial
theorem PySem.W.Fast.tw1096037552748729577 : True := trivial
theorem PySem.W.Fast.tw14076289753969524381 : True := trivial
theorem PySem.W.Fast.tw5468062948283189551 : True := trivial
theorem PySem.W.Fast.tw9456568788572834419 : True := trivial
theorem PySem.W.Fast.tw808023833367872656 : True := trivial
theorem PySem.W.Fast.tw13730771871402469698 : True := trivial
theorem PySem.W.Fast.tw17149104819832902561 : True := trivial
theorem PySem.W.Fast.tw17584783243206998380 : True := trivial
theorem PySem.W.Fast.tw17446027014776958180 : True := trivial
theorem PySem.W.Fast.tw2805853346150068767 : True := trivial
theorem PySem.W.Fast.tw5601326343793498272 : True := trivial
theorem PySem.W.Fast.tw7394062389054362307 : True := trivial
theorem PySem.W.Fast.tw10421474102348641606 : True := trivial
theorem PySem.W.Fast.tw8331327728123197965 : True := trivial
theorem PySem.W.Fast.tw4429418529278305301 : True := trivial
theorem PySem.W.Fast.tw1110285216266353693 : True := trivial
theorem PySem.W.Fast.tw598848777806820092 : True := trivial
theorem PySem.W.Fast.tw8839358606214183113 : True := trivial
theorem PySem.W.Fast.tw1229733879329545620 : True := trivial
theorem PySem.W.Fast.tw2449919658254088762 : True := trivial
theorem PySem.W.Fast.tw7253761850315268357 : True := trivial
theorem PySem.W.Fast.tw13153464044728450448 : True := trivial
theorem PySem.W.Fast.tw4737477714543623164 : True := trivial
theorem PySem.W.Fast.tw10058155379295851589 : True := trivial
theorem PySem.W.Fast.tw10324324081717884904 : True := trivial
theorem PySem.W.Fast.tw5358159841618425161 : True := trivial
theorem PySem.W.Fast.tw1669309232328469804 : True := trivial
theorem PySem.W.Fast.tw12444767447665007822 : True := trivial
theorem PySem.W.Fast.tw4512010137406091555 : True := trivial
theorem PySem.W.Fast.tw5652472281972341914 : True := trivial
theorem PySem.W.Fast.tw11068253328485640066 : True := trivial
theorem PySem.W.Fast.tw661990306179426674 : True := trivial
theorem PySem.W.Fast.tw5009031993862807736 : True := trivial
theorem PySem.W.Fast.tw9125541445583243780 : True := trivial
theorem PySem.W.Fast.tw5557418359996504889 : True := trivial
theorem PySem.W.Fast.tw7311319497866825940 : True := trivial
theorem PySem.W.Fast.tw18000054372311168418 : True := trivial
theorem PySem.W.Fast.tw3617801604947186899 : True := trivial
theorem PySem.W.Fast.tw14497171469129402501 : True := trivial
theorem PySem.W.Fast.tw1703929715954476491 : True := trivial
theorem PySem.W.Fast.tw5611697856369926741 : True := trivial
theorem PySem.W.Fast.tw12192609584591406522 : True := trivial
theorem PySem.W.Fast.tw5015154817472520538 : True := trivial
theorem PySem.W.Fast.tw1742527674955512465 : True := trivial
theorem PySem.W.Fast.tw3148492236504159724 : True := trivial
theorem PySem.W.Fast.tw4223236023213442322 : True := trivial
theorem PySem.W.Fast.tw6801496764048970100 : True := trivial
theorem PySem.W.Fast.tw18297192481503691879 : True := trivial
theorem PySem.W.Fast.tw14086686025244205202 : True := trivial
theorem PySem.W.Fast.tw5912616578930338875 : True := trivial
theorem PySem.W.Fast.tw1153153709453823287 : True := trivial
theorem PySem.W.Fast.tw7494209236277145360 : True := trivial
theorem PySem.W.Fast.tw9957213151067020022 : True := trivial
theorem PySem.W.Fast.tw991366942947388760 : True := trivial
theorem PySem.W.Fast.tw10421317550950813532 : True := trivial
theorem PySem.W.Fast.tw13923585946839643842 : True := trivial
theorem PySem.W.Fast.tw2793849671074834599 : True := trivial
theorem PySem.W.Fast.tw5789774254924221543 : True := trivial
theorem PySem.W.Fast.tw9762196167905952694 : True := trivial
theorem PySem.W.Fast.tw7471339061496661407 : True := trivial
theorem PySem.W.Fast.tw1910728264040521150 : True := trivial
theorem PySem.W.Fast.tw13946928727853761494 : True := trivial
theorem PySem.W.Fast.tw4578829914393644049 : True := trivial
theorem PySem.W.Fast.tw4898877524890881372 : True := trivial
theorem PySem.W.Fast.tw14291002343273458561 : True := trivial
theorem PySem.W.Fast.tw15775342373648411085 : True := trivial
theorem PySem.W.Fast.tw7127980652513174199 : True := trivial
theorem PySem.W.Fast.tw14558029652181717456 : True := trivial
theorem PySem.W.Fast.tw6212777943809673146 : True := trivial
theorem PySem.W.Fast.tw8949718501169035025 : True := trivial
theorem PySem.W.Fast.tw12574391021459502928 : True := trivial
theorem PySem.W.Fast.tw892320340895399417 : True := trivial
theorem PySem.W.Fast.tw703492619272781924 : True := trivial
theorem PySem.W.Fast.tw11852500487505213003 : True := trivial
theorem PySem.W.Fast.tw5308767707196075700 : True := trivial
theorem PySem.W.Fast.tw8907995384205427328 : True := trivial
theorem PySem.W.Fast.tw15410101028566189130 : True := trivial
theorem PySem.W.Fast.tw6214268489050095595 : True := trivial
theorem PySem.W.Fast.tw7812795255392745177 : True := trivial
theorem PySem.W.Fast.tw7030408373603922280 : True := trivial
theorem PySem.W.Fast.tw12347962768949444692 : True := trivial
theorem PySem.W.Fast.tw9157351875306307895 : True := trivial
theorem PySem.W.Fast.tw2547628343471859178 : True := trivial
theorem PySem.W.Fast.tw4563234076676639652 : True := trivial
theorem PySem.W.Fast.tw348362391105298594 : True := trivial
theorem PySem.W.Fast.tw18281828770555456605 : True := trivial
theorem PySem.W.Fast.tw4239218059266083375 : True := trivial
theorem PySem.W.Fast.tw5676035153948931356 : True := trivial
theorem PySem.W.Fast.tw3460806146767963450 : True := trivial
theorem PySem.W.Fast.tw9334330203546681420 : True := trivial
theorem PySem.W.Fast.tw7505687300591282778 : True := trivial
theorem PySem.W.Fast.tw17598732944835620335 : True := trivial
theorem PySem.W.Fast.tw15730225911081459600 : True := trivial
theorem PySem.W.Fast.tw16637629861447305089 : True := trivial
theorem PySem.W.Fast.tw13588865226792935486 : True := trivial
theorem PySem.W.Fast.tw10653954002120507886 : True := trivial
theorem PySem.W.Fast.tw18007300154883695126 : True := trivial
theorem PySem.W.Fast.tw14199084313311891687 : True := trivial
theorem PySem.W.Fast.tw16584531491628771729 : True := trivial
theorem PySem.W.Fast.tw3415546582017608249 : True := trivial
theorem PySem.W.Fast.tw1515390357736886498 : True := trivial
theorem PySem.W.Fast.tw6355913942614578142 : True := trivial
theorem PySem.W.Fast.tw13322107274015969492 : True := trivial
theorem PySem.W.Fast.tw7217443103034982406 : True := trivial
theorem PySem.W.Fast.tw14632521578977253432 : True := trivial
theorem PySem.W.Fast.tw7060040646625036089 : True := trivial
theorem PySem.W.Fast.tw9450317179418079285 : True := trivial
theorem PySem.W.Fast.tw13320313656814082948 : True := trivial
theorem PySem.W.Fast.tw12908746926222771111 : True := trivial
theorem PySem.W.Fast.tw2343863168493404846 : True := trivial
theorem PySem.W.Fast.tw15029435693305486250 : True := trivial
theorem PySem.W.Fast.tw528612838033664039 : True := trivial
theorem PySem.W.Fast.tw4520599480275906050 : True := trivial
theorem PySem.W.Fast.tw14935011849281444571 : True := trivial
theorem PySem.W.Fast.tw16313826270845734008 : True := trivial
theorem PySem.W.Fast.tw5645459493380238225 : True := trivial
theorem PySem.W.Fast.tw17179040856197608560 : True := trivial
theorem PySem.W.Fast.tw8121282139944207593 : True := trivial
theorem PySem.W.Fast.tw11399555852725305229 : True := trivial
theorem PySem.W.Fast.tw7122932818008967641 : True := trivial
theorem PySem.W.Fast.tw17862920251719969033 : True := trivial
theorem PySem.W.Fast.tw2906019889535578248 : True := trivial
theorem PySem.W.Fast.tw1564175867185841302 : True := trivial
theorem PySem.W.Fast.tw2351511507331878539 : True := trivial
theorem PySem.W.Fast.tw6114279528224943412 : True := trivial
theorem PySem.W.Fast.tw4055478938271901716 : True := trivial
theorem PySem.W.Fast.tw8887675604663206986 : True := trivial
theorem PySem.W.Fast.tw2498029450486907970 : True := trivial
theorem PySem.W.Fast.tw14826232602584570499 : True := trivial
theorem PySem.W.Fast.tw14843151635008805309 : True := trivial
theorem PySem.W.Fast.tw14328160519679958524 : True := trivial
theorem PySem.W.Fast.tw2304024934139905771 : True := trivial
theorem PySem.W.Fast.tw339077381575109159 : True := trivial
theorem PySem.W.Fast.tw2457273185607048294 : True := trivial
theorem PySem.W.Fast.tw8983814380175281000 : True := trivial
theorem PySem.W.Fast.tw12513949341329995631 : True := trivial
theorem PySem.W.Fast.tw11958246531069420661 : True := trivial
theorem PySem.W.Fast.tw15358996541740431430 : True := trivial
theorem PySem.W.Fast.tw8476552889919316595 : True := trivial
theorem PySem.W.Fast.tw15184597583118578904 : True := trivial
theorem PySem.W.Fast.tw5613717660323799269 : True := trivial
theorem PySem.W.Fast.tw4072550562321244638 : True := trivial
theorem PySem.W.Fast.tw16277199507787645044 : True := trivial
theorem PySem.W.Fast.tw16239976529276286912 : True := trivial
theorem PySem.W.Fast.tw879688567393818785 : True := trivial
theorem PySem.W.Fast.tw9656367927465395897 : True := trivial
theorem PySem.W.Fast.tw16781494146168233937 : True := trivial
theorem PySem.W.Fast.tw6569301307926570303 : True := trivial
theorem PySem.W.Fast.tw3155886947069531907 : True := trivial
theorem PySem.W.Fast.tw5238853656947553166 : True := trivial
theorem PySem.W.Fast.tw15893786186891282400 : True := trivial
theorem PySem.W.Fast.tw3265633290543507850 : True := trivial
theorem PySem.W.Fast.tw15871861380073171218 : True := trivial
theorem PySem.W.Fast.tw4569995146480935199 : True := trivial
theorem PySem.W.Fast.tw12626186179258726400 : True := trivial
theorem PySem.W.Fast.tw651513192344981943 : True := trivial
theorem PySem.W.Fast.tw17706161193251728263 : True := trivial
theorem PySem.W.Fast.tw7804828753897527313 : True := trivial
theorem PySem.W.Fast.tw2730949601276774326 : True := trivial
theorem PySem.W.Fast.tw4797309372004434206 : True := trivial
theorem PySem.W.Fast.tw11704724299029603311 : True := trivial
theorem PySem.W.Fast.tw6700995085701935908 : True := trivial
theorem PySem.W.Fast.tw18302247042263708875 : True := trivial
theorem PySem.W.Fast.tw5991184557990391541 : True := trivial
theorem PySem.W.Fast.tw11776848923358320638 : True := trivial
theorem PySem.W.Fast.tw3251820933229552466 : True := trivial
theorem PySem.W.Fast.tw5458129219738269437 : True := trivial
theorem PySem.W.Fast.tw5017815440050639091 : True := trivial
theorem PySem.W.Fast.tw15638299331560731735 : True := trivial
theorem PySem.W.Fast.tw2665211062662229988 : True := trivial
theorem PySem.W.Fast.tw12303138784186158383 : True := trivial
theorem PySem.W.Fast.tw10977477113816722004 : True := trivial
theorem PySem.W.Fast.tw13593018916730139362 : True := trivial
theorem PySem.W.Fast.tw10702107098788234451 : True := trivial
theorem PySem.W.Fast.tw17531832782374958948 : True := trivial
theorem PySem.W.Fast.tw12417216467429617453 : True := trivial
theorem PySem.W.Fast.tw9099062540106280798 : True := trivial
theorem PySem.W.Fast.tw10710528874492545814 : True := trivial
theorem PySem.W.Fast.tw14638337941796441834 : True := trivial
theorem PySem.W.Fast.tw7311022694900843311 : True := trivial
theorem PySem.W.Fast.tw1705810595043934776 : True := trivial
theorem PySem.W.Fast.tw15026204391166331708 : True := trivial
theorem PySem.W.Fast.tw359486861576179938 : True := trivial
theorem PySem.W.Fast.tw7410621536155988294 : True := trivial
theorem PySem.W.Fast.tw2683507174478624250 : True := trivial
theorem PySem.W.Fast.tw16854242526053954026 : True := trivial
theorem PySem.W.Fast.tw15285313105452752942 : True := trivial
theorem PySem.W.Fast.tw997650774324696513 : True := trivial
theorem PySem.W.Fast.tw866187337097151173 : True := trivial
theorem PySem.W.Fast.tw9100823635823609804 : True := trivial
theorem PySem.W.Fast.tw11091139369574088375 : True := trivial
theorem PySem.W.Fast.tw342521170452796046 : True := trivial
theorem PySem.W.Fast.tw1996354543877494994 : True := trivial
theorem PySem.W.Fast.tw2039803339455139987 : True := trivial
theorem PySem.W.Fast.tw10247305341321680844 : True := trivial
theorem PySem.W.Fast.tw9751744369891165135 : True := trivial
theorem PySem.W.Fast.tw16321161676759107142 : True := trivial
theorem PySem.W.Fast.tw12848220097584509432 : True := trivial
theorem PySem.W.Fast.tw2187708583713685451 : True := trivial
theorem PySem.W.Fast.tw18284900167688896418 : True := trivial
theorem PySem.W.Fast.tw1748205518688530126 : True := trivial
theorem PySem.W.Fast.tw5656915946434111127 : True := trivial
theorem PySem.W.Fast.tw4819169090928849853 : True := trivial
theorem PySem.W.Fast.tw10889145524461899850 : True := trivial
theorem PySem.W.Fast.tw13563022154109179304 : True := trivial
theorem PySem.W.Fast.tw3408375080947699632 : True := trivial
theorem PySem.W.Fast.tw2338390883311615560 : True := trivial
theorem PySem.W.Fast.tw16817413349930133928 : True := trivial
theorem PySem.W.Fast.tw13885947939002294115 : True := trivial
theorem PySem.W.Fast.tw7538267091057423633 : True := trivial
theorem PySem.W.Fast.tw16847896233501117759 : True := trivial
theorem PySem.W.Fast.tw10428055939564647616 : True := trivial
theorem PySem.W.Fast.tw11418762012544019754 : True := trivial
theorem PySem.W.Fast.tw13415621325865685209 : True := trivial
theorem PySem.W.Fast.tw3055323763925491723 : True := trivial
theorem PySem.W.Fast.tw5875434618841198131 : True := trivial
theorem PySem.W.Fast.tw14978043458532729322 : True := trivial
theorem PySem.W.Fast.tw4090642472174603881 : True := trivial
theorem PySem.W.Fast.tw2394697636657712433 : True := trivial
theorem PySem.W.Fast.tw14605947329233482369 : True := trivial
theorem PySem.W.Fast.tw6202538092796548702 : True := trivial
theorem PySem.W.Fast.tw16460681371660317451 : True := trivial
theorem PySem.W.Fast.tw17069234189384161843 : True := trivial
theorem PySem.W.Fast.tw9994304532348118161 : True := trivial
theorem PySem.W.Fast.tw4187492540339092861 : True := trivial
theorem PySem.W.Fast.tw17508388063682659575 : True := trivial
theorem PySem.W.Fast.tw16190763228996970216 : True := trivial
theorem PySem.W.Fast.tw9461144258977328903 : True := trivial
theorem PySem.W.Fast.tw16767977862726571252 : True := trivial
theorem PySem.W.Fast.tw16352114812085780596 : True := trivial
theorem PySem.W.Fast.tw9805875143210315464 : True := trivial
theorem PySem.W.Fast.tw3749679484023781895 : True := trivial
theorem PySem.W.Fast.tw8132987855883557577 : True := trivial
theorem PySem.W.Fast.tw9475693926652035501 : True := trivial
theorem PySem.W.Fast.tw14630587041486375619 : True := trivial
theorem PySem.W.Fast.tw9096097036281739503 : True := trivial
theorem PySem.W.Fast.tw8752155942693805616 : True := trivial
theorem PySem.W.Fast.tw4046428487287105210 : True := trivial
theorem PySem.W.Fast.tw10802611705574968794 : True := trivial
theorem PySem.W.Fast.tw2848784637598335580 : True := trivial
theorem PySem.W.Fast.tw15142068294353924370 : True := trivial
theorem PySem.W.Fast.tw9348481618920919830 : True := trivial
theorem PySem.W.Fast.tw8644798018487418037 : True := trivial
theorem PySem.W.Fast.tw5632875895782968434 : True := trivial
theorem PySem.W.Fast.tw8559335754572141667 : True := trivial
theorem PySem.W.Fast.tw16554120969802890987 : True := trivial
theorem PySem.W.Fast.tw14990067371192050863 : True := trivial
theorem PySem.W.Fast.tw17039437499408951794 : True := trivial
theorem PySem.W.Fast.tw1672565593949380483 : True := trivial
theorem PySem.W.Fast.tw5118099216621645763 : True := trivial
theorem PySem.W.Fast.tw2364959097255391935 : True := trivial
theorem PySem.W.Fast.tw15433315738950662715 : True := trivial
theorem PySem.W.Fast.tw590361888543528285 : True := trivial
theorem PySem.W.Fast.tw7873552129083840595 : True := trivial
theorem PySem.W.Fast.tw11645163092848972929 : True := trivial
theorem PySem.W.Fast.tw6464144875523713286 : True := trivial
theorem PySem.W.Fast.tw3368325760747457556 : True := trivial
theorem PySem.W.Fast.tw11468330404980100480 : True := trivial
theorem PySem.W.Fast.tw947596413787092259 : True := trivial
theorem PySem.W.Fast.tw10406183670827898887 : True := trivial
theorem PySem.W.Fast.tw1549464155101700943 : True := trivial
theorem PySem.W.Fast.tw9794344375951716854 : True := trivial
theorem PySem.W.Fast.tw6362493389882041181 : True := trivial
theorem PySem.W.Fast.tw14921643766052599267 : True := trivial
theorem PySem.W.Fast.tw3764690284340040267 : True := trivial
theorem PySem.W.Fast.tw13142901034417100186 : True := trivial
theorem PySem.W.Fast.tw7121107037225095865 : True := trivial
theorem PySem.W.Fast.tw3110576389856889801 : True := trivial
theorem PySem.W.Fast.tw2148791297661342218 : True := trivial
theorem PySem.W.Fast.tw5823414992423837211 : True := trivial
theorem PySem.W.Fast.tw601804565491715209 : True := trivial
theorem PySem.W.Fast.tw17503894688764669514 : True := trivial
theorem PySem.W.Fast.tw17511597600878214165 : True := trivial
theorem PySem.W.Fast.tw1120658920335184513 : True := trivial
theorem PySem.W.Fast.tw9024647628577907246 : True := trivial
theorem PySem.W.Fast.tw1929903224977383776 : True := trivial
theorem PySem.W.Fast.tw18138601394353518082 : True := trivial
theorem PySem.W.Fast.tw16725106399405296218 : True := trivial
theorem PySem.W.Fast.tw8976162775914143639 : True := trivial
theorem PySem.W.Fast.tw14252987154918644229 : True := trivial
theorem PySem.W.Fast.tw3692787404168969607 : True := trivial
theorem PySem.W.Fast.tw6432620950612503700 : True := trivial
theorem PySem.W.Fast.tw1051795179270308836 : True := trivial
theorem PySem.W.Fast.tw12570462828757417570 : True := trivial
theorem PySem.W.Fast.tw7005444788346200612 : True := trivial
theorem PySem.W.Fast.tw3809683192979538917 : True := trivial
theorem PySem.W.Fast.tw7610060342817267625 : True := trivial
theorem PySem.W.Fast.tw2586430459029496335 : True := trivial
theorem PySem.W.Fast.tw9014567079533309404 : True := trivial
theorem PySem.W.Fast.tw15958250049042166980 : True := trivial
theorem PySem.W.Fast.tw10451420892347714477 : True := trivial
theorem PySem.W.Fast.tw7958525465209469642 : True := trivial
theorem PySem.W.Fast.tw9090428061183673414 : True := trivial
theorem PySem.W.Fast.tw1106472027012087360 : True := trivial
theorem PySem.W.Fast.tw10023347628339879636 : True := trivial
theorem PySem.W.Fast.tw4441356243559501683 : True := trivial
theorem PySem.W.Fast.tw13741135237742725883 : True := trivial
theorem PySem.W.Fast.tw11823620552658560934 : True := trivial
theorem PySem.W.Fast.tw14648317381049783275 : True := trivial
theorem PySem.W.Fast.tw11617053181141866969 : True := trivial
theorem PySem.W.Fast.tw14958731991968620804 : True := trivial
theorem PySem.W.Fast.tw2124051854485513064 : True := trivial
theorem PySem.W.Fast.tw10083025369883461361 : True := trivial
theorem PySem.W.Fast.tw12965072462612064217 : True := trivial
theorem PySem.W.Fast.tw1286999441144893788 : True := trivial
theorem PySem.W.Fast.tw5583395530575902773 : True := trivial
theorem PySem.W.Fast.tw1792035251424542490 : True := trivial
theorem PySem.W.Fast.tw18128425691689784080 : True := trivial
theorem PySem.W.Fast.tw9691087579301892593 : True := trivial
theorem PySem.W.Fast.tw1860696281697278359 : True := trivial
theorem PySem.W.Fast.tw12188191960413438772 : True := trivial
theorem PySem.W.Fast.tw6006073291785673088 : True := trivial
theorem PySem.W.Fast.tw6588979812158288223 : True := trivial
theorem PySem.W.Fast.tw3117577401610417593 : True := trivial
theorem PySem.W.Fast.tw971971437537107650 : True := trivial
theorem PySem.W.Fast.tw18010924439525796770 : True := trivial
theorem PySem.W.Fast.tw15396650837420167108 : True := trivial
theorem PySem.W.Fast.tw8947116835755949575 : True := trivial
theorem PySem.W.Fast.tw1095760450107575370 : True := trivial
theorem PySem.W.Fast.tw12415832928087561326 : True := trivial
theorem PySem.W.Fast.tw2158969678452915540 : True := trivial
theorem PySem.W.Fast.tw7543194423636107018 : True := trivial
theorem PySem.W.Fast.tw5929982330784981385 : True := trivial
theorem PySem.W.Fast.tw17717577500173678043 : True := trivial
theorem PySem.W.Fast.tw1844416391575831227 : True := trivial
theorem PySem.W.Fast.tw18118019730887015244 : True := trivial
theorem PySem.W.Fast.tw908708183348083945 : True := trivial
theorem PySem.W.Fast.tw6756722867362631933 : True := trivial
theorem PySem.W.Fast.tw12557087110098942868 : True := trivial
theorem PySem.W.Fast.tw11148748729077186258 : True := trivial
theorem PySem.W.Fast.tw18314491478852879602 : True := trivial
theorem PySem.W.Fast.tw14063769480831565360 : True := trivial
theorem PySem.W.Fast.tw8702977633188933122 : True := trivial
theorem PySem.W.Fast.tw16387109133041070607 : True := trivial
theorem PySem.W.Fast.tw10026296301229962112 : True := trivial
theorem PySem.W.Fast.tw5518241447176526069 : True := trivial
theorem PySem.W.Fast.tw15656544832577618185 : True := trivial
theorem PySem.W.Fast.tw7284094750720124205 : True := trivial
theorem PySem.W.Fast.tw17339733990865055687 : True := trivial
theorem PySem.W.Fast.tw931435550151260084 : True := trivial
theorem PySem.W.Fast.tw17941308007965148771 : True := trivial
theorem PySem.W.Fast.tw4752526865016857499 : True := trivial
theorem PySem.W.Fast.tw5109063716079228558 : True := trivial
theorem PySem.W.Fast.tw13400153614402818912 : True := trivial
theorem PySem.W.Fast.tw10110055204286842424 : True := trivial
theorem PySem.W.Fast.tw14423551024717171831 : True := trivial
theorem PySem.W.Fast.tw4615796559948767461 : True := trivial
theorem PySem.W.Fast.tw13966209002417444908 : True := trivial
theorem PySem.W.Fast.tw11871767614789097983 : True := trivial
theorem PySem.W.Fast.tw15550848572310790783 : True := trivial
theorem PySem.W.Fast.tw11526545135410178768 : True := trivial
theorem PySem.W.Fast.tw856634724417473583 : True := trivial
theorem PySem.W.Fast.tw2204762757635718677 : True := trivial
theorem PySem.W.Fast.tw14942710216380245028 : True := trivial
theorem PySem.W.Fast.tw16296356907977888723 : True := trivial
theorem PySem.W.Fast.tw16897756074956879424 : True := trivial
theorem PySem.W.Fast.tw4398716306070784408 : True := trivial
theorem PySem.W.Fast.tw6601778459110103864 : True := trivial
theorem PySem.W.Fast.tw828191938780613292 : True := trivial
theorem PySem.W.Fast.tw16066299956042247419 : True := trivial
theorem PySem.W.Fast.tw11359476160567197597 : True := trivial
theorem PySem.W.Fast.tw13101312253809315537 : True := trivial
theorem PySem.W.Fast.tw7969729758319323684 : True := trivial
theorem PySem.W.Fast.tw3662707098880424472 : True := trivial
theorem PySem.W.Fast.tw16540897631874109708 : True := trivial
theorem PySem.W.Fast.tw11477568888578622828 : True := trivial
theorem PySem.W.Fast.tw12381076084922833101 : True := trivial
theorem PySem.W.Fast.tw11200632894498497009 : True := trivial
theorem PySem.W.Fast.tw2413380815790730557 : True := trivial
theorem PySem.W.Fast.tw13689300770437828159 : True := trivial
theorem PySem.W.Fast.tw588840370092815177 : True := trivial
theorem PySem.W.Fast.tw18354771023125709340 : True := trivial
theorem PySem.W.Fast.tw3709506826157438323 : True := trivial
theorem PySem.W.Fast.tw4850692087815229310 : True := trivial
theorem PySem.W.Fast.tw2556350434861290995 : True := trivial
theorem PySem.W.Fast.tw2246288972179661186 : True := trivial
theorem PySem.W.Fast.tw13550631733832215645 : True := trivial
theorem PySem.W.Fast.tw15055440999616069113 : True := trivial
theorem PySem.W.Fast.tw11322489276550318647 : True := trivial
theorem PySem.W.Fast.tw8570016027733886772 : True := trivial
theorem PySem.W.Fast.tw3718997908576220329 : True := trivial
theorem PySem.W.Fast.tw14694874176494751612 : True := trivial
theorem PySem.W.Fast.tw17725258510476415615 : True := trivial
theorem PySem.W.Fast.tw8528799366401111308 : True := trivial
theorem PySem.W.Fast.tw5497775732715660309 : True := trivial
theorem PySem.W.Fast.tw15980507432143207660 : True := trivial
theorem PySem.W.Fast.tw8687987133346753039 : True := trivial
theorem PySem.W.Fast.tw13087669674216070134 : True := trivial
theorem PySem.W.Fast.tw16618477276282806961 : True := trivial
theorem PySem.W.Fast.tw3523955177979993412 : True := trivial
theorem PySem.W.Fast.tw985121774239559243 : True := trivial
theorem PySem.W.Fast.tw8486174382207384909 : True := trivial
theorem PySem.W.Fast.tw13324354220312019761 : True := trivial
theorem PySem.W.Fast.tw14395112741588434365 : True := trivial
theorem PySem.W.Fast.tw4023881669288467421 : True := trivial
theorem PySem.W.Fast.tw11232706873259285372 : True := trivial
theorem PySem.W.Fast.tw10768633899674662510 : True := trivial
theorem PySem.W.Fast.tw7651780959790196171 : True := trivial
theorem PySem.W.Fast.tw16348496048387897116 : True := trivial
theorem PySem.W.Fast.tw7750848361289756815 : True := trivial
theorem PySem.W.Fast.tw10917238246994814406 : True := trivial
theorem PySem.W.Fast.tw17106782555320509459 : True := trivial
theorem PySem.W.Fast.tw9833270216775846797 : True := trivial
theorem PySem.W.Fast.tw15286621858816118965 : True := trivial
theorem PySem.W.Fast.tw15562858012923816595 : True := trivial
theorem PySem.W.Fast.tw14945273637313283677 : True := trivial
theorem PySem.W.Fast.tw15918108636847634356 : True := trivial
theorem PySem.W.Fast.tw13580068694406848836 : True := trivial
theorem PySem.W.Fast.tw10168279260407169441 : True := trivial
theorem PySem.W.Fast.tw5980945181281255494 : True := trivial
theorem PySem.W.Fast.tw6917725080620985319 : True := trivial
theorem PySem.W.Fast.tw11604706429051742060 : True := trivial
theorem PySem.W.Fast.tw880740756701185577 : True := trivial
theorem PySem.W.Fast.tw5214645936331213483 : True := trivial
theorem PySem.W.Fast.tw1558858874864022612 : True := trivial
theorem PySem.W.Fast.tw11990949555073526598 : True := trivial
theorem PySem.W.Fast.tw2189742350792946082 : True := trivial
theorem PySem.W.Fast.tw5654924624234484666 : True := trivial
theorem PySem.W.Fast.tw9004823195501321863 : True := trivial
theorem PySem.W.Fast.tw8846734125802197815 : True := trivial
theorem PySem.W.Fast.tw4364078726896871920 : True := trivial
theorem PySem.W.Fast.tw6476049021001715622 : True := trivial
theorem PySem.W.Fast.tw8264554422675202276 : True := trivial
theorem PySem.W.Fast.tw14336141456464694782 : True := trivial
theorem PySem.W.Fast.tw16835626647302164270 : True := trivial
theorem PySem.W.Fast.tw10193043083381695903 : True := trivial
theorem PySem.W.Fast.tw16334359881982669618 : True := trivial
theorem PySem.W.Fast.tw14708243626602255221 : True := trivial
theorem PySem.W.Fast.tw9777925808270610987 : True := trivial
theorem PySem.W.Fast.tw16942003479145045434 : True := trivial
theorem PySem.W.Fast.tw15251706288534511016 : True := trivial
theorem PySem.W.Fast.tw10905677186889324113 : True := trivial
theorem PySem.W.Fast.tw9594460787989246203 : True := trivial
theorem PySem.W.Fast.tw9942414979819577284 : True := trivial
theorem PySem.W.Fast.tw17088282607069064578 : True := trivial
theorem PySem.W.Fast.tw14098851395834029649 : True := trivial
theorem PySem.W.Fast.tw14557054789946044334 : True := trivial
theorem PySem.W.Fast.tw15721402336629990141 : True := trivial
theorem PySem.W.Fast.tw2606963787286550329 : True := trivial
theorem PySem.W.Fast.tw14290563051805319783 : True := trivial
theorem PySem.W.Fast.tw299414007283139330 : True := trivial
theorem PySem.W.Fast.tw14897839160161549837 : True := trivial
theorem PySem.W.Fast.tw9297543013171075484 : True := trivial
theorem PySem.W.Fast.tw12067187467023181772 : True := trivial
theorem PySem.W.Fast.tw12101720986221275046 : True := trivial
theorem PySem.W.Fast.tw9527150151285579132 : True := trivial
theorem PySem.W.Fast.tw17192817268061697302 : True := trivial
theorem PySem.W.Fast.tw11892357063199766950 : True := trivial
theorem PySem.W.Fast.tw4727702776107905553 : True := trivial
theorem PySem.W.Fast.tw6083534756832195300 : True := trivial
theorem PySem.W.Fast.tw7653047040859239212 : True := trivial
theorem PySem.W.Fast.tw10772379980281771530 : True := trivial
theorem PySem.W.Fast.tw11584964185551022667 : True := trivial
theorem PySem.W.Fast.tw11243135472532073207 : True := trivial
theorem PySem.W.Fast.tw1473799492131839710 : True := trivial
theorem PySem.W.Fast.tw15396145645013203799 : True := trivial
theorem PySem.W.Fast.tw3027685844995894391 : True := trivial
theorem PySem.W.Fast.tw2073316008710482813 : True := trivial
theorem PySem.W.Fast.tw4383014757371203127 : True := trivial
theorem PySem.W.Fast.tw13026594111965440281 : True := trivial
theorem PySem.W.Fast.tw12033075354817131305 : True := trivial
theorem PySem.W.Fast.tw17944517376526085200 : True := trivial
theorem PySem.W.Fast.tw15618260593417618466 : True := trivial
theorem PySem.W.Fast.tw14589750808082782677 : True := trivial
theorem PySem.W.Fast.tw14840459195033943739 : True := trivial
theorem PySem.W.Fast.tw6763482203074750326 : True := trivial
theorem PySem.W.Fast.tw17421805643913039420 : True := trivial
theorem PySem.W.Fast.tw9462852853024448842 : True := trivial
theorem PySem.W.Fast.tw5800405185376291717 : True := trivial
theorem PySem.W.Fast.tw8174860514014953630 : True := trivial
theorem PySem.W.Fast.tw8977568593955527880 : True := trivial
theorem PySem.W.Fast.tw7687693793078470161 : True := trivial
theorem PySem.W.Fast.tw14814119375547426593 : True := trivial
theorem PySem.W.Fast.tw5221064053318794269 : True := trivial
theorem PySem.W.Fast.tw10229719885613456836 : True := trivial
theorem PySem.W.Fast.tw1689214922173276293 : True := trivial
theorem PySem.W.Fast.tw13449866218920400 : True := trivial
theorem PySem.W.Fast.tw10533304513533201296 : True := trivial
theorem PySem.W.Fast.tw12239364583066923794 : True := trivial
theorem PySem.W.Fast.tw2147489569472368761 : True := trivial
theorem PySem.W.Fast.tw9857069369259422983 : True := trivial
theorem PySem.W.Fast.tw14040650969186805911 : True := trivial
theorem PySem.W.Fast.tw4121453971842022440 : True := trivial
theorem PySem.W.Fast.tw13632266257710075446 : True := trivial
theorem PySem.W.Fast.tw5265612041682699072 : True := trivial
theorem PySem.W.Fast.tw15851310562276203367 : True := trivial
theorem PySem.W.Fast.tw3720701941390597298 : True := trivial
theorem PySem.W.Fast.tw8498784743802315035 : True := trivial
theorem PySem.W.Fast.tw16817830943965587424 : True := trivial
theorem PySem.W.Fast.tw2446744214122653780 : True := trivial
theorem PySem.W.Fast.tw14158436397510332182 : True := trivial
theorem PySem.W.Fast.tw10940937988456176545 : True := trivial
theorem PySem.W.Fast.tw3896185514551783320 : True := trivial
theorem PySem.W.Fast.tw17312824968827522822 : True := trivial
theorem PySem.W.Fast.tw7379952200879292701 : True := trivial
theorem PySem.W.Fast.tw14856249747372318220 : True := trivial
theorem PySem.W.Fast.tw12163905355556323968 : True := trivial
theorem PySem.W.Fast.tw13288940854354518772 : True := trivial
theorem PySem.W.Fast.tw1182518830834257509 : True := trivial
theorem PySem.W.Fast.tw1857988028558755037 : True := trivial
theorem PySem.W.Fast.tw9644886065277737206 : True := trivial
theorem PySem.W.Fast.tw6664488041186846523 : True := trivial
theorem PySem.W.Fast.tw17963849117183088725 : True := trivial
theorem PySem.W.Fast.tw7088950330072174348 : True := trivial
theorem PySem.W.Fast.tw6522363525719199698 : True := trivial
theorem PySem.W.Fast.tw12022487657977354724 : True := trivial
theorem PySem.W.Fast.tw14009677922363210600 : True := trivial
theorem PySem.W.Fast.tw1223219112976438033 : True := trivial
theorem PySem.W.Fast.tw2063315483975511696 : True := trivial
theorem PySem.W.Fast.tw17189007083476957689 : True := trivial
theorem PySem.W.Fast.tw3818663101510982215 : True := trivial
theorem PySem.W.Fast.tw4967975980422589134 : True := trivial
theorem PySem.W.Fast.tw4002128293570631981 : True := trivial
theorem PySem.W.Fast.tw867359896252733532 : True := trivial
theorem PySem.W.Fast.tw5608715742966073399 : True := trivial
theorem PySem.W.Fast.tw8970772781410185206 : True := trivial
theorem PySem.W.Fast.tw16994620395300914121 : True := trivial
theorem PySem.W.Fast.tw16252877338689383846 : True := trivial
theorem PySem.W.Fast.tw820221292416671601 : True := trivial
theorem PySem.W.Fast.tw16314351669008986329 : True := trivial
theorem PySem.W.Fast.tw15391114185881746073 : True := trivial
theorem PySem.W.Fast.tw13065771610042359131 : True := trivial
theorem PySem.W.Fast.tw9064367079339694229 : True := trivial
theorem PySem.W.Fast.tw5472593405828725510 : True := trivial
theorem PySem.W.Fast.tw1335205601138469405 : True := trivial
theorem PySem.W.Fast.tw1233850690233877062 : True := trivial
theorem PySem.W.Fast.tw2951932055861870405 : True := trivial
theorem PySem.W.Fast.tw13363605819927702819 : True := trivial
theorem PySem.W.Fast.tw6975282167205827062 : True := trivial
theorem PySem.W.Fast.tw16188628226000100740 : True := trivial
theorem PySem.W.Fast.tw18368496944264437358 : True := trivial
theorem PySem.W.Fast.tw8783762752079961244 : True := trivial
theorem PySem.W.Fast.tw346107916977236311 : True := trivial
theorem PySem.W.Fast.tw18371003968157513748 : True := trivial
theorem PySem.W.Fast.tw8321091711807846690 : True := trivial
theorem PySem.W.Fast.tw2766169110416666189 : True := trivial
theorem PySem.W.Fast.tw17334299751436639651 : True := trivial
theorem PySem.W.Fast.tw9792930816641749124 : True := trivial
theorem PySem.W.Fast.tw5240443363650746467 : True := trivial
theorem PySem.W.Fast.tw11161982158519336718 : True := trivial
theorem PySem.W.Fast.tw14228468661485707445 : True := trivial
theorem PySem.W.Fast.tw9984767235737786719 : True := trivial
theorem PySem.W.Fast.tw11253389727924359270 : True := trivial
theorem PySem.W.Fast.tw8242846580093300905 : True := trivial
theorem PySem.W.Fast.tw6493854717085742815 : True := trivial
theorem PySem.W.Fast.tw15915442850077920452 : True := trivial
theorem PySem.W.Fast.tw9793860160405925700 : True := trivial
theorem PySem.W.Fast.tw1598334995152009530 : True := trivial
theorem PySem.W.Fast.tw3178418089647846921 : True := trivial
theorem PySem.W.Fast.tw1949496102429173957 : True := trivial
theorem PySem.W.Fast.tw10038084733451611941 : True := trivial
theorem PySem.W.Fast.tw10412885993584537340 : True := trivial
theorem PySem.W.Fast.tw11267765596834161469 : True := trivial
theorem PySem.W.Fast.tw12457976935842818229 : True := trivial
theorem PySem.W.Fast.tw12004286256764617196 : True := trivial
theorem PySem.W.Fast.tw7540658025886153816 : True := trivial
theorem PySem.W.Fast.tw13118637174367465555 : True := trivial
theorem PySem.W.Fast.tw797439944530720199 : True := trivial
theorem PySem.W.Fast.tw3922692131210923902 : True := trivial
theorem PySem.W.Fast.tw6341265886961117044 : True := trivial
theorem PySem.W.Fast.tw9452085547916302023 : True := trivial
theorem PySem.W.Fast.tw4986439319119797576 : True := trivial
theorem PySem.W.Fast.tw6563568230380807859 : True := trivial
theorem PySem.W.Fast.tw9670106930916837787 : True := trivial
theorem PySem.W.Fast.tw5226490056150344813 : True := trivial
theorem PySem.W.Fast.tw5653206838372070666 : True := trivial
theorem PySem.W.Fast.tw18067578246838921052 : True := trivial
theorem PySem.W.Fast.tw9267126187998374731 : True := trivial
theorem PySem.W.Fast.tw5530000776400164967 : True := trivial
theorem PySem.W.Fast.tw6924426130257263894 : True := trivial
theorem PySem.W.Fast.tw11174121831053008128 : True := trivial
theorem PySem.W.Fast.tw17762395449100309005 : True := trivial
theorem PySem.W.Fast.tw15765137714216456875 : True := trivial
theorem PySem.W.Fast.tw8003691904059784847 : True := trivial
theorem PySem.W.Fast.tw10336123032560407046 : True := trivial
theorem PySem.W.Fast.tw15284104988233799022 : True := trivial
theorem PySem.W.Fast.tw15426552609372849983 : True := trivial
theorem PySem.W.Fast.tw9498942799060686465 : True := trivial
theorem PySem.W.Fast.tw2720943114013465870 : True := trivial
theorem PySem.W.Fast.tw2530449997291656720 : True := trivial
theorem PySem.W.Fast.tw16463440657407528083 : True := trivial
theorem PySem.W.Fast.tw6542507253689331514 : True := trivial
theorem PySem.W.Fast.tw14377815820069533363 : True := trivial
theorem PySem.W.Fast.tw15741031116923832086 : True := trivial
theorem PySem.W.Fast.tw1221790701260333151 : True := trivial
theorem PySem.W.Fast.tw14243274330087576391 : True := trivial
theorem PySem.W.Fast.tw10706823220906263178 : True := trivial
theorem PySem.W.Fast.tw8112714423434230747 : True := trivial
theorem PySem.W.Fast.tw5255172465915294388 : True := trivial
theorem PySem.W.Fast.tw9894192439913071727 : True := trivial
theorem PySem.W.Fast.tw16581821628788758571 : True := trivial
theorem PySem.W.Fast.tw8020466521562236586 : True := trivial
theorem PySem.W.Fast.tw8473761340234611964 : True := trivial
theorem PySem.W.Fast.tw17461113338553896524 : True := trivial
theorem PySem.W.Fast.tw16568926225503035490 : True := trivial
theorem PySem.W.Fast.tw6783256637555741055 : True := trivial
theorem PySem.W.Fast.tw6356095061977433147 : True := trivial
theorem PySem.W.Fast.tw276096897968959704 : True := trivial
theorem PySem.W.Fast.tw3368544092918917484 : True := trivial
theorem PySem.W.Fast.tw15145196511597081230 : True := trivial
theorem PySem.W.Fast.tw3032146176142776333 : True := trivial
theorem PySem.W.Fast.tw8138474023556094865 : True := trivial
theorem PySem.W.Fast.tw7833114034621004905 : True := trivial
theorem PySem.W.Fast.tw17693017328462771731 : True := trivial
theorem PySem.W.Fast.tw6107388528137745226 : True := trivial
theorem PySem.W.Fast.tw1403695032376102482 : True := trivial
theorem PySem.W.Fast.tw7630046316709700380 : True := trivial
theorem PySem.W.Fast.tw16549140919648529810 : True := trivial
theorem PySem.W.Fast.tw14514014763645895030 : True := trivial
theorem PySem.W.Fast.tw12993456022076920360 : True := trivial
theorem PySem.W.Fast.tw7239186341481694049 : True := trivial
theorem PySem.W.Fast.tw9906173232454471038 : True := trivial
theorem PySem.W.Fast.tw11331939021026918580 : True := trivial
theorem PySem.W.Fast.tw16282703408948252823 : True := trivial
theorem PySem.W.Fast.tw11087947279576394060 : True := trivial
theorem PySem.W.Fast.tw13708003767789154305 : True := trivial
theorem PySem.W.Fast.tw16399191906968495635 : True := trivial
theorem PySem.W.Fast.tw9000041329608658821 : True := trivial
theorem PySem.W.Fast.tw17459564945880268489 : True := trivial
theorem PySem.W.Fast.tw3988745567908303712 : True := trivial
theorem PySem.W.Fast.tw16652020191257333553 : True := trivial
theorem PySem.W.Fast.tw10640416783274128687 : True := trivial
theorem PySem.W.Fast.tw18043023905669813018 : True := trivial
theorem PySem.W.Fast.tw4072664083443350883 : True := trivial
theorem PySem.W.Fast.tw9376303076115570511 : True := trivial
theorem PySem.W.Fast.tw948976222770162376 : True := trivial
theorem PySem.W.Fast.tw10327332477798909094 : True := trivial
theorem PySem.W.Fast.tw6719043270410359069 : True := trivial
theorem PySem.W.Fast.tw14420297786636978205 : True := trivial
theorem PySem.W.Fast.tw16556961524853348115 : True := trivial
theorem PySem.W.Fast.tw7898230230659145426 : True := trivial
theorem PySem.W.Fast.tw9004524798807725187 : True := trivial
theorem PySem.W.Fast.tw12554760758998101487 : True := trivial
theorem PySem.W.Fast.tw5460206970016891038 : True := trivial
theorem PySem.W.Fast.tw5794749456351536660 : True := trivial
theorem PySem.W.Fast.tw7502437979083490843 : True := trivial
theorem PySem.W.Fast.tw7500521831415809539 : True := trivial
theorem PySem.W.Fast.tw11957148216378208705 : True := trivial
theorem PySem.W.Fast.tw7715641845006052289 : True := trivial
theorem PySem.W.Fast.tw8321615464214771347 : True := trivial
theorem PySem.W.Fast.tw8995255446025655633 : True := trivial
theorem PySem.W.Fast.tw4871799054445204120 : True := trivial
theorem PySem.W.Fast.tw11841163476238482247 : True := trivial
theorem PySem.W.Fast.tw18137624002935072924 : True := trivial
theorem PySem.W.Fast.tw12823599919923042384 : True := trivial
theorem PySem.W.Fast.tw13796670796071464060 : True := trivial
theorem PySem.W.Fast.tw5175506479899518263 : True := trivial
theorem PySem.W.Fast.tw12283881786914167808 : True := trivial
theorem PySem.W.Fast.tw6683014551314669563 : True := trivial
theorem PySem.W.Fast.tw2657327600701872040 : True := trivial
theorem PySem.W.Fast.tw8012408146494220422 : True := trivial
theorem PySem.W.Fast.tw14183892389371482023 : True := trivial
theorem PySem.W.Fast.tw7097008011868359773 : True := trivial
theorem PySem.W.Fast.tw18242557868032659126 : True := trivial
theorem PySem.W.Fast.tw9024532801280215939 : True := trivial
theorem PySem.W.Fast.tw12694478188022898839 : True := trivial
theorem PySem.W.Fast.tw8043970977975831603 : True := trivial
theorem PySem.W.Fast.tw11875966066176316048 : True := trivial
theorem PySem.W.Fast.tw7292137968997487466 : True := trivial
theorem PySem.W.Fast.tw14444474550406414423 : True := trivial
theorem PySem.W.Fast.tw1939584248593434126 : True := trivial
theorem PySem.W.Fast.tw5031314404567135108 : True := trivial
theorem PySem.W.Fast.tw9449764784963461922 : True := trivial
theorem PySem.W.Fast.tw13262319446597658483 : True := trivial
theorem PySem.W.Fast.tw13282594352390997803 : True := trivial
theorem PySem.W.Fast.tw16658952448003502661 : True := trivial
theorem PySem.W.Fast.tw5987126254043471382 : True := trivial
theorem PySem.W.Fast.tw15512789276458617479 : True := trivial
theorem PySem.W.Fast.tw3310739183714826008 : True := trivial
theorem PySem.W.Fast.tw6641857598554004371 : True := trivial
theorem PySem.W.Fast.tw2688940967133876600 : True := trivial
theorem PySem.W.Fast.tw11066441969065182591 : True := trivial
theorem PySem.W.Fast.tw3977093400756274206 : True := trivial
theorem PySem.W.Fast.tw9783726892573100744 : True := trivial
theorem PySem.W.Fast.tw2908862240674685453 : True := trivial
theorem PySem.W.Fast.tw1710761411807854224 : True := trivial
theorem PySem.W.Fast.tw13550808598804878461 : True := trivial
theorem PySem.W.Fast.tw1422533096989335897 : True := trivial
theorem PySem.W.Fast.tw1248186253291862245 : True := trivial
theorem PySem.W.Fast.tw2130323448705381572 : True := trivial
theorem PySem.W.Fast.tw13563449957226332379 : True := trivial
theorem PySem.W.Fast.tw8234781051747813753 : True := trivial
theorem PySem.W.Fast.tw7591402728814080424 : True := trivial
theorem PySem.W.Fast.tw8245348193282941909 : True := trivial
theorem PySem.W.Fast.tw4351643143048613419 : True := trivial
theorem PySem.W.Fast.tw15273632026717919928 : True := trivial
theorem PySem.W.Fast.tw18203412133033919666 : True := trivial
theorem PySem.W.Fast.tw4458050226638724317 : True := trivial
theorem PySem.W.Fast.tw4985815078130420864 : True := trivial
theorem PySem.W.Fast.tw2072233892903158366 : True := trivial
theorem PySem.W.Fast.tw675233010495377151 : True := trivial
theorem PySem.W.Fast.tw2761972379349336507 : True := trivial
theorem PySem.W.Fast.tw7729667225014556698 : True := trivial
theorem PySem.W.Fast.tw9251088790273989259 : True := trivial
theorem PySem.W.Fast.tw14036138245121121081 : True := trivial
theorem PySem.W.Fast.tw17666235665351514572 : True := trivial
theorem PySem.W.Fast.tw8616943315926503535 : True := trivial
theorem PySem.W.Fast.tw7714542670929223082 : True := trivial
theorem PySem.W.Fast.tw11947383535216063404 : True := trivial
theorem PySem.W.Fast.tw4751217061409709103 : True := trivial
theorem PySem.W.Fast.tw3515397300908421621 : True := trivial
theorem PySem.W.Fast.tw14529615753506512933 : True := trivial
theorem PySem.W.Fast.tw13350004689454578339 : True := trivial
theorem PySem.W.Fast.tw13219143287392800568 : True := trivial
theorem PySem.W.Fast.tw3349494697307741252 : True := trivial
theorem PySem.W.Fast.tw8797483777970413153 : True := trivial
theorem PySem.W.Fast.tw6300828856378628680 : True := trivial
theorem PySem.W.Fast.tw10847363738729242088 : True := trivial
theorem PySem.W.Fast.tw16753632761069818204 : True := trivial
theorem PySem.W.Fast.tw15958656554412939542 : True := trivial
theorem PySem.W.Fast.tw1723539360662741468 : True := trivial
theorem PySem.W.Fast.tw4242752145159660630 : True := trivial
theorem PySem.W.Fast.tw13205726174955846124 : True := trivial
theorem PySem.W.Fast.tw15817783369062392145 : True := trivial
theorem PySem.W.Fast.tw17241799394429628748 : True := trivial
theorem PySem.W.Fast.tw12670980485979621479 : True := trivial
theorem PySem.W.Fast.tw8161940619676016500 : True := trivial
theorem PySem.W.Fast.tw10800758096625458533 : True := trivial
theorem PySem.W.Fast.tw6282933381832437658 : True := trivial
theorem PySem.W.Fast.tw12308739060123004827 : True := trivial
theorem PySem.W.Fast.tw12769059012854456756 : True := trivial
theorem PySem.W.Fast.tw17446777358448945132 : True := trivial
theorem PySem.W.Fast.tw11756388085467905913 : True := trivial
theorem PySem.W.Fast.tw171276908161615890 : True := trivial
theorem PySem.W.Fast.tw10383348167710354291 : True := trivial
theorem PySem.W.Fast.tw12916130000378310923 : True := trivial
theorem PySem.W.Fast.tw15545298218464376764 : True := trivial
theorem PySem.W.Fast.tw3190557370119265501 : True := trivial
theorem PySem.W.Fast.tw4278415649350644987 : True := trivial
theorem PySem.W.Fast.tw11578555157413778602 : True := trivial
theorem PySem.W.Fast.tw1693773011681288088 : True := trivial
theorem PySem.W.Fast.tw4453575820182755788 : True := trivial
theorem PySem.W.Fast.tw3937621031046635398 : True := trivial
theorem PySem.W.Fast.tw600783261423256829 : True := trivial
theorem PySem.W.Fast.tw5838610324484097506 : True := trivial
theorem PySem.W.Fast.tw3626841243849359608 : True := trivial
theorem PySem.W.Fast.tw12002114308322987183 : True := trivial
theorem PySem.W.Fast.tw110120984035876602 : True := trivial
theorem PySem.W.Fast.tw4158659280243936136 : True := trivial
theorem PySem.W.Fast.tw14635983704368452149 : True := trivial
theorem PySem.W.Fast.tw16793725622534955803 : True := trivial
theorem PySem.W.Fast.tw5419835029536858413 : True := trivial
theorem PySem.W.Fast.tw9928884951653834296 : True := trivial
theorem PySem.W.Fast.tw15642764647537582979 : True := trivial
theorem PySem.W.Fast.tw1055210148137582023 : True := trivial
theorem PySem.W.Fast.tw153448138538754703 : True := trivial
theorem PySem.W.Fast.tw9177849287086671779 : True := trivial
theorem PySem.W.Fast.tw15789481194237713238 : True := trivial
theorem PySem.W.Fast.tw1130431856519153650 : True := trivial
theorem PySem.W.Fast.tw7362204728393992774 : True := trivial
theorem PySem.W.Fast.tw2585699129507811174 : True := trivial
theorem PySem.W.Fast.tw11801730288696672769 : True := trivial
theorem PySem.W.Fast.tw17352494945839582088 : True := trivial
theorem PySem.W.Fast.tw12413918710460395127 : True := trivial
theorem PySem.W.Fast.tw15621313871047121931 : True := trivial
theorem PySem.W.Fast.tw10988692757766201271 : True := trivial
theorem PySem.W.Fast.tw13869803690877369117 : True := trivial
theorem PySem.W.Fast.tw305473499100259103 : True := trivial
theorem PySem.W.Fast.tw1302826865668512934 : True := trivial
theorem PySem.W.Fast.tw9122015127797583070 : True := trivial
theorem PySem.W.Fast.tw5363991948522710529 : True := trivial
theorem PySem.W.Fast.tw11775005774092973244 : True := trivial
theorem PySem.W.Fast.tw13573730051729914650 : True := trivial
theorem PySem.W.Fast.tw6265714097000460583 : True := trivial
theorem PySem.W.Fast.tw10564632445224406630 : True := trivial
theorem PySem.W.Fast.tw12079124134438864921 : True := trivial
theorem PySem.W.Fast.tw17871866659196662044 : True := trivial
theorem PySem.W.Fast.tw14458336942095250576 : True := trivial
theorem PySem.W.Fast.tw17701711660294542994 : True := trivial
theorem PySem.W.Fast.tw13826865749074766794 : True := trivial
theorem PySem.W.Fast.tw14616162377604789654 : True := trivial
theorem PySem.W.Fast.tw15673825133422752328 : True := trivial
theorem PySem.W.Fast.tw2604303100753932612 : True := trivial
theorem PySem.W.Fast.tw8795663365454435318 : True := trivial
theorem PySem.W.Fast.tw2675075324868229973 : True := trivial
theorem PySem.W.Fast.tw16450133267054733701 : True := trivial
theorem PySem.W.Fast.tw11132678075801222511 : True := trivial
theorem PySem.W.Fast.tw1627988572421241921 : True := trivial
theorem PySem.W.Fast.tw13125342332693236064 : True := trivial
theorem PySem.W.Fast.tw11299872124137400803 : True := trivial
theorem PySem.W.Fast.tw7562376832021962394 : True := trivial
theorem PySem.W.Fast.tw10387476457322307063 : True := trivial
theorem PySem.W.Fast.tw13835902934998763688 : True := trivial
theorem PySem.W.Fast.tw11739222915623276328 : True := trivial
theorem PySem.W.Fast.tw4781649176495496772 : True := trivial
theorem PySem.W.Fast.tw9422377368387348989 : True := trivial
theorem PySem.W.Fast.tw2787692291303175924 : True := trivial
theorem PySem.W.Fast.tw16493649456293209207 : True := trivial
theorem PySem.W.Fast.tw5881158008713526403 : True := trivial
theorem PySem.W.Fast.tw15200511741550498945 : True := trivial
theorem PySem.W.Fast.tw10708866891932641968 : True := trivial
theorem PySem.W.Fast.tw1027697538927401712 : True := trivial
theorem PySem.W.Fast.tw12033963855513190170 : True := trivial
theorem PySem.W.Fast.tw11404032042619064545 : True := trivial
theorem PySem.W.Fast.tw13763464787971110267 : True := trivial
theorem PySem.W.Fast.tw3838665089736100647 : True := trivial
theorem PySem.W.Fast.tw14369957329108253013 : True := trivial
theorem PySem.W.Fast.tw14914322765741459456 : True := trivial
theorem PySem.W.Fast.tw6963385284222263968 : True := trivial
theorem PySem.W.Fast.tw9573409809818122490 : True := trivial
theorem PySem.W.Fast.tw8953983741599786985 : True := trivial
theorem PySem.W.Fast.tw9756067609610167104 : True := trivial
theorem PySem.W.Fast.tw13111774310212300950 : True := trivial
theorem PySem.W.Fast.tw17416766526895315508 : True := trivial
theorem PySem.W.Fast.tw4922467040013285381 : True := trivial
theorem PySem.W.Fast.tw12842224106076644674 : True := trivial
theorem PySem.W.Fast.tw11116726533009293740 : True := trivial
theorem PySem.W.Fast.tw11653660116536441626 : True := trivial
theorem PySem.W.Fast.tw12012744132656169156 : True := trivial
theorem PySem.W.Fast.tw17666338245472266987 : True := trivial
theorem PySem.W.Fast.tw2012887716471407497 : True := trivial
theorem PySem.W.Fast.tw3484616409903282475 : True := trivial
theorem PySem.W.Fast.tw17075139218743870048 : True := trivial
theorem PySem.W.Fast.tw10364415033963535166 : True := trivial
theorem PySem.W.Fast.tw12091367079613780859 : True := trivial
theorem PySem.W.Fast.tw899008632561803273 : True := trivial
theorem PySem.W.Fast.tw4020026088639747764 : True := trivial
theorem PySem.W.Fast.tw941363519142600412 : True := trivial
theorem PySem.W.Fast.tw14254610169331407629 : True := trivial
theorem PySem.W.Fast.tw14992091492054373947 : True := trivial
theorem PySem.W.Fast.tw14298556120483570148 : True := trivial
theorem PySem.W.Fast.tw1808337412800969012 : True := trivial
theorem PySem.W.Fast.tw13855645822793921235 : True := trivial
theorem PySem.W.Fast.tw13001263657741304673 : True := trivial
theorem PySem.W.Fast.tw11208374286440744451 : True := trivial
theorem PySem.W.Fast.tw9781658990118485275 : True := trivial
theorem PySem.W.Fast.tw11974132127492465769 : True := trivial
theorem PySem.W.Fast.tw9029452763265090296 : True := trivial
theorem PySem.W.Fast.tw17820347740294393316 : True := trivial
theorem PySem.W.Fast.tw5952633788333319483 : True := trivial
theorem PySem.W.Fast.tw16151966507931033032 : True := trivial
theorem PySem.W.Fast.tw8743778288126638944 : True := trivial
theorem PySem.W.Fast.tw8177225222875544447 : True := trivial
theorem PySem.W.Fast.tw13080386684866752529 : True := trivial
theorem PySem.W.Fast.tw14141824779352161633 : True := trivial
theorem PySem.W.Fast.tw3000774987585314641 : True := trivial
theorem PySem.W.Fast.tw12249318046282884675 : True := trivial
theorem PySem.W.Fast.tw15184464132026965468 : True := trivial
theorem PySem.W.Fast.tw17082234152825220657 : True := trivial
theorem PySem.W.Fast.tw16295736323394513391 : True := trivial
theorem PySem.W.Fast.tw9062111888869102563 : True := trivial
theorem PySem.W.Fast.tw8339218920905280448 : True := trivial
theorem PySem.W.Fast.tw16400077494907221985 : True := trivial
theorem PySem.W.Fast.tw11514429580518567543 : True := trivial
theorem PySem.W.Fast.tw15521291457719201042 : True := trivial
theorem PySem.W.Fast.tw2035400076757917664 : True := trivial
theorem PySem.W.Fast.tw6092389311265417129 : True := trivial
theorem PySem.W.Fast.tw13792434993234644264 : True := trivial
theorem PySem.W.Fast.tw247512365861448435 : True := trivial
theorem PySem.W.Fast.tw13518567942630174712 : True := trivial
theorem PySem.W.Fast.tw1756712967939195171 : True := trivial
theorem PySem.W.Fast.tw14172662936963738924 : True := trivial
theorem PySem.W.Fast.tw17748042094927289417 : True := trivial
theorem PySem.W.Fast.tw10069418892661146930 : True := trivial
theorem PySem.W.Fast.tw11081036601268291536 : True := trivial
theorem PySem.W.Fast.tw13827625716798748936 : True := trivial
theorem PySem.W.Fast.tw572851965346206781 : True := trivial
theorem PySem.W.Fast.tw9258958397431127809 : True := trivial
theorem PySem.W.Fast.tw1910840869458392687 : True := trivial
theorem PySem.W.Fast.tw9266826120000364699 : True := trivial
theorem PySem.W.Fast.tw8895139740503635723 : True := trivial
theorem PySem.W.Fast.tw5322936426074866850 : True := trivial
theorem PySem.W.Fast.tw8818231408555120252 : True := trivial
theorem PySem.W.Fast.tw10980094849685076201 : True := trivial
theorem PySem.W.Fast.tw12998686696694389891 : True := trivial
theorem PySem.W.Fast.tw15799493831740437235 : True := trivial
theorem PySem.W.Fast.tw11670581773776657188 : True := trivial
theorem PySem.W.Fast.tw4655061803785411121 : True := trivial
theorem PySem.W.Fast.tw3170219468568586843 : True := trivial
theorem PySem.W.Fast.tw2380927491305464767 : True := trivial
theorem PySem.W.Fast.tw4677286551098118043 : True := trivial
theorem PySem.W.Fast.tw15146376109510977141 : True := trivial
theorem PySem.W.Fast.tw12475178181557281242 : True := trivial
theorem PySem.W.Fast.tw10956157883164228461 : True := trivial
theorem PySem.W.Fast.tw3644152269909324983 : True := trivial
theorem PySem.W.Fast.tw16572431257126620998 : True := trivial
theorem PySem.W.Fast.tw8065166155253166661 : True := trivial
theorem PySem.W.Fast.tw3734977541169269251 : True := trivial
theorem PySem.W.Fast.tw16704544524214830649 : True := trivial
theorem PySem.W.Fast.tw15806741100007783827 : True := trivial
theorem PySem.W.Fast.tw728704930780573493 : True := trivial
theorem PySem.W.Fast.tw12187430934276529074 : True := trivial
theorem PySem.W.Fast.tw10198500153985009493 : True := trivial
theorem PySem.W.Fast.tw8556454827076855890 : True := trivial
theorem PySem.W.Fast.tw7823247274066051943 : True := trivial
theorem PySem.W.Fast.tw10444591498373282370 : True := trivial
theorem PySem.W.Fast.tw6034671088283449669 : True := trivial
theorem PySem.W.Fast.tw7255145837488468822 : True := trivial
theorem PySem.W.Fast.tw15521456597854739388 : True := trivial
theorem PySem.W.Fast.tw9735534633451611954 : True := trivial
theorem PySem.W.Fast.tw1929013266545219642 : True := trivial
theorem PySem.W.Fast.tw6439999842724242866 : True := trivial
theorem PySem.W.Fast.tw18379405144850667185 : True := trivial
theorem PySem.W.Fast.tw458960682024441939 : True := trivial
theorem PySem.W.Fast.tw10296821442445257257 : True := trivial
theorem PySem.W.Fast.tw15122927617999629448 : True := trivial
theorem PySem.W.Fast.tw14720835138052156699 : True := trivial
theorem PySem.W.Fast.tw11141902624279472742 : True := trivial
theorem PySem.W.Fast.tw8908648190301795326 : True := trivial
theorem PySem.W.Fast.tw16060139650075093576 : True := trivial
theorem PySem.W.Fast.tw14186654238734951375 : True := trivial
theorem PySem.W.Fast.tw7773336391232951300 : True := trivial
theorem PySem.W.Fast.tw17032365631553520231 : True := trivial
theorem PySem.W.Fast.tw10370713863084668156 : True := trivial
theorem PySem.W.Fast.tw4161032686441754014 : True := trivial
theorem PySem.W.Fast.tw16165256850476162675 : True := trivial
theorem PySem.W.Fast.tw17610328173444428611 : True := trivial
theorem PySem.W.Fast.tw1226622265760095984 : True := trivial
theorem PySem.W.Fast.tw17366086183445212221 : True := trivial
theorem PySem.W.Fast.tw15780550744135720011 : True := trivial
theorem PySem.W.Fast.tw13178991741024107343 : True := trivial
theorem PySem.W.Fast.tw6995690215190216180 : True := trivial
theorem PySem.W.Fast.tw264456010649790103 : True := trivial
theorem PySem.W.Fast.tw3447054139444123318 : True := trivial
theorem PySem.W.Fast.tw12264529780590531577 : True := trivial
theorem PySem.W.Fast.tw15652675442528831130 : True := trivial
theorem PySem.W.Fast.tw12522637950768704389 : True := trivial
theorem PySem.W.Fast.tw15561043011851521594 : True := trivial
theorem PySem.W.Fast.tw1307359926402869634 : True := trivial
theorem PySem.W.Fast.tw15140061751044467314 : True := trivial
theorem PySem.W.Fast.tw2108766152844913945 : True := trivial
theorem PySem.W.Fast.tw3609774847164416211 : True := trivial
theorem PySem.W.Fast.tw8258563768840673973 : True := trivial
theorem PySem.W.Fast.tw8079021403105198238 : True := trivial
theorem PySem.W.Fast.tw15511430685287979624 : True := trivial
theorem PySem.W.Fast.tw476473786485319269 : True := trivial
theorem PySem.W.Fast.tw15026187518416033216 : True := trivial
theorem PySem.W.Fast.tw16614510776009416193 : True := trivial
theorem PySem.W.Fast.tw1044498778222536074 : True := trivial
theorem PySem.W.Fast.tw8060158576463719542 : True := trivial
theorem PySem.W.Fast.tw6682196771205900499 : True := trivial
theorem PySem.W.Fast.tw10687139153795213895 : True := trivial
theorem PySem.W.Fast.tw1055546733230218896 : True := trivial
theorem PySem.W.Fast.tw6823285122858737277 : True := trivial
theorem PySem.W.Fast.tw93780734584092431 : True := trivial
theorem PySem.W.Fast.tw5995253580122305166 : True := trivial
theorem PySem.W.Fast.tw1946090914742908216 : True := trivial
theorem PySem.W.Fast.tw4490437397049593533 : True := trivial
theorem PySem.W.Fast.tw14892390009842953944 : True := trivial
theorem PySem.W.Fast.tw5442570218503621693 : True := trivial
theorem PySem.W.Fast.tw11241824338071071606 : True := trivial
theorem PySem.W.Fast.tw6419339903051275565 : True := trivial
theorem PySem.W.Fast.tw12390296827345664366 : True := trivial
theorem PySem.W.Fast.tw3170220978008710981 : True := trivial
theorem PySem.W.Fast.tw4213506904394797867 : True := trivial
theorem PySem.W.Fast.tw854899299109857698 : True := trivial
theorem PySem.W.Fast.tw17358081313249730875 : True := trivial
theorem PySem.W.Fast.tw18044192463602168744 : True := trivial
theorem PySem.W.Fast.tw408944268158077719 : True := trivial
theorem PySem.W.Fast.tw4093424004651875244 : True := trivial
theorem PySem.W.Fast.tw2465603589981435545 : True := trivial
theorem PySem.W.Fast.tw12700544529236270496 : True := trivial
theorem PySem.W.Fast.tw14190284770745986722 : True := trivial
theorem PySem.W.Fast.tw15414883390575529749 : True := trivial
theorem PySem.W.Fast.tw2296240286691386257 : True := trivial
theorem PySem.W.Fast.tw7835118663230622290 : True := trivial
theorem PySem.W.Fast.tw3978120249317496477 : True := trivial
theorem PySem.W.Fast.tw4898752054881318719 : True := trivial
theorem PySem.W.Fast.tw7985978902691848325 : True := trivial
theorem PySem.W.Fast.tw14267331130750858890 : True := trivial
theorem PySem.W.Fast.tw9812545331623250198 : True := trivial
theorem PySem.W.Fast.tw8720939079123661733 : True := trivial
theorem PySem.W.Fast.tw15903901336493062942 : True := trivial
theorem PySem.W.Fast.tw2196910127211429896 : True := trivial
theorem PySem.W.Fast.tw12205682871021172970 : True := trivial
theorem PySem.W.Fast.tw14685588061609311369 : True := trivial
theorem PySem.W.Fast.tw3336415279019962415 : True := trivial
theorem PySem.W.Fast.tw5601862834115559279 : True := trivial
theorem PySem.W.Fast.tw10813039257970997161 : True := trivial
theorem PySem.W.Fast.tw5939691348614119862 : True := trivial
theorem PySem.W.Fast.tw15150498218818160095 : True := trivial
theorem PySem.W.Fast.tw7100581610620631403 : True := trivial
theorem PySem.W.Fast.tw9934421532421128732 : True := trivial
theorem PySem.W.Fast.tw11381601497593610510 : True := trivial
theorem PySem.W.Fast.tw4946654236344091852 : True := trivial
theorem PySem.W.Fast.tw17710160386680927406 : True := trivial
theorem PySem.W.Fast.tw13120267324989722869 : True := trivial
theorem PySem.W.Fast.tw11007359891638138662 : True := trivial
theorem PySem.W.Fast.tw9063740100479032929 : True := trivial
theorem PySem.W.Fast.tw10495196577614452142 : True := trivial
theorem PySem.W.Fast.tw15939511362605824770 : True := trivial
theorem PySem.W.Fast.tw9901732170136536627 : True := trivial
theorem PySem.W.Fast.tw8844673988819423146 : True := trivial
theorem PySem.W.Fast.tw613905137331331705 : True := trivial
theorem PySem.W.Fast.tw3083410031989977081 : True := trivial
theorem PySem.W.Fast.tw10464519202992571010 : True := trivial
theorem PySem.W.Fast.tw9206000723293430141 : True := trivial
theorem PySem.W.Fast.tw2153522010649800624 : True := trivial
theorem PySem.W.Fast.tw11423223465907217258 : True := trivial
theorem PySem.W.Fast.tw14639496628318131722 : True := trivial
theorem PySem.W.Fast.tw3369765962548181057 : True := trivial
theorem PySem.W.Fast.tw17139308249261649747 : True := trivial
theorem PySem.W.Fast.tw14825233838239126066 : True := trivial
theorem PySem.W.Fast.tw2781831414205103462 : True := trivial
theorem PySem.W.Fast.tw1030100266601175567 : True := trivial
theorem PySem.W.Fast.tw6236681023658992775 : True := trivial
theorem PySem.W.Fast.tw9420906922015416032 : True := trivial
theorem PySem.W.Fast.tw11121372431877164024 : True := trivial
theorem PySem.W.Fast.tw17635418681150753623 : True := trivial
theorem PySem.W.Fast.tw3805941211263712410 : True := trivial
theorem PySem.W.Fast.tw8152739493189425937 : True := trivial
theorem PySem.W.Fast.tw7090487025327995732 : True := trivial
theorem PySem.W.Fast.tw14836250504409993899 : True := trivial
theorem PySem.W.Fast.tw2383073715358235239 : True := trivial
theorem PySem.W.Fast.tw10741628310582156791 : True := trivial
theorem PySem.W.Fast.tw13788077100504540793 : True := trivial
theorem PySem.W.Fast.tw14003490341823679241 : True := trivial
theorem PySem.W.Fast.tw6678768697131129034 : True := trivial
theorem PySem.W.Fast.tw9716960267785030373 : True := trivial
theorem PySem.W.Fast.tw15367048938799882277 : True := trivial
theorem PySem.W.Fast.tw17859357227843571769 : True := trivial
theorem PySem.W.Fast.tw1842320561709268512 : True := trivial
theorem PySem.W.Fast.tw11717718168147686076 : True := trivial
theorem PySem.W.Fast.tw10597149883406447878 : True := trivial
theorem PySem.W.Fast.tw5091222988671655379 : True := trivial
theorem PySem.W.Fast.tw1287754284923167777 : True := trivial
theorem PySem.W.Fast.tw6448167508435511187 : True := trivial
theorem PySem.W.Fast.tw12197369948830435151 : True := trivial
theorem PySem.W.Fast.tw5913491575828232870 : True := trivial
theorem PySem.W.Fast.tw10076591321521016241 : True := trivial
theorem PySem.W.Fast.tw12431192493699745200 : True := trivial
theorem PySem.W.Fast.tw6870793925117839708 : True := trivial
theorem PySem.W.Fast.tw3430398685697901165 : True := trivial
theorem PySem.W.Fast.tw6383273552287011357 : True := trivial
theorem PySem.W.Fast.tw12680157422880150671 : True := trivial
theorem PySem.W.Fast.tw4851571725801274524 : True := trivial
theorem PySem.W.Fast.tw9646912145308366656 : True := trivial
theorem PySem.W.Fast.tw11841556297002045927 : True := trivial
theorem PySem.W.Fast.tw12922200941282245996 : True := trivial
theorem PySem.W.Fast.tw1692245535021521945 : True := trivial
theorem PySem.W.Fast.tw14170181142634242806 : True := trivial
theorem PySem.W.Fast.tw934189523035072912 : True := trivial
theorem PySem.W.Fast.tw18274381038023456734 : True := trivial
theorem PySem.W.Fast.tw13067466520650330645 : True := trivial
theorem PySem.W.Fast.tw17403716106852154221 : True := trivial
theorem PySem.W.Fast.tw8061828572929679152 : True := trivial
theorem PySem.W.Fast.tw7633791853472051099 : True := trivial
theorem PySem.W.Fast.tw17938795981821094220 : True := trivial
theorem PySem.W.Fast.tw7763982885365998399 : True := trivial
theorem PySem.W.Fast.tw2899778511737303098 : True := trivial
theorem PySem.W.Fast.tw11469748096793786774 : True := trivial
theorem PySem.W.Fast.tw15957458149731784799 : True := trivial
theorem PySem.W.Fast.tw7272780775202002068 : True := trivial
theorem PySem.W.Fast.tw10059804854676972613 : True := trivial
theorem PySem.W.Fast.tw1667189150621961852 : True := trivial
theorem PySem.W.Fast.tw15776890789754728831 : True := trivial
theorem PySem.W.Fast.tw2994789436006509663 : True := trivial
theorem PySem.W.Fast.tw11344118342207048757 : True := trivial
theorem PySem.W.Fast.tw1705281951516965931 : True := trivial
theorem PySem.W.Fast.tw6201590676071800669 : True := trivial
theorem PySem.W.Fast.tw7412535236152859100 : True := trivial
theorem PySem.W.Fast.tw9704303553492626794 : True := trivial
theorem PySem.W.Fast.tw282290559445672719 : True := trivial
theorem PySem.W.Fast.tw1499389125746901635 : True := trivial
theorem PySem.W.Fast.tw14716693790514877327 : True := trivial
theorem PySem.W.Fast.tw7278512814998394385 : True := trivial
theorem PySem.W.Fast.tw11204209193225357703 : True := trivial
theorem PySem.W.Fast.tw2510537682152249711 : True := trivial
theorem PySem.W.Fast.tw18021157012430903355 : True := trivial
theorem PySem.W.Fast.tw5648912109413268473 : True := trivial
theorem PySem.W.Fast.tw11447471401230515817 : True := trivial
theorem PySem.W.Fast.tw5264135598438011667 : True := trivial
theorem PySem.W.Fast.tw11235335671857589179 : True := trivial
theorem PySem.W.Fast.tw15300809255949049837 : True := trivial
theorem PySem.W.Fast.tw17738647614846661936 : True := trivial
theorem PySem.W.Fast.tw7972253848324307549 : True := trivial
theorem PySem.W.Fast.tw12183662791115335322 : True := trivial
theorem PySem.W.Fast.tw10425483850135817084 : True := trivial
theorem PySem.W.Fast.tw16654689633709298933 : True := trivial
theorem PySem.W.Fast.tw17321401379485423636 : True := trivial
theorem PySem.W.Fast.tw15943690674833915528 : True := trivial
theorem PySem.W.Fast.tw10505176510016268718 : True := trivial
theorem PySem.W.Fast.tw14233884089156683738 : True := trivial
theorem PySem.W.Fast.tw552990552894647706 : True := trivial
theorem PySem.W.Fast.tw6354785742783780773 : True := trivial
theorem PySem.W.Fast.tw5970764376158932557 : True := trivial
theorem PySem.W.Fast.tw3203119837729473469 : True := trivial
theorem PySem.W.Fast.tw1129957915660645546 : True := trivial
theorem PySem.W.Fast.tw1988331617474051459 : True := trivial
theorem PySem.W.Fast.tw5066241421983545804 : True := trivial
theorem PySem.W.Fast.tw14271973797871354426 : True := trivial
theorem PySem.W.Fast.tw1455911955626195050 : True := trivial
theorem PySem.W.Fast.tw9474606073818907779 : True := trivial
theorem PySem.W.Fast.tw16145078587004660803 : True := trivial
theorem PySem.W.Fast.tw1628549909279777174 : True := trivial
theorem PySem.W.Fast.tw9577619512223832556 : True := trivial
theorem PySem.W.Fast.tw4609029365602565754 : True := trivial
theorem PySem.W.Fast.tw15437009244711999854 : True := trivial
theorem PySem.W.Fast.tw5088483624728865031 : True := trivial
theorem PySem.W.Fast.tw4768471848407173635 : True := trivial
theorem PySem.W.Fast.tw39968289482201519 : True := trivial
theorem PySem.W.Fast.tw14683001927362822988 : True := trivial
theorem PySem.W.Fast.tw10135901109336602218 : True := trivial
theorem PySem.W.Fast.tw14278617426562880228 : True := trivial
theorem PySem.W.Fast.tw12583775058586581569 : True := trivial
theorem PySem.W.Fast.tw7004165439517951582 : True := trivial
theorem PySem.W.Fast.tw6071044248015432406 : True := trivial
theorem PySem.W.Fast.tw13306786552865136274 : True := trivial
theorem PySem.W.Fast.tw15763321401986464605 : True := trivial
theorem PySem.W.Fast.tw5972770760419992898 : True := trivial
theorem PySem.W.Fast.tw4438079026747382533 : True := trivial
theorem PySem.W.Fast.tw8287553822187376648 : True := trivial
theorem PySem.W.Fast.tw14755371777550087752 : True := trivial
theorem PySem.W.Fast.tw17717626818240420455 : True := trivial
theorem PySem.W.Fast.tw14982400771726585352 : True := trivial
theorem PySem.W.Fast.tw2768110585832050060 : True := trivial
theorem PySem.W.Fast.tw10493881331425199834 : True := trivial
theorem PySem.W.Fast.tw15883494512019754138 : True := trivial
theorem PySem.W.Fast.tw5110116199434685413 : True := trivial
theorem PySem.W.Fast.tw1192041450700189301 : True := trivial
theorem PySem.W.Fast.tw6739824249117786397 : True := trivial
theorem PySem.W.Fast.tw16976008379706713117 : True := trivial
theorem PySem.W.Fast.tw8849004397717018314 : True := trivial
theorem PySem.W.Fast.tw6234265778382498152 : True := trivial
theorem PySem.W.Fast.tw8569998629196144530 : True := trivial
theorem PySem.W.Fast.tw3356955403429198896 : True := trivial
theorem PySem.W.Fast.tw17155041087412610525 : True := trivial
theorem PySem.W.Fast.tw11703856703503729861 : True := trivial
theorem PySem.W.Fast.tw13294374795671234538 : True := trivial
theorem PySem.W.Fast.tw12263513751937986122 : True := trivial
theorem PySem.W.Fast.tw5367835189192713808 : True := trivial
theorem PySem.W.Fast.tw5576007116254922213 : True := trivial
theorem PySem.W.Fast.tw2920198045773016167 : True := trivial
theorem PySem.W.Fast.tw16013738612595795971 : True := trivial
theorem PySem.W.Fast.tw16812338211433847929 : True := trivial
theorem PySem.W.Fast.tw4103546459073354263 : True := trivial
theorem PySem.W.Fast.tw3577505639893963438 : True := trivial
theorem PySem.W.Fast.tw13352987505388946434 : True := trivial
theorem PySem.W.Fast.tw5499540787707368960 : True := trivial
theorem PySem.W.Fast.tw7790579938859151691 : True := trivial
theorem PySem.W.Fast.tw4427429213625314654 : True := trivial
theorem PySem.W.Fast.tw16859837700915610015 : True := trivial
theorem PySem.W.Fast.tw10688593960442789425 : True := trivial
theorem PySem.W.Fast.tw13553248737416959141 : True := trivial
theorem PySem.W.Fast.tw2846229798651980892 : True := trivial
theorem PySem.W.Fast.tw15226468282608522093 : True := trivial
theorem PySem.W.Fast.tw13005368320742218541 : True := trivial
theorem PySem.W.Fast.tw708608731945544246 : True := trivial
theorem PySem.W.Fast.tw11362603606598087493 : True := trivial
theorem PySem.W.Fast.tw41598281425539516 : True := trivial
theorem PySem.W.Fast.tw5873689881827276207 : True := trivial
theorem PySem.W.Fast.tw10563926636120924612 : True := trivial
theorem PySem.W.Fast.tw7713325251165371423 : True := trivial
theorem PySem.W.Fast.tw14502141292035001404 : True := trivial
theorem PySem.W.Fast.tw6262315774197621611 : True := trivial
theorem PySem.W.Fast.tw16886697054390076404 : True := trivial
theorem PySem.W.Fast.tw12440910638731917606 : True := trivial
theorem PySem.W.Fast.tw16669816118044550899 : True := trivial
theorem PySem.W.Fast.tw2654276248585836680 : True := trivial
theorem PySem.W.Fast.tw15287826419102200895 : True := trivial
theorem PySem.W.Fast.tw9414108041660475294 : True := trivial
theorem PySem.W.Fast.tw11333494643017084697 : True := trivial
theorem PySem.W.Fast.tw2433855542654869481 : True := trivial
theorem PySem.W.Fast.tw14600318773441087750 : True := trivial
theorem PySem.W.Fast.tw51386444419766701 : True := trivial
theorem PySem.W.Fast.tw18065751386474136291 : True := trivial
theorem PySem.W.Fast.tw987517642515478281 : True := trivial
theorem PySem.W.Fast.tw6235468963075500837 : True := trivial
theorem PySem.W.Fast.tw4315419421419864109 : True := trivial
theorem PySem.W.Fast.tw9235330047916491925 : True := trivial
theorem PySem.W.Fast.tw5178495501884994535 : True := trivial
theorem PySem.W.Fast.tw13403637540291359110 : True := trivial
theorem PySem.W.Fast.tw7170951027511448513 : True := trivial
theorem PySem.W.Fast.tw12277026975316795145 : True := trivial
theorem PySem.W.Fast.tw13715305318148492364 : True := trivial
theorem PySem.W.Fast.tw11316819536853510874 : True := trivial
theorem PySem.W.Fast.tw8796699883632845293 : True := trivial
theorem PySem.W.Fast.tw1650343849483331125 : True := trivial
theorem PySem.W.Fast.tw2703920450523725536 : True := trivial
theorem PySem.W.Fast.tw4287710273145568472 : True := trivial
theorem PySem.W.Fast.tw4235362460919930426 : True := trivial
theorem PySem.W.Fast.tw6828230419365105221 : True := trivial
theorem PySem.W.Fast.tw7422796569500013459 : True := trivial
theorem PySem.W.Fast.tw6061707695847212038 : True := trivial
theorem PySem.W.Fast.tw4719628672744109869 : True := trivial
theorem PySem.W.Fast.tw13777841205641120169 : True := trivial
theorem PySem.W.Fast.tw9795034727099794196 : True := trivial
theorem PySem.W.Fast.tw1788702937560926180 : True := trivial
theorem PySem.W.Fast.tw7910194296089287064 : True := trivial
theorem PySem.W.Fast.tw17598823155634197822 : True := trivial
theorem PySem.W.Fast.tw14144867824155671296 : True := trivial
theorem PySem.W.Fast.tw5111060524298159533 : True := trivial
theorem PySem.W.Fast.tw14106669454928026322 : True := trivial
theorem PySem.W.Fast.tw6086131908168588373 : True := trivial
theorem PySem.W.Fast.tw1720223514807916332 : True := trivial
theorem PySem.W.Fast.tw4733743507345838984 : True := trivial
theorem PySem.W.Fast.tw434586905957784465 : True := trivial
theorem PySem.W.Fast.tw5049676817902484208 : True := trivial
theorem PySem.W.Fast.tw884915742971450469 : True := trivial
theorem PySem.W.Fast.tw5562483260227012071 : True := trivial
theorem PySem.W.Fast.tw1443415173589099559 : True := trivial
theorem PySem.W.Fast.tw2671486069153971340 : True := trivial
theorem PySem.W.Fast.tw6038544860739238089 : True := trivial
theorem PySem.W.Fast.tw17777868530811439174 : True := trivial
theorem PySem.W.Fast.tw7185577220367360942 : True := trivial
theorem PySem.W.Fast.tw680547319763414714 : True := trivial
theorem PySem.W.Fast.tw4356015751815037248 : True := trivial
theorem PySem.W.Fast.tw6740052681862498070 : True := trivial
theorem PySem.W.Fast.tw16313323320435157117 : True := trivial
theorem PySem.W.Fast.tw7925444961112541412 : True := trivial
theorem PySem.W.Fast.tw6381556955197896675 : True := trivial
theorem PySem.W.Fast.tw3519704685243486198 : True := trivial
theorem PySem.W.Fast.tw17842604754222352627 : True := trivial
theorem PySem.W.Fast.tw7772202600395203577 : True := trivial
theorem PySem.W.Fast.tw4829197998504931059 : True := trivial
theorem PySem.W.Fast.tw18287321113763756170 : True := trivial
theorem PySem.W.Fast.tw5573270976631115034 : True := trivial
theorem PySem.W.Fast.tw6353410716656288341 : True := trivial
theorem PySem.W.Fast.tw10757258925425969170 : True := trivial
theorem PySem.W.Fast.tw1010982072940073692 : True := trivial
theorem PySem.W.Fast.tw15247690157338357989 : True := trivial
theorem PySem.W.Fast.tw1485765480914260500 : True := trivial
theorem PySem.W.Fast.tw11257923103100500016 : True := trivial
theorem PySem.W.Fast.tw2492770350085195274 : True := trivial
theorem PySem.W.Fast.tw17528617712167856880 : True := trivial
theorem PySem.W.Fast.tw17342536335554682663 : True := trivial
theorem PySem.W.Fast.tw10832071714902484277 : True := trivial
theorem PySem.W.Fast.tw15345089172093266300 : True := trivial
theorem PySem.W.Fast.tw15029815481676465569 : True := trivial
theorem PySem.W.Fast.tw16586339874041917830 : True := trivial
theorem PySem.W.Fast.tw939795390301738527 : True := trivial
theorem PySem.W.Fast.tw12652684673922157295 : True := trivial
theorem PySem.W.Fast.tw1816391504350355685 : True := trivial
theorem PySem.W.Fast.tw8647915319902362545 : True := trivial
theorem PySem.W.Fast.tw16383120152474175181 : True := trivial
theorem PySem.W.Fast.tw16656029705928033498 : True := trivial
theorem PySem.W.Fast.tw4499341836911436636 : True := trivial
theorem PySem.W.Fast.tw8255843594167615021 : True := trivial
theorem PySem.W.Fast.tw4700985043189469675 : True := trivial
theorem PySem.W.Fast.tw12266878586216389837 : True := trivial
theorem PySem.W.Fast.tw9261300827237920588 : True := trivial
theorem PySem.W.Fast.tw797596607334946533 : True := trivial
theorem PySem.W.Fast.tw5454438825637818865 : True := trivial
theorem PySem.W.Fast.tw2878130446650921127 : True := trivial
theorem PySem.W.Fast.tw5992855319527579543 : True := trivial
theorem PySem.W.Fast.tw15950822060853916718 : True := trivial
theorem PySem.W.Fast.tw6215513198225886364 : True := trivial
theorem PySem.W.Fast.tw3414691577078921637 : True := trivial
theorem PySem.W.Fast.tw715194787236144987 : True := trivial
theorem PySem.W.Fast.tw17812622644930157046 : True := trivial
theorem PySem.W.Fast.tw9872437794096916574 : True := trivial
theorem PySem.W.Fast.tw14623760590934765686 : True := trivial
theorem PySem.W.Fast.tw4657458444525207080 : True := trivial
theorem PySem.W.Fast.tw15831718048903645263 : True := trivial
theorem PySem.W.Fast.tw3268131005160337186 : True := trivial
theorem PySem.W.Fast.tw18113965223344751496 : True := trivial
theorem PySem.W.Fast.tw12728301141125565931 : True := trivial
theorem PySem.W.Fast.tw10228884303949785577 : True := trivial
theorem PySem.W.Fast.tw7505879554257246096 : True := trivial
theorem PySem.W.Fast.tw1191577512146014151 : True := trivial
theorem PySem.W.Fast.tw12023436569358471936 : True := trivial
theorem PySem.W.Fast.tw16322285643689618302 : True := trivial
theorem PySem.W.Fast.tw13639592573498358941 : True := trivial
theorem PySem.W.Fast.tw3932246334919400320 : True := trivial
theorem PySem.W.Fast.tw7343848806977256676 : True := trivial
theorem PySem.W.Fast.tw1903805936937673553 : True := trivial
theorem PySem.W.Fast.tw10806208367257975274 : True := trivial
theorem PySem.W.Fast.tw13653237236169280670 : True := trivial
theorem PySem.W.Fast.tw14862895602925362003 : True := trivial
theorem PySem.W.Fast.tw4758777441930155331 : True := trivial
theorem PySem.W.Fast.tw4382003991072544324 : True := trivial
theorem PySem.W.Fast.tw13722420894453430574 : True := trivial
theorem PySem.W.Fast.tw3801836124902534939 : True := trivial
theorem PySem.W.Fast.tw14330289826505618744 : True := trivial
theorem PySem.W.Fast.tw7318554050234349754 : True := trivial
theorem PySem.W.Fast.tw15341932797683044754 : True := trivial
theorem PySem.W.Fast.tw9728209150610512365 : True := trivial
theorem PySem.W.Fast.tw18200835414455846294 : True := trivial
theorem PySem.W.Fast.tw5044405682416903924 : True := trivial
theorem PySem.W.Fast.tw7532388719499613154 : True := trivial
theorem PySem.W.Fast.tw15192281336161595315 : True := trivial
theorem PySem.W.Fast.tw9905266469084813540 : True := trivial
theorem PySem.W.Fast.tw6228058015089640483 : True := trivial
theorem PySem.W.Fast.tw691085120875845663 : True := trivial
theorem PySem.W.Fast.tw17575983923342338651 : True := trivial
theorem PySem.W.Fast.tw2589080194546761992 : True := trivial
theorem PySem.W.Fast.tw2986478701140215435 : True := trivial
theorem PySem.W.Fast.tw473483593795646242 : True := trivial
theorem PySem.W.Fast.tw12564300224418687498 : True := trivial
theorem PySem.W.Fast.tw2157406589227394673 : True := trivial
theorem PySem.W.Fast.tw12975797274392184292 : True := trivial
theorem PySem.W.Fast.tw824886588302070888 : True := trivial
theorem PySem.W.Fast.tw15331973308829832924 : True := trivial
theorem PySem.W.Fast.tw12737130760757146658 : True := trivial
theorem PySem.W.Fast.tw13708790750803976544 : True := trivial
theorem PySem.W.Fast.tw5000932718990351616 : True := trivial
theorem PySem.W.Fast.tw2707806021475395301 : True := trivial
theorem PySem.W.Fast.tw13595421375991055537 : True := trivial
theorem PySem.W.Fast.tw403135078440475560 : True := trivial
theorem PySem.W.Fast.tw5259303583574494134 : True := trivial
theorem PySem.W.Fast.tw8547081057682854049 : True := trivial
theorem PySem.W.Fast.tw9813239439174266832 : True := trivial
theorem PySem.W.Fast.tw1296425197453869898 : True := trivial
theorem PySem.W.Fast.tw11801138703641115387 : True := trivial
theorem PySem.W.Fast.tw13755535234587269716 : True := trivial
theorem PySem.W.Fast.tw15878971777144693858 : True := trivial
theorem PySem.W.Fast.tw16606941632655854198 : True := trivial
theorem PySem.W.Fast.tw303080973696022795 : True := trivial
theorem PySem.W.Fast.tw15143960612296492506 : True := trivial
theorem PySem.W.Fast.tw6878226636831976469 : True := trivial
theorem PySem.W.Fast.tw16906800322621055372 : True := trivial
theorem PySem.W.Fast.tw1381697507279798713 : True := trivial
theorem PySem.W.Fast.tw17530902079838896877 : True := trivial
theorem PySem.W.Fast.tw12901753848387804374 : True := trivial
theorem PySem.W.Fast.tw4305154983345850121 : True := trivial
theorem PySem.W.Fast.tw8121904188674722645 : True := trivial
theorem PySem.W.Fast.tw281232398618913625 : True := trivial
theorem PySem.W.Fast.tw13142491950843032888 : True := trivial
theorem PySem.W.Fast.tw4334009047292672682 : True := trivial
theorem PySem.W.Fast.tw17979153828923471367 : True := trivial
theorem PySem.W.Fast.tw9223811657104440531 : True := trivial
theorem PySem.W.Fast.tw13866060044875339160 : True := trivial
theorem PySem.W.Fast.tw9484246423616841297 : True := trivial
theorem PySem.W.Fast.tw9221183047925254835 : True := trivial
theorem PySem.W.Fast.tw8730468275750120412 : True := trivial
theorem PySem.W.Fast.tw12673966042740882827 : True := trivial
theorem PySem.W.Fast.tw1024929186880930135 : True := trivial
theorem PySem.W.Fast.tw17673529469615415513 : True := trivial
theorem PySem.W.Fast.tw15446529588309081848 : True := trivial
theorem PySem.W.Fast.tw11232729885819598671 : True := trivial
theorem PySem.W.Fast.tw13024160516274731523 : True := trivial
theorem PySem.W.Fast.tw4075827268147336790 : True := trivial
theorem PySem.W.Fast.tw9265122409701753797 : True := trivial
theorem PySem.W.Fast.tw1793110575709713621 : True := trivial
theorem PySem.W.Fast.tw15465372616162843204 : True := trivial
theorem PySem.W.Fast.tw11056927200063339885 : True := trivial
theorem PySem.W.Fast.tw18135963672329313919 : True := trivial
theorem PySem.W.Fast.tw3762353628693709918 : True := trivial
theorem PySem.W.Fast.tw15733610919764956008 : True := trivial
theorem PySem.W.Fast.tw6584515377002389991 : True := trivial
theorem PySem.W.Fast.tw18019593766757999264 : True := trivial
theorem PySem.W.Fast.tw11951888930700181533 : True := trivial
theorem PySem.W.Fast.tw16101091528786689164 : True := trivial
theorem PySem.W.Fast.tw3858761222392089324 : True := trivial
theorem PySem.W.Fast.tw5008478303433267846 : True := trivial
theorem PySem.W.Fast.tw987486500033046860 : True := trivial
theorem PySem.W.Fast.tw2771546932824791416 : True := trivial
theorem PySem.W.Fast.tw7308587968788412186 : True := trivial
theorem PySem.W.Fast.tw14023339054566944328 : True := trivial
theorem PySem.W.Fast.tw9276927232175299683 : True := trivial
theorem PySem.W.Fast.tw13712058763560042641 : True := trivial
theorem PySem.W.Fast.tw3262379911484346725 : True := trivial
theorem PySem.W.Fast.tw6827967831808961387 : True := trivial
theorem PySem.W.Fast.tw9942140788817863572 : True := trivial
theorem PySem.W.Fast.tw16383192140573318943 : True := trivial
theorem PySem.W.Fast.tw14944505799179146138 : True := trivial
theorem PySem.W.Fast.tw17579171904727102413 : True := trivial
theorem PySem.W.Fast.tw2096600283826362530 : True := trivial
theorem PySem.W.Fast.tw10165374899444502389 : True := trivial
theorem PySem.W.Fast.tw7108786103911978409 : True := trivial
theorem PySem.W.Fast.tw6347096616326626877 : True := trivial
theorem PySem.W.Fast.tw5487549892023112732 : True := trivial
theorem PySem.W.Fast.tw7443260005674515862 : True := trivial
theorem PySem.W.Fast.tw18353213262139225576 : True := trivial
theorem PySem.W.Fast.tw17492782607335416097 : True := trivial
theorem PySem.W.Fast.tw13846174408110806723 : True := trivial
theorem PySem.W.Fast.tw17192685791833308793 : True := trivial
theorem PySem.W.Fast.tw10961302795040672027 : True := trivial
theorem PySem.W.Fast.tw9560630278040778296 : True := trivial
theorem PySem.W.Fast.tw18027854176190067878 : True := trivial
theorem PySem.W.Fast.tw9598344511400792712 : True := trivial
theorem PySem.W.Fast.tw17934621029243715880 : True := trivial
theorem PySem.W.Fast.tw1274949981441277079 : True := trivial
theorem PySem.W.Fast.tw227837324297924636 : True := trivial
theorem PySem.W.Fast.tw10158740001391077191 : True := trivial
theorem PySem.W.Fast.tw2054765771964771182 : True := trivial
theorem PySem.W.Fast.tw16068752036743991797 : True := trivial
theorem PySem.W.Fast.tw7346114341164229725 : True := trivial
theorem PySem.W.Fast.tw4691058028088415417 : True := trivial
theorem PySem.W.Fast.tw7376926267940802395 : True := trivial
theorem PySem.W.Fast.tw11267486893590013831 : True := trivial
theorem PySem.W.Fast.tw6873096036117327247 : True := trivial
theorem PySem.W.Fast.tw8225491696672920844 : True := trivial
theorem PySem.W.Fast.tw17720596238500040009 : True := trivial
theorem PySem.W.Fast.tw17569998936355428441 : True := trivial
theorem PySem.W.Fast.tw13125161996525193915 : True := trivial
theorem PySem.W.Fast.tw2495436592581514571 : True := trivial
theorem PySem.W.Fast.tw12318258589680166251 : True := trivial
theorem PySem.W.Fast.tw5055890219913955478 : True := trivial
theorem PySem.W.Fast.tw13503864936572201584 : True := trivial
theorem PySem.W.Fast.tw15396566401261936427 : True := trivial
theorem PySem.W.Fast.tw148620239153219439 : True := trivial
theorem PySem.W.Fast.tw7187352510421805000 : True := trivial
theorem PySem.W.Fast.tw5911176191599574788 : True := trivial
theorem PySem.W.Fast.tw16134983918052443361 : True := trivial
theorem PySem.W.Fast.tw14655822196096162404 : True := trivial
theorem PySem.W.Fast.tw8283272043285520414 : True := trivial
theorem PySem.W.Fast.tw7233180494548604175 : True := trivial
theorem PySem.W.Fast.tw17263110545386340482 : True := trivial
theorem PySem.W.Fast.tw11965849237275022377 : True := trivial
theorem PySem.W.Fast.tw12222926495957261584 : True := trivial
theorem PySem.W.Fast.tw8613433740675949435 : True := trivial
theorem PySem.W.Fast.tw7048021355174523232 : True := trivial
theorem PySem.W.Fast.tw2023666962374042328 : True := trivial
theorem PySem.W.Fast.tw122048876369339853 : True := trivial
theorem PySem.W.Fast.tw2501460364917730215 : True := trivial
theorem PySem.W.Fast.tw3062809243831586486 : True := trivial
theorem PySem.W.Fast.tw10267224894835445021 : True := trivial
theorem PySem.W.Fast.tw3335985648892174377 : True := trivial
theorem PySem.W.Fast.tw17562156396305634278 : True := trivial
theorem PySem.W.Fast.tw1033295614338863459 : True := trivial
theorem PySem.W.Fast.tw14845285672565941463 : True := trivial
theorem PySem.W.Fast.tw17236517186390947119 : True := trivial
theorem PySem.W.Fast.tw12082437870910204336 : True := trivial
theorem PySem.W.Fast.tw16459717055031248182 : True := trivial
theorem PySem.W.Fast.tw7669286403553118565 : True := trivial
theorem PySem.W.Fast.tw1283464803892409700 : True := trivial
theorem PySem.W.Fast.tw18345908707554757122 : True := trivial
theorem PySem.W.Fast.tw4153325227552449721 : True := trivial
theorem PySem.W.Fast.tw13768676493660675658 : True := trivial
theorem PySem.W.Fast.tw14214694885145804802 : True := trivial
theorem PySem.W.Fast.tw9546950950952308578 : True := trivial
theorem PySem.W.Fast.tw10627434189494371075 : True := trivial
theorem PySem.W.Fast.tw13322563833932442591 : True := trivial
theorem PySem.W.Fast.tw15734396547197324529 : True := trivial
theorem PySem.W.Fast.tw12428218345655060574 : True := trivial
theorem PySem.W.Fast.tw8383061871273245601 : True := trivial
theorem PySem.W.Fast.tw10164619097307840371 : True := trivial
theorem PySem.W.Fast.tw5230553974481158636 : True := trivial
theorem PySem.W.Fast.tw18114383822900091768 : True := trivial
theorem PySem.W.Fast.tw5758335265434121467 : True := trivial
theorem PySem.W.Fast.tw6450429596141403932 : True := trivial
theorem PySem.W.Fast.tw15787187216029615635 : True := trivial
theorem PySem.W.Fast.tw14095699903661501610 : True := trivial
theorem PySem.W.Fast.tw3346287617657130276 : True := trivial
theorem PySem.W.Fast.tw6760137322975350713 : True := trivial
theorem PySem.W.Fast.tw2955057884669312363 : True := trivial
theorem PySem.W.Fast.tw9400571445240527478 : True := trivial
theorem PySem.W.Fast.tw12168479154314250338 : True := trivial
theorem PySem.W.Fast.tw12282205737779093139 : True := trivial
theorem PySem.W.Fast.tw1419062307770135680 : True := trivial
theorem PySem.W.Fast.tw17546185110823656490 : True := trivial
theorem PySem.W.Fast.tw1501333773137881284 : True := trivial
theorem PySem.W.Fast.tw2465510626622075860 : True := trivial
theorem PySem.W.Fast.tw6784751086621943799 : True := trivial
theorem PySem.W.Fast.tw26095294475244438 : True := trivial
theorem PySem.W.Fast.tw12466353278783844894 : True := trivial
theorem PySem.W.Fast.tw7179103637838409711 : True := trivial
theorem PySem.W.Fast.tw12181694653537901751 : True := trivial
theorem PySem.W.Fast.tw12530824363488821770 : True := trivial
theorem PySem.W.Fast.tw11158842054937464061 : True := trivial
theorem PySem.W.Fast.tw18353446103267208087 : True := trivial
theorem PySem.W.Fast.tw11237514341145413809 : True := trivial
theorem PySem.W.Fast.tw8836385159626057509 : True := trivial
theorem PySem.W.Fast.tw17885678473748348068 : True := trivial
theorem PySem.W.Fast.tw5794302056373660840 : True := trivial
theorem PySem.W.Fast.tw9899228482175307565 : True := trivial
theorem PySem.W.Fast.tw18147291029895863317 : True := trivial
theorem PySem.W.Fast.tw4762131915197646748 : True := trivial
theorem PySem.W.Fast.tw10784427430566447050 : True := trivial
theorem PySem.W.Fast.tw65018960205472978 : True := trivial
theorem PySem.W.Fast.tw14619531880291837103 : True := trivial
theorem PySem.W.Fast.tw1497147343525171437 : True := trivial
theorem PySem.W.Fast.tw103836326696599480 : True := trivial
theorem PySem.W.Fast.tw1093964334896237896 : True := trivial
theorem PySem.W.Fast.tw3122079533321232675 : True := trivial
theorem PySem.W.Fast.tw17433796424207030155 : True := trivial
theorem PySem.W.Fast.tw4587456669366568817 : True := trivial
theorem PySem.W.Fast.tw4065686324684312364 : True := trivial
theorem PySem.W.Fast.tw11490384929527978662 : True := trivial
theorem PySem.W.Fast.tw11538719146866290988 : True := trivial
theorem PySem.W.Fast.tw9554469025477038234 : True := trivial
theorem PySem.W.Fast.tw8091702102605489426 : True := trivial
theorem PySem.W.Fast.tw10554417105712606722 : True := trivial
theorem PySem.W.Fast.tw11216642779641068195 : True := trivial
theorem PySem.W.Fast.tw1974330522724299942 : True := trivial
theorem PySem.W.Fast.tw862361467297814384 : True := trivial
theorem PySem.W.Fast.tw2580711868521393556 : True := trivial
theorem PySem.W.Fast.tw923769125504066676 : True := trivial
theorem PySem.W.Fast.tw11022973436119845588 : True := trivial
theorem PySem.W.Fast.tw9854160183040413890 : True := trivial
theorem PySem.W.Fast.tw3091230620840595319 : True := trivial
theorem PySem.W.Fast.tw12087032139818794696 : True := trivial
theorem PySem.W.Fast.tw5553741442040578254 : True := trivial
theorem PySem.W.Fast.tw12974182317856599292 : True := trivial
theorem PySem.W.Fast.tw13797132447946228762 : True := trivial
theorem PySem.W.Fast.tw8429031164090303475 : True := trivial
theorem PySem.W.Fast.tw4316550113643553659 : True := trivial
theorem PySem.W.Fast.tw15867954681438667545 : True := trivial
theorem PySem.W.Fast.tw4812995107579808110 : True := trivial
theorem PySem.W.Fast.tw18322586403646751601 : True := trivial
theorem PySem.W.Fast.tw1232545327859363813 : True := trivial
theorem PySem.W.Fast.tw11627782815702984843 : True := trivial
theorem PySem.W.Fast.tw15159258105575165507 : True := trivial
theorem PySem.W.Fast.tw14753475496303055455 : True := trivial
theorem PySem.W.Fast.tw2547216031580632036 : True := trivial
theorem PySem.W.Fast.tw11672904139285455020 : True := trivial
theorem PySem.W.Fast.tw14433141141867226979 : True := trivial
theorem PySem.W.Fast.tw15215745121863284855 : True := trivial
theorem PySem.W.Fast.tw8687931790407640324 : True := trivial
theorem PySem.W.Fast.tw15667169832985091395 : True := trivial
theorem PySem.W.Fast.tw16302627750825828062 : True := trivial
theorem PySem.W.Fast.tw314246626085328662 : True := trivial
theorem PySem.W.Fast.tw16835967363211138310 : True := trivial
theorem PySem.W.Fast.tw9567351509449761769 : True := trivial
theorem PySem.W.Fast.tw6270956115371582645 : True := trivial
theorem PySem.W.Fast.tw18309932139053479553 : True := trivial
theorem PySem.W.Fast.tw2386036644367788629 : True := trivial
theorem PySem.W.Fast.tw7895923666694929757 : True := trivial
theorem PySem.W.Fast.tw17971754275954418707 : True := trivial
theorem PySem.W.Fast.tw15168110912587907085 : True := trivial
theorem PySem.W.Fast.tw5699995277267993345 : True := trivial
theorem PySem.W.Fast.tw3065395281203178499 : True := trivial
theorem PySem.W.Fast.tw9680858650131705835 : True := trivial
theorem PySem.W.Fast.tw2341141515301274077 : True := trivial
theorem PySem.W.Fast.tw9462700610990973679 : True := trivial
theorem PySem.W.Fast.tw229230807305547756 : True := trivial
theorem PySem.W.Fast.tw5218603650680199873 : True := trivial
theorem PySem.W.Fast.tw15639720527829900645 : True := trivial
theorem PySem.W.Fast.tw6194272277800315426 : True := trivial
theorem PySem.W.Fast.tw14524920627734025235 : True := trivial
theorem PySem.W.Fast.tw8010282247908278590 : True := trivial
theorem PySem.W.Fast.tw2619555072194764621 : True := trivial
theorem PySem.W.Fast.tw8913171016787160549 : True := trivial
theorem PySem.W.Fast.tw16839698415174175663 : True := trivial
theorem PySem.W.Fast.tw3805837200584827890 : True := trivial
theorem PySem.W.Fast.tw4927250664927929501 : True := trivial
theorem PySem.W.Fast.tw14944761191924395136 : True := trivial
theorem PySem.W.Fast.tw16447116990584019530 : True := trivial
theorem PySem.W.Fast.tw17664927072668333382 : True := trivial
theorem PySem.W.Fast.tw14141684825947400509 : True := trivial
theorem PySem.W.Fast.tw14397228705995776505 : True := trivial
theorem PySem.W.Fast.tw13671702147609904133 : True := trivial
theorem PySem.W.Fast.tw13576910160279195217 : True := trivial
theorem PySem.W.Fast.tw954100937983851576 : True := trivial
theorem PySem.W.Fast.tw3962306223488766724 : True := trivial
theorem PySem.W.Fast.tw4127315812625734296 : True := trivial
theorem PySem.W.Fast.tw5594350833516871774 : True := trivial
theorem PySem.W.Fast.tw235043618829522483 : True := trivial
theorem PySem.W.Fast.tw5368035067411413096 : True := trivial
theorem PySem.W.Fast.tw9606873923295507005 : True := trivial
theorem PySem.W.Fast.tw9200513040280084087 : True := trivial
theorem PySem.W.Fast.tw15047359261724984597 : True := trivial
theorem PySem.W.Fast.tw8241184904089963411 : True := trivial
theorem PySem.W.Fast.tw1996563114219804945 : True := trivial
theorem PySem.W.Fast.tw5333297888685130217 : True := trivial
theorem PySem.W.Fast.tw164747837351414646 : True := trivial
theorem PySem.W.Fast.tw16996398653892877842 : True := trivial
theorem PySem.W.Fast.tw18233008837763694592 : True := trivial
theorem PySem.W.Fast.tw10533550064236025813 : True := trivial
theorem PySem.W.Fast.tw5473690677480756695 : True := trivial
theorem PySem.W.Fast.tw131060795758153083 : True := trivial
theorem PySem.W.Fast.tw2762916505233559541 : True := trivial
theorem PySem.W.Fast.tw1314680973594299447 : True := trivial
theorem PySem.W.Fast.tw1692604507237024826 : True := trivial
theorem PySem.W.Fast.tw11745592682939928457 : True := trivial
theorem PySem.W.Fast.tw7147650737136130376 : True := trivial
theorem PySem.W.Fast.tw10898117360177118046 : True := trivial
theorem PySem.W.Fast.tw13697379580751055715 : True := trivial
theorem PySem.W.Fast.tw15660891106273922091 : True := trivial
theorem PySem.W.Fast.tw15108555267934598807 : True := trivial
theorem PySem.W.Fast.tw7582511775301345580 : True := trivial
theorem PySem.W.Fast.tw1036102021672529137 : True := trivial
theorem PySem.W.Fast.tw4532857177906289034 : True := trivial
theorem PySem.W.Fast.tw12063464212537589454 : True := trivial
theorem PySem.W.Fast.tw11755288599236405101 : True := trivial
theorem PySem.W.Fast.tw3488444564288647066 : True := trivial
theorem PySem.W.Fast.tw9261217202274018953 : True := trivial
theorem PySem.W.Fast.tw2203259973278079912 : True := trivial
theorem PySem.W.Fast.tw2303410153233090692 : True := trivial
theorem PySem.W.Fast.tw10693730513030945190 : True := trivial
theorem PySem.W.Fast.tw12075807911722153176 : True := trivial
theorem PySem.W.Fast.tw16102779095140601444 : True := trivial
theorem PySem.W.Fast.tw17179493536567267716 : True := trivial
theorem PySem.W.Fast.tw15872954754926564443 : True := trivial
theorem PySem.W.Fast.tw12154526160039767043 : True := trivial
theorem PySem.W.Fast.tw7748394559078152779 : True := trivial
theorem PySem.W.Fast.tw3789519255599967281 : True := trivial
theorem PySem.W.Fast.tw4838377254882319583 : True := trivial
theorem PySem.W.Fast.tw12745864778757868723 : True := trivial
theorem PySem.W.Fast.tw7512618573755724980 : True := trivial
theorem PySem.W.Fast.tw7470893286754173366 : True := trivial
theorem PySem.W.Fast.tw14263406816751766390 : True := trivial
theorem PySem.W.Fast.tw10896819080445659874 : True := trivial
theorem PySem.W.Fast.tw4419063040310477328 : True := trivial
theorem PySem.W.Fast.tw882750566207587117 : True := trivial
theorem PySem.W.Fast.tw13685787409180948652 : True := trivial
theorem PySem.W.Fast.tw16287934119273035443 : True := trivial
theorem PySem.W.Fast.tw16673979181315237101 : True := trivial
theorem PySem.W.Fast.tw5145088876907635342 : True := trivial
theorem PySem.W.Fast.tw8846831914538957635 : True := trivial
theorem PySem.W.Fast.tw9338409663386199446 : True := trivial
theorem PySem.W.Fast.tw1248979065954663155 : True := trivial
theorem PySem.W.Fast.tw7619388767289320159 : True := trivial
theorem PySem.W.Fast.tw10181731257753692589 : True := trivial
theorem PySem.W.Fast.tw4113414028733309653 : True := trivial
theorem PySem.W.Fast.tw6742587331304196810 : True := trivial
theorem PySem.W.Fast.tw12910290135808927252 : True := trivial
theorem PySem.W.Fast.tw13402641752836472447 : True := trivial
theorem PySem.W.Fast.tw3557768636392918100 : True := trivial
theorem PySem.W.Fast.tw10511766012259693191 : True := trivial
theorem PySem.W.Fast.tw9453109796924281052 : True := trivial
theorem PySem.W.Fast.tw10271456660919486971 : True := trivial
theorem PySem.W.Fast.tw3641192352161410962 : True := trivial
theorem PySem.W.Fast.tw5779434133096057164 : True := trivial
theorem PySem.W.Fast.tw14090650266581097898 : True := trivial
theorem PySem.W.Fast.tw3845237217893788184 : True := trivial
theorem PySem.W.Fast.tw1781654179560692610 : True := trivial
theorem PySem.W.Fast.tw2646244860816616873 : True := trivial
theorem PySem.W.Fast.tw12717399032203078118 : True := trivial
theorem PySem.W.Fast.tw6208132960598859704 : True := trivial
theorem PySem.W.Fast.tw14609785146147431881 : True := trivial
theorem PySem.W.Fast.tw14253173091951300835 : True := trivial
theorem PySem.W.Fast.tw15794446390252950527 : True := trivial
theorem PySem.W.Fast.tw376136005429184133 : True := trivial
theorem PySem.W.Fast.tw6348187111385958793 : True := trivial
theorem PySem.W.Fast.tw14473040622080104054 : True := trivial
theorem PySem.W.Fast.tw2340211076370538384 : True := trivial
theorem PySem.W.Fast.tw8347628441357722940 : True := trivial
theorem PySem.W.Fast.tw8691668509203646138 : True := trivial
theorem PySem.W.Fast.tw11370517929705068025 : True := trivial
theorem PySem.W.Fast.tw12134176032647366337 : True := trivial
theorem PySem.W.Fast.tw12836359401314166962 : True := trivial
theorem PySem.W.Fast.tw2388680840348147497 : True := trivial
theorem PySem.W.Fast.tw10499778576445844957 : True := trivial
theorem PySem.W.Fast.tw17170986039349536546 : True := trivial
theorem PySem.W.Fast.tw16299688598948812858 : True := trivial
theorem PySem.W.Fast.tw5913938805633587640 : True := trivial
theorem PySem.W.Fast.tw9600025294901182615 : True := trivial
theorem PySem.W.Fast.tw5854320343841229247 : True := trivial
theorem PySem.W.Fast.tw6227396660151019269 : True := trivial
theorem PySem.W.Fast.tw16644632443347722369 : True := trivial
theorem PySem.W.Fast.tw15695368921134520591 : True := trivial
theorem PySem.W.Fast.tw9639867052899968069 : True := trivial
theorem PySem.W.Fast.tw2186236640489353042 : True := trivial
theorem PySem.W.Fast.tw10174207061096148274 : True := trivial
theorem PySem.W.Fast.tw6570771315403700128 : True := trivial
theorem PySem.W.Fast.tw5466113266244679208 : True := trivial
theorem PySem.W.Fast.tw17628441333635555138 : True := trivial
theorem PySem.W.Fast.tw15799401813542965617 : True := trivial
theorem PySem.W.Fast.tw7084480867293915646 : True := trivial
theorem PySem.W.Fast.tw18218862094854011913 : True := trivial
theorem PySem.W.Fast.tw12930926873297160781 : True := trivial
theorem PySem.W.Fast.tw3580317913359174921 : True := trivial
theorem PySem.W.Fast.tw16078679683506599071 : True := trivial
theorem PySem.W.Fast.tw14639249644063169851 : True := trivial
theorem PySem.W.Fast.tw1374042876047794236 : True := trivial
theorem PySem.W.Fast.tw613908315379781873 : True := trivial
theorem PySem.W.Fast.tw13787428335300188915 : True := trivial
theorem PySem.W.Fast.tw10125848258487435435 : True := trivial
theorem PySem.W.Fast.tw11974752847384142902 : True := trivial
theorem PySem.W.Fast.tw18149710944288110400 : True := trivial
theorem PySem.W.Fast.tw8244925575433783670 : True := trivial
theorem PySem.W.Fast.tw2252275533692490714 : True := trivial
theorem PySem.W.Fast.tw5217565185053081827 : True := trivial
theorem PySem.W.Fast.tw15506040581498030377 : True := trivial
theorem PySem.W.Fast.tw12192706577479135327 : True := trivial
theorem PySem.W.Fast.tw1800052468123017657 : True := trivial
theorem PySem.W.Fast.tw11536760015122351586 : True := trivial
theorem PySem.W.Fast.tw18098368698652772686 : True := trivial
theorem PySem.W.Fast.tw12491442064158830865 : True := trivial
theorem PySem.W.Fast.tw7175233180201773147 : True := trivial
theorem PySem.W.Fast.tw7200230544590695142 : True := trivial
theorem PySem.W.Fast.tw8218251511230252105 : True := trivial
theorem PySem.W.Fast.tw10088808773325337918 : True := trivial
theorem PySem.W.Fast.tw13796550004009636495 : True := trivial
theorem PySem.W.Fast.tw9985039896719251515 : True := trivial
theorem PySem.W.Fast.tw17195120431461770492 : True := trivial
theorem PySem.W.Fast.tw1393011147062719718 : True := trivial
theorem PySem.W.Fast.tw14845299670749713858 : True := trivial
theorem PySem.W.Fast.tw16369307404155744907 : True := trivial
theorem PySem.W.Fast.tw12319371100741795568 : True := trivial
theorem PySem.W.Fast.tw13845596166661623408 : True := trivial
theorem PySem.W.Fast.tw2977691272779656518 : True := trivial
theorem PySem.W.Fast.tw1144668772227215177 : True := trivial
theorem PySem.W.Fast.tw1377587664719147389 : True := trivial
theorem PySem.W.Fast.tw9977441444123674012 : True := trivial
theorem PySem.W.Fast.tw5852167681122635196 : True := trivial
theorem PySem.W.Fast.tw1316458480491224192 : True := trivial
theorem PySem.W.Fast.tw4094392468311184171 : True := trivial
theorem PySem.W.Fast.tw8744994674405828807 : True := trivial
theorem PySem.W.Fast.tw7601877617382830260 : True := trivial
theorem PySem.W.Fast.tw15619183541210651504 : True := trivial
theorem PySem.W.Fast.tw16671689949685292888 : True := trivial
theorem PySem.W.Fast.tw10069208461029225889 : True := trivial
theorem PySem.W.Fast.tw12145606206548829752 : True := trivial
theorem PySem.W.Fast.tw14115887559206304128 : True := trivial
theorem PySem.W.Fast.tw5945159705370249793 : True := trivial
theorem PySem.W.Fast.tw10150394193089286178 : True := trivial
theorem PySem.W.Fast.tw3923012808611711591 : True := trivial
theorem PySem.W.Fast.tw18143495400383995539 : True := trivial
theorem PySem.W.Fast.tw3809727637886814838 : True := trivial
theorem PySem.W.Fast.tw1850703545574023855 : True := trivial
theorem PySem.W.Fast.tw1579015078747784358 : True := trivial
theorem PySem.W.Fast.tw4416851927681049763 : True := trivial
theorem PySem.W.Fast.tw10702770070365629113 : True := trivial
theorem PySem.W.Fast.tw17325029204924015232 : True := trivial
theorem PySem.W.Fast.tw14983347260634805273 : True := trivial
theorem PySem.W.Fast.tw3913908460839489768 : True := trivial
theorem PySem.W.Fast.tw11131791385339509056 : True := trivial
theorem PySem.W.Fast.tw500791086652478610 : True := trivial
theorem PySem.W.Fast.tw4917015568564862064 : True := trivial
theorem PySem.W.Fast.tw1382081902727087219 : True := trivial
theorem PySem.W.Fast.tw9572998051855824744 : True := trivial
theorem PySem.W.Fast.tw8088545713219574386 : True := trivial
theorem PySem.W.Fast.tw7021016850146679961 : True := trivial
theorem PySem.W.Fast.tw249711504337297987 : True := trivial
theorem PySem.W.Fast.tw12267743409233611125 : True := trivial
theorem PySem.W.Fast.tw15932705910428339111 : True := trivial
theorem PySem.W.Fast.tw9030527909622764464 : True := trivial
theorem PySem.W.Fast.tw635097406501288144 : True := trivial
theorem PySem.W.Fast.tw197335329483383939 : True := trivial
theorem PySem.W.Fast.tw14584675109410820176 : True := trivial
theorem PySem.W.Fast.tw11614710274185244438 : True := trivial
theorem PySem.W.Fast.tw16400051328798029533 : True := trivial
theorem PySem.W.Fast.tw3802322670466893479 : True := trivial
theorem PySem.W.Fast.tw6872787505747350309 : True := trivial
theorem PySem.W.Fast.tw63774789944974811 : True := trivial
theorem PySem.W.Fast.tw6955634913864452487 : True := trivial
theorem PySem.W.Fast.tw5013546583710744311 : True := trivial
theorem PySem.W.Fast.tw8127983027405532922 : True := trivial
theorem PySem.W.Fast.tw5412353479417732510 : True := trivial
theorem PySem.W.Fast.tw16650344497228579793 : True := trivial
theorem PySem.W.Fast.tw8381248777340897179 : True := trivial
theorem PySem.W.Fast.tw8854482067408788583 : True := trivial
theorem PySem.W.Fast.tw7749815962177692295 : True := trivial
theorem PySem.W.Fast.tw11819479464232060648 : True := trivial
theorem PySem.W.Fast.tw11513091274594581931 : True := trivial
theorem PySem.W.Fast.tw7974432576434013573 : True := trivial
theorem PySem.W.Fast.tw9746463743867391339 : True := trivial
theorem PySem.W.Fast.tw6529266067180887609 : True := trivial
theorem PySem.W.Fast.tw18230877972567081922 : True := trivial
theorem PySem.W.Fast.tw814542208836481640 : True := trivial
theorem PySem.W.Fast.tw15154722264432357697 : True := trivial
theorem PySem.W.Fast.tw15363377475356201465 : True := trivial
theorem PySem.W.Fast.tw11441889852695395579 : True := trivial
theorem PySem.W.Fast.tw236281639916155067 : True := trivial
theorem PySem.W.Fast.tw17236921222486003297 : True := trivial
theorem PySem.W.Fast.tw10996428700207556140 : True := trivial
theorem PySem.W.Fast.tw14864266266200767424 : True := trivial
theorem PySem.W.Fast.tw13028763377703623308 : True := trivial
theorem PySem.W.Fast.tw645879170706427961 : True := trivial
theorem PySem.W.Fast.tw176967169982835059 : True := trivial
theorem PySem.W.Fast.tw6333659032623981799 : True := trivial
theorem PySem.W.Fast.tw12136971828583430417 : True := trivial
theorem PySem.W.Fast.tw1408326997752111887 : True := trivial
theorem PySem.W.Fast.tw8653667986369307656 : True := trivial
theorem PySem.W.Fast.tw14714601995634065958 : True := trivial
theorem PySem.W.Fast.tw4056448214837467261 : True := trivial
theorem PySem.W.Fast.tw14651484546906716094 : True := trivial
theorem PySem.W.Fast.tw7990952835016701408 : True := trivial
theorem PySem.W.Fast.tw10349834879283844379 : True := trivial
theorem PySem.W.Fast.tw4844446476357814321 : True := trivial
theorem PySem.W.Fast.tw14479777824030209745 : True := trivial
theorem PySem.W.Fast.tw3882054924985013548 : True := trivial
theorem PySem.W.Fast.tw2438540597916501929 : True := trivial
theorem PySem.W.Fast.tw1549541189590667190 : True := trivial
theorem PySem.W.Fast.tw5655685348446374005 : True := trivial
theorem PySem.W.Fast.tw15602742292531949736 : True := trivial
theorem PySem.W.Fast.tw10733426556007477434 : True := trivial
theorem PySem.W.Fast.tw8119085088702204554 : True := trivial
theorem PySem.W.Fast.tw10111777207165086529 : True := trivial
theorem PySem.W.Fast.tw7750995920200706123 : True := trivial
theorem PySem.W.Fast.tw18247982399595737485 : True := trivial
theorem PySem.W.Fast.tw14559127172986937963 : True := trivial
theorem PySem.W.Fast.tw14241302351380337407 : True := trivial
theorem PySem.W.Fast.tw12896906418174743081 : True := trivial
theorem PySem.W.Fast.tw6213249668112289331 : True := trivial
theorem PySem.W.Fast.tw10571488977595590839 : True := trivial
theorem PySem.W.Fast.tw8906143455755859307 : True := trivial
theorem PySem.W.Fast.tw4991452314204233642 : True := trivial
theorem PySem.W.Fast.tw16301261266563122366 : True := trivial
theorem PySem.W.Fast.tw16864947873023669842 : True := trivial
theorem PySem.W.Fast.tw2075508570455771778 : True := trivial
theorem PySem.W.Fast.tw7680625671434187483 : True := trivial
theorem PySem.W.Fast.tw16156144374727523142 : True := trivial
theorem PySem.W.Fast.tw9131304092483338226 : True := trivial
theorem PySem.W.Fast.tw841836076678477298 : True := trivial
theorem PySem.W.Fast.tw12296387255327928325 : True := trivial
theorem PySem.W.Fast.tw13703284462498290275 : True := trivial
theorem PySem.W.Fast.tw8524502667720770490 : True := trivial
theorem PySem.W.Fast.tw16732369332292369674 : True := trivial
theorem PySem.W.Fast.tw1245735788618291768 : True := trivial
theorem PySem.W.Fast.tw13504292301843414718 : True := trivial
theorem PySem.W.Fast.tw8188253847691412505 : True := trivial
theorem PySem.W.Fast.tw9154337858712212513 : True := trivial
theorem PySem.W.Fast.tw3762812805518351010 : True := trivial
theorem PySem.W.Fast.tw5561466016742490973 : True := trivial
theorem PySem.W.Fast.tw1165071762350444987 : True := trivial
theorem PySem.W.Fast.tw17906469645020685895 : True := trivial
theorem PySem.W.Fast.tw10240904574895520047 : True := trivial
theorem PySem.W.Fast.tw7699019485008663977 : True := trivial
theorem PySem.W.Fast.tw736956711278269865 : True := trivial
theorem PySem.W.Fast.tw10963387348147708766 : True := trivial
theorem PySem.W.Fast.tw455032877283358964 : True := trivial
theorem PySem.W.Fast.tw15666620306140144656 : True := trivial
theorem PySem.W.Fast.tw9696338072925333197 : True := trivial
theorem PySem.W.Fast.tw12113648596078130820 : True := trivial
theorem PySem.W.Fast.tw9398267666006854657 : True := trivial
theorem PySem.W.Fast.tw7305630618395471294 : True := trivial
theorem PySem.W.Fast.tw12587323140202995057 : True := trivial
theorem PySem.W.Fast.tw16384004248081917125 : True := trivial
theorem PySem.W.Fast.tw16737564597130577346 : True := trivial
theorem PySem.W.Fast.tw8262516482051422004 : True := trivial
theorem PySem.W.Fast.tw18182375420756126067 : True := trivial
theorem PySem.W.Fast.tw11484256568317668047 : True := trivial
theorem PySem.W.Fast.tw13783413972623796995 : True := trivial
theorem PySem.W.Fast.tw8031060699982132337 : True := trivial
theorem PySem.W.Fast.tw6106049281672283969 : True := trivial
theorem PySem.W.Fast.tw18101943493523909673 : True := trivial
theorem PySem.W.Fast.tw11602586008686898361 : True := trivial
theorem PySem.W.Fast.tw11722328963642098212 : True := trivial
theorem PySem.W.Fast.tw16575301828119519281 : True := trivial
theorem PySem.W.Fast.tw13935062796108760942 : True := trivial
theorem PySem.W.Fast.tw5624767119163900899 : True := trivial
theorem PySem.W.Fast.tw8388909681575240026 : True := trivial
theorem PySem.W.Fast.tw9880844826323887524 : True := trivial
theorem PySem.W.Fast.tw1607246227269862143 : True := trivial
theorem PySem.W.Fast.tw15234367807118188716 : True := trivial
theorem PySem.W.Fast.tw298535113557696869 : True := trivial
theorem PySem.W.Fast.tw2560840944967212595 : True := trivial
theorem PySem.W.Fast.tw6948491492024375264 : True := trivial
theorem PySem.W.Fast.tw7552521633929460034 : True := trivial
theorem PySem.W.Fast.tw13831092630911822238 : True := trivial
theorem PySem.W.Fast.tw15337754563969618813 : True := trivial
theorem PySem.W.Fast.tw15116961648520287682 : True := trivial
theorem PySem.W.Fast.tw18140275998833170959 : True := trivial
theorem PySem.W.Fast.tw8569151212975514426 : True := trivial
theorem PySem.W.Fast.tw8075974374182923405 : True := trivial
theorem PySem.W.Fast.tw506791046985456500 : True := trivial
theorem PySem.W.Fast.tw10323717708477073920 : True := trivial
theorem PySem.W.Fast.tw17439270228255528776 : True := trivial
theorem PySem.W.Fast.tw9317308837234556247 : True := trivial
theorem PySem.W.Fast.tw12798549261415146126 : True := trivial
theorem PySem.W.Fast.tw4864934675555982084 : True := trivial
theorem PySem.W.Fast.tw8591365205474711575 : True := trivial
theorem PySem.W.Fast.tw3877583070800813703 : True := trivial
theorem PySem.W.Fast.tw3740763356086365259 : True := trivial
theorem PySem.W.Fast.tw17539288841801184943 : True := trivial
theorem PySem.W.Fast.tw18325894356437893013 : True := trivial
theorem PySem.W.Fast.tw16665242355061540778 : True := trivial
theorem PySem.W.Fast.tw3732766538326906454 : True := trivial
theorem PySem.W.Fast.tw7658837869981897431 : True := trivial
theorem PySem.W.Fast.tw459192094509046042 : True := trivial
theorem PySem.W.Fast.tw7767801776813263931 : True := trivial
theorem PySem.W.Fast.tw12823441913941953204 : True := trivial
theorem PySem.W.Fast.tw7711072815780126171 : True := trivial
theorem PySem.W.Fast.tw13784991033841171387 : True := trivial
theorem PySem.W.Fast.tw12233222100683070197 : True := trivial
theorem PySem.W.Fast.tw825695681951201126 : True := trivial
theorem PySem.W.Fast.tw3579239138926284398 : True := trivial
theorem PySem.W.Fast.tw18184536674951032043 : True := trivial
theorem PySem.W.Fast.tw13958202545364395261 : True := trivial
theorem PySem.W.Fast.tw15556960506979092120 : True := trivial
theorem PySem.W.Fast.tw5871048536572331590 : True := trivial
theorem PySem.W.Fast.tw18314160306539039204 : True := trivial
theorem PySem.W.Fast.tw6771436381818056931 : True := trivial
theorem PySem.W.Fast.tw15496692492635258666 : True := trivial
theorem PySem.W.Fast.tw9901353272638579774 : True := trivial
theorem PySem.W.Fast.tw11379830663343335917 : True := trivial
theorem PySem.W.Fast.tw13939309356516469364 : True := trivial
theorem PySem.W.Fast.tw4847068491624776661 : True := trivial
theorem PySem.W.Fast.tw11504529933986279421 : True := trivial
theorem PySem.W.Fast.tw14326491780371667965 : True := trivial
theorem PySem.W.Fast.tw16500588688364843800 : True := trivial
theorem PySem.W.Fast.tw11385277281022093840 : True := trivial
theorem PySem.W.Fast.tw84798142186668124 : True := trivial
theorem PySem.W.Fast.tw15460597643845587099 : True := trivial
theorem PySem.W.Fast.tw2458841628392100716 : True := trivial
theorem PySem.W.Fast.tw3129320826505669448 : True := trivial
theorem PySem.W.Fast.tw10698495875296862022 : True := trivial
theorem PySem.W.Fast.tw8284846915295933191 : True := trivial
theorem PySem.W.Fast.tw12191110060396511881 : True := trivial
theorem PySem.W.Fast.tw8366637401332937168 : True := trivial
theorem PySem.W.Fast.tw1129726216723825311 : True := trivial
theorem PySem.W.Fast.tw16281697707952152893 : True := trivial
theorem PySem.W.Fast.tw17261588009277757809 : True := trivial
theorem PySem.W.Fast.tw10626798578862595035 : True := trivial
theorem PySem.W.Fast.tw10783467272959818794 : True := trivial
theorem PySem.W.Fast.tw9713701426416170290 : True := trivial
theorem PySem.W.Fast.tw16640621959654046138 : True := trivial
theorem PySem.W.Fast.tw17293408978000304628 : True := trivial
theorem PySem.W.Fast.tw13665707390704298528 : True := trivial
theorem PySem.W.Fast.tw5251502820661199184 : True := trivial
theorem PySem.W.Fast.tw6828926287454817841 : True := trivial
theorem PySem.W.Fast.tw6742766063310309461 : True := trivial
theorem PySem.W.Fast.tw4879926752288643203 : True := trivial
theorem PySem.W.Fast.tw12035953292665971087 : True := trivial
theorem PySem.W.Fast.tw4440250614818071070 : True := trivial
theorem PySem.W.Fast.tw10886764694769245883 : True := trivial
theorem PySem.W.Fast.tw15167683569657326741 : True := trivial
theorem PySem.W.Fast.tw8196704780336403021 : True := trivial
theorem PySem.W.Fast.tw16485009153053856031 : True := trivial
theorem PySem.W.Fast.tw5677617887014099075 : True := trivial
theorem PySem.W.Fast.tw13116579207656334355 : True := trivial
theorem PySem.W.Fast.tw15810020678421198774 : True := trivial
theorem PySem.W.Fast.tw1295413520499500175 : True := trivial
theorem PySem.W.Fast.tw15298013459983941064 : True := trivial
theorem PySem.W.Fast.tw6512515029439188554 : True := trivial
theorem PySem.W.Fast.tw12684515651849544591 : True := trivial
theorem PySem.W.Fast.tw7284798330473953197 : True := trivial
theorem PySem.W.Fast.tw16081893791327859284 : True := trivial
theorem PySem.W.Fast.tw15943581157669765062 : True := trivial
theorem PySem.W.Fast.tw14704699242168421453 : True := trivial
theorem PySem.W.Fast.tw16000852263545683191 : True := trivial
theorem PySem.W.Fast.tw8791417598809203796 : True := trivial
theorem PySem.W.Fast.tw15769558680275648420 : True := trivial
theorem PySem.W.Fast.tw2797176249381838122 : True := trivial
theorem PySem.W.Fast.tw13616647214718134222 : True := trivial
theorem PySem.W.Fast.tw12179070241521738744 : True := trivial
theorem PySem.W.Fast.tw2585414142286942806 : True := trivial
theorem PySem.W.Fast.tw12321992120953323366 : True := trivial
theorem PySem.W.Fast.tw12535259174750345206 : True := trivial
theorem PySem.W.Fast.tw4079823513119591426 : True := trivial
theorem PySem.W.Fast.tw11632004517829306318 : True := trivial
theorem PySem.W.Fast.tw17028610898548090192 : True := trivial
theorem PySem.W.Fast.tw8935701069407811377 : True := trivial
theorem PySem.W.Fast.tw11995092365678695182 : True := trivial
theorem PySem.W.Fast.tw15079422662682897344 : True := trivial
theorem PySem.W.Fast.tw4101409084911704927 : True := trivial
theorem PySem.W.Fast.tw14276184861551983828 : True := trivial
theorem PySem.W.Fast.tw16631359555561957820 : True := trivial
theorem PySem.W.Fast.tw9836433257106497004 : True := trivial
theorem PySem.W.Fast.tw218576001257397872 : True := trivial
theorem PySem.W.Fast.tw6492746768777408783 : True := trivial
theorem PySem.W.Fast.tw701876080170730989 : True := trivial
theorem PySem.W.Fast.tw10956811561946113807 : True := trivial
theorem PySem.W.Fast.tw18186617277294948547 : True := trivial
theorem PySem.W.Fast.tw2873508976179361285 : True := trivial
theorem PySem.W.Fast.tw12586658376939995420 : True := trivial
theorem PySem.W.Fast.tw14695693160458729194 : True := trivial
theorem PySem.W.Fast.tw5648819372034224230 : True := trivial
theorem PySem.W.Fast.tw5311322017019822197 : True := trivial
theorem PySem.W.Fast.tw8830730770852038674 : True := trivial
theorem PySem.W.Fast.tw2747368564709089108 : True := trivial
theorem PySem.W.Fast.tw8611230871894751859 : True := trivial
theorem PySem.W.Fast.tw309221118708964011 : True := trivial
theorem PySem.W.Fast.tw8317035432595128243 : True := trivial
theorem PySem.W.Fast.tw10815901530535311396 : True := trivial
theorem PySem.W.Fast.tw9574934259232809418 : True := trivial
theorem PySem.W.Fast.tw15847341896364244461 : True := trivial
theorem PySem.W.Fast.tw20101921890206210 : True := trivial
theorem PySem.W.Fast.tw2300361360604066796 : True := trivial
theorem PySem.W.Fast.tw13403170257438640253 : True := trivial
theorem PySem.W.Fast.tw17551862179010803962 : True := trivial
theorem PySem.W.Fast.tw4799763289237897284 : True := trivial
theorem PySem.W.Fast.tw3044066390099307431 : True := trivial
theorem PySem.W.Fast.tw9446329643275679319 : True := trivial
theorem PySem.W.Fast.tw7388026674772410625 : True := trivial
theorem PySem.W.Fast.tw17538564445556531102 : True := trivial
theorem PySem.W.Fast.tw15648960116987446444 : True := trivial
theorem PySem.W.Fast.tw8509384197022750119 : True := trivial
theorem PySem.W.Fast.tw9140065708551013100 : True := trivial
theorem PySem.W.Fast.tw8036784881529910249 : True := trivial
theorem PySem.W.Fast.tw12212856865851346347 : True := trivial
theorem PySem.W.Fast.tw7893079203035585279 : True := trivial
theorem PySem.W.Fast.tw12513228336698293495 : True := trivial
theorem PySem.W.Fast.tw740901217570194061 : True := trivial
theorem PySem.W.Fast.tw3421508264669388248 : True := trivial
theorem PySem.W.Fast.tw3809365719536606310 : True := trivial
theorem PySem.W.Fast.tw12762761880619515422 : True := trivial
theorem PySem.W.Fast.tw16935478412078477494 : True := trivial
theorem PySem.W.Fast.tw4983920432103867881 : True := trivial
theorem PySem.W.Fast.tw6824690658693622052 : True := trivial
theorem PySem.W.Fast.tw3561459728412400253 : True := trivial
theorem PySem.W.Fast.tw16361444632477715668 : True := trivial
theorem PySem.W.Fast.tw5299999008290330183 : True := trivial
theorem PySem.W.Fast.tw391660176938417774 : True := trivial
theorem PySem.W.Fast.tw6804168477148691815 : True := trivial
theorem PySem.W.Fast.tw15227869438843493277 : True := trivial
theorem PySem.W.Fast.tw11939338328372379773 : True := trivial
theorem PySem.W.Fast.tw4237629543262611592 : True := trivial
theorem PySem.W.Fast.tw6864591913339788502 : True := trivial
theorem PySem.W.Fast.tw18023416995687226890 : True := trivial
theorem PySem.W.Fast.tw9594149736241912708 : True := trivial
theorem PySem.W.Fast.tw830591815201877481 : True := trivial
theorem PySem.W.Fast.tw8096516595594264540 : True := trivial
theorem PySem.W.Fast.tw11802184657055686014 : True := trivial
theorem PySem.W.Fast.tw7185469155875106821 : True := trivial
theorem PySem.W.Fast.tw59166575147348651 : True := trivial
theorem PySem.W.Fast.tw11484804516787343770 : True := trivial
theorem PySem.W.Fast.tw17327300044970164184 : True := trivial
theorem PySem.W.Fast.tw14357200307724266840 : True := trivial
theorem PySem.W.Fast.tw10640426668121564005 : True := trivial
theorem PySem.W.Fast.tw5494046404841917582 : True := trivial
theorem PySem.W.Fast.tw2532429040227278256 : True := trivial
theorem PySem.W.Fast.tw2806740064012248680 : True := trivial
theorem PySem.W.Fast.tw7889487411159488542 : True := trivial
theorem PySem.W.Fast.tw1193868118308026565 : True := trivial
theorem PySem.W.Fast.tw1339434600728241830 : True := trivial
theorem PySem.W.Fast.tw6531082572711024276 : True := trivial
theorem PySem.W.Fast.tw8469228204226613110 : True := trivial
theorem PySem.W.Fast.tw10043549440646099027 : True := trivial
theorem PySem.W.Fast.tw7805979231264307340 : True := trivial
theorem PySem.W.Fast.tw15971356148530851282 : True := trivial
theorem PySem.W.Fast.tw12269023692852075646 : True := trivial
theorem PySem.W.Fast.tw13541323434828463062 : True := trivial
theorem PySem.W.Fast.tw5877080807622933874 : True := trivial
theorem PySem.W.Fast.tw16243823454079290903 : True := trivial
theorem PySem.W.Fast.tw11388440867800359523 : True := trivial
theorem PySem.W.Fast.tw9861736984253557633 : True := trivial
theorem PySem.W.Fast.tw14136340330950747639 : True := trivial
theorem PySem.W.Fast.tw10125743053372184673 : True := trivial
theorem PySem.W.Fast.tw627319002106043497 : True := trivial
theorem PySem.W.Fast.tw15219345458762764019 : True := trivial
theorem PySem.W.Fast.tw6855848583832935471 : True := trivial
theorem PySem.W.Fast.tw17694707540820013088 : True := trivial
theorem PySem.W.Fast.tw8081740353407390313 : True := trivial
theorem PySem.W.Fast.tw102486638222300435 : True := trivial
theorem PySem.W.Fast.tw6918449625075754062 : True := trivial
theorem PySem.W.Fast.tw2185229370602672594 : True := trivial
theorem PySem.W.Fast.tw1350502324533223332 : True := trivial
theorem PySem.W.Fast.tw16502689859101827286 : True := trivial
theorem PySem.W.Fast.tw1156861711614895999 : True := trivial
theorem PySem.W.Fast.tw13678392422562060842 : True := trivial
theorem PySem.W.Fast.tw17696263542385215575 : True := trivial
theorem PySem.W.Fast.tw2255213947866285535 : True := trivial
theorem PySem.W.Fast.tw6010420345136467642 : True := trivial
theorem PySem.W.Fast.tw6195595044524258848 : True := trivial
theorem PySem.W.Fast.tw378043703670530305 : True := trivial
theorem PySem.W.Fast.tw1839424663236476574 : True := trivial
theorem PySem.W.Fast.tw6742818536396023979 : True := trivial
theorem PySem.W.Fast.tw12851100748526906855 : True := trivial
theorem PySem.W.Fast.tw4170635004828522033 : True := trivial
theorem PySem.W.Fast.tw16050395190697985448 : True := trivial
theorem PySem.W.Fast.tw15069527505198477273 : True := trivial
theorem PySem.W.Fast.tw14510062084549320467 : True := trivial
theorem PySem.W.Fast.tw2965628275658496625 : True := trivial
theorem PySem.W.Fast.tw10227620506501434892 : True := trivial
theorem PySem.W.Fast.tw4651294501790389565 : True := trivial
theorem PySem.W.Fast.tw1627020240972978874 : True := trivial
theorem PySem.W.Fast.tw12312287413928241822 : True := trivial
theorem PySem.W.Fast.tw385603564567208226 : True := trivial
theorem PySem.W.Fast.tw8148956179558015910 : True := trivial
theorem PySem.W.Fast.tw16851639308675380097 : True := trivial
theorem PySem.W.Fast.tw5227488423078086024 : True := trivial
theorem PySem.W.Fast.tw17495206247043842860 : True := trivial
theorem PySem.W.Fast.tw9174739241087580158 : True := trivial
theorem PySem.W.Fast.tw10288790217221905604 : True := trivial
theorem PySem.W.Fast.tw2679632725915175415 : True := trivial
theorem PySem.W.Fast.tw4079085303620651364 : True := trivial
theorem PySem.W.Fast.tw1918930900468153722 : True := trivial
theorem PySem.W.Fast.tw16543307294052856067 : True := trivial
theorem PySem.W.Fast.tw14498915614437962377 : True := trivial
theorem PySem.W.Fast.tw1114795170052626457 : True := trivial
theorem PySem.W.Fast.tw2047797817210380449 : True := trivial
theorem PySem.W.Fast.tw10951511402269939566 : True := trivial
theorem PySem.W.Fast.tw10641577234965002809 : True := trivial
theorem PySem.W.Fast.tw11018218340157634496 : True := trivial
theorem PySem.W.Fast.tw6772076668993748118 : True := trivial
theorem PySem.W.Fast.tw6382594648299970748 : True := trivial
theorem PySem.W.Fast.tw5737901859981266336 : True := trivial
theorem PySem.W.Fast.tw17754343776780483128 : True := trivial
theorem PySem.W.Fast.tw18110265788988587216 : True := trivial
theorem PySem.W.Fast.tw15199129019163582265 : True := trivial
theorem PySem.W.Fast.tw8582770875191081934 : True := trivial
theorem PySem.W.Fast.tw16041881227143010175 : True := trivial
theorem PySem.W.Fast.tw18065464505616100452 : True := trivial
theorem PySem.W.Fast.tw12545273900431721287 : True := trivial
theorem PySem.W.Fast.tw3239448527127981424 : True := trivial
theorem PySem.W.Fast.tw7508313133912234259 : True := trivial
theorem PySem.W.Fast.tw15332346475472519059 : True := trivial
theorem PySem.W.Fast.tw4287042596556745357 : True := trivial
theorem PySem.W.Fast.tw11393533688500140919 : True := trivial
theorem PySem.W.Fast.tw8199609174298504694 : True := trivial
theorem PySem.W.Fast.tw18163310900501953622 : True := trivial
theorem PySem.W.Fast.tw5316421054218201644 : True := trivial
theorem PySem.W.Fast.tw18085554713716767326 : True := trivial
theorem PySem.W.Fast.tw13226348943760124464 : True := trivial
theorem PySem.W.Fast.tw13975871562083709724 : True := trivial
theorem PySem.W.Fast.tw16492983048647359292 : True := trivial
theorem PySem.W.Fast.tw7703631841389279820 : True := trivial
theorem PySem.W.Fast.tw5494612233285760654 : True := trivial
theorem PySem.W.Fast.tw7635532405062883991 : True := trivial
theorem PySem.W.Fast.tw2321246079346959166 : True := trivial
theorem PySem.W.Fast.tw62704250255282016 : True := trivial
theorem PySem.W.Fast.tw4562356697149970321 : True := trivial
theorem PySem.W.Fast.tw9961792158486041753 : True := trivial
theorem PySem.W.Fast.tw11919192102164503120 : True := trivial
theorem PySem.W.Fast.tw6427877824770695496 : True := trivial
theorem PySem.W.Fast.tw14173782005385610451 : True := trivial
theorem PySem.W.Fast.tw4245353359271809580 : True := trivial
theorem PySem.W.Fast.tw11344473923144880243 : True := trivial
theorem PySem.W.Fast.tw16066261102271527486 : True := trivial
theorem PySem.W.Fast.tw7555879356232170276 : True := trivial
theorem PySem.W.Fast.tw11798504511974082192 : True := trivial
theorem PySem.W.Fast.tw11489166744222963152 : True := trivial
theorem PySem.W.Fast.tw8891446570394316439 : True := trivial
theorem PySem.W.Fast.tw14514344257597200006 : True := trivial
theorem PySem.W.Fast.tw1579255437255220531 : True := trivial
theorem PySem.W.Fast.tw12554505371825116712 : True := trivial
theorem PySem.W.Fast.tw9614806403969142049 : True := trivial
theorem PySem.W.Fast.tw6935645839272141430 : True := trivial
theorem PySem.W.Fast.tw13521099596438673987 : True := trivial
theorem PySem.W.Fast.tw15440274710155415935 : True := trivial
theorem PySem.W.Fast.tw9651096877590652838 : True := trivial
theorem PySem.W.Fast.tw12067716969232034875 : True := trivial
theorem PySem.W.Fast.tw9394326804623626234 : True := trivial
theorem PySem.W.Fast.tw564470888284017799 : True := trivial
theorem PySem.W.Fast.tw12132562018867412984 : True := trivial
theorem PySem.W.Fast.tw9095268975936058043 : True := trivial
theorem PySem.W.Fast.tw6259459210490481596 : True := trivial
theorem PySem.W.Fast.tw2682386400550136665 : True := trivial
theorem PySem.W.Fast.tw11072993097774176023 : True := trivial
theorem PySem.W.Fast.tw6308406698942426086 : True := trivial
theorem PySem.W.Fast.tw15782099927690199518 : True := trivial
theorem PySem.W.Fast.tw8833319051114827840 : True := trivial
theorem PySem.W.Fast.tw4394028484812818493 : True := trivial
theorem PySem.W.Fast.tw11273883558738983292 : True := trivial
theorem PySem.W.Fast.tw4263894051624551666 : True := trivial
theorem PySem.W.Fast.tw12824572759872940299 : True := trivial
theorem PySem.W.Fast.tw10129465502732705015 : True := trivial
theorem PySem.W.Fast.tw16028403616583256829 : True := trivial
theorem PySem.W.Fast.tw5762759434346960176 : True := trivial
theorem PySem.W.Fast.tw12729140057912214184 : True := trivial
theorem PySem.W.Fast.tw5118085793195845291 : True := trivial
theorem PySem.W.Fast.tw13570397135118348804 : True := trivial
theorem PySem.W.Fast.tw2479519016123678447 : True := trivial
theorem PySem.W.Fast.tw14632955455211770856 : True := trivial
theorem PySem.W.Fast.tw2466203043911475007 : True := trivial
theorem PySem.W.Fast.tw6194935420278851721 : True := trivial
theorem PySem.W.Fast.tw6674301161098424814 : True := trivial
theorem PySem.W.Fast.tw9585538332336837818 : True := trivial
theorem PySem.W.Fast.tw18205561562968554727 : True := trivial
theorem PySem.W.Fast.tw3694049872988672782 : True := trivial
theorem PySem.W.Fast.tw16349817176399545085 : True := trivial
theorem PySem.W.Fast.tw738321655607530479 : True := trivial
theorem PySem.W.Fast.tw3090714958530485021 : True := trivial
theorem PySem.W.Fast.tw17703857658098734625 : True := trivial
theorem PySem.W.Fast.tw4751339418269856839 : True := trivial
theorem PySem.W.Fast.tw922758965175854365 : True := trivial
theorem PySem.W.Fast.tw3251090398632800679 : True := trivial
theorem PySem.W.Fast.tw11143773231177677285 : True := trivial
theorem PySem.W.Fast.tw10002086755020800108 : True := trivial
theorem PySem.W.Fast.tw3732252173079949815 : True := trivial
theorem PySem.W.Fast.tw12754072555180106636 : True := trivial
theorem PySem.W.Fast.tw1054757813735644816 : True := trivial
theorem PySem.W.Fast.tw8716896761875223201 : True := trivial
theorem PySem.W.Fast.tw7179614949473527999 : True := trivial
theorem PySem.W.Fast.tw15793114183016949497 : True := trivial
theorem PySem.W.Fast.tw12020644822699111050 : True := trivial
theorem PySem.W.Fast.tw7964200850194293746 : True := trivial
theorem PySem.W.Fast.tw11149542141170527796 : True := trivial
theorem PySem.W.Fast.tw15922156282395401491 : True := trivial
theorem PySem.W.Fast.tw7933240548502888933 : True := trivial
theorem PySem.W.Fast.tw14929322556524720836 : True := trivial
theorem PySem.W.Fast.tw5798056461681727941 : True := trivial
theorem PySem.W.Fast.tw1313836179860901835 : True := trivial
theorem PySem.W.Fast.tw5946350469495197681 : True := trivial
theorem PySem.W.Fast.tw1615945118384043247 : True := trivial
theorem PySem.W.Fast.tw9736314721453107927 : True := trivial
theorem PySem.W.Fast.tw1027355369489313434 : True := trivial
theorem PySem.W.Fast.tw16924506074064628774 : True := trivial
theorem PySem.W.Fast.tw7228693935604322097 : True := trivial
theorem PySem.W.Fast.tw10883958057118658926 : True := trivial
theorem PySem.W.Fast.tw15664554612309980176 : True := trivial
theorem PySem.W.Fast.tw5400172290586008330 : True := trivial
theorem PySem.W.Fast.tw6217462813117045908 : True := trivial
theorem PySem.W.Fast.tw847557757738431950 : True := trivial
theorem PySem.W.Fast.tw8287812234496372628 : True := trivial
theorem PySem.W.Fast.tw6579155957729054387 : True := trivial
theorem PySem.W.Fast.tw9799260256991423919 : True := trivial
theorem PySem.W.Fast.tw15084542740470684409 : True := trivial
theorem PySem.W.Fast.tw4083233389967517300 : True := trivial
theorem PySem.W.Fast.tw8269288716518565395 : True := trivial
theorem PySem.W.Fast.tw14339293464245313393 : True := trivial
theorem PySem.W.Fast.tw9803529307971538439 : True := trivial
theorem PySem.W.Fast.tw3084470552539284331 : True := trivial
theorem PySem.W.Fast.tw6360156026731754536 : True := trivial
theorem PySem.W.Fast.tw5803238047131460598 : True := trivial
theorem PySem.W.Fast.tw13827042751497165430 : True := trivial
theorem PySem.W.Fast.tw5392641362389830778 : True := trivial
theorem PySem.W.Fast.tw11608331774064649144 : True := trivial
theorem PySem.W.Fast.tw8704712499183568502 : True := trivial
theorem PySem.W.Fast.tw1367218323553595513 : True := trivial
theorem PySem.W.Fast.tw17560916202872452663 : True := trivial
theorem PySem.W.Fast.tw10434306415657255772 : True := trivial
theorem PySem.W.Fast.tw5996471275205309687 : True := trivial
theorem PySem.W.Fast.tw16556937474617796825 : True := trivial
theorem PySem.W.Fast.tw13406346898078550544 : True := trivial
theorem PySem.W.Fast.tw1298840272721976972 : True := trivial
theorem PySem.W.Fast.tw18202953493775308930 : True := trivial
theorem PySem.W.Fast.tw14563003234347296379 : True := trivial
theorem PySem.W.Fast.tw7182626448649728218 : True := trivial
theorem PySem.W.Fast.tw8353981038594486979 : True := trivial
theorem PySem.W.Fast.tw3704610900616302180 : True := trivial
theorem PySem.W.Fast.tw15470585730931435328 : True := trivial
theorem PySem.W.Fast.tw424444487768895946 : True := trivial
theorem PySem.W.Fast.tw6918489299378007 : True := trivial
theorem PySem.W.Fast.tw16401494857356994829 : True := trivial
theorem PySem.W.Fast.tw7469270522373634648 : True := trivial
theorem PySem.W.Fast.tw11958199994689203914 : True := trivial
theorem PySem.W.Fast.tw4670759355420844841 : True := trivial
theorem PySem.W.Fast.tw13888956683643772753 : True := trivial
theorem PySem.W.Fast.tw3344974794127045161 : True := trivial
theorem PySem.W.Fast.tw14199882106438000572 : True := trivial
theorem PySem.W.Fast.tw7933820474634713765 : True := trivial
theorem PySem.W.Fast.tw10897809358627459061 : True := trivial
theorem PySem.W.Fast.tw15839813026302852589 : True := trivial
theorem PySem.W.Fast.tw15735083285624703467 : True := trivial
theorem PySem.W.Fast.tw12074940064285937011 : True := trivial
theorem PySem.W.Fast.tw13068314756951974650 : True := trivial
theorem PySem.W.Fast.tw4183710295371087471 : True := trivial
theorem PySem.W.Fast.tw3726949068681298538 : True := trivial
theorem PySem.W.Fast.tw4441785634481649261 : True := trivial
theorem PySem.W.Fast.tw4395040107022752572 : True := trivial
theorem PySem.W.Fast.tw1108893039828317714 : True := trivial
theorem PySem.W.Fast.tw16448476564695734332 : True := trivial
theorem PySem.W.Fast.tw8685680653122756971 : True := trivial
theorem PySem.W.Fast.tw11369308628160913979 : True := trivial
theorem PySem.W.Fast.tw15403552042029005608 : True := trivial
theorem PySem.W.Fast.tw6098281102937052885 : True := trivial
theorem PySem.W.Fast.tw14685098046750673232 : True := trivial
theorem PySem.W.Fast.tw3545024103160079794 : True := trivial
theorem PySem.W.Fast.tw1585998295634848551 : True := trivial
theorem PySem.W.Fast.tw9357683302051805911 : True := trivial
theorem PySem.W.Fast.tw14317324314671137687 : True := trivial
theorem PySem.W.Fast.tw14234517201651095131 : True := trivial
theorem PySem.W.Fast.tw607854958908033881 : True := trivial
theorem PySem.W.Fast.tw7329568090871053643 : True := trivial
theorem PySem.W.Fast.tw17440996332897871724 : True := trivial
theorem PySem.W.Fast.tw10733644804872797210 : True := trivial
theorem PySem.W.Fast.tw6958882888958668834 : True := trivial
theorem PySem.W.Fast.tw11854958900849358650 : True := trivial
theorem PySem.W.Fast.tw2113621712398630731 : True := trivial
theorem PySem.W.Fast.tw2100078040637433464 : True := trivial
theorem PySem.W.Fast.tw17355204948863130945 : True := trivial
theorem PySem.W.Fast.tw8002967305975884303 : True := trivial
theorem PySem.W.Fast.tw4305219404848422196 : True := trivial
theorem PySem.W.Fast.tw3646061973623786117 : True := trivial
theorem PySem.W.Fast.tw7725580760448598503 : True := trivial
theorem PySem.W.Fast.tw16140044576601778746 : True := trivial
theorem PySem.W.Fast.tw14933786670489758749 : True := trivial
theorem PySem.W.Fast.tw8517845501826951730 : True := trivial
theorem PySem.W.Fast.tw5382066569890095473 : True := trivial
theorem PySem.W.Fast.tw7325119193221460323 : True := trivial
theorem PySem.W.Fast.tw5269363981478625044 : True := trivial
theorem PySem.W.Fast.tw1364554405698985686 : True := trivial
theorem PySem.W.Fast.tw8494805476795173882 : True := trivial
theorem PySem.W.Fast.tw4321311203123963539 : True := trivial
theorem PySem.W.Fast.tw16774835352681405901 : True := trivial
theorem PySem.W.Fast.tw7509983058855048156 : True := trivial
theorem PySem.W.Fast.tw13571425292498998632 : True := trivial
theorem PySem.W.Fast.tw15004424402255899484 : True := trivial
theorem PySem.W.Fast.tw6966616779186276999 : True := trivial
theorem PySem.W.Fast.tw9266183385721988933 : True := trivial
theorem PySem.W.Fast.tw17998643318683199642 : True := trivial
theorem PySem.W.Fast.tw17433185838843833468 : True := trivial
theorem PySem.W.Fast.tw9863813476204508860 : True := trivial
theorem PySem.W.Fast.tw7614394253738171330 : True := trivial
theorem PySem.W.Fast.tw12272804339505438151 : True := trivial
theorem PySem.W.Fast.tw17454852266121622614 : True := trivial
theorem PySem.W.Fast.tw5566492283638957497 : True := trivial
theorem PySem.W.Fast.tw5792305586863451896 : True := trivial
theorem PySem.W.Fast.tw17215267951065405481 : True := trivial
theorem PySem.W.Fast.tw18034148083887147029 : True := trivial
theorem PySem.W.Fast.tw1542033168850673142 : True := trivial
theorem PySem.W.Fast.tw12088654170546741607 : True := trivial
theorem PySem.W.Fast.tw7915230449188552967 : True := trivial
theorem PySem.W.Fast.tw14118685376400377594 : True := trivial
theorem PySem.W.Fast.tw6051065388241768635 : True := trivial
theorem PySem.W.Fast.tw11591700096104060255 : True := trivial
theorem PySem.W.Fast.tw17860730844078168859 : True := trivial
theorem PySem.W.Fast.tw7101485040614051411 : True := trivial
theorem PySem.W.Fast.tw7729826315091241462 : True := trivial
theorem PySem.W.Fast.tw8095079567699582019 : True := trivial
theorem PySem.W.Fast.tw14079329613978181547 : True := trivial
theorem PySem.W.Fast.tw18018976077057486509 : True := trivial
theorem PySem.W.Fast.tw6217225475495820609 : True := trivial
theorem PySem.W.Fast.tw8162875059125129261 : True := trivial
theorem PySem.W.Fast.tw14071740982179935796 : True := trivial
theorem PySem.W.Fast.tw4027148834307346344 : True := trivial
theorem PySem.W.Fast.tw3366089521285200521 : True := trivial
theorem PySem.W.Fast.tw12543126114641068614 : True := trivial
theorem PySem.W.Fast.tw13632905264052734814 : True := trivial
theorem PySem.W.Fast.tw277159519382736311 : True := trivial
theorem PySem.W.Fast.tw17400665295301171849 : True := trivial
theorem PySem.W.Fast.tw8911246435822161791 : True := trivial
theorem PySem.W.Fast.tw6646518447478468633 : True := trivial
theorem PySem.W.Fast.tw17647817286159085040 : True := trivial
theorem PySem.W.Fast.tw4118802713389899373 : True := trivial
theorem PySem.W.Fast.tw14362898620233530517 : True := trivial
theorem PySem.W.Fast.tw17890233085512840230 : True := trivial
theorem PySem.W.Fast.tw1104225355167904547 : True := trivial
theorem PySem.W.Fast.tw15899031518770815474 : True := trivial
theorem PySem.W.Fast.tw6383166441474628538 : True := trivial
theorem PySem.W.Fast.tw12294510737210675905 : True := trivial
theorem PySem.W.Fast.tw7550650773956119056 : True := trivial
theorem PySem.W.Fast.tw8718927204805790932 : True := trivial
theorem PySem.W.Fast.tw17573656116505729517 : True := trivial
theorem PySem.W.Fast.tw18248264665601941993 : True := trivial
theorem PySem.W.Fast.tw11838080830099674742 : True := trivial
theorem PySem.W.Fast.tw3324455388117111147 : True := trivial
theorem PySem.W.Fast.tw14486157738959646661 : True := trivial
theorem PySem.W.Fast.tw6542997486925584741 : True := trivial
theorem PySem.W.Fast.tw1469295369736454315 : True := trivial
theorem PySem.W.Fast.tw1831370472611478146 : True := trivial
theorem PySem.W.Fast.tw13700828847235743486 : True := trivial
theorem PySem.W.Fast.tw9406495169194377044 : True := trivial
theorem PySem.W.Fast.tw15915016419835930588 : True := trivial
theorem PySem.W.Fast.tw583686484697056785 : True := trivial
theorem PySem.W.Fast.tw908148395888798284 : True := trivial
theorem PySem.W.Fast.tw4633042622608995669 : True := trivial
theorem PySem.W.Fast.tw17013273977825980815 : True := trivial
theorem PySem.W.Fast.tw15370503126322484308 : True := trivial
theorem PySem.W.Fast.tw2036353426079940020 : True := trivial
theorem PySem.W.Fast.tw2087456843922889454 : True := trivial
theorem PySem.W.Fast.tw8332778045204310854 : True := trivial
theorem PySem.W.Fast.tw14362125341131785069 : True := trivial
theorem PySem.W.Fast.tw13506784286633418521 : True := trivial
theorem PySem.W.Fast.tw9884422089341746288 : True := trivial
theorem PySem.W.Fast.tw2814218074971039776 : True := trivial
theorem PySem.W.Fast.tw11349722233727288939 : True := trivial
theorem PySem.W.Fast.tw12970001226084082604 : True := trivial
theorem PySem.W.Fast.tw12622064297662226082 : True := trivial
theorem PySem.W.Fast.tw9941598003191294588 : True := trivial
theorem PySem.W.Fast.tw1821742708735464374 : True := trivial
theorem PySem.W.Fast.tw9606975233767569777 : True := trivial
theorem PySem.W.Fast.tw335075929337237243 : True := trivial
theorem PySem.W.Fast.tw10193817290756034819 : True := trivial
theorem PySem.W.Fast.tw16765070175525938319 : True := trivial
theorem PySem.W.Fast.tw1743749532096056786 : True := trivial
theorem PySem.W.Fast.tw9404544671096191247 : True := trivial
theorem PySem.W.Fast.tw2543374961074076220 : True := trivial
theorem PySem.W.Fast.tw14395504101360728114 : True := trivial
theorem PySem.W.Fast.tw1572262597443887332 : True := trivial
theorem PySem.W.Fast.tw18310361823946343015 : True := trivial
theorem PySem.W.Fast.tw12588750787192528581 : True := trivial
theorem PySem.W.Fast.tw8757422143156480730 : True := trivial
theorem PySem.W.Fast.tw4057239851788915981 : True := trivial
theorem PySem.W.Fast.tw8284961792400789144 : True := trivial
theorem PySem.W.Fast.tw4917365188876853561 : True := trivial
theorem PySem.W.Fast.tw11832511237969085676 : True := trivial
theorem PySem.W.Fast.tw1776064497322340041 : True := trivial
theorem PySem.W.Fast.tw2515233434901348532 : True := trivial
theorem PySem.W.Fast.tw2464373026788987484 : True := trivial
theorem PySem.W.Fast.tw12075612106902465313 : True := trivial
theorem PySem.W.Fast.tw7108320925389023116 : True := trivial
theorem PySem.W.Fast.tw16476406683105598555 : True := trivial
theorem PySem.W.Fast.tw15319993960790917825 : True := trivial
theorem PySem.W.Fast.tw15987115773702839589 : True := trivial
theorem PySem.W.Fast.tw16367762115338681073 : True := trivial
theorem PySem.W.Fast.tw2809960251383231526 : True := trivial
theorem PySem.W.Fast.tw14991292098271010074 : True := trivial
theorem PySem.W.Fast.tw14902210862291324619 : True := trivial
theorem PySem.W.Fast.tw4450614739770044018 : True := trivial
theorem PySem.W.Fast.tw328007506154486415 : True := trivial
theorem PySem.W.Fast.tw5153534329746837485 : True := trivial
theorem PySem.W.Fast.tw15401884941749306036 : True := trivial
theorem PySem.W.Fast.tw9605604772425880757 : True := trivial
theorem PySem.W.Fast.tw12199132517800485931 : True := trivial
theorem PySem.W.Fast.tw4901197069053853364 : True := trivial
theorem PySem.W.Fast.tw14864453741361446818 : True := trivial
theorem PySem.W.Fast.tw8947854418794825445 : True := trivial
theorem PySem.W.Fast.tw14532755253876499140 : True := trivial
theorem PySem.W.Fast.tw15273968777053676588 : True := trivial
theorem PySem.W.Fast.tw10571187161198025683 : True := trivial
theorem PySem.W.Fast.tw17411322766544122394 : True := trivial
theorem PySem.W.Fast.tw3298194703998382500 : True := trivial
theorem PySem.W.Fast.tw11126702231148771590 : True := trivial
theorem PySem.W.Fast.tw9284171687577094625 : True := trivial
theorem PySem.W.Fast.tw6682985795603072141 : True := trivial
theorem PySem.W.Fast.tw2297966786196596162 : True := trivial
theorem PySem.W.Fast.tw6213413040721543600 : True := trivial
theorem PySem.W.Fast.tw2754335052506543485 : True := trivial
theorem PySem.W.Fast.tw17217057615926771739 : True := trivial
theorem PySem.W.Fast.tw2104569011432339326 : True := trivial
theorem PySem.W.Fast.tw16464149469674967479 : True := trivial
theorem PySem.W.Fast.tw17553891801374642725 : True := trivial
theorem PySem.W.Fast.tw5228238457176653685 : True := trivial
theorem PySem.W.Fast.tw1792290670804838331 : True := trivial
theorem PySem.W.Fast.tw13813973988730492701 : True := trivial
theorem PySem.W.Fast.tw13591658977933169101 : True := trivial
theorem PySem.W.Fast.tw7821789315299966837 : True := trivial
theorem PySem.W.Fast.tw10005790296586236381 : True := trivial
theorem PySem.W.Fast.tw11690953085384359689 : True := trivial
theorem PySem.W.Fast.tw4505472790216155093 : True := trivial
theorem PySem.W.Fast.tw15279272603415643488 : True := trivial
theorem PySem.W.Fast.tw8869457293248393663 : True := trivial
theorem PySem.W.Fast.tw11272972028836511546 : True := trivial
theorem PySem.W.Fast.tw10096703118754520291 : True := trivial
theorem PySem.W.Fast.tw584856394932209652 : True := trivial
theorem PySem.W.Fast.tw1406382461031440702 : True := trivial
theorem PySem.W.Fast.tw17750050645474504715 : True := trivial
theorem PySem.W.Fast.tw5672257188311847695 : True := trivial
theorem PySem.W.Fast.tw18429928846786042774 : True := trivial
theorem PySem.W.Fast.tw15060055368300519336 : True := trivial
theorem PySem.W.Fast.tw7012391044835531376 : True := trivial
theorem PySem.W.Fast.tw10177846405487799855 : True := trivial
theorem PySem.W.Fast.tw4727387335249055815 : True := trivial
theorem PySem.W.Fast.tw1857363418318685159 : True := trivial
theorem PySem.W.Fast.tw14120557848450991307 : True := trivial
theorem PySem.W.Fast.tw12823722480624731835 : True := trivial
theorem PySem.W.Fast.tw13607914565914809876 : True := trivial
theorem PySem.W.Fast.tw8730045338943266087 : True := trivial
theorem PySem.W.Fast.tw9519176978893895205 : True := trivial
theorem PySem.W.Fast.tw12142013137358437097 : True := trivial
theorem PySem.W.Fast.tw9822188685176117969 : True := trivial
theorem PySem.W.Fast.tw5944519543042537497 : True := trivial
theorem PySem.W.Fast.tw7509675376006888055 : True := trivial
theorem PySem.W.Fast.tw8387984024346204910 : True := trivial
theorem PySem.W.Fast.tw6568961346820444073 : True := trivial
theorem PySem.W.Fast.tw8584290383992724510 : True := trivial
theorem PySem.W.Fast.tw5211931195570326935 : True := trivial
theorem PySem.W.Fast.tw13652412982019710685 : True := trivial
theorem PySem.W.Fast.tw13003037720118768214 : True := trivial
theorem PySem.W.Fast.tw8206505737783342317 : True := trivial
theorem PySem.W.Fast.tw82142824093863444 : True := trivial
theorem PySem.W.Fast.tw12228910318809107598 : True := trivial
theorem PySem.W.Fast.tw3920687728804675458 : True := trivial
theorem PySem.W.Fast.tw8182008230209257638 : True := trivial
theorem PySem.W.Fast.tw2829949476903209337 : True := trivial
theorem PySem.W.Fast.tw16221125554365305520 : True := trivial
theorem PySem.W.Fast.tw17450493153262286781 : True := trivial
theorem PySem.W.Fast.tw1184645229393633823 : True := trivial
theorem PySem.W.Fast.tw4646555024294122652 : True := trivial
theorem PySem.W.Fast.tw4283540947486523816 : True := trivial
theorem PySem.W.Fast.tw1141516915983283610 : True := trivial
theorem PySem.W.Fast.tw2301454255418968766 : True := trivial
theorem PySem.W.Fast.tw13790991371880841934 : True := trivial
theorem PySem.W.Fast.tw16714288331771273534 : True := trivial
theorem PySem.W.Fast.tw4330611820289985727 : True := trivial
theorem PySem.W.Fast.tw10030333095156716264 : True := trivial
theorem PySem.W.Fast.tw1518645551773009295 : True := trivial
theorem PySem.W.Fast.tw5010192353863802677 : True := trivial
theorem PySem.W.Fast.tw16814322288903607562 : True := trivial
theorem PySem.W.Fast.tw7582246203153910641 : True := trivial
theorem PySem.W.Fast.tw15874932202609907494 : True := trivial
theorem PySem.W.Fast.tw11845783499399139894 : True := trivial
theorem PySem.W.Fast.tw7163871893633020561 : True := trivial
theorem PySem.W.Fast.tw16384881653170883736 : True := trivial
theorem PySem.W.Fast.tw704047581496914812 : True := trivial
theorem PySem.W.Fast.tw12952601948631651877 : True := trivial
theorem PySem.W.Fast.tw3002954051646240771 : True := trivial
theorem PySem.W.Fast.tw8894447812171765250 : True := trivial
theorem PySem.W.Fast.tw14487426505879145305 : True := trivial
theorem PySem.W.Fast.tw13547644189550772143 : True := trivial
theorem PySem.W.Fast.tw7330184972753501801 : True := trivial
theorem PySem.W.Fast.tw2480716019102411252 : True := trivial
theorem PySem.W.Fast.tw9040585625675624659 : True := trivial
theorem PySem.W.Fast.tw4547835335395113036 : True := trivial
theorem PySem.W.Fast.tw11172066579034771661 : True := trivial
theorem PySem.W.Fast.tw9459082751214238417 : True := trivial
theorem PySem.W.Fast.tw13672450212062141902 : True := trivial
theorem PySem.W.Fast.tw13809441492431221041 : True := trivial
theorem PySem.W.Fast.tw13395531112648080800 : True := trivial
theorem PySem.W.Fast.tw18119776024532603775 : True := trivial
theorem PySem.W.Fast.tw1199112932973997345 : True := trivial
theorem PySem.W.Fast.tw1002937787561384815 : True := trivial
theorem PySem.W.Fast.tw15043000654330221992 : True := trivial
theorem PySem.W.Fast.tw1472992744423664675 : True := trivial
theorem PySem.W.Fast.tw16873213496925528787 : True := trivial
theorem PySem.W.Fast.tw3454603735385496265 : True := trivial
theorem PySem.W.Fast.tw11313214215160773816 : True := trivial
theorem PySem.W.Fast.tw10490257380607651844 : True := trivial
theorem PySem.W.Fast.tw13350524334176160505 : True := trivial
theorem PySem.W.Fast.tw9723922084972951550 : True := trivial
theorem PySem.W.Fast.tw1691705354901894333 : True := trivial
theorem PySem.W.Fast.tw10137059489823160706 : True := trivial
theorem PySem.W.Fast.tw7214965407220958606 : True := trivial
theorem PySem.W.Fast.tw15531681525015609207 : True := trivial
theorem PySem.W.Fast.tw4415798925106550139 : True := trivial
theorem PySem.W.Fast.tw14095847201107224063 : True := trivial
theorem PySem.W.Fast.tw10887845972744611182 : True := trivial
theorem PySem.W.Fast.tw4627153883887969141 : True := trivial
theorem PySem.W.Fast.tw14256228987863563199 : True := trivial
theorem PySem.W.Fast.tw10552038980894766674 : True := trivial
theorem PySem.W.Fast.tw3783180012489709562 : True := trivial
theorem PySem.W.Fast.tw1267402222435045709 : True := trivial
theorem PySem.W.Fast.tw3042623217575115595 : True := trivial
theorem PySem.W.Fast.tw4261235745233733759 : True := trivial
theorem PySem.W.Fast.tw12133256840153997402 : True := trivial
theorem PySem.W.Fast.tw12840444071703745268 : True := trivial
theorem PySem.W.Fast.tw10972406306556455588 : True := trivial
theorem PySem.W.Fast.tw8435458578746060322 : True := trivial
theorem PySem.W.Fast.tw2418907996468890843 : True := trivial
theorem PySem.W.Fast.tw8725737529967156923 : True := trivial
theorem PySem.W.Fast.tw5389055054732386808 : True := trivial
theorem PySem.W.Fast.tw9288219436767163694 : True := trivial
theorem PySem.W.Fast.tw1805200890105880607 : True := trivial
theorem PySem.W.Fast.tw12676954875009893039 : True := trivial
theorem PySem.W.Fast.tw3854730158028237525 : True := trivial
theorem PySem.W.Fast.tw7625481471088986261 : True := trivial
theorem PySem.W.Fast.tw13661045992488860964 : True := trivial
theorem PySem.W.Fast.tw11849218273201493101 : True := trivial
theorem PySem.W.Fast.tw10155671034177350932 : True := trivial
theorem PySem.W.Fast.tw13409407265117306385 : True := trivial
theorem PySem.W.Fast.tw10094731495358899944 : True := trivial
theorem PySem.W.Fast.tw14124332785298290361 : True := trivial
theorem PySem.W.Fast.tw8592685119820976231 : True := trivial
theorem PySem.W.Fast.tw13388605037638802312 : True := trivial
theorem PySem.W.Fast.tw11028785022616642233 : True := trivial
theorem PySem.W.Fast.tw13634113985699881665 : True := trivial
theorem PySem.W.Fast.tw17027766191561024598 : True := trivial
theorem PySem.W.Fast.tw11374945975636812578 : True := trivial
theorem PySem.W.Fast.tw7959732500377111186 : True := trivial
theorem PySem.W.Fast.tw17020177743675399130 : True := trivial
theorem PySem.W.Fast.tw5751420427080967343 : True := trivial
theorem PySem.W.Fast.tw2048317350604842508 : True := trivial
theorem PySem.W.Fast.tw2899074997681678162 : True := trivial
theorem PySem.W.Fast.tw3848001198670669110 : True := trivial
theorem PySem.W.Fast.tw3440721155694590222 : True := trivial
theorem PySem.W.Fast.tw18006257846144633703 : True := trivial
theorem PySem.W.Fast.tw16452868904401069772 : True := trivial
theorem PySem.W.Fast.tw4072871565107624373 : True := trivial
theorem PySem.W.Fast.tw3782332547653784968 : True := trivial
theorem PySem.W.Fast.tw18010709039504183375 : True := trivial
theorem PySem.W.Fast.tw10464956490457462371 : True := trivial
theorem PySem.W.Fast.tw14141583393582619688 : True := trivial
theorem PySem.W.Fast.tw12142858358158857706 : True := trivial
theorem PySem.W.Fast.tw8646644622518590431 : True := trivial
theorem PySem.W.Fast.tw3175914525564202473 : True := trivial
theorem PySem.W.Fast.tw6966229427739621804 : True := trivial
theorem PySem.W.Fast.tw11200195946920260468 : True := trivial
theorem PySem.W.Fast.tw11973910073097025850 : True := trivial
theorem PySem.W.Fast.tw931524115665676752 : True := trivial
theorem PySem.W.Fast.tw11822975522537674885 : True := trivial
theorem PySem.W.Fast.tw14617732577433032930 : True := trivial
theorem PySem.W.Fast.tw7626380343634803134 : True := trivial
theorem PySem.W.Fast.tw10361962943020844065 : True := trivial
theorem PySem.W.Fast.tw12715595615819305995 : True := trivial
theorem PySem.W.Fast.tw1019701685493829814 : True := trivial
theorem PySem.W.Fast.tw7364252886251549087 : True := trivial
theorem PySem.W.Fast.tw15626841580242705060 : True := trivial
theorem PySem.W.Fast.tw8699590242077704698 : True := trivial
theorem PySem.W.Fast.tw5635129750423860671 : True := trivial
theorem PySem.W.Fast.tw17319455378318301731 : True := trivial
theorem PySem.W.Fast.tw11449781769437223595 : True := trivial
theorem PySem.W.Fast.tw13116701763099644785 : True := trivial
theorem PySem.W.Fast.tw11630576842002728986 : True := trivial
theorem PySem.W.Fast.tw8754795004103338021 : True := trivial
theorem PySem.W.Fast.tw8270638601358404748 : True := trivial
theorem PySem.W.Fast.tw13380700543898103015 : True := trivial
theorem PySem.W.Fast.tw12935723536510484848 : True := trivial
theorem PySem.W.Fast.tw5776962788832538676 : True := trivial
theorem PySem.W.Fast.tw9475105598056693639 : True := trivial
theorem PySem.W.Fast.tw8194392198215381126 : True := trivial
theorem PySem.W.Fast.tw2241451679820644227 : True := trivial
theorem PySem.W.Fast.tw14719882587063224774 : True := trivial
theorem PySem.W.Fast.tw14934000374184390955 : True := trivial
theorem PySem.W.Fast.tw9507424716260025931 : True := trivial
theorem PySem.W.Fast.tw12385445073735121511 : True := trivial
theorem PySem.W.Fast.tw15579035539580000752 : True := trivial
theorem PySem.W.Fast.tw17169167595190793733 : True := trivial
theorem PySem.W.Fast.tw12283625344555002158 : True := trivial
theorem PySem.W.Fast.tw17578941874732066050 : True := trivial
theorem PySem.W.Fast.tw8041338666173849502 : True := trivial
theorem PySem.W.Fast.tw13418736369114918990 : True := trivial
theorem PySem.W.Fast.tw3378469923072679427 : True := trivial
theorem PySem.W.Fast.tw5894403872652888045 : True := trivial
theorem PySem.W.Fast.tw6159016557588881189 : True := trivial
theorem PySem.W.Fast.tw1121128113094040546 : True := trivial
theorem PySem.W.Fast.tw16146500904763677549 : True := trivial
theorem PySem.W.Fast.tw16505424219642449361 : True := trivial
theorem PySem.W.Fast.tw10773187413242411071 : True := trivial
theorem PySem.W.Fast.tw9066048073543349503 : True := trivial
theorem PySem.W.Fast.tw4756712291701774399 : True := trivial
theorem PySem.W.Fast.tw3468741590018913212 : True := trivial
theorem PySem.W.Fast.tw18175875280686053755 : True := trivial
theorem PySem.W.Fast.tw10840001640533548769 : True := trivial
theorem PySem.W.Fast.tw13018665577326792150 : True := trivial
theorem PySem.W.Fast.tw14683640628394210695 : True := trivial
theorem PySem.W.Fast.tw14743257210914979313 : True := trivial
theorem PySem.W.Fast.tw17922915029355312804 : True := trivial
theorem PySem.W.Fast.tw4120077752183615425 : True := trivial
theorem PySem.W.Fast.tw5475763047130772921 : True := trivial
theorem PySem.W.Fast.tw8402364875607863541 : True := trivial
theorem PySem.W.Fast.tw17285547840569619298 : True := trivial
theorem PySem.W.Fast.tw8924689214908094585 : True := trivial
theorem PySem.W.Fast.tw6945113849670342567 : True := trivial
theorem PySem.W.Fast.tw6012958120893184737 : True := trivial
theorem PySem.W.Fast.tw8826875850281548373 : True := trivial
theorem PySem.W.Fast.tw1442395263510868322 : True := trivial
theorem PySem.W.Fast.tw222397772986865842 : True := trivial
theorem PySem.W.Fast.tw4256665278879241935 : True := trivial
theorem PySem.W.Fast.tw15096896519188096555 : True := trivial
theorem PySem.W.Fast.tw18082773615823624080 : True := trivial
theorem PySem.W.Fast.tw13211719681496887093 : True := trivial
theorem PySem.W.Fast.tw14724410075941480177 : True := trivial
theorem PySem.W.Fast.tw4354728196513673597 : True := trivial
theorem PySem.W.Fast.tw12994918126009584546 : True := trivial
theorem PySem.W.Fast.tw15576919571134536560 : True := trivial
theorem PySem.W.Fast.tw3622793907538823362 : True := trivial
theorem PySem.W.Fast.tw2257686227715725450 : True := trivial
theorem PySem.W.Fast.tw2400082595008605725 : True := trivial
theorem PySem.W.Fast.tw14468472670461538490 : True := trivial
theorem PySem.W.Fast.tw5940471302428994997 : True := trivial
theorem PySem.W.Fast.tw17639065713618183838 : True := trivial
theorem PySem.W.Fast.tw15433874911960849340 : True := trivial
theorem PySem.W.Fast.tw7653334621582782830 : True := trivial
theorem PySem.W.Fast.tw10486212184426874055 : True := trivial
theorem PySem.W.Fast.tw5356042942142480952 : True := trivial
theorem PySem.W.Fast.tw17966299198592968417 : True := trivial
theorem PySem.W.Fast.tw2639339903075667539 : True := trivial
theorem PySem.W.Fast.tw5277083213127537855 : True := trivial
theorem PySem.W.Fast.tw17315171842100166083 : True := trivial
theorem PySem.W.Fast.tw8976300087106750721 : True := trivial
theorem PySem.W.Fast.tw6235580266617185847 : True := trivial
theorem PySem.W.Fast.tw4061092966156415745 : True := trivial
theorem PySem.W.Fast.tw16783009047364995381 : True := trivial
theorem PySem.W.Fast.tw1124527014557000056 : True := trivial
theorem PySem.W.Fast.tw17770291683325526629 : True := trivial
theorem PySem.W.Fast.tw4638730505996920924 : True := trivial
theorem PySem.W.Fast.tw10602060037251586902 : True := trivial
theorem PySem.W.Fast.tw7705979521417539335 : True := trivial
theorem PySem.W.Fast.tw7115919700505467277 : True := trivial
theorem PySem.W.Fast.tw18391363278981320392 : True := trivial
theorem PySem.W.Fast.tw887392915392272269 : True := trivial
theorem PySem.W.Fast.tw9911368758725552372 : True := trivial
theorem PySem.W.Fast.tw16160460788290754176 : True := trivial
theorem PySem.W.Fast.tw11918621897435422074 : True := trivial
theorem PySem.W.Fast.tw614712668309647256 : True := trivial
theorem PySem.W.Fast.tw15338568540596065343 : True := trivial
theorem PySem.W.Fast.tw7555781793528398629 : True := trivial
theorem PySem.W.Fast.tw17485639124688716725 : True := trivial
theorem PySem.W.Fast.tw4215982702222975335 : True := trivial
theorem PySem.W.Fast.tw2439698414844579607 : True := trivial
theorem PySem.W.Fast.tw46765600804756743 : True := trivial
theorem PySem.W.Fast.tw2792452837807394167 : True := trivial
theorem PySem.W.Fast.tw6637420655804739322 : True := trivial
theorem PySem.W.Fast.tw6959620804977100244 : True := trivial
theorem PySem.W.Fast.tw10851246350381656872 : True := trivial
theorem PySem.W.Fast.tw1707059974807423331 : True := trivial
theorem PySem.W.Fast.tw12479739503453022406 : True := trivial
theorem PySem.W.Fast.tw18086098864714437912 : True := trivial
theorem PySem.W.Fast.tw4873336069883395071 : True := trivial
theorem PySem.W.Fast.tw7342369517470176441 : True := trivial
theorem PySem.W.Fast.tw9272998832175440419 : True := trivial
theorem PySem.W.Fast.tw10616528025683605495 : True := trivial
theorem PySem.W.Fast.tw5861654641175718717 : True := trivial
theorem PySem.W.Fast.tw14195679074850118202 : True := trivial
theorem PySem.W.Fast.tw17820189058449729547 : True := trivial
theorem PySem.W.Fast.tw414339224430839876 : True := trivial
theorem PySem.W.Fast.tw8650595148553317920 : True := trivial
theorem PySem.W.Fast.tw11571961786541459963 : True := trivial
theorem PySem.W.Fast.tw11699147253569058603 : True := trivial
theorem PySem.W.Fast.tw1910872661996048340 : True := trivial
theorem PySem.W.Fast.tw5580798827166304090 : True := trivial
theorem PySem.W.Fast.tw6240113773664538986 : True := trivial
theorem PySem.W.Fast.tw10906822336746844390 : True := trivial
theorem PySem.W.Fast.tw10164802905491580470 : True := trivial
theorem PySem.W.Fast.tw14316349124822741123 : True := trivial
theorem PySem.W.Fast.tw2881013490070617926 : True := trivial
theorem PySem.W.Fast.tw10861675566599953731 : True := trivial
theorem PySem.W.Fast.tw1558645726153875711 : True := trivial
theorem PySem.W.Fast.tw11691070294758036084 : True := trivial
theorem PySem.W.Fast.tw2754678911426059389 : True := trivial
theorem PySem.W.Fast.tw8695434586753721381 : True := trivial
theorem PySem.W.Fast.tw4760093820941348236 : True := trivial
theorem PySem.W.Fast.tw16373697898885108845 : True := trivial
theorem PySem.W.Fast.tw10142502635639028426 : True := trivial
theorem PySem.W.Fast.tw949146828728261459 : True := trivial
theorem PySem.W.Fast.tw4522885162159594103 : True := trivial
theorem PySem.W.Fast.tw10514413538722959121 : True := trivial
theorem PySem.W.Fast.tw12421740251706184489 : True := trivial
theorem PySem.W.Fast.tw12373916400652975578 : True := trivial
theorem PySem.W.Fast.tw15154720747599095046 : True := trivial
theorem PySem.W.Fast.tw14143481920349838044 : True := trivial
theorem PySem.W.Fast.tw4859740470097089781 : True := trivial
theorem PySem.W.Fast.tw11136551021776796753 : True := trivial
theorem PySem.W.Fast.tw4282298241974960367 : True := trivial
theorem PySem.W.Fast.tw13483230406809087261 : True := trivial
theorem PySem.W.Fast.tw12181555043971636674 : True := trivial
theorem PySem.W.Fast.tw16544358849636719166 : True := trivial
theorem PySem.W.Fast.tw46568776590889069 : True := trivial
theorem PySem.W.Fast.tw13755367977141785443 : True := trivial
theorem PySem.W.Fast.tw15105941458504746072 : True := trivial
theorem PySem.W.Fast.tw9000262470530983522 : True := trivial
theorem PySem.W.Fast.tw17625568124014599201 : True := trivial
theorem PySem.W.Fast.tw12651107193529005892 : True := trivial
theorem PySem.W.Fast.tw687449789072227152 : True := trivial
theorem PySem.W.Fast.tw9034240317219604489 : True := trivial
theorem PySem.W.Fast.tw716186856093672029 : True := trivial
theorem PySem.W.Fast.tw1520828445847342993 : True := trivial
theorem PySem.W.Fast.tw15897427970256486596 : True := trivial
theorem PySem.W.Fast.tw7898323064425717467 : True := trivial
theorem PySem.W.Fast.tw17408657180399520645 : True := trivial
theorem PySem.W.Fast.tw5723142547451266234 : True := trivial
theorem PySem.W.Fast.tw7770961697697846384 : True := trivial
theorem PySem.W.Fast.tw8779822028574898053 : True := trivial
theorem PySem.W.Fast.tw2750964647088792678 : True := trivial
theorem PySem.W.Fast.tw8389206503958314023 : True := trivial
theorem PySem.W.Fast.tw7132476079858520655 : True := trivial
theorem PySem.W.Fast.tw5351711392236101691 : True := trivial
theorem PySem.W.Fast.tw16528430309596207592 : True := trivial
theorem PySem.W.Fast.tw63754871619092730 : True := trivial
theorem PySem.W.Fast.tw14201719512087890079 : True := trivial
theorem PySem.W.Fast.tw14775840803259167747 : True := trivial
theorem PySem.W.Fast.tw4936668828684226849 : True := trivial
theorem PySem.W.Fast.tw6160553778017178301 : True := trivial
theorem PySem.W.Fast.tw10605929959348981141 : True := trivial
theorem PySem.W.Fast.tw6968726115947175903 : True := trivial
theorem PySem.W.Fast.tw4212669681835238935 : True := trivial
theorem PySem.W.Fast.tw70429743225607875 : True := trivial
theorem PySem.W.Fast.tw9604395946752283913 : True := trivial
theorem PySem.W.Fast.tw10548071279094564681 : True := trivial
theorem PySem.W.Fast.tw11545944057743085778 : True := trivial
theorem PySem.W.Fast.tw11096398678886755236 : True := trivial
theorem PySem.W.Fast.tw9520870289920339582 : True := trivial
theorem PySem.W.Fast.tw1341756358529646903 : True := trivial
theorem PySem.W.Fast.tw7776002624003716402 : True := trivial
theorem PySem.W.Fast.tw9101790297662260685 : True := trivial
theorem PySem.W.Fast.tw5811336944075012887 : True := trivial
theorem PySem.W.Fast.tw7558822752291154445 : True := trivial
theorem PySem.W.Fast.tw15623259345017504699 : True := trivial
theorem PySem.W.Fast.tw6477552079242048827 : True := trivial
theorem PySem.W.Fast.tw6058463304777370555 : True := trivial
theorem PySem.W.Fast.tw4398980134131936750 : True := trivial
theorem PySem.W.Fast.tw6635253957079745399 : True := trivial
theorem PySem.W.Fast.tw10858243312535109922 : True := trivial
theorem PySem.W.Fast.tw14958404317926192704 : True := trivial
theorem PySem.W.Fast.tw12968049363365054946 : True := trivial
theorem PySem.W.Fast.tw14342364105865266664 : True := trivial
theorem PySem.W.Fast.tw13621593832917527544 : True := trivial
theorem PySem.W.Fast.tw15619516008673194708 : True := trivial
theorem PySem.W.Fast.tw15965698581042655961 : True := trivial
theorem PySem.W.Fast.tw15271656053361401412 : True := trivial
theorem PySem.W.Fast.tw11363590572339947457 : True := trivial
theorem PySem.W.Fast.tw11470698959616360344 : True := trivial
theorem PySem.W.Fast.tw13299988910720853628 : True := trivial
theorem PySem.W.Fast.tw2711601617916743997 : True := trivial
theorem PySem.W.Fast.tw11210853657373008691 : True := trivial
theorem PySem.W.Fast.tw13878487983002512608 : True := trivial
theorem PySem.W.Fast.tw18299135478546607204 : True := trivial
theorem PySem.W.Fast.tw1202003475546385450 : True := trivial
theorem PySem.W.Fast.tw1029066489296149403 : True := trivial
theorem PySem.W.Fast.tw4883981485240843802 : True := trivial
theorem PySem.W.Fast.tw515818271931329347 : True := trivial
theorem PySem.W.Fast.tw1544297875711508606 : True := trivial
theorem PySem.W.Fast.tw8680146992679429934 : True := trivial
theorem PySem.W.Fast.tw2250170929461925516 : True := trivial
theorem PySem.W.Fast.tw903013710848807172 : True := trivial
theorem PySem.W.Fast.tw13599706841475697 : True := trivial
theorem PySem.W.Fast.tw3623576253671370038 : True := trivial
theorem PySem.W.Fast.tw15409773220701631051 : True := trivial
theorem PySem.W.Fast.tw7320440781141691663 : True := trivial
theorem PySem.W.Fast.tw11510581345559848215 : True := trivial
theorem PySem.W.Fast.tw4596506262260525092 : True := trivial
theorem PySem.W.Fast.tw14649245199198894173 : True := trivial
theorem PySem.W.Fast.tw13203183868563336934 : True := trivial
theorem PySem.W.Fast.tw4763370203974505257 : True := trivial
theorem PySem.W.Fast.tw16476229843660833892 : True := trivial
theorem PySem.W.Fast.tw8873314141665484239 : True := trivial
theorem PySem.W.Fast.tw268300807981155298 : True := trivial
theorem PySem.W.Fast.tw15498822745981007089 : True := trivial
theorem PySem.W.Fast.tw15001307793883603526 : True := trivial
theorem PySem.W.Fast.tw1021618141204041281 : True := trivial
theorem PySem.W.Fast.tw5232660187841984104 : True := trivial
theorem PySem.W.Fast.tw2770616096887792373 : True := trivial
theorem PySem.W.Fast.tw9025872574175832765 : True := trivial
theorem PySem.W.Fast.tw889060408057856255 : True := trivial
theorem PySem.W.Fast.tw15420103158467608215 : True := trivial
theorem PySem.W.Fast.tw422849910699007067 : True := trivial
theorem PySem.W.Fast.tw8602198337000505763 : True := trivial
theorem PySem.W.Fast.tw13774257778259859888 : True := trivial
theorem PySem.W.Fast.tw18404081222707692875 : True := trivial
theorem PySem.W.Fast.tw5748850235751506730 : True := trivial
theorem PySem.W.Fast.tw10410389758885931331 : True := trivial
theorem PySem.W.Fast.tw9424989304082064608 : True := trivial
theorem PySem.W.Fast.tw8933904717198669750 : True := trivial
theorem PySem.W.Fast.tw12511444238544424467 : True := trivial
theorem PySem.W.Fast.tw782606513692527222 : True := trivial
theorem PySem.W.Fast.tw3072230741562954205 : True := trivial
theorem PySem.W.Fast.tw14012931900696217776 : True := trivial
theorem PySem.W.Fast.tw12503087696165503249 : True := trivial
theorem PySem.W.Fast.tw16970526267676753193 : True := trivial
theorem PySem.W.Fast.tw8239797758713316548 : True := trivial
theorem PySem.W.Fast.tw9168260992699690828 : True := trivial
theorem PySem.W.Fast.tw756241010017980631 : True := trivial
theorem PySem.W.Fast.tw13207191228156901303 : True := trivial
theorem PySem.W.Fast.tw4161451428607567924 : True := trivial
theorem PySem.W.Fast.tw6887709211013190709 : True := trivial
theorem PySem.W.Fast.tw4807760877387923947 : True := trivial
theorem PySem.W.Fast.tw5452897370793037415 : True := trivial
theorem PySem.W.Fast.tw1494497260384851309 : True := trivial
theorem PySem.W.Fast.tw5225835479945491149 : True := trivial
theorem PySem.W.Fast.tw3144460377150611845 : True := trivial
theorem PySem.W.Fast.tw3268366241938012137 : True := trivial
theorem PySem.W.Fast.tw9695553352543180448 : True := trivial
theorem PySem.W.Fast.tw12460119851775447287 : True := trivial
theorem PySem.W.Fast.tw4344959213134535999 : True := trivial
theorem PySem.W.Fast.tw3472034765135036838 : True := trivial
theorem PySem.W.Fast.tw8287536165265201245 : True := trivial
theorem PySem.W.Fast.tw16565729335741566886 : True := trivial
theorem PySem.W.Fast.tw16927533603727890068 : True := trivial
theorem PySem.W.Fast.tw12566836805293683261 : True := trivial
theorem PySem.W.Fast.tw12343728090267970964 : True := trivial
theorem PySem.W.Fast.tw4820251488641196498 : True := trivial
theorem PySem.W.Fast.tw3947873251784800782 : True := trivial
theorem PySem.W.Fast.tw15105883653539084217 : True := trivial
theorem PySem.W.Fast.tw10741350013717615577 : True := trivial
theorem PySem.W.Fast.tw9722732367626934071 : True := trivial
theorem PySem.W.Fast.tw7677830453426245651 : True := trivial
theorem PySem.W.Fast.tw15271160121992098094 : True := trivial
theorem PySem.W.Fast.tw16962423923583650062 : True := trivial
theorem PySem.W.Fast.tw10410433930638297928 : True := trivial
theorem PySem.W.Fast.tw13252623912353331550 : True := trivial
theorem PySem.W.Fast.tw7134393338502183470 : True := trivial
theorem PySem.W.Fast.tw16900935332458372281 : True := trivial
theorem PySem.W.Fast.tw979266539641708423 : True := trivial
theorem PySem.W.Fast.tw7903925641928663990 : True := trivial
theorem PySem.W.Fast.tw15798903982938855088 : True := trivial
theorem PySem.W.Fast.tw10991714933072151348 : True := trivial
theorem PySem.W.Fast.tw226935924354038419 : True := trivial
theorem PySem.W.Fast.tw9732863378522298802 : True := trivial
theorem PySem.W.Fast.tw16759570777338576976 : True := trivial
theorem PySem.W.Fast.tw8752215044139335290 : True := trivial
theorem PySem.W.Fast.tw15568105731009336121 : True := trivial
theorem PySem.W.Fast.tw9879495534384883534 : True := trivial
theorem PySem.W.Fast.tw9467984013849941499 : True := trivial
theorem PySem.W.Fast.tw9735613770535458994 : True := trivial
theorem PySem.W.Fast.tw1667735395611232836 : True := trivial
theorem PySem.W.Fast.tw4001000305517190812 : True := trivial
theorem PySem.W.Fast.tw6662248112131622595 : True := trivial
theorem PySem.W.Fast.tw3331102298121935614 : True := trivial
theorem PySem.W.Fast.tw4347741820579219321 : True := trivial
theorem PySem.W.Fast.tw15998134042427620589 : True := trivial
theorem PySem.W.Fast.tw14436467764187635870 : True := trivial
theorem PySem.W.Fast.tw16875432527400778285 : True := trivial
theorem PySem.W.Fast.tw6998262204465981392 : True := trivial
theorem PySem.W.Fast.tw15331595953958076929 : True := trivial
theorem PySem.W.Fast.tw1869972034560157295 : True := trivial
theorem PySem.W.Fast.tw11408410386631448878 : True := trivial
theorem PySem.W.Fast.tw14282415761494657127 : True := trivial
theorem PySem.W.Fast.tw12057390381677261816 : True := trivial
theorem PySem.W.Fast.tw9457404909275688501 : True := trivial
theorem PySem.W.Fast.tw17499635120761627159 : True := trivial
theorem PySem.W.Fast.tw8774243725224287424 : True := trivial
theorem PySem.W.Fast.tw1888455595562559792 : True := trivial
theorem PySem.W.Fast.tw5558385085488942999 : True := trivial
theorem PySem.W.Fast.tw15148386161213622985 : True := trivial
theorem PySem.W.Fast.tw6477356034494151295 : True := trivial
theorem PySem.W.Fast.tw6978084212179291596 : True := trivial
theorem PySem.W.Fast.tw5917385909794098804 : True := trivial
theorem PySem.W.Fast.tw9566541115358015395 : True := trivial
theorem PySem.W.Fast.tw9545080683860795185 : True := trivial
theorem PySem.W.Fast.tw10299651192041469739 : True := trivial
theorem PySem.W.Fast.tw9010018908578283885 : True := trivial
theorem PySem.W.Fast.tw2781421559045193777 : True := trivial
theorem PySem.W.Fast.tw6782703778656384179 : True := trivial
theorem PySem.W.Fast.tw15055050568223951618 : True := trivial
theorem PySem.W.Fast.tw2950186692850163631 : True := trivial
theorem PySem.W.Fast.tw17624538333299992044 : True := trivial
theorem PySem.W.Fast.tw4941911514851599157 : True := trivial
theorem PySem.W.Fast.tw18300540207666824691 : True := trivial
theorem PySem.W.Fast.tw12310045827726715309 : True := trivial
theorem PySem.W.Fast.tw906475982013371842 : True := trivial
theorem PySem.W.Fast.tw4304374609380007910 : True := trivial
theorem PySem.W.Fast.tw7273116902938612534 : True := trivial
theorem PySem.W.Fast.tw15346122682782639433 : True := trivial
theorem PySem.W.Fast.tw3583924525869466461 : True := trivial
theorem PySem.W.Fast.tw2419937503371142716 : True := trivial
theorem PySem.W.Fast.tw12860185367680888530 : True := trivial
theorem PySem.W.Fast.tw14070965477883266815 : True := trivial
theorem PySem.W.Fast.tw15171050419853804864 : True := trivial
theorem PySem.W.Fast.tw15672611279770118972 : True := trivial
theorem PySem.W.Fast.tw15598748560062762509 : True := trivial
theorem PySem.W.Fast.tw11490992709118038937 : True := trivial
theorem PySem.W.Fast.tw7790572990675070205 : True := trivial
theorem PySem.W.Fast.tw2022181046335040031 : True := trivial
theorem PySem.W.Fast.tw17207225637041579730 : True := trivial
theorem PySem.W.Fast.tw13932433302851518334 : True := trivial
theorem PySem.W.Fast.tw4891652611313662995 : True := trivial
theorem PySem.W.Fast.tw3874894488245972736 : True := trivial
theorem PySem.W.Fast.tw4943385438948174746 : True := trivial
theorem PySem.W.Fast.tw492526724436670178 : True := trivial
theorem PySem.W.Fast.tw1754344927972015546 : True := trivial
theorem PySem.W.Fast.tw16363571156249564500 : True := trivial
theorem PySem.W.Fast.tw1410276154336192843 : True := trivial
theorem PySem.W.Fast.tw17799332322961383823 : True := trivial
theorem PySem.W.Fast.tw1389720165708524950 : True := trivial
theorem PySem.W.Fast.tw9292624940064752350 : True := trivial
theorem PySem.W.Fast.tw1877655437173289405 : True := trivial
theorem PySem.W.Fast.tw2384677983351268524 : True := trivial
theorem PySem.W.Fast.tw13466008232143786720 : True := trivial
theorem PySem.W.Fast.tw5998170776795933948 : True := trivial
theorem PySem.W.Fast.tw15737225257569484431 : True := trivial
theorem PySem.W.Fast.tw16744497624467422635 : True := trivial
theorem PySem.W.Fast.tw13547724749137098410 : True := trivial
theorem PySem.W.Fast.tw12755585328140840737 : True := trivial
theorem PySem.W.Fast.tw8423357048345966072 : True := trivial
theorem PySem.W.Fast.tw15892002896116083775 : True := trivial
theorem PySem.W.Fast.tw13929738039344923696 : True := trivial
theorem PySem.W.Fast.tw3578463379478008877 : True := trivial
theorem PySem.W.Fast.tw429097534108455229 : True := trivial
theorem PySem.W.Fast.tw4421375160546624845 : True := trivial
theorem PySem.W.Fast.tw2944956799236664418 : True := trivial
theorem PySem.W.Fast.tw10773104075848989883 : True := trivial
theorem PySem.W.Fast.tw16062029281719801888 : True := trivial
theorem PySem.W.Fast.tw2442176686739040498 : True := trivial
theorem PySem.W.Fast.tw5701909677468437051 : True := trivial
theorem PySem.W.Fast.tw16056223669533802348 : True := trivial
theorem PySem.W.Fast.tw4204862843859337577 : True := trivial
theorem PySem.W.Fast.tw672874357886072578 : True := trivial
theorem PySem.W.Fast.tw17658408671446493304 : True := trivial
theorem PySem.W.Fast.tw6458555227275470144 : True := trivial
theorem PySem.W.Fast.tw10409387170033481160 : True := trivial
theorem PySem.W.Fast.tw11357889467031611602 : True := trivial
theorem PySem.W.Fast.tw2170875728961937451 : True := trivial
theorem PySem.W.Fast.tw15627395370776060929 : True := trivial
theorem PySem.W.Fast.tw5636232186511965103 : True := trivial
theorem PySem.W.Fast.tw14890726023182066325 : True := trivial
theorem PySem.W.Fast.tw15191599509570295616 : True := trivial
theorem PySem.W.Fast.tw6367992505236551205 : True := trivial
theorem PySem.W.Fast.tw17660522623985605312 : True := trivial
theorem PySem.W.Fast.tw14690979408579062732 : True := trivial
theorem PySem.W.Fast.tw12862502815520337638 : True := trivial
theorem PySem.W.Fast.tw12881869587329392185 : True := trivial
theorem PySem.W.Fast.tw14597580181045593850 : True := trivial
theorem PySem.W.Fast.tw12510888574966297973 : True := trivial
theorem PySem.W.Fast.tw12422746656622158918 : True := trivial
theorem PySem.W.Fast.tw5560946950350972969 : True := trivial
theorem PySem.W.Fast.tw13838901721369691392 : True := trivial
theorem PySem.W.Fast.tw16128323404208256371 : True := trivial
theorem PySem.W.Fast.tw15539840541102077154 : True := trivial
theorem PySem.W.Fast.tw4476774588850550318 : True := trivial
theorem PySem.W.Fast.tw14769019848071151883 : True := trivial
theorem PySem.W.Fast.tw9770278513674548640 : True := trivial
theorem PySem.W.Fast.tw16779164184992515665 : True := trivial
theorem PySem.W.Fast.tw8384644009765631234 : True := trivial
theorem PySem.W.Fast.tw9833521818281389449 : True := trivial
theorem PySem.W.Fast.tw16794194932363139337 : True := trivial
theorem PySem.W.Fast.tw13767181098068365206 : True := trivial
theorem PySem.W.Fast.tw10336503082951359882 : True := trivial
theorem PySem.W.Fast.tw13948425119907760263 : True := trivial
theorem PySem.W.Fast.tw18345033432035985421 : True := trivial
theorem PySem.W.Fast.tw4710196793463579315 : True := trivial
theorem PySem.W.Fast.tw6432598788395021866 : True := trivial
theorem PySem.W.Fast.tw13049117269586117678 : True := trivial
theorem PySem.W.Fast.tw9073686845879993686 : True := trivial
theorem PySem.W.Fast.tw10238710984551135382 : True := trivial
theorem PySem.W.Fast.tw15468270848607296491 : True := trivial
theorem PySem.W.Fast.tw1102076310978298558 : True := trivial
theorem PySem.W.Fast.tw16205199700655514392 : True := trivial
theorem PySem.W.Fast.tw10846031941369843257 : True := trivial
theorem PySem.W.Fast.tw9286001511019331168 : True := trivial
theorem PySem.W.Fast.tw10515807807626504324 : True := trivial
theorem PySem.W.Fast.tw11543523643458145438 : True := trivial
theorem PySem.W.Fast.tw10548307031559898399 : True := trivial
theorem PySem.W.Fast.tw11047177477482310983 : True := trivial
theorem PySem.W.Fast.tw5520500223979121717 : True := trivial
theorem PySem.W.Fast.tw7368844862152590233 : True := trivial
theorem PySem.W.Fast.tw13264799125769240306 : True := trivial
theorem PySem.W.Fast.tw9338098405379580358 : True := trivial
theorem PySem.W.Fast.tw9743543428463913199 : True := trivial
theorem PySem.W.Fast.tw5915939191363059547 : True := trivial
theorem PySem.W.Fast.tw13873727883846949772 : True := trivial
theorem PySem.W.Fast.tw5987375837531380349 : True := trivial
theorem PySem.W.Fast.tw5011313733090740628 : True := trivial
theorem PySem.W.Fast.tw819220947131496838 : True := trivial
theorem PySem.W.Fast.tw17806946691158850811 : True := trivial
theorem PySem.W.Fast.tw15875279641542405386 : True := trivial
theorem PySem.W.Fast.tw7973210750047456512 : True := trivial
theorem PySem.W.Fast.tw15250758663020773847 : True := trivial
theorem PySem.W.Fast.tw13755077724477370931 : True := trivial
theorem PySem.W.Fast.tw1128341491959856788 : True := trivial
theorem PySem.W.Fast.tw8667433804570068497 : True := trivial
theorem PySem.W.Fast.tw15729018638232699739 : True := trivial
theorem PySem.W.Fast.tw6120373754612177774 : True := trivial
theorem PySem.W.Fast.tw1852695108057252317 : True := trivial
theorem PySem.W.Fast.tw7214509951800380491 : True := trivial
theorem PySem.W.Fast.tw15636573136752890630 : True := trivial
theorem PySem.W.Fast.tw8864692287666282972 : True := trivial
theorem PySem.W.Fast.tw2781773380000727754 : True := trivial
theorem PySem.W.Fast.tw13582725971636735613 : True := trivial
theorem PySem.W.Fast.tw14670213509984108142 : True := trivial
theorem PySem.W.Fast.tw8363338082547421359 : True := trivial
theorem PySem.W.Fast.tw16591739205387105470 : True := trivial
theorem PySem.W.Fast.tw13320083464879828747 : True := trivial
theorem PySem.W.Fast.tw12904822470482738852 : True := trivial
theorem PySem.W.Fast.tw10309158891439644582 : True := trivial
theorem PySem.W.Fast.tw13432628474952114495 : True := trivial
theorem PySem.W.Fast.tw14526233613628333849 : True := trivial
theorem PySem.W.Fast.tw5308643016398643875 : True := trivial
theorem PySem.W.Fast.tw9263186622795718791 : True := trivial
theorem PySem.W.Fast.tw8704693821092808713 : True := trivial
theorem PySem.W.Fast.tw18097771776044110867 : True := trivial
theorem PySem.W.Fast.tw402296974562858776 : True := trivial
theorem PySem.W.Fast.tw6758772722337689930 : True := trivial
theorem PySem.W.Fast.tw1868783225145025481 : True := trivial
theorem PySem.W.Fast.tw16667011847186928959 : True := trivial
theorem PySem.W.Fast.tw11606960253082234819 : True := trivial
theorem PySem.W.Fast.tw8028102678305045048 : True := trivial
theorem PySem.W.Fast.tw15233482396807776083 : True := trivial
theorem PySem.W.Fast.tw2149806093535371211 : True := trivial
theorem PySem.W.Fast.tw6529364516138313764 : True := trivial
theorem PySem.W.Fast.tw13443513483552965161 : True := trivial
theorem PySem.W.Fast.tw15566230326283285061 : True := trivial
theorem PySem.W.Fast.tw3713967763314754010 : True := trivial
theorem PySem.W.Fast.tw15999244910467204656 : True := trivial
theorem PySem.W.Fast.tw15982111779813293572 : True := trivial
theorem PySem.W.Fast.tw1914554578400366066 : True := trivial
theorem PySem.W.Fast.tw13813317115824741779 : True := trivial
theorem PySem.W.Fast.tw12406190321964907690 : True := trivial
theorem PySem.W.Fast.tw1461534918633825540 : True := trivial
theorem PySem.W.Fast.tw11276178678083401062 : True := trivial
theorem PySem.W.Fast.tw7312294167669620911 : True := trivial
theorem PySem.W.Fast.tw6361103818030996256 : True := trivial
theorem PySem.W.Fast.tw1557547599223017963 : True := trivial
theorem PySem.W.Fast.tw15731800244902590460 : True := trivial
theorem PySem.W.Fast.tw9682551835131073444 : True := trivial
theorem PySem.W.Fast.tw1815641051477036766 : True := trivial
theorem PySem.W.Fast.tw16459175013471948362 : True := trivial
theorem PySem.W.Fast.tw8149753102099859759 : True := trivial
theorem PySem.W.Fast.tw8474609984423301364 : True := trivial
theorem PySem.W.Fast.tw17962500106365159555 : True := trivial
theorem PySem.W.Fast.tw17523395650756382924 : True := trivial
theorem PySem.W.Fast.tw11616114910551012348 : True := trivial
theorem PySem.W.Fast.tw7641073090078290509 : True := trivial
theorem PySem.W.Fast.tw11551637547111783867 : True := trivial
theorem PySem.W.Fast.tw5412755643594459837 : True := trivial
theorem PySem.W.Fast.tw14941496672170874948 : True := trivial
theorem PySem.W.Fast.tw12831775537445120499 : True := trivial
theorem PySem.W.Fast.tw18349131090960715914 : True := trivial
theorem PySem.W.Fast.tw12590025431627637833 : True := trivial
theorem PySem.W.Fast.tw5354884386441056609 : True := trivial
theorem PySem.W.Fast.tw12807798783413973834 : True := trivial
theorem PySem.W.Fast.tw9366930205036908857 : True := trivial
theorem PySem.W.Fast.tw10122170621100697893 : True := trivial
theorem PySem.W.Fast.tw10142715119110721395 : True := trivial
theorem PySem.W.Fast.tw17588857085658454771 : True := trivial
theorem PySem.W.Fast.tw6166653913604154475 : True := trivial
theorem PySem.W.Fast.tw5615547656314362117 : True := trivial
theorem PySem.W.Fast.tw13270867714466578863 : True := trivial
theorem PySem.W.Fast.tw8597936124662211137 : True := trivial
theorem PySem.W.Fast.tw14991289954567862895 : True := trivial
theorem PySem.W.Fast.tw725527821872127484 : True := trivial
theorem PySem.W.Fast.tw4952983476005023333 : True := trivial
theorem PySem.W.Fast.tw4043212914116382951 : True := trivial
theorem PySem.W.Fast.tw12553596571581146070 : True := trivial
theorem PySem.W.Fast.tw1604038728944593532 : True := trivial
theorem PySem.W.Fast.tw6642960854716549392 : True := trivial
theorem PySem.W.Fast.tw12895956101506798285 : True := trivial
theorem PySem.W.Fast.tw1216993112683431332 : True := trivial
theorem PySem.W.Fast.tw8336779329558655062 : True := trivial
theorem PySem.W.Fast.tw15902225601493993723 : True := trivial
theorem PySem.W.Fast.tw8788038503076738537 : True := trivial
theorem PySem.W.Fast.tw17898351567122376480 : True := trivial
theorem PySem.W.Fast.tw17684248697948510531 : True := trivial
theorem PySem.W.Fast.tw9337375861942826608 : True := trivial
theorem PySem.W.Fast.tw4700831933321931876 : True := trivial
theorem PySem.W.Fast.tw16135397922453448355 : True := trivial
theorem PySem.W.Fast.tw6801029951757842905 : True := trivial
theorem PySem.W.Fast.tw8627596162651716172 : True := trivial
theorem PySem.W.Fast.tw14074005798592591632 : True := trivial
theorem PySem.W.Fast.tw14692622612570771876 : True := trivial
theorem PySem.W.Fast.tw5121967571294068431 : True := trivial
theorem PySem.W.Fast.tw13846266494685991067 : True := trivial
theorem PySem.W.Fast.tw6490217586009555938 : True := trivial
theorem PySem.W.Fast.tw13752640628523919100 : True := trivial
theorem PySem.W.Fast.tw9066843497335150838 : True := trivial
theorem PySem.W.Fast.tw2080800308433582410 : True := trivial
theorem PySem.W.Fast.tw10851319419766893091 : True := trivial
theorem PySem.W.Fast.tw5945296566942586482 : True := trivial
theorem PySem.W.Fast.tw14750360134510176682 : True := trivial
theorem PySem.W.Fast.tw10261576433745425617 : True := trivial
theorem PySem.W.Fast.tw2476810365624070040 : True := trivial
theorem PySem.W.Fast.tw10936985110462888819 : True := trivial
theorem PySem.W.Fast.tw7447596871229961727 : True := trivial
theorem PySem.W.Fast.tw14054639778360131676 : True := trivial
theorem PySem.W.Fast.tw17093094984500441175 : True := trivial
theorem PySem.W.Fast.tw9803228413606463897 : True := trivial
theorem PySem.W.Fast.tw14264492688235558114 : True := trivial
theorem PySem.W.Fast.tw632000090133609979 : True := trivial
theorem PySem.W.Fast.tw2978312464750620708 : True := trivial
theorem PySem.W.Fast.tw8705567253148776622 : True := trivial
theorem PySem.W.Fast.tw734575785807396504 : True := trivial
theorem PySem.W.Fast.tw15105352329163405350 : True := trivial
theorem PySem.W.Fast.tw4537751774967780609 : True := trivial
theorem PySem.W.Fast.tw4184690583984976233 : True := trivial
theorem PySem.W.Fast.tw7693612960052306586 : True := trivial
theorem PySem.W.Fast.tw15660402133733120733 : True := trivial
theorem PySem.W.Fast.tw4175008846860412520 : True := trivial
theorem PySem.W.Fast.tw8010557090854592725 : True := trivial
theorem PySem.W.Fast.tw7682960803129109895 : True := trivial
theorem PySem.W.Fast.tw16740705524244295790 : True := trivial
theorem PySem.W.Fast.tw16562103531531512760 : True := trivial
theorem PySem.W.Fast.tw15358294943946237067 : True := trivial
theorem PySem.W.Fast.tw243878730369320078 : True := trivial
theorem PySem.W.Fast.tw13764047991204035331 : True := trivial
theorem PySem.W.Fast.tw4948841101490195378 : True := trivial
theorem PySem.W.Fast.tw18093327486503010659 : True := trivial
theorem PySem.W.Fast.tw13752974012776623508 : True := trivial
theorem PySem.W.Fast.tw18395245322000427281 : True := trivial
theorem PySem.W.Fast.tw959991340834245294 : True := trivial
theorem PySem.W.Fast.tw2985359656897367667 : True := trivial
theorem PySem.W.Fast.tw16530881939404741132 : True := trivial
theorem PySem.W.Fast.tw2070802822887903013 : True := trivial
theorem PySem.W.Fast.tw14622390237720121229 : True := trivial
theorem PySem.W.Fast.tw8271144801062662251 : True := trivial
theorem PySem.W.Fast.tw17043086522179402588 : True := trivial
theorem PySem.W.Fast.tw12423726258029820396 : True := trivial
theorem PySem.W.Fast.tw13929686976605984298 : True := trivial
theorem PySem.W.Fast.tw13844910877254769279 : True := trivial
theorem PySem.W.Fast.tw1451723351979995199 : True := trivial
theorem PySem.W.Fast.tw2724098546278896424 : True := trivial
theorem PySem.W.Fast.tw9466958316792457565 : True := trivial
theorem PySem.W.Fast.tw230856471742296981 : True := trivial
theorem PySem.W.Fast.tw6958581533350649676 : True := trivial
theorem PySem.W.Fast.tw16601223120436753863 : True := trivial
theorem PySem.W.Fast.tw3106158457127558338 : True := trivial
theorem PySem.W.Fast.tw10712849362087094149 : True := trivial
theorem PySem.W.Fast.tw7439092575915720204 : True := trivial
theorem PySem.W.Fast.tw13106518404679731055 : True := trivial
theorem PySem.W.Fast.tw1902533595392357076 : True := trivial
theorem PySem.W.Fast.tw4878074872434177237 : True := trivial
theorem PySem.W.Fast.tw6204550140761716935 : True := trivial
theorem PySem.W.Fast.tw11017576662602217295 : True := trivial
theorem PySem.W.Fast.tw8728060193969538060 : True := trivial
theorem PySem.W.Fast.tw5301282815582677790 : True := trivial
theorem PySem.W.Fast.tw15385188821136033241 : True := trivial
theorem PySem.W.Fast.tw3693985755163726592 : True := trivial
theorem PySem.W.Fast.tw4818561763650654971 : True := trivial
theorem PySem.W.Fast.tw14391963137732997609 : True := trivial
theorem PySem.W.Fast.tw11878523504195674533 : True := trivial
theorem PySem.W.Fast.tw17939300862479494172 : True := trivial
theorem PySem.W.Fast.tw361680029481720709 : True := trivial
theorem PySem.W.Fast.tw3149921759873126490 : True := trivial
theorem PySem.W.Fast.tw13615110429370837811 : True := trivial
theorem PySem.W.Fast.tw2061104186592960344 : True := trivial
theorem PySem.W.Fast.tw7368523928961376600 : True := trivial
theorem PySem.W.Fast.tw6726140627760909857 : True := trivial
theorem PySem.W.Fast.tw4064245147298959346 : True := trivial
theorem PySem.W.Fast.tw9844413920285713760 : True := trivial
theorem PySem.W.Fast.tw4700558918257785255 : True := trivial
theorem PySem.W.Fast.tw833279691304281164 : True := trivial
theorem PySem.W.Fast.tw4413942831125650491 : True := trivial
theorem PySem.W.Fast.tw16623091097902041274 : True := trivial
theorem PySem.W.Fast.tw11831650722931101181 : True := trivial
theorem PySem.W.Fast.tw15700685869348127102 : True := trivial
theorem PySem.W.Fast.tw6135613929693868598 : True := trivial
theorem PySem.W.Fast.tw17424359706781044383 : True := trivial
theorem PySem.W.Fast.tw17611503229034893677 : True := trivial
theorem PySem.W.Fast.tw12692160599250644110 : True := trivial
theorem PySem.W.Fast.tw17194392743000177998 : True := trivial
theorem PySem.W.Fast.tw9186874817831095580 : True := trivial
theorem PySem.W.Fast.tw1607593522032704911 : True := trivial
theorem PySem.W.Fast.tw15035863390840672385 : True := trivial
theorem PySem.W.Fast.tw11522959605558046966 : True := trivial
theorem PySem.W.Fast.tw6982258689726494471 : True := trivial
theorem PySem.W.Fast.tw2857089325157906437 : True := trivial
theorem PySem.W.Fast.tw16897804768971284515 : True := trivial
theorem PySem.W.Fast.tw10235715601086887047 : True := trivial
theorem PySem.W.Fast.tw5467045221185176156 : True := trivial
theorem PySem.W.Fast.tw6239616592105848474 : True := trivial
theorem PySem.W.Fast.tw11097812756354962300 : True := trivial
theorem PySem.W.Fast.tw3561341530778167 : True := trivial
theorem PySem.W.Fast.tw4248607894054676673 : True := trivial
theorem PySem.W.Fast.tw11660700391356680324 : True := trivial
theorem PySem.W.Fast.tw1437638579136839579 : True := trivial
theorem PySem.W.Fast.tw7529072274431257413 : True := trivial
theorem PySem.W.Fast.tw1771905139436361408 : True := trivial
theorem PySem.W.Fast.tw2489658315883998895 : True := trivial
theorem PySem.W.Fast.tw9557844927036352486 : True := trivial
theorem PySem.W.Fast.tw1609483244840221586 : True := trivial
theorem PySem.W.Fast.tw7472588061729613232 : True := trivial
theorem PySem.W.Fast.tw5630582691658952304 : True := trivial
theorem PySem.W.Fast.tw5831529939055552555 : True := trivial
theorem PySem.W.Fast.tw129702173714679153 : True := trivial
theorem PySem.W.Fast.tw10546888672302849916 : True := trivial
theorem PySem.W.Fast.tw13835517322351475945 : True := trivial
theorem PySem.W.Fast.tw11434558018309830676 : True := trivial
theorem PySem.W.Fast.tw6721771197289025364 : True := trivial
theorem PySem.W.Fast.tw16666737630673936807 : True := trivial
theorem PySem.W.Fast.tw18302717810885010351 : True := trivial
theorem PySem.W.Fast.tw16848590844132841462 : True := trivial
theorem PySem.W.Fast.tw15133094597994892123 : True := trivial
theorem PySem.W.Fast.tw1963619432282025923 : True := trivial
theorem PySem.W.Fast.tw2134039153270353391 : True := trivial
theorem PySem.W.Fast.tw11546383392749498389 : True := trivial
theorem PySem.W.Fast.tw15014676628861131592 : True := trivial
theorem PySem.W.Fast.tw5059826184419884463 : True := trivial
theorem PySem.W.Fast.tw15830152766190536565 : True := trivial
theorem PySem.W.Fast.tw16253896551883883875 : True := trivial
theorem PySem.W.Fast.tw5216642782247616249 : True := trivial
theorem PySem.W.Fast.tw11817654837436795437 : True := trivial
theorem PySem.W.Fast.tw3198063586758939996 : True := trivial
theorem PySem.W.Fast.tw16008767920453938438 : True := trivial
theorem PySem.W.Fast.tw13624900066763764381 : True := trivial
theorem PySem.W.Fast.tw11646852906558839594 : True := trivial
theorem PySem.W.Fast.tw10285831715406845187 : True := trivial
theorem PySem.W.Fast.tw11604686612077273211 : True := trivial
theorem PySem.W.Fast.tw9894598207443018815 : True := trivial
theorem PySem.W.Fast.tw760652664836678682 : True := trivial
theorem PySem.W.Fast.tw1587528274324927469 : True := trivial
theorem PySem.W.Fast.tw4426342931198542517 : True := trivial
theorem PySem.W.Fast.tw13256559155515841997 : True := trivial
theorem PySem.W.Fast.tw5895399718403723574 : True := trivial
theorem PySem.W.Fast.tw4056419946559647598 : True := trivial
theorem PySem.W.Fast.tw5956868620680856716 : True := trivial
theorem PySem.W.Fast.tw1000443397572270139 : True := trivial
theorem PySem.W.Fast.tw4719112658818444077 : True := trivial
theorem PySem.W.Fast.tw4260727537452012369 : True := trivial
theorem PySem.W.Fast.tw5234007112734688255 : True := trivial
theorem PySem.W.Fast.tw7355294218487989239 : True := trivial
theorem PySem.W.Fast.tw11873182155842420880 : True := trivial
theorem PySem.W.Fast.tw586041154775130725 : True := trivial
theorem PySem.W.Fast.tw10177345961136830454 : True := trivial
theorem PySem.W.Fast.tw13229917668574173476 : True := trivial
theorem PySem.W.Fast.tw17711932571202020705 : True := trivial
theorem PySem.W.Fast.tw11019481547722570566 : True := trivial
theorem PySem.W.Fast.tw9962144395613108311 : True := trivial
theorem PySem.W.Fast.tw2811187287979056894 : True := trivial
theorem PySem.W.Fast.tw3801889662616648912 : True := trivial
theorem PySem.W.Fast.tw16619577759941761141 : True := trivial
theorem PySem.W.Fast.tw16426888296301909193 : True := trivial
theorem PySem.W.Fast.tw15403179641259172564 : True := trivial
theorem PySem.W.Fast.tw17518482617629432973 : True := trivial
theorem PySem.W.Fast.tw11729351556973846794 : True := trivial
theorem PySem.W.Fast.tw18229784870850429499 : True := trivial
theorem PySem.W.Fast.tw6056309586032123058 : True := trivial
theorem PySem.W.Fast.tw7513898413483747784 : True := trivial
theorem PySem.W.Fast.tw1791933115020835891 : True := trivial
theorem PySem.W.Fast.tw13582393120077426820 : True := trivial
theorem PySem.W.Fast.tw5418854638180203916 : True := trivial
theorem PySem.W.Fast.tw10772689191547497206 : True := trivial
theorem PySem.W.Fast.tw15894713632049914899 : True := trivial
theorem PySem.W.Fast.tw12613287791738732790 : True := trivial
theorem PySem.W.Fast.tw9130960290860571662 : True := trivial
theorem PySem.W.Fast.tw5496701561166892145 : True := trivial
theorem PySem.W.Fast.tw11444315882799216724 : True := trivial
theorem PySem.W.Fast.tw807093512942139591 : True := trivial
theorem PySem.W.Fast.tw7742706043497300815 : True := trivial
theorem PySem.W.Fast.tw10165352565498924986 : True := trivial
theorem PySem.W.Fast.tw3306156881701814848 : True := trivial
theorem PySem.W.Fast.tw14968330100383100133 : True := trivial
theorem PySem.W.Fast.tw14285409868980254384 : True := trivial
theorem PySem.W.Fast.tw17465767045440172150 : True := trivial
theorem PySem.W.Fast.tw11604720660575926085 : True := trivial
theorem PySem.W.Fast.tw3155751701865364308 : True := trivial
theorem PySem.W.Fast.tw11263591870267927771 : True := trivial
theorem PySem.W.Fast.tw11597892697958612887 : True := trivial
theorem PySem.W.Fast.tw1098078874642553546 : True := trivial
theorem PySem.W.Fast.tw13133423238283314855 : True := trivial
theorem PySem.W.Fast.tw4695231296293570325 : True := trivial
theorem PySem.W.Fast.tw6212564458235223161 : True := trivial
theorem PySem.W.Fast.tw4088296836847101635 : True := trivial
theorem PySem.W.Fast.tw4935861802416142866 : True := trivial
theorem PySem.W.Fast.tw10737354924601730939 : True := trivial
theorem PySem.W.Fast.tw17947991725727149452 : True := trivial
theorem PySem.W.Fast.tw3010411525934391579 : True := trivial
theorem PySem.W.Fast.tw15615487504403996733 : True := trivial
theorem PySem.W.Fast.tw16573649828634161590 : True := trivial
theorem PySem.W.Fast.tw3401421872579950008 : True := trivial
theorem PySem.W.Fast.tw17604926027113362497 : True := trivial
theorem PySem.W.Fast.tw11947172699874626218 : True := trivial
theorem PySem.W.Fast.tw11477748511900963161 : True := trivial
theorem PySem.W.Fast.tw6049462117631513358 : True := trivial
theorem PySem.W.Fast.tw14151543654816592874 : True := trivial
theorem PySem.W.Fast.tw13331557708549158116 : True := trivial
theorem PySem.W.Fast.tw2232341360643204418 : True := trivial
theorem PySem.W.Fast.tw6622158507537238929 : True := trivial
theorem PySem.W.Fast.tw4035470499177950072 : True := trivial
theorem PySem.W.Fast.tw3641666240065301046 : True := trivial
theorem PySem.W.Fast.tw6533357611773083293 : True := trivial
theorem PySem.W.Fast.tw14788152058484199356 : True := trivial
theorem PySem.W.Fast.tw12953395329018080285 : True := trivial
theorem PySem.W.Fast.tw5058275795146449926 : True := trivial
theorem PySem.W.Fast.tw13180491658470107971 : True := trivial
theorem PySem.W.Fast.tw17733999068992921094 : True := trivial
theorem PySem.W.Fast.tw2581846137014262569 : True := trivial
theorem PySem.W.Fast.tw3563093146377838506 : True := trivial
theorem PySem.W.Fast.tw12413633742964413521 : True := trivial
theorem PySem.W.Fast.tw14920529852228847510 : True := trivial
theorem PySem.W.Fast.tw3793900583103039476 : True := trivial
theorem PySem.W.Fast.tw8273516250903268096 : True := trivial
theorem PySem.W.Fast.tw4642330447990960815 : True := trivial
theorem PySem.W.Fast.tw17860871618381551770 : True := trivial
theorem PySem.W.Fast.tw14992209051714404941 : True := trivial
theorem PySem.W.Fast.tw16400965505453086073 : True := trivial
theorem PySem.W.Fast.tw13570301651861096509 : True := trivial
theorem PySem.W.Fast.tw5757054864226387631 : True := trivial
theorem PySem.W.Fast.tw1048135060421943858 : True := trivial
theorem PySem.W.Fast.tw407765153420330671 : True := trivial
theorem PySem.W.Fast.tw11448954332103431764 : True := trivial
theorem PySem.W.Fast.tw8378405303109395227 : True := trivial
theorem PySem.W.Fast.tw16840123570521070966 : True := trivial
theorem PySem.W.Fast.tw15971736133930055897 : True := trivial
theorem PySem.W.Fast.tw18267317938242102621 : True := trivial
theorem PySem.W.Fast.tw8760073807734161353 : True := trivial
theorem PySem.W.Fast.tw16470012993722576840 : True := trivial
theorem PySem.W.Fast.tw7601963130110108998 : True := trivial
theorem PySem.W.Fast.tw9791388103442582227 : True := trivial
theorem PySem.W.Fast.tw17592167181832552931 : True := trivial
theorem PySem.W.Fast.tw11703694474455745137 : True := trivial
theorem PySem.W.Fast.tw11910225907772861546 : True := trivial
theorem PySem.W.Fast.tw2852836857438019832 : True := trivial
theorem PySem.W.Fast.tw2281525702935805992 : True := trivial
theorem PySem.W.Fast.tw18092756396284426054 : True := trivial
theorem PySem.W.Fast.tw7268241267254130627 : True := trivial
theorem PySem.W.Fast.tw14684029910432390899 : True := trivial
theorem PySem.W.Fast.tw11568899017392901539 : True := trivial
theorem PySem.W.Fast.tw1975874898690496312 : True := trivial
theorem PySem.W.Fast.tw2729738923550929323 : True := trivial
theorem PySem.W.Fast.tw1161284270141282839 : True := trivial
theorem PySem.W.Fast.tw18310004368062980732 : True := trivial
theorem PySem.W.Fast.tw11512265180758305758 : True := trivial
theorem PySem.W.Fast.tw13180784204100980488 : True := trivial
theorem PySem.W.Fast.tw3945909980987465549 : True := trivial
theorem PySem.W.Fast.tw5376022261105063974 : True := trivial
theorem PySem.W.Fast.tw159218539405739451 : True := trivial
theorem PySem.W.Fast.tw8818702700494842126 : True := trivial
theorem PySem.W.Fast.tw11904167408399769692 : True := trivial
theorem PySem.W.Fast.tw14585386496745473667 : True := trivial
theorem PySem.W.Fast.tw3380909677141503315 : True := trivial
theorem PySem.W.Fast.tw16981664602099397238 : True := trivial
theorem PySem.W.Fast.tw9668887111016765557 : True := trivial
theorem PySem.W.Fast.tw17541242541956008200 : True := trivial
theorem PySem.W.Fast.tw8883269921163302462 : True := trivial
theorem PySem.W.Fast.tw10715699225586221738 : True := trivial
theorem PySem.W.Fast.tw9591369383447662091 : True := trivial
theorem PySem.W.Fast.tw3082539417491507915 : True := trivial
theorem PySem.W.Fast.tw6922481313476310670 : True := trivial
theorem PySem.W.Fast.tw9089782001488098680 : True := trivial
theorem PySem.W.Fast.tw14181663557010433641 : True := trivial
theorem PySem.W.Fast.tw10567196579388358185 : True := trivial
theorem PySem.W.Fast.tw8978876398596471891 : True := trivial
theorem PySem.W.Fast.tw4877145023833815404 : True := trivial
theorem PySem.W.Fast.tw9914870589674821853 : True := trivial
theorem PySem.W.Fast.tw3152481665713971191 : True := trivial
theorem PySem.W.Fast.tw774366618726140045 : True := trivial
theorem PySem.W.Fast.tw15023929867314852348 : True := trivial
theorem PySem.W.Fast.tw6221572820154060001 : True := trivial
theorem PySem.W.Fast.tw1006963349451342814 : True := trivial
theorem PySem.W.Fast.tw6086738069362653264 : True := trivial
theorem PySem.W.Fast.tw6429350556285015393 : True := trivial
theorem PySem.W.Fast.tw6537065331567318258 : True := trivial
theorem PySem.W.Fast.tw10257764958767988148 : True := trivial
theorem PySem.W.Fast.tw1387461383037200756 : True := trivial
theorem PySem.W.Fast.tw13410292660179285024 : True := trivial
theorem PySem.W.Fast.tw16106470350207528371 : True := trivial
theorem PySem.W.Fast.tw7266188213741625035 : True := trivial
theorem PySem.W.Fast.tw2540281109894708844 : True := trivial
theorem PySem.W.Fast.tw2134699894007845044 : True := trivial
theorem PySem.W.Fast.tw15503273166670923717 : True := trivial
theorem PySem.W.Fast.tw2677740844724424301 : True := trivial
theorem PySem.W.Fast.tw6021976291930719775 : True := trivial
theorem PySem.W.Fast.tw17806226409410930705 : True := trivial
theorem PySem.W.Fast.tw389779635676389749 : True := trivial
theorem PySem.W.Fast.tw12931842716433064217 : True := trivial
theorem PySem.W.Fast.tw5557508025339542617 : True := trivial
theorem PySem.W.Fast.tw6999747824776421925 : True := trivial
theorem PySem.W.Fast.tw2080310459021824316 : True := trivial
theorem PySem.W.Fast.tw14598266307716357218 : True := trivial
theorem PySem.W.Fast.tw2858374217105339347 : True := trivial
theorem PySem.W.Fast.tw7231238915112048664 : True := trivial
theorem PySem.W.Fast.tw2992341934340299531 : True := trivial
theorem PySem.W.Fast.tw14926300774566775697 : True := trivial
theorem PySem.W.Fast.tw16334520765258080848 : True := trivial
theorem PySem.W.Fast.tw3628472833170270324 : True := trivial
theorem PySem.W.Fast.tw12639901069699610431 : True := trivial
theorem PySem.W.Fast.tw18227165998877927671 : True := trivial
theorem PySem.W.Fast.tw1521119697900353391 : True := trivial
theorem PySem.W.Fast.tw17820347777575599713 : True := trivial
theorem PySem.W.Fast.tw3741358148593377692 : True := trivial
theorem PySem.W.Fast.tw7939506770611930607 : True := trivial
theorem PySem.W.Fast.tw15858126384646577681 : True := trivial
theorem PySem.W.Fast.tw2653966611978884853 : True := trivial
theorem PySem.W.Fast.tw14421798092197893117 : True := trivial
theorem PySem.W.Fast.tw1890513367147531865 : True := trivial
theorem PySem.W.Fast.tw8565833377149552088 : True := trivial
theorem PySem.W.Fast.tw6213926206033855067 : True := trivial
theorem PySem.W.Fast.tw14345162994520524985 : True := trivial
theorem PySem.W.Fast.tw9743856363506413469 : True := trivial
theorem PySem.W.Fast.tw1194343253980758639 : True := trivial
theorem PySem.W.Fast.tw8621062492625901332 : True := trivial
theorem PySem.W.Fast.tw14059140962942163555 : True := trivial
theorem PySem.W.Fast.tw8541789208187325305 : True := trivial
theorem PySem.W.Fast.tw10694359663457388296 : True := trivial
theorem PySem.W.Fast.tw3412052872445062250 : True := trivial
theorem PySem.W.Fast.tw9841808738739230870 : True := trivial
theorem PySem.W.Fast.tw2087581473308102217 : True := trivial
theorem PySem.W.Fast.tw8480199050691459278 : True := trivial
theorem PySem.W.Fast.tw2649381952318421485 : True := trivial
theorem PySem.W.Fast.tw1140723600898219502 : True := trivial
theorem PySem.W.Fast.tw12768098641454432271 : True := trivial
theorem PySem.W.Fast.tw11513571992484786972 : True := trivial
theorem PySem.W.Fast.tw9273486357868562707 : True := trivial
theorem PySem.W.Fast.tw9546300065165742647 : True := trivial
theorem PySem.W.Fast.tw1694380219925529409 : True := trivial
theorem PySem.W.Fast.tw15279470110896910373 : True := trivial
theorem PySem.W.Fast.tw13149322155260698726 : True := trivial
theorem PySem.W.Fast.tw9325319109126738217 : True := trivial
theorem PySem.W.Fast.tw3637147970103015012 : True := trivial
theorem PySem.W.Fast.tw14149314702964088871 : True := trivial
theorem PySem.W.Fast.tw14053539287250647245 : True := trivial
theorem PySem.W.Fast.tw13187021604799342036 : True := trivial
theorem PySem.W.Fast.tw4403238919397193518 : True := trivial
theorem PySem.W.Fast.tw807059384690395648 : True := trivial
theorem PySem.W.Fast.tw2713268289322020814 : True := trivial
theorem PySem.W.Fast.tw5201182789165688102 : True := trivial
theorem PySem.W.Fast.tw6074192862276656311 : True := trivial
theorem PySem.W.Fast.tw729843972157347333 : True := trivial
theorem PySem.W.Fast.tw16251825413342237188 : True := trivial
theorem PySem.W.Fast.tw10814099194835674172 : True := trivial
open PySem PySem.W PyProof.Rows
set_option maxRecDepth 100000 in
set_option maxHeartbeats 0 in
theorem PySem.Challenge.cw_rubgrove_k11_lines_checked_holds : PySem.Challenge.rw_rubgrove_k11_lines_checked.Holds := by
  w_on; o_law; k_head; (case hw => w_witness2)
  k_fill
  refine Pf.walkT (l := PySem.Challenge.rw_rubgrove_k11_lines_checked) rfl rfl (fun w h Y => PySem.W.km_in_of Y) rfl rfl ?F
  case F =>
    intro w mg fa h KX G hmg
    refine' Pf.all_mk KX G hmg ?a_is_word ?l_is_word ?c_is_word ?k_is_word ?a_is_kind ?l_is_kind ?c_is_kind ?k_is_kind ?a_is_sign ?l_is_sign ?c_is_sign ?k_is_sign ?a_is_text ?l_is_text ?c_is_text ?k_is_text ?a_is_cursor ?l_is_cursor ?c_is_cursor ?k_is_cursor ?a_is_named ?l_is_named ?c_is_named ?k_is_named ?a_fits ?l_fits ?c_fits ?k_fits ?a_opening ?l_opening ?c_opening ?k_opening ?a_all_fit ?l_all_fit ?c_all_fit ?k_all_fit ?a_is_test ?l_is_test ?c_is_test ?k_is_test ?a_is_line ?l_is_line ?c_is_line ?k_is_line ?a_every_line ?l_every_line ?c_every_line ?k_every_line ?a_fault_in ?l_fault_in ?c_fault_in ?k_fault_in ?a_check_lines ?l_check_lines ?c_check_lines ?k_check_lines ?a_law_bag ?l_law_bag ?c_law_bag ?k_law_bag ?a_law_take ?l_law_take ?c_law_take ?k_law_take ?a_law_of ?l_law_of ?c_law_of ?k_law_of ?a_law_words ?l_law_words ?c_law_words ?k_law_words ?a_law_names ?l_law_names ?c_law_names ?k_law_names ?a_law_look_line ?l_law_look_line ?c_law_look_line ?k_law_look_line ?a_law_place ?l_law_place ?c_law_place ?k_law_place ?a_law_deed_line ?l_law_deed_line ?c_law_deed_line ?k_law_deed_line ?a_law_test_line ?l_law_test_line ?c_law_test_line ?k_law_test_line ?a_law_lines ?l_law_lines ?c_law_lines ?k_law_lines ?a_law_field ?l_law_field ?c_law_field ?k_law_field ?a_law_why ?l_law_why ?c_law_why ?k_law_why ?a_law_alike ?l_law_alike ?c_law_alike ?k_law_alike ?a_law_word ?l_law_word ?c_law_word ?k_law_word ?a_law_fits ?l_law_fits ?c_law_fits ?k_law_fits ?a_law_form ?l_law_form ?c_law_form ?k_law_form ?a_law_good_line ?l_law_good_line ?c_law_good_line ?k_law_good_line ?a_law_bad ?l_law_bad ?c_law_bad ?k_law_bad ?a_law_bent_lines ?l_law_bent_lines ?c_law_bent_lines ?k_law_bent_lines ?a_law ?l_law ?c_law ?k_law ?lc_law ?eP_law ?nt_law ?aw_GroveError ?ew_GroveError ?iw_GroveError ?tw_GroveError ?aw_Missing ?ew_Missing ?iw_Missing ?tw_Missing ?aw_NothingLeft ?ew_NothingLeft ?iw_NothingLeft ?tw_NothingLeft ?aC_BadScript ?xL_BadScript ?hb_BadScript ?sa_BadScript ?ga_BadScript ?gg_BadScript ?hd_BadScript ?kC_BadScript ?eC_BadScript ?tC_BadScript ?nc_BadScript ?nf_BadScript ?ai_BadScript ?ti_BadScript ?li_BadScript ?ci_BadScript ?ki_BadScript ?sw_BadScript_GroveError ?sw_BadScript_Missing ?sw_BadScript_NothingLeft ?aC_TooMany ?xL_TooMany ?hb_TooMany ?sa_TooMany ?ga_TooMany ?gg_TooMany ?hd_TooMany ?kC_TooMany ?eC_TooMany ?tC_TooMany ?nc_TooMany ?nf_TooMany ?ai_TooMany ?ti_TooMany ?li_TooMany ?ci_TooMany ?ki_TooMany ?sw_TooMany_GroveError ?sw_TooMany_Missing ?sw_TooMany_NothingLeft ?aC_Script ?pg_Script ?hd_Script ?po_Script ?sa_Script ?mk_Script ?kc_Script ?na_Script_rows ?na_Script_every ?na_Script_many_looks ?at_Script_init ?fi_Script_init ?l_Script_init ?c_Script_init ?k_Script_init ?lq_Script_init ?le_Script_init ?at_Script_lines ?fi_Script_lines ?l_Script_lines ?c_Script_lines ?k_Script_lines ?qT_LOOKS ?lT_LOOKS ?qT_PLACES ?lT_PLACES ?qT_ENDS ?lT_ENDS ?qT_BARRED ?lT_BARRED ?aD_FORMS ?lD_FORMS ?sD_FORMS ?aD_TESTS ?lD_TESTS ?sD_TESTS ?z_len ?z_int ?z_range ?z_isinstance ?z_all ?z_list ?z_tuple ?z_str ?z_sorted ?z_zip ?z_enumerate ?z_max ?z_bool ?z_dict ?v_SMALL ?v_REST ?v_MOST_LETTERS_documents ?v_MOST_SIGNS ?v_MOST_LETTERS_lines ?v_MOST_DEPTH ?v_MOST_LINES ?v_MOST_COPIES
    (case a_is_word => k_is)
    (case l_is_word => k_is)
    (case c_is_word => k_is)
    (case k_is_word => k_is)
    (case a_is_kind => k_is)
    (case l_is_kind => k_is)
    (case c_is_kind => k_is)
    (case k_is_kind => k_is)
    (case a_is_sign => k_is)
    (case l_is_sign => k_is)
    (case c_is_sign => k_is)
    (case k_is_sign => k_is)
    (case a_is_text => k_is)
    (case l_is_text => k_is)
    (case c_is_text => k_is)
    (case k_is_text => k_is)
    (case a_is_cursor => k_is)
    (case l_is_cursor => k_is)
    (case c_is_cursor => k_is)
    (case k_is_cursor => k_is)
    (case a_is_named => k_is)
    (case l_is_named => k_is)
    (case c_is_named => k_is)
    (case k_is_named => k_is)
    (case a_fits => k_is)
    (case l_fits => k_is)
    (case c_fits => k_is)
    (case k_fits => k_is)
    (case a_opening => k_is)
    (case l_opening => k_is)
    (case c_opening => k_is)
    (case k_opening => k_is)
    (case a_all_fit => k_is)
    (case l_all_fit => k_is)
    (case c_all_fit => k_is)
    (case k_all_fit => k_is)
    (case a_is_test => k_is)
    (case l_is_test => k_is)
    (case c_is_test => k_is)
    (case k_is_test => k_is)
    (case a_is_line => k_is)
    (case l_is_line => k_is)
    (case c_is_line => k_is)
    (case k_is_line => k_is)
    (case a_every_line => k_is)
    (case l_every_line => k_is)
    (case c_every_line => k_is)
    (case k_every_line => k_is)
    (case a_fault_in => k_is)
    (case l_fault_in => k_is)
    (case c_fault_in => k_is)
    (case k_fault_in => k_is)
    (case a_check_lines => k_is)
    (case l_check_lines => k_is)
    (case c_check_lines => k_is)
    (case k_check_lines => k_is)
    (case a_law_bag => k_is)
    (case l_law_bag => k_is)
    (case c_law_bag => k_is)
    (case k_law_bag => k_is)
    (case a_law_take => k_is)
    (case l_law_take => k_is)
    (case c_law_take => k_is)
    (case k_law_take => k_is)
    (case a_law_of => k_is)
    (case l_law_of => k_is)
    (case c_law_of => k_is)
    (case k_law_of => k_is)
    (case a_law_words => k_is)
    (case l_law_words => k_is)
    (case c_law_words => k_is)
    (case k_law_words => k_is)
    (case a_law_names => k_is)
    (case l_law_names => k_is)
    (case c_law_names => k_is)
    (case k_law_names => k_is)
    (case a_law_look_line => k_is)
    (case l_law_look_line => k_is)
    (case c_law_look_line => k_is)
    (case k_law_look_line => k_is)
    (case a_law_place => k_is)
    (case l_law_place => k_is)
    (case c_law_place => k_is)
    (case k_law_place => k_is)
    (case a_law_deed_line => k_is)
    (case l_law_deed_line => k_is)
    (case c_law_deed_line => k_is)
    (case k_law_deed_line => k_is)
    (case a_law_test_line => k_is)
    (case l_law_test_line => k_is)
    (case c_law_test_line => k_is)
    (case k_law_test_line => k_is)
    (case a_law_lines => k_is)
    (case l_law_lines => k_is)
    (case c_law_lines => k_is)
    (case k_law_lines => k_is)
    (case a_law_field => k_is)
    (case l_law_field => k_is)
    (case c_law_field => k_is)
    (case k_law_field => k_is)
    (case a_law_why => k_is)
    (case l_law_why => k_is)
    (case c_law_why => k_is)
    (case k_law_why => k_is)
    (case a_law_alike => k_is)
    (case l_law_alike => k_is)
    (case c_law_alike => k_is)
    (case k_law_alike => k_is)
    (case a_law_word => k_is)
    (case l_law_word => k_is)
    (case c_law_word => k_is)
    (case k_law_word => k_is)
    (case a_law_fits => k_is)
    (case l_law_fits => k_is)
    (case c_law_fits => k_is)
    (case k_law_fits => k_is)
    (case a_law_form => k_is)
    (case l_law_form => k_is)
    (case c_law_form => k_is)
    (case k_law_form => k_is)
    (case a_law_good_line => k_is)
    (case l_law_good_line => k_is)
    (case c_law_good_line => k_is)
    (case k_law_good_line => k_is)
    (case a_law_bad => k_is)
    (case l_law_bad => k_is)
    (case c_law_bad => k_is)
    (case k_law_bad => k_is)
    (case a_law_bent_lines => k_is)
    (case l_law_bent_lines => k_is)
    (case c_law_bent_lines => k_is)
    (case k_law_bent_lines => k_is)
    (case a_law => k_is)
    (case l_law => k_is)
    (case c_law => k_is)
    (case k_law => k_is)
    (case lc_law => k_is)
    (case eP_law => exact rfl)
    (case nt_law => exact rfl)
    (case aw_GroveError => k_is)
    (case ew_GroveError => k_is)
    (case iw_GroveError => k_is)
    (case tw_GroveError => k_is)
    (case aw_Missing => k_is)
    (case ew_Missing => k_is)
    (case iw_Missing => k_is)
    (case tw_Missing => k_is)
    (case aw_NothingLeft => k_is)
    (case ew_NothingLeft => k_is)
    (case iw_NothingLeft => k_is)
    (case tw_NothingLeft => k_is)
    (case aC_BadScript => k_is)
    (case xL_BadScript => k_is)
    (case hb_BadScript => decide +kernel)
    (case sa_BadScript => k_is)
    (case ga_BadScript => k_is)
    (case gg_BadScript => k_is)
    (case hd_BadScript => k_is)
    (case kC_BadScript => k_is)
    (case eC_BadScript => k_is)
    (case tC_BadScript => k_is)
    (case nc_BadScript => k_is)
    (case nf_BadScript => k_is)
    (case ai_BadScript => k_is)
    (case ti_BadScript => k_is)
    (case li_BadScript => k_is)
    (case ci_BadScript => k_is)
    (case ki_BadScript => k_is)
    (case sw_BadScript_GroveError => k_is)
    (case sw_BadScript_Missing => k_is)
    (case sw_BadScript_NothingLeft => k_is)
    (case aC_TooMany => k_is)
    (case xL_TooMany => k_is)
    (case hb_TooMany => decide +kernel)
    (case sa_TooMany => k_is)
    (case ga_TooMany => k_is)
    (case gg_TooMany => k_is)
    (case hd_TooMany => k_is)
    (case kC_TooMany => k_is)
    (case eC_TooMany => k_is)
    (case tC_TooMany => k_is)
    (case nc_TooMany => k_is)
    (case nf_TooMany => k_is)
    (case ai_TooMany => k_is)
    (case ti_TooMany => k_is)
    (case li_TooMany => k_is)
    (case ci_TooMany => k_is)
    (case ki_TooMany => k_is)
    (case sw_TooMany_GroveError => k_is)
    (case sw_TooMany_Missing => k_is)
    (case sw_TooMany_NothingLeft => k_is)
    (case aC_Script => k_is)
    (case pg_Script => k_is)
    (case hd_Script => k_is)
    (case po_Script => k_is)
    (case sa_Script => k_is)
    (case mk_Script => first | k_is | exact rfl | decide +kernel)
    (case kc_Script => k_is)
    (case na_Script_rows => k_is)
    (case na_Script_every => k_is)
    (case na_Script_many_looks => k_is)
    (case at_Script_init => first | k_is | exact rfl | decide +kernel)
    (case fi_Script_init => first | k_is | exact rfl | decide +kernel)
    (case l_Script_init => k_is)
    (case c_Script_init => k_is)
    (case k_Script_init => k_is)
    (case lq_Script_init => k_is)
    (case le_Script_init => k_is)
    (case at_Script_lines => first | k_is | exact rfl | decide +kernel)
    (case fi_Script_lines => first | k_is | exact rfl | decide +kernel)
    (case l_Script_lines => k_is)
    (case c_Script_lines => k_is)
    (case k_Script_lines => k_is)
    (case qT_LOOKS => k_is)
    (case lT_LOOKS => k_is)
    (case qT_PLACES => k_is)
    (case lT_PLACES => k_is)
    (case qT_ENDS => k_is)
    (case lT_ENDS => k_is)
    (case qT_BARRED => k_is)
    (case lT_BARRED => k_is)
    (case aD_FORMS => k_is)
    (case lD_FORMS => k_is)
    (case sD_FORMS => exact rfl)
    (case aD_TESTS => k_is)
    (case lD_TESTS => k_is)
    (case sD_TESTS => exact rfl)
    (case z_len => k_is)
    (case z_int => k_is)
    (case z_range => k_is)
    (case z_isinstance => k_is)
    (case z_all => k_is)
    (case z_list => k_is)
    (case z_tuple => k_is)
    (case z_str => k_is)
    (case z_sorted => k_is)
    (case z_zip => k_is)
    (case z_enumerate => k_is)
    (case z_max => k_is)
    (case z_bool => k_is)
    (case z_dict => k_is)
    (case v_SMALL => k_is)
    (case v_REST => k_is)
    (case v_MOST_LETTERS_documents => k_is)
    (case v_MOST_SIGNS => k_is)
    (case v_MOST_LETTERS_lines => k_is)
    (case v_MOST_DEPTH => k_is)
    (case v_MOST_LINES => k_is)
    (case v_MOST_COPIES => k_is)


