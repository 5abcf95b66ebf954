import PyProof.Rows.All
import Wide.All
import OpenK.AllK
import Wide.FinOn
import HandS.ForMost
import HandS.IsInst
import HandS.Flow
import HandS.WideBits
import HandS.TupAny
import HandS.Style
import HandS.RaiseMore
import HandS.SortInts
import HandS.Zip
import HandS.NoneIn
import KE.GoesMore
import KE.GoesEnum
import KE.KListMore
import PySem.Challenge.RW_mergetree_k06_where_a_row_breaks
set_option Elab.async false
set_option linter.all false
set_option maxRecDepth 100000
set_option maxHeartbeats 4000000
namespace G
open PySem PySem.Spec PyProof.Rows L2

/-! ### rules by values, of any kind -/
section
variable {X : Cx}
def rMulS : R2 := fun x y H Q => ∃ z n, x = .str z ∧ y = .int n ∧ MulOk z n ∧ Q (.str (Txt.mul z n)) H
theorem op_mulS : OpR X (binaryOp .Mult) rMulS := by
  intro pins s σ H x y v u Q I rx ry h
  obtain ⟨z, n, rfl, rfl, ok, q⟩ := h
  obtain ⟨t, rfl⟩ := rx
  obtain ⟨t', rfl⟩ := ry
  exact SB.mul ok fun t' k => ⟨.str _, H, I.tok k, ⟨_, rfl⟩, q⟩
abbrev rOr (r r' : R2) : R2 := fun x y H Q => r x y H Q ∨ r' x y H Q
abbrev rAddI : R2 := rI0 fun i j => .int (i + j)
abbrev rAddS : R2 := fun x y H Q => ∃ i j, x = .str i ∧ y = .str j ∧ i.length + j.length ≤ sizeLine ∧ Q (.str (i ++ j)) H
abbrev rAddB : R2 := fun x y H Q => ∃ i k, x = .int i ∧ y = .bl k ∧ Q (.int (i + b2i k)) H
def gAdd (K : PySem.W.Frag) : R2 := rOr rAddI (rOr rAddS (rOr rCat (rOr (rCatA K) rAddB)))
theorem oAdd {K : PySem.W.Frag} (hK : X.K = K := by rfl) : OpR X (binaryOp .Add) (gAdd K) := by subst hK; exact op_add.or (op_add_str.or (op_cat.or (op_catA.or op_add_ib)))
def gMns : R2 := rI0 fun i j => .int (i - j)
theorem oSub : OpR X (binaryOp .Sub) gMns := op_sub
def gMul : R2 := rOr (rI CMul fun i j => .int (i * j)) (rOr rMulS rRep)
theorem oMul : OpR X (binaryOp .Mult) gMul := op_mul.or (op_mulS.or op_rep)
def gMod : R2 := rI (fun _ j => 0 < j) fun i j => .int (i % j)
theorem oMod : OpR X (binaryOp .Mod) gMod := op_mod
def gDiv : R2 := rI CDiv fun i j => .int (i / j)
theorem oDiv : OpR X (binaryOp .FloorDiv) gDiv := op_fdiv
def gPow : R2 := rI CPow fun i j => .int (i ^ j.toNat)
theorem oPow : OpR X (binaryOp .Pow) gPow := op_pow
abbrev rCS (p : List Nat → List Nat → Bool) : R2 := fun x y H Q => ∃ i j, x = .str i ∧ y = .str j ∧ Q (.bl (p i.cps.toList j.cps.toList)) H
def gLt : R2 := rOr (rI0 fun i j => .bl (decide (i < j))) (rCS fun a b => decide (a < b))
theorem oLt (hu : X.A.units + 64 < cLine) : OpR X (compareOp .Lt) gLt := op_lt.or op_lt_str
def gLe : R2 := rOr (rI0 fun i j => .bl (decide (i ≤ j))) (rCS fun a b => !decide (b < a))
theorem oLe (hu : X.A.units + 64 < cLine) : OpR X (compareOp .LtE) gLe := op_le.or op_le_str
def gGt : R2 := rOr (rI0 fun i j => .bl (decide (j < i))) (rCS fun a b => decide (b < a))
theorem oGt (hu : X.A.units + 64 < cLine) : OpR X (compareOp .Gt) gGt := op_gt.or op_gt_str
def gGe : R2 := rOr (rI0 fun i j => .bl (decide (j ≤ i))) (rCS fun a b => !decide (a < b))
theorem oGe (hu : X.A.units + 64 < cLine) : OpR X (compareOp .GtE) gGe := op_ge.or op_ge_str
def gEq (K : PySem.W.Frag) : R2 := rOr rEq (rEqD K)
theorem oEq {K : PySem.W.Frag} (hu : X.A.units + 64 < cLine) (hK : X.K = K := by rfl) : OpR X (compareOp .Eq) (gEq K) := by subst hK; exact op_eq.or (op_eqD hu)
def gNe (K : PySem.W.Frag) : R2 := rOr rNe (rNeD K)
theorem oNe {K : PySem.W.Frag} (hu : X.A.units + 64 < cLine) (hK : X.K = K := by rfl) : OpR X (compareOp .NotEq) (gNe K) := by subst hK; exact op_ne.or (op_neD hu)
theorem op_isB : OpR X (compareOp .Is) (fun x y H Q => ∃ a b, x = .bl a ∧ y = .bl b ∧ Q (.bl (decide (a = b))) H) := by
  intro pins s σ H x y v u Q I rx ry h
  obtain ⟨a, b, rfl, rfl, q⟩ := h
  cases (show v = Value.bool a from rx)
  cases (show u = Value.bool b from ry)
  by_cases e : a = b
  · subst e
    exact wpAny_is_self rfl ⟨.bl true, H, I, rfl, by simpa using q⟩
  · exact wpAny_is_other rfl (fun z => e (Value.bool.inj z)) ⟨.bl false, H, I, rfl, by simpa [e] using q⟩
theorem op_isNB : OpR X (compareOp .IsNot) (fun x y H Q => ∃ a b, x = .bl a ∧ y = .bl b ∧ Q (.bl (!decide (a = b))) H) := by
  intro pins s σ H x y v u Q I rx ry h
  obtain ⟨a, b, rfl, rfl, q⟩ := h
  cases (show v = Value.bool a from rx)
  cases (show u = Value.bool b from ry)
  by_cases e : a = b
  · subst e
    exact wpAny_isNot_self rfl ⟨.bl false, H, I, rfl, by simpa using q⟩
  · exact wpAny_isNot_other rfl (fun z => e (Value.bool.inj z)) ⟨.bl true, H, I, rfl, by simpa [e] using q⟩
def gIs : R2 := rOr (fun x y H Q => y = .non ∧ Q (.bl (decide (x = .non))) H) (fun x y H Q => ∃ a b, x = .bl a ∧ y = .bl b ∧ Q (.bl (decide (a = b))) H)
theorem oIs : OpR X (compareOp .Is) gIs := op_isN.or op_isB
def gIsN : R2 := rOr (fun x y H Q => y = .non ∧ Q (.bl (!decide (x = .non))) H) (fun x y H Q => ∃ a b, x = .bl a ∧ y = .bl b ∧ Q (.bl (!decide (a = b))) H)
theorem oIsN : OpR X (compareOp .IsNot) gIsN := op_notN.or op_isNB
abbrev rInC (neg : Bool) : R2 := fun x y H Q => ∃ (c : Nat) (z : Str), x = .str ⟨#[c]⟩ ∧ y = .str z ∧ Q (.bl (if neg then !decide (c ∈ z.cps.toList) else decide (c ∈ z.cps.toList))) H
def gIn (K : PySem.W.Frag) : R2 := rOr (rIn K false) (rInC false)
theorem oIn {K : PySem.W.Frag} (hu : X.A.units + 64 < cLine) (hK : X.K = K := by rfl) : OpR X (compareOp .In) (gIn K) := by subst hK; exact op_in_seq.or op_in_sign
def gNotIn (K : PySem.W.Frag) : R2 := rOr (rIn K true) (rInC true)
theorem oNotIn {K : PySem.W.Frag} (hu : X.A.units + 64 < cLine) (hK : X.K = K := by rfl) : OpR X (compareOp .NotIn) (gNotIn K) := by subst hK; exact op_notIn_seq.or op_notIn_sign
def gIx (K : PySem.W.Frag) : R2 := rIx K
theorem oIx {K : PySem.W.Frag} (hK : X.K = K := by rfl) : IxR X (gIx K) := by subst hK; exact ix_seq
theorem SlR.or {r r' : V → Option Int → Option Int → Hp → VK → Prop} (h : SlR X r) (h' : SlR X r') : SlR X fun x lo hi H Q => r x lo hi H Q ∨ r' x lo hi H Q :=
  fun pins s σ H x v vl vu lo hi sl Q I rx hs pl pu q => q.elim (h pins s σ H x v vl vu lo hi sl Q I rx hs pl pu) (h' pins s σ H x v vl vu lo hi sl Q I rx hs pl pu)
def gSl (K : PySem.W.Frag) : V → Option Int → Option Int → Hp → VK → Prop := fun x lo hi H Q => rSlL K x lo hi H Q ∨ (rSlT K x lo hi H Q ∨ rSlS x lo hi H Q)
theorem oSl {K : PySem.W.Frag} (hK : X.K = K := by rfl) : SlR X (gSl K) := by subst hK; exact SlR.or sl_list (SlR.or sl_tup sl_str)
abbrev RC := List V → Hp → VK → Prop
def gLen (K : PySem.W.Frag) : RC := fun xs H Q => ∃ x n, xs = [x] ∧ LenV K x H n ∧ Q (.int n) H
theorem oLen {K : PySem.W.Frag} (hK : X.K = K := by rfl) : CallR X (.builtin "len") (gLen K) := by subst hK; exact call_len
def gMin (K : PySem.W.Frag) : RC := fun xs H Q => (∃ i j, xs = [.int i, .int j] ∧ Q (.int (if j < i then j else i)) H) ∨ rMin K xs H Q
theorem oMin {K : PySem.W.Frag} (hc : X.calm = true) (hu : X.A.units + 64 < cLine) (hK : X.K = K := by rfl) : CallR X (.builtin "min") (gMin K) := by subst hK; exact (call_min2 hc).or (cr_min hc)
def gMax (K : PySem.W.Frag) : RC := fun xs H Q => (∃ i j, xs = [.int i, .int j] ∧ Q (.int (if j > i then j else i)) H) ∨ rMax K xs H Q
theorem oMax {K : PySem.W.Frag} (hc : X.calm = true) (hu : X.A.units + 64 < cLine) (hK : X.K = K := by rfl) : CallR X (.builtin "max") (gMax K) := by subst hK; exact (call_max2 hc).or (cr_max hc)
def gSum (K : PySem.W.Frag) : RC := rSum K
theorem oSum {K : PySem.W.Frag} (hc : X.calm = true) (hK : X.K = K := by rfl) : CallR X (.builtin "sum") (gSum K) := by subst hK; exact cr_sum hc
def gSorted (K : PySem.W.Frag) : RC := fun xs H Q => rSortedI K xs H Q ∨ rSortedS K xs H Q
theorem oSorted {K : PySem.W.Frag} (hc : X.calm = true) (hu : X.A.units + 64 < cLine) (hK : X.K = K := by rfl) : CallR X (.builtin "sorted") (gSorted K) := by subst hK; exact cr_sortedI.or cr_sortedS
def gInt : RC := fun xs H Q => ((∃ i, xs = [.int i] ∧ Q (.int i) H) ∨ ∃ k, xs = [.bl k] ∧ Q (.int (if k then 1 else 0)) H) ∨
  ∃ a n, xs = [.str a] ∧ PySem.intText? a = some n ∧ a.length ≤ 640 ∧ Q (.int n) H
theorem oInt : CallR X (.type "int") gInt := call_int1.or call_int_str
def gStr : RC := fun xs H Q => (∃ i, xs = [.int i] ∧ i.natAbs.log2 < 1920 ∧ Q (.str (toString i)) H) ∨ ∃ a, xs = [.str a] ∧ Q (.str a) H
theorem oStr : CallR X (.type "str") gStr := call_str_int.or SkE.call_str_str
def gIsi (K : PySem.W.Frag) : RC := fun xs H Q => rIsi K xs H Q ∨ rIsiT K xs H Q
theorem oIsi {K : PySem.W.Frag} (hK : X.K = K := by rfl) : CallR X (.builtin "isinstance") (gIsi K) := by subst hK; exact call_isi.or call_isiT
def gAbs : RC := fun xs H Q => ∃ i, xs = [.int i] ∧ Q (.int (if i < 0 then -i else i)) H
theorem oAbs : CallR X (.builtin "abs") gAbs := call_abs
def gList (K : PySem.W.Frag) : RC := fun xs H Q => ∃ p ys, xs = [.ref p] ∧ (SqL K H p ys ∨ SqT K H p ys) ∧ ∀ l, H l = none → Q (.ref l) (upd H l (.lst ys))
theorem oList {K : PySem.W.Frag} (hK : X.K = K := by rfl) : CallR X (.type "list") (gList K) := by subst hK; exact call_list_of
def gAll (K : PySem.W.Frag) : RC := rAll K
theorem oAll {K : PySem.W.Frag} (hc : X.calm = true) (hK : X.K = K := by rfl) : CallR X (.builtin "all") (gAll K) := by subst hK; exact cr_all hc
def gAny (K : PySem.W.Frag) : RC := rAny K
theorem oAny {K : PySem.W.Frag} (hc : X.calm = true) (hK : X.K = K := by rfl) : CallR X (.builtin "any") (gAny K) := by subst hK; exact cr_any hc
def gTuple (K : PySem.W.Frag) : RC := fun xs H Q => ∃ p ys, xs = [.ref p] ∧ ((SqL K H p ys ∧ ∀ l, H l = none → Q (.ref l) (upd H l (.tup ys))) ∨ (SqT K H p ys ∧ Q (.ref p) H))
theorem oTuple {K : PySem.W.Frag} (hK : X.K = K := by rfl) : CallR X (.type "tuple") (gTuple K) := by subst hK; exact call_tuple_of
section
variable {o e e2 : Expr} {es : List Expr} {to te : TE} {t ta : TA} {name : Str} {apos cpos pos p : Pos} {T id : String} {r : V → List V → Hp → VK → Prop} {K : PySem.W.Frag} {tg : Expr}
theorem pe_bm0K (pa : PlainAttrs T) (slot : Slot T name id) (hty : typeOf (.builtin id) = pure (.type "method_descriptor")) (hm : MtR X id r) (ho : PE X o to) (hK : X.K = K := by rfl)
    (hbase : attributeBase o name X.env (eval o X.env) = eval o X.env := by rfl) (hline : (apos.endLine == cpos.line) = true := by rfl) : PE X (.Call (.Attribute o name apos) [] [] cpos) (tBM0 K T r to) := by
  subst hK; exact pe_bm0 pa slot hty hm ho hbase hline
theorem pe_bmK (pa : PlainAttrs T) (slot : Slot T name id) (hty : typeOf (.builtin id) = pure (.type "method_descriptor")) (hm : MtR X id r) (ho : PE X o to) (ha : PA X (e :: es) t) (hK : X.K = K := by rfl)
    (hbase : attributeBase o name X.env (eval o X.env) = eval o X.env := by rfl)
    (hfew : ((backTo cpos (starEach (e :: es) X.env)).all (fun x => !x.1) && (backToKw cpos (keywordEach [] X.env)).all (fun x => x.1.isSome)
      && decide ((e :: es).length + ([] : List Keyword).length + (if ([] : List Keyword).isEmpty then 0 else 1) < 30)) = true := by rfl)
    (hline : (apos.endLine == cpos.line) = true := by rfl) (hs : starEach (e :: es) X.env = (false, eval e X.env) :: starEach es X.env := by rfl) (hplain : (backTo cpos (starEach es X.env)).any (·.1) = false := by rfl) :
    PE X (.Call (.Attribute o name apos) (e :: es) [] cpos) (tBM K T r to t) := by
  subst hK; exact pe_bm pa slot hty hm ho ha hbase hfew hline hs hplain
theorem pg_tupK {es : List Expr} {k : Nat} {t : TGs} {n : Nat} (hc : X.calm = true) (h : PGs X es t) (hK : X.K = K := by rfl)
    (hn : (assignEach es X.env).length = n := by rfl) (hst : (assignEach es X.env).findIdx? (·.1) = none := by rfl) : PG X (.Tuple es k pos) (gTup K n t) := by
  subst hK; exact pg_tup hc h hn hst
/-- (a, b, ..) = a tuple, or a list -/
def gTupG (K : PySem.W.Frag) (n : Nat) (t : TGs) : TG := fun v σ H Q => gTup K n t v σ H Q ∨ gUnl K n t v σ H Q
theorem pg_tupG {es : List Expr} {k : Nat} {t : TGs} {n : Nat} (hc : X.calm = true) (h : PGs X es t) (hK : X.K = K := by rfl)
    (hn : (assignEach es X.env).length = n := by rfl) (hst : (assignEach es X.env).findIdx? (·.1) = none := by rfl) : PG X (.Tuple es k pos) (gTupG K n t) := by
  subst hK
  exact ⟨fun pins s σ H v u Q I r hw => hw.elim ((pg_tup hc h hn hst).run pins s σ H v u Q I r) ((pg_unl hc h hn hst).run pins s σ H v u Q I r)⟩
theorem pe_revLK {k : Nat} {p1 p2 p3 : Pos} (he : PE X e te) (hK : X.K = K := by rfl) : PE X (.Subscript e (.Slice none none (some (.UnaryOp .USub (.Constant (.int 1) k p1) p2)) p3) pos) (tRevL K te) := by subst hK; exact pe_revL he
theorem pi_listK (hl : PE X e te) (hK : X.K = K := by rfl) : PI X tg e (iList K te) := by subst hK; exact pi_list hl
theorem pi_tupK (hl : PE X e te) (hK : X.K = K := by rfl) : PI X tg e (iTup K te) := by subst hK; exact pi_tup hl
theorem pi_enumK {tpos : Pos} {elts : List Expr} {kk : Nat} (hg : Gl X "enumerate") (hm : X.mg "enumerate" = none) (ha : PA X [e] ta) (hK : X.K = K := by rfl) (hs : starEach [e] X.env = [(false, eval e X.env)] := by rfl) :
    PI X (.Tuple elts kk tpos) (.Call (.Name "enumerate" p) [e] [] pos) (iEnum K ta) := by subst hK; exact pi_enum hg hm ha hs
theorem pi_zipAK {tpos : Pos} {elts : List Expr} {kk : Nat} (hg : Gl X "zip") (hm : X.mg "zip" = none) (ha : PA X [e, e2] ta) (hK : X.K = K := by rfl)
    (hs : starEach [e, e2] X.env = (false, eval e X.env) :: starEach [e2] X.env := by rfl) (hpl : (backTo pos (starEach [e2] X.env)).any (·.1) = false := by rfl) :
    PI X (.Tuple elts kk tpos) (.Call (.Name "zip" p) [e, e2] [] pos) (RZ.iZipA K ta) := by subst hK; exact RZ.pi_zipA hg hm ha hs hpl
theorem pi_reversedK (hg : Gl X "reversed") (hm : X.mg "reversed" = none) (ha : PA X [e] ta) (hK : X.K = K := by rfl) (hs : starEach [e] X.env = [(false, eval e X.env)] := by rfl) :
    PI X tg (.Call (.Name "reversed" p) [e] [] pos) (iRev K ta) := by subst hK; exact pi_reversed hg hm ha hs
def rJoin (K : PySem.W.Frag) : V → List V → Hp → VK → Prop := fun x xs H Q => ∃ a p, ∃ ys : List Str, x = .str a ∧ xs = [.ref p] ∧ (SqL K H p (ys.map V.str) ∨ SqT K H p (ys.map V.str)) ∧
      (ys.map (·.length)).sum + ys.length * a.length ≤ 16777216 ∧ Q (.str (Txt.join a ys)) H
theorem pe_joinK (ho : PE X o to) (he : PE X e te) (hK : X.K = K := by rfl) (hs : starEach [e] X.env = [(false, eval e X.env)] := by rfl) (hbase : attributeBase o "join" X.env (eval o X.env) = eval o X.env := by rfl) (hline : (apos.endLine == pos.line) = true := by rfl) :
    PE X (.Call (.Attribute o "join" apos) [e] [] pos) (tM1 (rJoin K) to te) := by subst hK; exact pe_join ho he hs hbase hline
def tTruK (K : PySem.W.Frag) (ta : TE) : TT := fun σ H Q => ta σ H fun x H' => ∃ k, TruV K x H' k ∧ Q k H'
theorem pt_truthK (ha : PE X e te) (he : ∀ whole, isTrue e X.env whole = (do let v ← whole; standAt e.pos; holding [v] (truthy v))) (hK : X.K = K := by rfl) : PT X e (tTruK K te) := by subst hK; exact pt_truth ha he
end
end

/-! ### defs by name -/
structure Has (P : Program) (w : World) (K : PySem.W.Frag) (mg : Str → Option Value) (base : Heap) (k : Nat) (x : Str) (ps : List Str) (sp : Sp) : Prop where
  ex : ∃ (f : Addr) (fd : FuncData), mg x = some (.ref f) ∧ PySem.W.keepIn K (.ref f) = true ∧ Binds K fd ps [] ∧ FnOk P w K mg base CX0 k f fd ps sp
section
variable {X : Cx} {k : Nat} {x : Str} {ps : List Str} {sp : Sp} {e : Expr} {es : List Expr} {t : TA} {p pos : Pos}
theorem pe_callH (h : Has X.prog X.w X.K X.mg X.base k x ps sp) (hr : Room k X.A) (hg : Gl X x) (ha : PA X (e :: es) t) (hdb : (x == ("__debug__" : Str)) = false := by decide)
    (he : starEach (e :: es) X.env = (false, eval e X.env) :: starEach es X.env := by rfl) (hpl : (backTo pos (starEach es X.env)).any (·.1) = false := by rfl) :
    PE X (.Call (.Name x p) (e :: es) [] pos) (tCall sp [] E0 t) := by
  obtain ⟨f, fd, hm, hk, hb, F⟩ := h
  exact pe_call F hr hg hm hk hb .nil pass0 ha hdb he hpl
theorem pe_callH0 (h : Has X.prog X.w X.K X.mg X.base k x ps sp) (hr : Room k X.A) (hg : Gl X x) (hdb : (x == ("__debug__" : Str)) = false := by decide) :
    PE X (.Call (.Name x p) [] [] pos) (tCall sp [] E0 tNil) := by
  obtain ⟨f, fd, hm, hk, hb, F⟩ := h
  exact pe_call0 F hr hg hm hk hb .nil pass0 hdb
end
/-- a def as the top leaves it -/
structure Dfn (K : PySem.W.Frag) (mg : Str → Option Value) (x : Str) (st : Stmt) (ps : List Str) : Prop where
  ex : ∃ (f : Addr) (fd : FuncData), mg x = some (.ref f) ∧ Fun K x x st f fd ∧ Binds K fd ps []
theorem Dfn.has {P : Program} {w : World} {K : PySem.W.Frag} {mg : Str → Option Value} {base : Heap} {k : Nat} {x : Str} {st : Stmt} {ps : List Str} {sp : Sp} (D : Dfn K mg x st ps)
    (h : ∀ f fd, Fun K x x st f fd → FnOk P w K mg base CX0 k f fd ps sp) : Has P w K mg base k x ps sp := by
  obtain ⟨f, fd, hm, F, hb⟩ := D
  exact ⟨f, fd, hm, F.kp, hb, h f fd F⟩
/-- the built-ins' names are no globals of the text -/
structure Blt (mg : Str → Option Value) : Prop where
  len_ : mg "len" = none
  sum_ : mg "sum" = none
  min_ : mg "min" = none
  max_ : mg "max" = none
  sorted_ : mg "sorted" = none
  all_ : mg "all" = none
  any_ : mg "any" = none
  int_ : mg "int" = none
  str_ : mg "str" = none
  bool_ : mg "bool" = none
  list_ : mg "list" = none
  tuple_ : mg "tuple" = none
  dict_ : mg "dict" = none
  set_ : mg "set" = none
  zip_ : mg "zip" = none
  range_ : mg "range" = none
  enumerate_ : mg "enumerate" = none
  isinstance_ : mg "isinstance" = none
  abs_ : mg "abs" = none
end G

namespace G
open PySem PySem.Spec PyProof.Rows L2

/-- a new object, o -/
def AtNew (Q : VK) (o : HO) (H : Hp) : Prop := ∀ p, H p = none → Q (.ref p) (upd H p o)
def NewL (Q : VK) (xs : List V) (H : Hp) : Prop := xs.length ≤ sizeLine ∧ AtNew Q (.lst xs) H
def NewT (Q : VK) (xs : List V) (H : Hp) : Prop := xs.length ≤ sizeLine ∧ AtNew Q (.tup xs) H
theorem szl : (1048576 : Nat) ≤ sizeLine := by rw [sizeLine_eq]; decide
theorem szl' {n : Nat} (h : n ≤ 1048576) : n ≤ sizeLine := Nat.le_trans h szl
theorem szl'' {n : Nat} (h : n < 1048576) : n < sizeLine := Nat.lt_of_lt_of_le h szl
theorem NewL.mk {Q : VK} {xs : List V} {H : Hp} (h : xs.length ≤ 1048576) (q : AtNew Q (.lst xs) H) : NewL Q xs H := ⟨szl' h, q⟩
theorem NewT.mk {Q : VK} {xs : List V} {H : Hp} (h : xs.length ≤ 1048576) (q : AtNew Q (.tup xs) H) : NewT Q xs H := ⟨szl' h, q⟩
/-! ### a reading, step by step -/
section
variable {σ : L2.St} {H : Hp} {Q : VK} {n b c : L2.St → Hp → Prop} {r : VK} {D : Ends} {t u : TS} {te ta tb : TE} {tt tu : TT} {ts tr : TA} {g : TG} {i : Nat} {v : V} {K : PySem.W.Frag}
theorem g_seq (h : t ⟨u ⟨n, r, b, c⟩, r, b, c⟩ σ H) : tSeq t u ⟨n, r, b, c⟩ σ H := h
theorem g_set (h : te σ H fun x H1 => n (σ.set i (some x)) H1) : tAsg te (gName i) ⟨n, r, b, c⟩ σ H := h
theorem g_asg (h : te σ H fun x H1 => g x σ H1 n) : tAsg te g ⟨n, r, b, c⟩ σ H := h
theorem g_ret (h : te σ H r) : tRet te ⟨n, r, b, c⟩ σ H := h
theorem g_drop (h : te σ H fun _ H1 => n σ H1) : tDrop te ⟨n, r, b, c⟩ σ H := h
theorem g_if (h : tt σ H fun k H1 => if k = true then t D σ H1 else u D σ H1) : tIfS tt t u D σ H := h
theorem g_next (h : n σ H) : tNext ⟨n, r, b, c⟩ σ H := h
theorem g_brk (h : b σ H) : tBreak ⟨n, r, b, c⟩ σ H := h
theorem g_cont (h : c σ H) : tCont ⟨n, r, b, c⟩ σ H := h
theorem g_par {i j : Nat} (h : ts σ H fun vs H1 => ∃ v w, vs = [v, w] ∧ n ((σ.set i (some v)).set j (some w)) H1) : tPar i j ts ⟨n, r, b, c⟩ σ H := h
theorem g_par2 {x y : V} {P : V → V → Prop} (h : P x y) : ∃ v w, [x, y] = [v, w] ∧ P v w := ⟨x, y, rfl, h⟩
theorem g_aug {ti : TIp} {x : V} (e : σ[i]? = some (some x)) (h : te σ H fun y H1 => ti x y H1 fun z H2 => n (σ.set i (some z)) H2) : tAug i te ti ⟨n, r, b, c⟩ σ H := ⟨x, e, h⟩
theorem g_ipI {f : Int → Int → Int} {x y : Int} (h : Q (.int (f x y)) H) : ipI f (.int x) (.int y) H Q := ⟨x, y, rfl, rfl, h⟩
theorem g_var (e : σ[i]? = some (some v)) (h : Q v H) : tVar i σ H Q := ⟨v, e, h⟩
theorem g_c (h : Q v H) : tC v σ H Q := h
theorem g_op {r : R2} (h : ta σ H fun x H1 => tb σ H1 fun y H2 => r x y H2 Q) : tOp r ta tb σ H Q := h
theorem g_un {r : V → Hp → VK → Prop} (h : ta σ H fun x H1 => r x H1 Q) : tUn r ta σ H Q := h
theorem g_neg {i : Int} (h : Q (.int (-i)) H) : rU (fun i => .int (-i)) (.int i) H Q := ⟨i, rfl, h⟩
theorem g_cons {R : List V → Hp → Prop} (h : ta σ H fun x H1 => tr σ H1 fun xs H2 => R (x :: xs) H2) : tCons ta tr σ H R := h
theorem g_nil {R : List V → Hp → Prop} (h : R [] H) : tNil σ H R := h
theorem g_cb {r : RC} (h : ts σ H fun vs H1 => r vs H1 Q) : tCB r ts σ H Q := h
theorem g_call {sp : Sp} {E : XK} (h : ts σ H fun vs H1 => sp (vs ++ []) H1 Q E) : tCall sp [] E ts σ H Q := h
theorem g_call1 {sp : Sp} {E : XK} {x : V} (h : sp [x] H Q E) : sp ([x] ++ []) H Q E := h
theorem g_call2 {sp : Sp} {E : XK} {x y : V} (h : sp [x, y] H Q E) : sp ([x, y] ++ []) H Q E := h
theorem g_call3 {sp : Sp} {E : XK} {x y z : V} (h : sp [x, y, z] H Q E) : sp ([x, y, z] ++ []) H Q E := h
theorem g_call4 {sp : Sp} {E : XK} {x y z w : V} (h : sp [x, y, z, w] H Q E) : sp ([x, y, z, w] ++ []) H Q E := h
theorem g_lst (h : ts σ H (NewL Q)) : tLst ts σ H Q := h
theorem g_tup (h : ts σ H (NewT Q)) : tTup ts σ H Q := h
theorem g_B {R : Bool → Hp → Prop} (h : te σ H fun x H1 => ∃ c, x = .bl c ∧ R c H1) : tB te σ H R := h
theorem g_test {R : Bool → Hp → Prop} (h : te σ H fun x H1 => ∃ c, x = .bl c ∧ R c H1) : tTest te σ H R := h
theorem g_bl {k : Bool} {R : Bool → Prop} (h : R k) : ∃ c, V.bl k = .bl c ∧ R c := ⟨k, rfl, h⟩
theorem g_and {R : Bool → Hp → Prop} (h : tt σ H fun c H1 => if c = true then tu σ H1 R else R false H1) : tAnd tt tu σ H R := h
theorem g_or {R : Bool → Hp → Prop} (h : tt σ H fun c H1 => if c = true then R true H1 else tu σ H1 R) : tOr tt tu σ H R := h
theorem g_not {R : Bool → Hp → Prop} (h : tt σ H fun c H1 => R (!c) H1) : tNot tt σ H R := h
theorem g_yes {R : Bool → Hp → Prop} (h : R true H) : tYes σ H R := h
theorem g_andV (h : ta σ H fun x H1 => ∃ c, x = .bl c ∧ if c = true then tb σ H1 Q else Q (.bl false) H1) : tAndV ta tb σ H Q := h
theorem g_orV (h : ta σ H fun x H1 => ∃ c, x = .bl c ∧ if c = true then Q (.bl true) H1 else tb σ H1 Q) : tOrV ta tb σ H Q := h
theorem g_notV (h : ta σ H fun x H1 => ∃ c, x = .bl c ∧ Q (.bl (!c)) H1) : tNotV ta σ H Q := h
theorem g_ifE (h : tt σ H fun c H1 => if c = true then ta σ H1 Q else tb σ H1 Q) : tIf tt ta tb σ H Q := h
theorem g_sl {r : V → Option Int → Option Int → Hp → VK → Prop} {tl th : TO} (h : te σ H fun x H1 => tl σ H1 fun l H2 => th σ H2 fun u H3 => r x l u H3 Q) : tSl r te tl th σ H Q := h
theorem g_noPart {R : Option Int → Hp → Prop} (h : R none H) : tNoPart σ H R := h
theorem g_part {R : Option Int → Hp → Prop} (h : te σ H fun x H1 => ∃ i, x = .int i ∧ R (some i) H1) : tPart te σ H R := h
theorem g_int {k : Int} {R : Int → Prop} (h : R k) : ∃ c, V.int k = .int c ∧ R c := ⟨k, rfl, h⟩
theorem g_bm {T : String} {r : V → List V → Hp → VK → Prop} {to : TE} (h : to σ H fun x H1 => tyV K T x H1 ∧ ts σ H1 fun xs H2 => r x xs H2 Q) : tBM K T r to ts σ H Q := h
theorem g_bm0 {T : String} {r : V → List V → Hp → VK → Prop} {to : TE} (h : to σ H fun x H1 => tyV K T x H1 ∧ r x [] H1 Q) : tBM0 K T r to σ H Q := h
theorem g_m1 {r : V → List V → Hp → VK → Prop} {to : TE} (h : to σ H fun x H1 => (∃ a, x = .str a) ∧ te σ H1 fun y H2 => r x [y] H2 Q) : tM1 r to te σ H Q := h
theorem g_isStr {z : Str} : ∃ a, V.str z = .str a := ⟨z, rfl⟩
theorem g_sub {to ti : TE} {tset : TSet} {R : L2.St → Hp → Prop} (h : to σ H fun o H1 => ti σ H1 fun i H2 => tset o i v H2 fun H3 => R σ H3) : gSub to ti tset v σ H R := h
theorem g_name {R : L2.St → Hp → Prop} (h : R (σ.set i (some v)) H) : gName i v σ H R := h
theorem g_gtup {k : Nat} {gs : TGs} {R : L2.St → Hp → Prop} {a : Addr} {xs : List V} (h1 : SqT K H a xs) (h2 : xs.length = k) (h : gs xs σ H R) : gTup K k gs (.ref a) σ H R := ⟨a, xs, rfl, h1, h2, h⟩
theorem g_gtupG {k : Nat} {gs : TGs} {R : L2.St → Hp → Prop} {a : Addr} {xs : List V} (h1 : SqT K H a xs) (h2 : xs.length = k) (h : gs xs σ H R) : gTupG K k gs (.ref a) σ H R := .inl ⟨a, xs, rfl, h1, h2, h⟩
theorem g_gunl {k : Nat} {gs : TGs} {R : L2.St → Hp → Prop} {a : Addr} {xs : List V} (h1 : SqL K H a xs) (h2 : xs.length = k) (h : gs xs σ H R) : gTupG K k gs (.ref a) σ H R := .inr ⟨a, xs, rfl, h1, h2, h⟩
def RevB (K : PySem.W.Frag) (Q : VK) (x : V) (H : Hp) : Prop := ∃ a xs, x = .ref a ∧ SqL K H a xs ∧ AtNew Q (.lst xs.reverse) H
theorem g_revL (h : te σ H (RevB K Q)) : tRevL K te σ H Q := h
theorem rev_lst {a : Addr} {xs : List V} (h1 : H a = some (.lst xs)) (h : AtNew Q (.lst xs.reverse) H) : RevB K Q (.ref a) H := ⟨a, xs, rfl, .inl (.inl h1), h⟩
theorem g_chain {r r' : R2} {tc : TE} (h : ta σ H fun x H1 => tb σ H1 fun y H2 => r x y H2 fun z H3 => ∃ k, z = .bl k ∧ (if k = true then tc σ H3 fun w' H4 => r' y w' H4 Q else Q (.bl false) H3)) : tChain r r' ta tb tc σ H Q := h
theorem tuple_lst {a : Addr} {xs : List V} (h1 : H a = some (.lst xs)) (h : AtNew Q (.tup xs) H) : gTuple K [.ref a] H Q := ⟨a, xs, rfl, .inl ⟨.inl (.inl h1), h⟩⟩
theorem list_lst {a : Addr} {xs : List V} (h1 : H a = some (.lst xs)) (h : AtNew Q (.lst xs) H) : gList K [.ref a] H Q := ⟨a, xs, rfl, .inl (.inl (.inl h1)), h⟩
theorem rev_ip {l : Addr} {xs : List V} (h1 : H l = some (.lst xs)) (h : Q .non (upd H l (.lst xs.reverse))) : rReverse (.ref l) [] H Q := ⟨l, xs, rfl, rfl, h1, h⟩
theorem clear_ip {l : Addr} {xs : List V} (h1 : H l = some (.lst xs)) (h : Q .non (upd H l (.lst []))) : rClear (.ref l) [] H Q := ⟨l, xs, rfl, rfl, h1, h⟩
theorem in_lst {x : V} {p : Addr} {xs : List V} (h1 : H p = some (.lst xs)) (hx : flatV x = true) (ha : xs.all flatV = true) (h : Q (.bl (inV x xs)) H) : gIn K x (.ref p) H Q := .inl ⟨p, xs, rfl, .inl (.inl (.inl h1)), hx, ha, h⟩
theorem nin_lst {x : V} {p : Addr} {xs : List V} (h1 : H p = some (.lst xs)) (hx : flatV x = true) (ha : xs.all flatV = true) (h : Q (.bl (!inV x xs)) H) : gNotIn K x (.ref p) H Q := .inl ⟨p, xs, rfl, .inl (.inl (.inl h1)), hx, ha, h⟩
theorem g_tyl {l : Addr} {xs : List V} {R : Prop} (h1 : H l = some (.lst xs)) (h : R) : tyV K "list" (.ref l) H ∧ R := ⟨.inl ⟨rfl, _, .inl (.inl h1)⟩, h⟩
theorem g_gcons {gs : TGs} {R : L2.St → Hp → Prop} {x : V} {xs : List V} (h : g x σ H fun σ' H' => gs xs σ' H' R) : gCons g gs (x :: xs) σ H R := ⟨x, xs, rfl, h⟩
theorem g_gnil {R : L2.St → Hp → Prop} (h : R σ H) : gNil [] σ H R := ⟨rfl, h⟩
theorem g_ite {p A B : Prop} [Decidable p] (h1 : p → A) (h2 : ¬ p → B) : if decide p = true then A else B := by
  by_cases h : p
  · rw [if_pos (decide_eq_true h)]; exact h1 h
  · rw [if_neg (by simpa using h)]; exact h2 h
theorem g_iteN {p A B : Prop} [Decidable p] (h1 : ¬ p → A) (h2 : p → B) : if (!decide p) = true then A else B := by
  by_cases h : p
  · rw [decide_eq_true h]; exact iteF (h2 h)
  · rw [decide_eq_false h]; exact iteT (h1 h)
theorem if_yes {p A B : Prop} [Decidable p] (hp : p) (h : A) : if decide p = true then A else B := by rw [if_pos (decide_eq_true hp)]; exact h
theorem if_no {p A B : Prop} [Decidable p] (hp : ¬ p) (h : B) : if decide p = true then A else B := by rw [if_neg (by simpa using hp)]; exact h
theorem if_nyes {p A B : Prop} [Decidable p] (hp : ¬ p) (h : A) : if (!decide p) = true then A else B := by rw [decide_eq_false hp]; exact iteT h
theorem if_nno {p A B : Prop} [Decidable p] (hp : p) (h : B) : if (!decide p) = true then A else B := by rw [decide_eq_true hp]; exact iteF h
theorem if_ny {A B : Prop} (h : B) : if (!true) = true then A else B := iteF h
theorem if_nn {A B : Prop} (h : A) : if (!false) = true then A else B := iteT h
theorem g_iteB {k : Bool} {A B : Prop} (h1 : k = true → A) (h2 : k = false → B) : if k = true then A else B := by
  cases k with
  | true => exact iteT (h1 rfl)
  | false => exact iteF (h2 rfl)
-- operations by values
theorem a_int {i j : Int} (h : Q (.int (i + j)) H) : gAdd K (.int i) (.int j) H Q := .inl ⟨i, j, rfl, rfl, h⟩
theorem a_str {i j : Str} (hl : i.length + j.length ≤ sizeLine) (h : Q (.str (i ++ j)) H) : gAdd K (.str i) (.str j) H Q := .inr (.inl ⟨i, j, rfl, rfl, hl, h⟩)
theorem a_lst {p q : Addr} {xs ys : List V} (h1 : H p = some (.lst xs)) (h2 : H q = some (.lst ys)) (hl : xs.length + ys.length ≤ sizeLine) (h : AtNew Q (.lst (xs ++ ys)) H) : gAdd K (.ref p) (.ref q) H Q :=
  .inr (.inr (.inl ⟨p, q, xs, ys, rfl, rfl, h1, h2, hl, h⟩))
theorem sub_int {i j : Int} (h : Q (.int (i - j)) H) : gMns (.int i) (.int j) H Q := ⟨i, j, rfl, rfl, h⟩
theorem m_int {i j : Int} (hc : CMul i j) (h : Q (.int (i * j)) H) : gMul (.int i) (.int j) H Q := .inl ⟨i, j, rfl, rfl, hc, h⟩
theorem m_str {z : Str} {n : Int} (hc : MulOk z n) (h : Q (.str (Txt.mul z n)) H) : gMul (.str z) (.int n) H Q := .inr (.inl ⟨z, n, rfl, rfl, hc, h⟩)
theorem mod_int {i j : Int} (hc : 0 < j) (h : Q (.int (i % j)) H) : gMod (.int i) (.int j) H Q := ⟨i, j, rfl, rfl, hc, h⟩
theorem div_int {i j : Int} (h0 : 0 < j) (h1 : j < 1073741824) (h : Q (.int (i / j)) H) : gDiv (.int i) (.int j) H Q := ⟨i, j, rfl, rfl, ⟨h0, h1⟩, h⟩
theorem pow_int {i j : Int} (hc : CPow i j) (h : Q (.int (i ^ j.toNat)) H) : gPow (.int i) (.int j) H Q := ⟨i, j, rfl, rfl, hc, h⟩
theorem lt_int' {i j : Int} (h : Q (.bl (decide (i < j))) H) : gLt (.int i) (.int j) H Q := .inl ⟨i, j, rfl, rfl, h⟩
theorem lt_str' {i j : Str} (h : Q (.bl (decide (i.cps.toList < j.cps.toList))) H) : gLt (.str i) (.str j) H Q := .inr ⟨i, j, rfl, rfl, h⟩
theorem le_int' {i j : Int} (h : Q (.bl (decide (i ≤ j))) H) : gLe (.int i) (.int j) H Q := .inl ⟨i, j, rfl, rfl, h⟩
theorem le_str' {i j : Str} (h : Q (.bl (!decide (j.cps.toList < i.cps.toList))) H) : gLe (.str i) (.str j) H Q := .inr ⟨i, j, rfl, rfl, h⟩
theorem gt_int' {i j : Int} (h : Q (.bl (decide (j < i))) H) : gGt (.int i) (.int j) H Q := .inl ⟨i, j, rfl, rfl, h⟩
theorem gt_str' {i j : Str} (h : Q (.bl (decide (j.cps.toList < i.cps.toList))) H) : gGt (.str i) (.str j) H Q := .inr ⟨i, j, rfl, rfl, h⟩
theorem ge_int' {i j : Int} (h : Q (.bl (decide (j ≤ i))) H) : gGe (.int i) (.int j) H Q := .inl ⟨i, j, rfl, rfl, h⟩
theorem ge_str' {i j : Str} (h : Q (.bl (!decide (i.cps.toList < j.cps.toList))) H) : gGe (.str i) (.str j) H Q := .inr ⟨i, j, rfl, rfl, h⟩
theorem eq_int' {i j : Int} (h : Q (.bl (decide (i = j))) H) : gEq K (.int i) (.int j) H Q := .inl ⟨rfl, by rw [show decide (V.int i = V.int j) = decide (i = j) from by simp]; exact h⟩
theorem eq_str' {i j : Str} (h : Q (.bl (decide (i = j))) H) : gEq K (.str i) (.str j) H Q := .inl ⟨rfl, by rw [show decide (V.str i = V.str j) = decide (i = j) from by simp]; exact h⟩
theorem eq_bl' {i j : Bool} (h : Q (.bl (decide (i = j))) H) : gEq K (.bl i) (.bl j) H Q := .inl ⟨rfl, by rw [show decide (V.bl i = V.bl j) = decide (i = j) from by simp]; exact h⟩
theorem ne_int' {i j : Int} (h : Q (.bl (!decide (i = j))) H) : gNe K (.int i) (.int j) H Q := .inl ⟨rfl, by rw [show decide (V.int i = V.int j) = decide (i = j) from by simp]; exact h⟩
theorem ne_str' {i j : Str} (h : Q (.bl (!decide (i = j))) H) : gNe K (.str i) (.str j) H Q := .inl ⟨rfl, by rw [show decide (V.str i = V.str j) = decide (i = j) from by simp]; exact h⟩
theorem ne_bl' {i j : Bool} (h : Q (.bl (!decide (i = j))) H) : gNe K (.bl i) (.bl j) H Q := .inl ⟨rfl, by rw [show decide (V.bl i = V.bl j) = decide (i = j) from by simp]; exact h⟩
theorem is_non {x : V} (h : Q (.bl (decide (x = .non))) H) : gIs x .non H Q := .inl ⟨rfl, h⟩
theorem is_bl {a b : Bool} (h : Q (.bl (decide (a = b))) H) : gIs (.bl a) (.bl b) H Q := .inr ⟨a, b, rfl, rfl, h⟩
theorem isn_bl {a b : Bool} (h : Q (.bl (!decide (a = b))) H) : gIsN (.bl a) (.bl b) H Q := .inr ⟨a, b, rfl, rfl, h⟩
theorem isn_non {x : V} (h : Q (.bl (!decide (x = .non))) H) : gIsN x .non H Q := .inl ⟨rfl, h⟩
theorem ix_lst {p : Addr} {i : Int} {xs : List V} {v : V} (h1 : H p = some (.lst xs)) (h2 : atI xs i = some v) (h : Q v H) : gIx K (.ref p) (.int i) H Q := .inl ⟨p, xs, i, v, rfl, rfl, .inl (.inl h1), h2, h⟩
theorem ix_sql {p : Addr} {i : Int} {xs : List V} {v : V} (h1 : SqL K H p xs) (h2 : atI xs i = some v) (h : Q v H) : gIx K (.ref p) (.int i) H Q := .inl ⟨p, xs, i, v, rfl, rfl, h1, h2, h⟩
theorem ix_tpl {p : Addr} {i : Int} {xs : List V} {v : V} (h1 : H p = some (.tup xs)) (h2 : atI xs i = some v) (h : Q v H) : gIx K (.ref p) (.int i) H Q := .inr (.inl ⟨p, xs, i, v, rfl, rfl, .inl (.inl h1), h2, h⟩)
theorem ix_text {z : Str} {i : Int} {c : Nat} (h1 : z.length ≤ sizeLine) (h2 : atI z.cps.toList i = some c) (h : Q (.str ⟨#[c]⟩) H) : gIx K (.str z) (.int i) H Q := .inr (.inr ⟨z, i, c, rfl, rfl, h1, h2, h⟩)
theorem sl_lst {p : Addr} {lo hi : Option Int} {xs : List V} (h1 : H p = some (.lst xs)) (h : AtNew Q (.lst (cutV xs lo hi)) H) : gSl K (.ref p) lo hi H Q := .inl ⟨p, xs, rfl, .inl (.inl h1), h⟩
theorem sl_sql {p : Addr} {lo hi : Option Int} {xs : List V} (h1 : SqL K H p xs) (h : AtNew Q (.lst (cutV xs lo hi)) H) : gSl K (.ref p) lo hi H Q := .inl ⟨p, xs, rfl, h1, h⟩
theorem sl_text {z : Str} {lo hi : Option Int} (h1 : z.length ≤ sizeLine) (h : Q (.str (cutS z lo hi)) H) : gSl K (.str z) lo hi H Q := .inr (.inr ⟨z, rfl, h1, h⟩)
theorem len_lst {p : Addr} {xs : List V} (h1 : H p = some (.lst xs)) (h : Q (.int xs.length) H) : gLen K [.ref p] H Q := ⟨.ref p, xs.length, rfl, .inl ⟨xs, .inl (.inl h1), rfl⟩, h⟩
theorem len_sql {p : Addr} {xs : List V} (h1 : SqL K H p xs) (h : Q (.int xs.length) H) : gLen K [.ref p] H Q := ⟨.ref p, xs.length, rfl, .inl ⟨xs, h1, rfl⟩, h⟩
theorem len_tup {p : Addr} {xs : List V} (h1 : H p = some (.tup xs)) (h : Q (.int xs.length) H) : gLen K [.ref p] H Q := ⟨.ref p, xs.length, rfl, .inr ⟨xs, .inl (.inl h1), rfl⟩, h⟩
theorem len_text {z : Str} (h1 : z.length ≤ sizeLine) (h : Q (.int z.length) H) : gLen K [.str z] H Q := ⟨.str z, z.length, rfl, ⟨h1, rfl⟩, h⟩
theorem min_int {i j : Int} (h : Q (.int (if j < i then j else i)) H) : gMin K [.int i, .int j] H Q := .inl ⟨i, j, rfl, h⟩
theorem max_int {i j : Int} (h : Q (.int (if j > i then j else i)) H) : gMax K [.int i, .int j] H Q := .inl ⟨i, j, rfl, h⟩
theorem int_int {i : Int} (h : Q (.int i) H) : gInt [.int i] H Q := .inl (.inl ⟨i, rfl, h⟩)
theorem int_bl {k : Bool} (h : Q (.int (if k then 1 else 0)) H) : gInt [.bl k] H Q := .inl (.inr ⟨k, rfl, h⟩)
theorem abs_int {i : Int} (h : Q (.int (if i < 0 then -i else i)) H) : gAbs [.int i] H Q := ⟨i, rfl, h⟩
theorem list_sql {p : Addr} {ys : List V} (h1 : SqL K H p ys) (h : AtNew Q (.lst ys) H) : gList K [.ref p] H Q := ⟨p, ys, rfl, .inl h1, h⟩
theorem list_tup {p : Addr} {ys : List V} (h1 : SqT K H p ys) (h : AtNew Q (.lst ys) H) : gList K [.ref p] H Q := ⟨p, ys, rfl, .inr h1, h⟩
theorem setL_lst {p : Addr} {xs : List V} {k : Int} {j : Nat} {R : Hp → Prop} (h1 : H p = some (.lst xs)) (h2 : ixN xs.length k = some j) (h : R (upd H p (.lst (xs.set j v)))) : rSetL (.ref p) (.int k) v H R := ⟨p, xs, k, j, rfl, rfl, h1, h2, h⟩
theorem app_lst {l : Addr} {xs : List V} {y : V} (h1 : H l = some (.lst xs)) (h2 : xs.length < sizeLine) (h : Q .non (upd H l (.lst (xs ++ [y])))) : rAppend (.ref l) [y] H Q := ⟨l, xs, y, rfl, rfl, h1, h2, h⟩
theorem ty_lst {l : Addr} {xs : List V} (h1 : H l = some (.lst xs)) : tyV K "list" (.ref l) H := .inl ⟨rfl, _, .inl (.inl h1)⟩
end
end G

namespace G
open PySem PySem.Spec PyProof.Rows L2

/-! ### the draws' list, and what may be known beside it -/
/-- three numbers, none of them too great: n draws are left -/
def LeftO (n : Nat) (o : HO) : Prop := ∃ x y z : Int, o = .lst [.int x, .int y, .int z] ∧ 0 ≤ x ∧ 0 ≤ z ∧ z + (n : Int) ≤ 1152921504606846976
def Left (a : Addr) (n : Nat) (H : Hp) : Prop := ∃ o, H a = some o ∧ LeftO n o
theorem LeftO.le {n m : Nat} {o : HO} (h : LeftO n o) (hm : m ≤ n) : LeftO m o := by
  obtain ⟨x, y, z, e, h0, h1, h2⟩ := h
  exact ⟨x, y, z, e, h0, h1, by omega⟩
theorem Left.le {a : Addr} {n m : Nat} {H : Hp} (h : Left a n H) (hm : m ≤ n) : Left a m H := by
  obtain ⟨o, e, h⟩ := h
  exact ⟨o, e, h.le hm⟩
/-- from (B, H) to (B', H'): what is known stays known, all but the list at a stands, and what is known anew is new; n draws are left -/
structure St (a : Addr) (B0 H0 : Hp) (n : Nat) (B H : Hp) : Prop where
  kn : Same B0 B
  sub : Same B H
  na : B a = none
  left : Left a n H
  oth : ∀ q o, q ≠ a → H0 q = some o → H q = some o
  fr : ∀ q, H0 q ≠ none → B q = B0 q
section
variable {a p : Addr} {B0 H0 B H B1 H1 : Hp} {n m : Nat} {o : HO}
theorem St.le (S : St a B0 H0 n B H) (h : m ≤ n) : St a B0 H0 m B H := ⟨S.kn, S.sub, S.na, S.left.le h, S.oth, S.fr⟩
theorem St.new (h : Same B H) (hl : Left a n H) (hn : B a = none) : St a B H n B H := ⟨Same.refl _, h, hn, hl, fun _ _ _ e => e, fun _ _ => rfl⟩
theorem St.has (S : St a B0 H0 n B H) : H a ≠ none := by
  obtain ⟨o, e, _⟩ := S.left
  rw [e]; exact fun z => nomatch z
theorem St.free (S : St a B0 H0 n B H) (h : H p = none) : B p = none := S.sub.free h
theorem St.free0 (S : St a B0 H0 n B H) (h : H p = none) : H0 p = none := by
  cases e : H0 p with
  | none => rfl
  | some o =>
    have hp : p ≠ a := fun z => S.has (z ▸ h)
    rw [S.oth p o hp e] at h
    cases h
theorem St.nea (S : St a B0 H0 n B H) (h : H p = none) : p ≠ a := fun z => S.has (z ▸ h)
theorem St.trans (S : St a B0 H0 n B H) (S1 : St a B H m B1 H1) : St a B0 H0 m B1 H1 :=
  ⟨S.kn.trans S1.kn, S1.sub, S1.na, S1.left, fun q o hq e => S1.oth q o hq (S.oth q o hq e), fun q hq => by
    by_cases e : q = a
    · have h0 : B0 q = none := by
        cases z : B0 q with
        | none => rfl
        | some o =>
          rw [e] at z
          have h := S.kn a o z
          rw [S.na] at h
          cases h
      rw [h0, e]; exact S1.na
    · cases z : H0 q with
      | none => exact absurd z hq
      | some o => rw [S1.fr q (by rw [S.oth q o e z]; exact fun z => nomatch z)]; exact S.fr q hq⟩
/-- a new object, known from now on -/
theorem St.alloc (S : St a B0 H0 n B H) (h : H p = none) : St a B0 H0 n (upd B p o) (upd H p o) :=
  ⟨fun q u e => by
      have : q ≠ p := fun z => by
        have := S.kn q u e
        rw [z, S.free h] at this; cases this
      rw [upd_ne this]; exact S.kn q u e,
    fun q u e => by
      by_cases z : q = p
      · subst z; rw [upd_same] at e ⊢; exact e
      · rw [upd_ne z] at e ⊢; exact S.sub q u e,
    by rw [upd_ne (S.nea h).symm]; exact S.na,
    by
      obtain ⟨u, e, l⟩ := S.left
      exact ⟨u, by rw [upd_ne (S.nea h).symm]; exact e, l⟩,
    fun q u hq e => by
      have : q ≠ p := fun z => by rw [z, S.free0 h] at e; cases e
      rw [upd_ne this]; exact S.oth q u hq e,
    fun q hq => by
      have : q ≠ p := fun z => by rw [z] at hq; exact hq (S.free0 h)
      rw [upd_ne this]; exact S.fr q hq⟩
/-- a new object that is not known yet (it will change) -/
theorem St.vol (S : St a B0 H0 n B H) (h : H p = none) : St a B0 H0 n B (upd H p o) :=
  ⟨S.kn, fun q u e => by
      have : q ≠ p := fun z => by rw [z, S.free h] at e; cases e
      rw [upd_ne this]; exact S.sub q u e, S.na,
    by
      obtain ⟨u, e, l⟩ := S.left
      exact ⟨u, by rw [upd_ne (S.nea h).symm]; exact e, l⟩,
    fun q u hq e => by
      have : q ≠ p := fun z => by rw [z, S.free0 h] at e; cases e
      rw [upd_ne this]; exact S.oth q u hq e, S.fr⟩
/-- it changes -/
theorem St.put (S : St a B0 H0 n B H) (h0 : H0 p = none) (hb : B p = none) (hp : p ≠ a) : St a B0 H0 n B (upd H p o) :=
  ⟨S.kn, fun q u e => by
      have : q ≠ p := fun z => by rw [z, hb] at e; cases e
      rw [upd_ne this]; exact S.sub q u e, S.na,
    by
      obtain ⟨u, e, l⟩ := S.left
      exact ⟨u, by rw [upd_ne hp.symm]; exact e, l⟩,
    fun q u hq e => by
      have : q ≠ p := fun z => by rw [z, h0] at e; cases e
      rw [upd_ne this]; exact S.oth q u hq e, S.fr⟩
/-- it stays from now on -/
theorem St.know (S : St a B0 H0 n B H) (h : H p = some o) (h0 : H0 p = none) (hb : B p = none) (hp : p ≠ a) : St a B0 H0 n (upd B p o) H :=
  ⟨fun q u e => by
      have : q ≠ p := fun z => by
        have := S.kn q u e
        rw [z, hb] at this; cases this
      rw [upd_ne this]; exact S.kn q u e,
    fun q u e => by
      by_cases z : q = p
      · rw [z, upd_same] at e; rw [z, h]; exact e
      · rw [upd_ne z] at e; exact S.sub q u e,
    by rw [upd_ne hp.symm]; exact S.na, S.left, S.oth,
    fun q hq => by
      have : q ≠ p := fun z => by rw [z] at hq; exact hq h0
      rw [upd_ne this]; exact S.fr q hq⟩
theorem St.updB (S : St a B0 H0 n B H) (h : H p = none) : Same B (upd B p o) := fun q u e => by
  have : q ≠ p := fun z => by rw [z, S.free h] at e; cases e
  rw [upd_ne this]; exact e
theorem Same.new (h : B p = none) : Same B (upd B p o) := fun q u e => by
  have : q ≠ p := fun z => by rw [z, h] at e; cases e
  rw [upd_ne this]; exact e
/-- a call that changes nothing -/
theorem St.pure (S : St a B0 H0 n B H) (h : Same H H1) : St a B0 H0 n B H1 :=
  ⟨S.kn, S.sub.trans h, S.na, by
    obtain ⟨u, e, l⟩ := S.left
    exact ⟨u, h _ _ e, l⟩, fun q o hq e => h _ _ (S.oth q o hq e), S.fr⟩
end
/-- one step: all but the list at a stands; what is known anew is new -/
structure Oth (a : Addr) (B H B' H' : Hp) : Prop where
  st : ∀ q o, q ≠ a → H q = some o → H' q = some o
  fr : ∀ q, H q ≠ none → B' q = B q
/-- a cell that changes, from a step to the next -/
theorem Oth.cell {a p : Addr} {B H B' H' : Hp} {o : HO} (O : Oth a B H B' H') (hp : p ≠ a) (h : H p = some o) (hb : B p = none) : H' p = some o ∧ B' p = none :=
  ⟨O.st p o hp h, by rw [O.fr p (by rw [h]; exact fun z => nomatch z)]; exact hb⟩
/-- what a def that draws promises: the list at a, further arguments under pre; it draws at most cost times, and gives what R tells -/
def spGen (cost : Nat) (pre : Hp → List V → Prop) (R : List V → Hp → V → Prop) : Sp := fun vs H Q _ =>
  ∃ (a : Addr) (rest : List V) (n : Nat) (B : Hp), vs = .ref a :: rest ∧ Same B H ∧ B a = none ∧ Left a n H ∧ cost ≤ n ∧ pre B rest ∧
    ∀ v B' H', St a B H (n - cost) B' H' → R rest B' v → Q v H'
theorem St.gen {a : Addr} {B0 H0 B H : Hp} {n cost : Nat} {pre : Hp → List V → Prop} {R : List V → Hp → V → Prop} {rest : List V} {Q : VK} {E : XK} (S : St a B0 H0 n B H) (hc : cost ≤ n) (hp : pre B rest)
    (q : ∀ v B' H', St a B0 H0 (n - cost) B' H' → Oth a B H B' H' → Same B B' → R rest B' v → Q v H') : spGen cost pre R (.ref a :: rest) H Q E :=
  ⟨a, rest, n, B, rfl, S.sub, S.na, S.left, hc, hp, fun v B' H' S' r => q v B' H' (S.trans S') ⟨S'.oth, S'.fr⟩ S'.kn r⟩
end G

namespace G
open PySem PySem.Spec PyProof.Rows L2

/-! ### from (B, H) to (B', H'), nothing that stood is changed -/
structure Pu (B0 H0 B H : Hp) : Prop where
  kn : Same B0 B
  sub : Same B H
  old : Same H0 H
  fr : ∀ q, H0 q ≠ none → B q = B0 q
section
variable {a p : Addr} {B0 H0 B H B1 H1 : Hp} {n m : Nat} {o : HO}
theorem Pu.new (h : Same B H) : Pu B H B H := ⟨Same.refl _, h, Same.refl _, fun _ _ => rfl⟩
theorem Pu.free (S : Pu B0 H0 B H) (h : H p = none) : B p = none := S.sub.free h
theorem Pu.free0 (S : Pu B0 H0 B H) (h : H p = none) : H0 p = none := S.old.free h
theorem Same.updN {H : Hp} (hp : H p = none) : Same H (upd H p o) := fun q u e => by
  have : q ≠ p := fun z => by rw [z, hp] at e; cases e
  rw [upd_ne this]; exact e
theorem Same.upd2 (h : Same B H) (hp : H p = none) : Same (upd B p o) (upd H p o) := fun q u e => by
  by_cases z : q = p
  · subst z; rw [upd_same] at e ⊢; exact e
  · rw [upd_ne z] at e ⊢; exact h q u e
theorem Pu.alloc (S : Pu B0 H0 B H) (h : H p = none) : Pu B0 H0 (upd B p o) (upd H p o) :=
  ⟨S.kn.trans (Same.updN (S.free h)), Same.upd2 S.sub h, S.old.trans (Same.updN h), fun q hq => by
      have : q ≠ p := fun z => by rw [z] at hq; exact hq (S.free0 h)
      rw [upd_ne this]; exact S.fr q hq⟩
theorem Pu.vol (S : Pu B0 H0 B H) (h : H p = none) : Pu B0 H0 B (upd H p o) :=
  ⟨S.kn, S.sub.trans (Same.updN h), S.old.trans (Same.updN h), S.fr⟩
theorem Pu.put (S : Pu B0 H0 B H) (h0 : H0 p = none) (hb : B p = none) : Pu B0 H0 B (upd H p o) :=
  ⟨S.kn, fun q u e => by
      have : q ≠ p := fun z => by rw [z, hb] at e; cases e
      rw [upd_ne this]; exact S.sub q u e, fun q u e => by
      have : q ≠ p := fun z => by rw [z, h0] at e; cases e
      rw [upd_ne this]; exact S.old q u e, S.fr⟩
theorem Pu.know (S : Pu B0 H0 B H) (h : H p = some o) (h0 : H0 p = none) (hb : B p = none) : Pu B0 H0 (upd B p o) H :=
  ⟨S.kn.trans (Same.updN hb), fun q u e => by
      by_cases z : q = p
      · rw [z, upd_same] at e; rw [z, h]; exact e
      · rw [upd_ne z] at e; exact S.sub q u e, S.old,
    fun q hq => by
      have : q ≠ p := fun z => by rw [z] at hq; exact hq h0
      rw [upd_ne this]; exact S.fr q hq⟩
theorem Pu.trans (S : Pu B0 H0 B H) (S1 : Pu B H B1 H1) : Pu B0 H0 B1 H1 :=
  ⟨S.kn.trans S1.kn, S1.sub, S.old.trans S1.old, fun q hq => by
    cases z : H0 q with
    | none => exact absurd z hq
    | some o => rw [S1.fr q (by rw [S.old q o z]; exact fun z => nomatch z)]; exact S.fr q hq⟩
theorem Pu.pure (S : Pu B0 H0 B H) (h : Same H H1) : Pu B0 H0 B H1 := ⟨S.kn, S.sub.trans h, S.old.trans h, S.fr⟩
theorem St.pu (S : St a B0 H0 n B H) (S1 : Pu B H B1 H1) : St a B0 H0 n B1 H1 :=
  ⟨S.kn.trans S1.kn, S1.sub, by rw [S1.fr a S.has]; exact S.na, by
    obtain ⟨u, e, l⟩ := S.left
    exact ⟨u, S1.old _ _ e, l⟩, fun q o hq e => S1.old _ _ (S.oth q o hq e), fun q hq => by
    by_cases e : q = a
    · rw [S1.fr q (by rw [e]; exact S.has)]; exact S.fr q hq
    · cases z : H0 q with
      | none => exact absurd z hq
      | some o => rw [S1.fr q (by rw [S.oth q o e z]; exact fun z => nomatch z)]; exact S.fr q hq⟩
end
structure Old (B H B' H' : Hp) : Prop where
  st : Same H H'
  fr : ∀ q, H q ≠ none → B' q = B q
theorem Old.cell {p : Addr} {B H B' H' : Hp} {o : HO} (O : Old B H B' H') (h : H p = some o) (hb : B p = none) : H' p = some o ∧ B' p = none :=
  ⟨O.st p o h, by rw [O.fr p (by rw [h]; exact fun z => nomatch z)]; exact hb⟩
/-- a def that changes nothing: what it gives may be made of new objects, and of what is known -/
def spPure (pre : Hp → List V → Prop) (R : List V → Hp → V → Prop) : Sp := fun vs H Q _ =>
  ∃ B : Hp, Same B H ∧ pre B vs ∧ ∀ v B' H', Pu B H B' H' → R vs B' v → Q v H'
theorem Pu.call {B0 H0 B H : Hp} {pre : Hp → List V → Prop} {R : List V → Hp → V → Prop} {vs : List V} {Q : VK} {E : XK} (S : Pu B0 H0 B H) (hp : pre B vs)
    (q : ∀ v B' H', Pu B0 H0 B' H' → Old B H B' H' → Same B B' → R vs B' v → Q v H') : spPure pre R vs H Q E :=
  ⟨B, S.sub, hp, fun v B' H' S' r => q v B' H' (S.trans S') ⟨S'.old, S'.fr⟩ S'.kn r⟩
theorem St.call {a : Addr} {B0 H0 B H : Hp} {n : Nat} {pre : Hp → List V → Prop} {R : List V → Hp → V → Prop} {vs : List V} {Q : VK} {E : XK} (S : St a B0 H0 n B H) (hp : pre B vs)
    (q : ∀ v B' H', St a B0 H0 n B' H' → Oth a B H B' H' → Same B B' → R vs B' v → Q v H') : spPure pre R vs H Q E :=
  ⟨B, S.sub, hp, fun v B' H' S' r => q v B' H' (S.pu S') ⟨fun q o _ e => S'.old q o e, S'.fr⟩ S'.kn r⟩
theorem Same.call {B H : Hp} {pre : Hp → List V → Prop} {R : List V → Hp → V → Prop} {vs : List V} {Q : VK} {E : XK} (S : Same B H) (hp : pre B vs)
    (q : ∀ v B' H', Pu B H B' H' → R vs B' v → Q v H') : spPure pre R vs H Q E := ⟨B, S, hp, fun v B' H' S' r => q v B' H' S' r⟩

theorem St.atNew {a : Addr} {B0 H0 B H : Hp} {n : Nat} {Q : VK} {o : HO} (S : St a B0 H0 n B H) (q : ∀ p B' H', St a B0 H0 n B' H' → Oth a B H B' H' → Same B B' → H p = none → B' p = some o → Q (.ref p) H') : AtNew Q o H :=
  fun p hp => q p (upd B p o) (upd H p o) (S.alloc hp) ⟨fun q u _ e => Same.updN hp q u e, fun q hq => upd_ne fun z => hq (z ▸ hp)⟩ (Same.updN (S.free hp)) hp upd_same
theorem St.atVol {a : Addr} {B0 H0 B H : Hp} {n : Nat} {Q : VK} {o : HO} (S : St a B0 H0 n B H) (q : ∀ p H', St a B0 H0 n B H' → Oth a B H B H' → H p = none → H' p = some o → B p = none → H0 p = none → p ≠ a → Q (.ref p) H') : AtNew Q o H :=
  fun p hp => q p (upd H p o) (S.vol hp) ⟨fun q u _ e => Same.updN hp q u e, fun _ _ => rfl⟩ hp upd_same (S.free hp) (S.free0 hp) (S.nea hp)
theorem Pu.atNew {B0 H0 B H : Hp} {Q : VK} {o : HO} (S : Pu B0 H0 B H) (q : ∀ p B' H', Pu B0 H0 B' H' → Old B H B' H' → Same B B' → H p = none → B' p = some o → Q (.ref p) H') : AtNew Q o H :=
  fun p hp => q p (upd B p o) (upd H p o) (S.alloc hp) ⟨Same.updN hp, fun q hq => upd_ne fun z => hq (z ▸ hp)⟩ (Same.updN (S.free hp)) hp upd_same
theorem Pu.atVol {B0 H0 B H : Hp} {Q : VK} {o : HO} (S : Pu B0 H0 B H) (q : ∀ p H', Pu B0 H0 B H' → Old B H B H' → H p = none → H' p = some o → B p = none → H0 p = none → Q (.ref p) H') : AtNew Q o H :=
  fun p hp => q p (upd H p o) (S.vol hp) ⟨Same.updN hp, fun _ _ => rfl⟩ hp upd_same (S.free hp) (S.free0 hp)
/-- a draw below m -/
def spPick : Sp := fun vs H Q _ => ∃ (a : Addr) (n : Nat) (B : Hp) (m : Int), vs = [.ref a, .int m] ∧ Same B H ∧ B a = none ∧ Left a n H ∧ 1 ≤ n ∧ 0 < m ∧ m < 1073741824 ∧
  ∀ d H', 0 ≤ d → d < m → St a B H (n - 1) B H' → Q (.int d) H'
theorem use_pick {a : Addr} {B0 H0 B H : Hp} {n : Nat} {m : Int} {Q : VK} {E : XK} (S : St a B0 H0 n B H) (hn : 1 ≤ n) (h0 : 0 < m) (h1 : m < 1073741824)
    (q : ∀ d H', 0 ≤ d → d < m → St a B0 H0 (n - 1) B H' → Oth a B H B H' → Q (.int d) H') : spPick [.ref a, .int m] H Q E :=
  ⟨a, n, B, m, rfl, S.sub, S.na, S.left, hn, h0, h1, fun d H' h2 h3 S' => q d H' h2 h3 (S.trans S') ⟨S'.oth, S'.fr⟩⟩

/-! ### walks -/
section
variable {σ : L2.St} {H : Hp} {Q : VK} {wi : TI} {g : TG} {tt : TT} {te tl : TE} {ts : TA} {vs : List Nat} {D : Ends} {tb : TS} {K : PySem.W.Frag}
def LcB (g : TG) (tt : TT) (te : TE) (vs : List Nat) (σ : L2.St) (Q : VK) (J : It) (H1 : Hp) : Prop := ∀ D, H1 D = none → ∃ W : Nat → Nat → Hp → Prop, (∃ m, W 0 m (upd H1 D (.lst []))) ∧ ∀ i m H, W i m H →
  (J.stop i H ∧ Q (.ref D) H) ∨ (J.go i H ∧ ∃ Nx : Hp → Prop, (∀ H', Nx H' → ∃ m', m' < m ∧ W (i + 1) m' H') ∧ ∀ x H', J.yld i H x H' → g x (wipe σ vs) H' fun σ2 H2 => wipe σ2 vs = wipe σ vs ∧ tt σ2 H2 fun b H3 =>
    if b = true then te σ2 H3 fun y H4 => ∃ acc, H4 D = some (.lst acc) ∧ acc.length < sizeLine ∧ Nx (upd H4 D (.lst (acc ++ [y]))) else Nx H3)
theorem g_lc (h : wi σ H (LcB g tt te vs σ Q)) : tLc wi g tt te vs σ H Q := h
def FoB (g : TG) (tb : TS) (D : Ends) (σ : L2.St) (J : It) (H1 : Hp) : Prop := ∃ W : Nat → Nat → L2.St → Hp → Prop, (∃ m, W 0 m σ H1) ∧ ∀ i m σ H, W i m σ H →
  (J.stop i H ∧ D.nx σ H) ∨ (J.go i H ∧ ∃ N : L2.St → Hp → Prop, (∀ σ' H', N σ' H' → ∃ m', m' < m ∧ W (i + 1) m' σ' H') ∧ ∀ x H', J.yld i H x H' → g x σ H' fun σ2 H2 => tb { D with nx := N, ct := N, bk := D.nx } σ2 H2)
theorem g_for (h : wi σ H (FoB g tb D σ)) : tFor wi g tb D σ H := h
def Rn1 (R : It → Hp → Prop) (vs : List V) (H1 : Hp) : Prop := ∃ j : Int, vs = [.int j] ∧ -(2 ^ 62) ≤ j ∧ j < 2 ^ 62 ∧ R (Itr 0 j.toNat) H1
theorem g_rng1 {R : It → Hp → Prop} (h : ts σ H (Rn1 R)) : iRng1 ts σ H R := h
def Rn2 (R : It → Hp → Prop) (vs : List V) (H1 : Hp) : Prop := ∃ i j : Int, vs = [.int i, .int j] ∧ (-(2 ^ 62) ≤ i ∧ i < 2 ^ 62 ∧ -(2 ^ 62) ≤ j ∧ j < 2 ^ 62) ∧ R (Itr i (j - i).toNat) H1
theorem g_rng2 {R : It → Hp → Prop} (h : ts σ H (Rn2 R)) : iRng2 ts σ H R := h
def Ls1 (K : PySem.W.Frag) (R : It → Hp → Prop) (x : V) (H1 : Hp) : Prop := ∃ a, x = .ref a ∧ (∃ xs, SqL K H1 a xs) ∧ R (Itl K a) H1
theorem g_ilist {R : It → Hp → Prop} (h : tl σ H (Ls1 K R)) : iList K tl σ H R := h
def Tp1 (K : PySem.W.Frag) (R : It → Hp → Prop) (x : V) (H1 : Hp) : Prop := ∃ a, x = .ref a ∧ (∃ xs, SqT K H1 a xs) ∧ R (Itt K a) H1
theorem g_itup {R : It → Hp → Prop} (h : tl σ H (Tp1 K R)) : iTup K tl σ H R := h
def Sr1 (R : It → Hp → Prop) (v : V) (H1 : Hp) : Prop := ∃ x, v = .str x ∧ R (Its x) H1
theorem g_istr {R : It → Hp → Prop} (h : tl σ H (Sr1 R)) : iStr tl σ H R := h
def WB (tb : TS) (n : L2.St → Hp → Prop) (r : VK) (W : Nat → L2.St → Hp → Prop) (m : Nat) (σ : L2.St) (H : Hp) : Prop :=
  ∃ N : L2.St → Hp → Prop, (∀ σ' H', N σ' H' → ∃ m', m' < m ∧ W m' σ' H') ∧ tb ⟨N, r, n, N⟩ σ H
theorem WB.mk {n : L2.St → Hp → Prop} {r : VK} {W : Nat → L2.St → Hp → Prop} {m : Nat} (h : tb ⟨fun σ2 H2 => ∃ m', m' < m ∧ W m' σ2 H2, r, n, fun σ2 H2 => ∃ m', m' < m ∧ W m' σ2 H2⟩ σ H) : WB tb n r W m σ H := ⟨_, fun _ _ p => p, h⟩
theorem g_while {c : TT} {n b cc : L2.St → Hp → Prop} {r : VK} (W : Nat → L2.St → Hp → Prop) (m : Nat) (h0 : W m σ H)
    (hs : ∀ m σ' H', W m σ' H' → c σ' H' fun k H1 => if k = true then WB tb n r W m σ' H1 else n σ' H1) : tWhile c tb ⟨n, r, b, cc⟩ σ H :=
  ⟨W, ⟨m, h0⟩, fun m σ' H' w => hs m σ' H' w⟩
end
/-! ### lists of texts, of numbers -/
theorem strs_of {P : Str → Prop} : ∀ {xs : List V}, (∀ v ∈ xs, ∃ z, v = .str z ∧ P z) → ∃ zs : List Str, xs = zs.map V.str ∧ ∀ z ∈ zs, P z
  | [], _ => ⟨[], rfl, fun _ h => nomatch h⟩
  | x :: xs, h => by
    obtain ⟨z, rfl, p⟩ := h x List.mem_cons_self
    obtain ⟨zs, rfl, ps⟩ := strs_of fun v hv => h v (List.mem_cons_of_mem _ hv)
    exact ⟨z :: zs, rfl, fun y hy => by
      rcases List.mem_cons.mp hy with rfl | hy
      · exact p
      · exact ps y hy⟩
theorem ints_of {P : Int → Prop} : ∀ {xs : List V}, (∀ v ∈ xs, ∃ z, v = .int z ∧ P z) → ∃ zs : List Int, xs = zs.map V.int ∧ ∀ z ∈ zs, P z
  | [], _ => ⟨[], rfl, fun _ h => nomatch h⟩
  | x :: xs, h => by
    obtain ⟨z, rfl, p⟩ := h x List.mem_cons_self
    obtain ⟨zs, rfl, ps⟩ := ints_of fun v hv => h v (List.mem_cons_of_mem _ hv)
    exact ⟨z :: zs, rfl, fun y hy => by
      rcases List.mem_cons.mp hy with rfl | hy
      · exact p
      · exact ps y hy⟩
theorem mem_ix {α : Type} {xs : List α} {P : α → Prop} (h : ∀ (i : Nat) v, xs[i]? = some v → P v) : ∀ v ∈ xs, P v := fun v hv => by
  obtain ⟨i, hi⟩ := List.getElem?_of_mem hv
  exact h i v hi
theorem at_str {zs : List Str} {d : Int} (h0 : 0 ≤ d) (h1 : d < (zs.length : Int)) : ∃ z, z ∈ zs ∧ atI (zs.map V.str) d = some (.str z) := by
  obtain ⟨j, rfl⟩ : ∃ j : Nat, d = (j : Int) := ⟨d.toNat, by omega⟩
  have hj : j < zs.length := by omega
  exact ⟨zs[j], List.getElem_mem hj, atI_nat (by rw [List.getElem?_map, List.getElem?_eq_getElem hj]; rfl)⟩
theorem at_any {xs : List V} {d : Int} (h0 : 0 ≤ d) (h1 : d < (xs.length : Int)) : ∃ z, z ∈ xs ∧ atI xs d = some z := by
  obtain ⟨j, rfl⟩ : ∃ j : Nat, d = (j : Int) := ⟨d.toNat, by omega⟩
  have hj : j < xs.length := by omega
  exact ⟨xs[j], List.getElem_mem hj, atI_nat (List.getElem?_eq_getElem hj)⟩
theorem at_chr {zs : List Nat} {d : Int} (h0 : 0 ≤ d) (h1 : d < (zs.length : Int)) : ∃ z, z ∈ zs ∧ atI zs d = some z := by
  obtain ⟨j, rfl⟩ : ∃ j : Nat, d = (j : Int) := ⟨d.toNat, by omega⟩
  have hj : j < zs.length := by omega
  exact ⟨zs[j], List.getElem_mem hj, atI_nat (List.getElem?_eq_getElem hj)⟩
end G

namespace G
open PySem PySem.Spec PyProof.Rows L2 TL

/-! ### texts of letters -/
theorem str_ext {x y : Str} (h : tl x = tl y) : x = y := ext_tl h
def LtL (l : List Nat) : Prop := ∀ c ∈ l, 97 ≤ c ∧ c ≤ 122
def Ky (n : Nat) (z : Str) : Prop := (tl z).length ≤ n ∧ LtL (tl z)
theorem Ky.le {n m : Nat} {z : Str} (h : Ky n z) (hm : n ≤ m) : Ky m z := ⟨Nat.le_trans h.1 hm, h.2⟩
theorem Ky.len {n : Nat} {z : Str} (h : Ky n z) : z.length ≤ n := by rw [len_tl]; exact h.1
theorem Ky.app {n m : Nat} {x y : Str} (h : Ky n x) (h' : Ky m y) : Ky (n + m) (x ++ y) := by
  refine ⟨?_, fun c hc => ?_⟩
  · rw [tl_append, List.length_append]; exact Nat.add_le_add h.1 h'.1
  · rw [tl_append] at hc
    rcases List.mem_append.mp hc with hc | hc
    · exact h.2 c hc
    · exact h'.2 c hc
theorem Ky.one {c : Nat} (h : 97 ≤ c ∧ c ≤ 122) : Ky 1 (⟨#[c]⟩ : Str) := ⟨Nat.le_refl 1, fun d hd => by
  have : d = c := by simpa using hd
  rw [this]; exact h⟩
theorem joinL_nil : ∀ ps : List (List Nat), joinL [] ps = ps.flatten
  | [] => rfl
  | [p] => by simp [joinL]
  | p :: q :: r => by
    show p ++ ([] ++ joinL [] (q :: r)) = _
    rw [joinL_nil (q :: r)]; simp
theorem tl_join0 {y : Str} (hy : tl y = []) (ys : List Str) : tl (Txt.join y ys) = (ys.map tl).flatten := by rw [join_eq, tl_join, hy, joinL_nil]
theorem flat_len {n : Nat} : ∀ {ls : List (List Nat)}, (∀ l ∈ ls, l.length ≤ n) → ls.flatten.length ≤ ls.length * n
  | [], _ => by simp
  | l :: ls, h => by
    rw [List.flatten_cons, List.length_append, List.length_cons, Nat.succ_mul, Nat.add_comm]
    exact Nat.add_le_add (flat_len fun x hx => h x (List.mem_cons_of_mem _ hx)) (h l List.mem_cons_self)
theorem Ky.join {y : Str} (hy : tl y = []) {n : Nat} {ys : List Str} (h : ∀ z ∈ ys, Ky n z) : Ky (ys.length * n) (Txt.join y ys) := by
  refine ⟨?_, fun c hc => ?_⟩
  · rw [tl_join0 hy]
    have := flat_len (n := n) (ls := ys.map tl) (fun l hl => by
      obtain ⟨z, hz, rfl⟩ := List.mem_map.mp hl
      exact (h z hz).1)
    rw [List.length_map] at this; exact this
  · rw [tl_join0 hy] at hc
    obtain ⟨l, hl, hc⟩ := List.mem_flatten.mp hc
    obtain ⟨z, hz, rfl⟩ := List.mem_map.mp hl
    exact (h z hz).2 c hc
theorem Ky.sum {n : Nat} : ∀ {ys : List Str}, (∀ z ∈ ys, Ky n z) → (ys.map (·.length)).sum ≤ ys.length * n
  | [], _ => by simp
  | y :: ys, h => by
    rw [List.map_cons, List.sum_cons, List.length_cons, Nat.succ_mul, Nat.add_comm]
    exact Nat.add_le_add (Ky.sum fun x hx => h x (List.mem_cons_of_mem _ hx)) (h y List.mem_cons_self).len
theorem tl_cut (z : Str) (lo hi : Option Int) : tl (cutS z lo hi) = ((tl z).drop (HT.sIx z.length 0 lo)).take (HT.sIx z.length z.length hi - HT.sIx z.length 0 lo) := rfl
theorem Ky.cut {n : Nat} {z : Str} (h : Ky n z) (lo hi : Option Int) : Ky n (cutS z lo hi) := by
  refine ⟨?_, fun c hc => ?_⟩
  · rw [tl_cut, List.length_take, List.length_drop]; have := h.1; omega
  · rw [tl_cut] at hc
    exact h.2 c (List.mem_of_mem_drop (List.mem_of_mem_take hc))
theorem tl_mul (z : Str) (n : Int) : tl (Txt.mul z n) = (List.replicate n.toNat (tl z)).flatten := by
  unfold Txt.mul
  split
  · rename_i h
    rw [show n.toNat = 0 by omega]; rfl
  · split
    · rename_i h1 h2
      rw [Bool.or_eq_true, beq_iff_eq, beq_iff_eq] at h2
      rcases h2 with h2 | h2
      · rw [h2]; simp [List.replicate]
      · have : tl z = [] := List.eq_nil_of_length_eq_zero (by rw [← len_tl]; exact h2)
        rw [this]; simp
    · have key : ∀ (k : Nat) (acc : Array Nat), ((List.replicate k z.cps).foldl (· ++ ·) acc).toList = acc.toList ++ (List.replicate k (tl z)).flatten := by
        intro k
        induction k with
        | zero => intro acc; simp
        | succ k ih =>
          intro acc
          rw [List.replicate_succ, List.foldl_cons, ih, List.replicate_succ, List.flatten_cons, Array.toList_append, List.append_assoc]
      show (((List.replicate n.toNat z.cps).foldl (· ++ ·) #[]).toList) = _
      rw [key]; simp
theorem Ky.mul {k : Nat} {z : Str} (h : Ky k z) (n : Int) : Ky (n.toNat * k) (Txt.mul z n) := by
  refine ⟨?_, fun c hc => ?_⟩
  · rw [tl_mul]
    have := flat_len (n := k) (ls := List.replicate n.toNat (tl z)) (fun l hl => by rw [List.eq_of_mem_replicate hl]; exact h.1)
    rw [List.length_replicate] at this; exact this
  · rw [tl_mul] at hc
    obtain ⟨l, hl, hc⟩ := List.mem_flatten.mp hc
    rw [List.eq_of_mem_replicate hl] at hc
    exact h.2 c hc
theorem mulOk {z : Str} {n : Int} (hz : z.length ≤ 1000) (h0 : -1000 ≤ n) (h1 : n ≤ 1000) : MulOk z n := by
  have hs : sizeLine = 16777216 := sizeLine_eq
  refine ⟨?_, fun h _ => ?_, fun h _ => ?_⟩
  · rw [decide_eq_false (by omega), decide_eq_false (by omega)]; rfl
  · intro hc
    have h2 : (2 ^ 63 - 1 : Int) / 1000 ≤ (2 ^ 63 - 1) / n := by
      refine Int.le_ediv_of_mul_le (by omega) ?_
      have : (2 ^ 63 - 1 : Int) / 1000 * n ≤ (2 ^ 63 - 1 : Int) / 1000 * 1000 := Int.mul_le_mul_of_nonneg_left h1 (by decide)
      exact Int.le_trans this (by decide)
    have h3 : (1000 : Int) < (2 ^ 63 - 1 : Int) / 1000 := by decide
    omega
  · have hn : n.toNat ≤ 1000 := by omega
    have : z.length * n.toNat ≤ 1000 * 1000 := Nat.mul_le_mul hz hn
    unfold Builtin.Str.tooLong
    exact decide_eq_false (by rw [hs]; omega)
theorem one_lt {c d : Nat} : (tl (⟨#[c]⟩ : Str) < tl (⟨#[d]⟩ : Str)) ↔ c < d := by
  show ([c] : List Nat) < [d] ↔ c < d
  constructor
  · intro h
    cases h with
    | rel h => exact h
    | cons h => cases h
  · exact fun h => .rel h
theorem one_eq {c d : Nat} : ((⟨#[c]⟩ : Str) = ⟨#[d]⟩) ↔ c = d := by
  constructor
  · intro h
    have := congrArg tl h
    simpa using this
  · exact fun h => by rw [h]
/-! ### an item by a drawn place -/
section
variable {K : PySem.W.Frag} {H : Hp} {Q : VK} {d : Int}
theorem ix_textP {z : Str} (h : z.length ≤ 1048576) (h0 : 0 ≤ d) (h1 : d < ((tl z).length : Int)) (q : ∀ c ∈ tl z, Q (.str ⟨#[c]⟩) H) : gIx K (.str z) (.int d) H Q := by
  obtain ⟨c, hc, ha⟩ := at_chr h0 h1
  exact ix_text (szl' h) ha (q c hc)
theorem ix_lstP {p : Addr} {xs : List V} (h : H p = some (.lst xs)) (h0 : 0 ≤ d) (h1 : d < (xs.length : Int)) (q : ∀ v ∈ xs, Q v H) : gIx K (.ref p) (.int d) H Q := by
  obtain ⟨c, hc, ha⟩ := at_any h0 h1
  exact ix_lst h ha (q c hc)
theorem ix_tupP {p : Addr} {xs : List V} (h : H p = some (.tup xs)) (h0 : 0 ≤ d) (h1 : d < (xs.length : Int)) (q : ∀ v ∈ xs, Q v H) : gIx K (.ref p) (.int d) H Q := by
  obtain ⟨c, hc, ha⟩ := at_any h0 h1
  exact ix_tpl h ha (q c hc)
theorem ix_strsP {p : Addr} {zs : List Str} (h : H p = some (.lst (zs.map V.str))) (h0 : 0 ≤ d) (h1 : d < (zs.length : Int)) (q : ∀ z ∈ zs, Q (.str z) H) : gIx K (.ref p) (.int d) H Q := by
  obtain ⟨c, hc, ha⟩ := at_str h0 h1
  exact ix_lst h ha (q c hc)
end
/-- one of two, one of three .. -/
theorem mem1 {P : V → Prop} {a : V} (h : P a) : ∀ v ∈ [a], P v := fun v hv => by rw [List.mem_singleton.mp hv]; exact h
theorem memc {P : V → Prop} {a : V} {l : List V} (h : P a) (t : ∀ v ∈ l, P v) : ∀ v ∈ a :: l, P v := fun v hv => by
  rcases List.mem_cons.mp hv with rfl | hv
  · exact h
  · exact t v hv
/-- keys in a list that is known -/
def Kys (n : Nat) (B : Hp) (p : Addr) (zs : List Str) : Prop := B p = some (.lst (zs.map V.str)) ∧ ∀ z ∈ zs, Ky n z
theorem Kys.mono {n : Nat} {B B' : Hp} {p : Addr} {zs : List Str} (h : Kys n B p zs) (s : Same B B') : Kys n B' p zs := ⟨s _ _ h.1, h.2⟩
end G

namespace G
open PySem PySem.Spec PyProof.Rows L2 TL RZ

/-! ### == of unlike kinds -/
section
variable {K : PySem.W.Frag} {H : Hp} {Q : VK}
theorem eq_non (h : Q (.bl true) H) : gEq K .non .non H Q := .inl ⟨rfl, by rw [decide_eq_true rfl]; exact h⟩
theorem ne_non (h : Q (.bl false) H) : gNe K .non .non H Q := .inl ⟨rfl, by rw [decide_eq_true rfl]; exact h⟩
end
/-! ### isinstance -/
section
variable {K : PySem.W.Frag} {H : Hp} {Q : VK} {x : V} {ty T : String} {b : Bool}
theorem isi_1 (h : TyX K H x (.type ty)) (hk : kitB ty T = some b) (q : Q (.bl b) H) : gIsi K [x, .ty T] H Q := .inl ⟨x, .ty T, .type ty, .type T, b, rfl, .ty T, h, hk, q⟩
theorem isi_2 {tp : Addr} {T1 T2 : String} {b1 b2 : Bool} (ht : H tp = some (.tup [.ty T1, .ty T2])) (h : TyX K H x (.type ty)) (h1 : kitB ty T1 = some b1) (h2 : kitB ty T2 = some b2) (q : Q (.bl (b1 || b2)) H) : gIsi K [x, .ref tp] H Q := by
  refine .inr ⟨x, tp, [.ty T1, .ty T2], .type ty, [.type T1, .type T2], b1 || b2, rfl, ht, .cons (.ty _) (.cons (.ty _) .nil), h, ?_, q⟩
  unfold PySem.W.kitAny
  rw [show PySem.W.kitOne K (.type ty) (.type T1) = some b1 from h1]
  cases b1 with
  | true => rfl
  | false =>
    show PySem.W.kitAny K (.type ty) [.type T2] = some b2
    unfold PySem.W.kitAny
    rw [show PySem.W.kitOne K (.type ty) (.type T2) = some b2 from h2]
    cases b2 <;> rfl
theorem ty_non : TyX K H .non (.type "NoneType") := .base .non
theorem ty_bl {k : Bool} : TyX K H (.bl k) (.type "bool") := .base (.bl k)
theorem ty_int {i : Int} : TyX K H (.int i) (.type "int") := .base (.int i)
theorem ty_str {z : Str} : TyX K H (.str z) (.type "str") := .base (.str z)
theorem ty_list {p : Addr} {xs : List V} (h : H p = some (.lst xs)) : TyX K H (.ref p) (.type "list") := .base (.lst h)
theorem ty_tup {p : Addr} {xs : List V} (h : H p = some (.tup xs)) : TyX K H (.ref p) (.type "tuple") := .base (.tup h)
theorem kb_non_int : kitB "NoneType" "int" = some false := by decide +kernel
theorem isi_non_int (q : Q (.bl false) H) : gIsi K [.non, .ty "int"] H Q := isi_1 ty_non kb_non_int q
theorem kb_non_str : kitB "NoneType" "str" = some false := by decide +kernel
theorem isi_non_str (q : Q (.bl false) H) : gIsi K [.non, .ty "str"] H Q := isi_1 ty_non kb_non_str q
theorem kb_non_bool : kitB "NoneType" "bool" = some false := by decide +kernel
theorem isi_non_bool (q : Q (.bl false) H) : gIsi K [.non, .ty "bool"] H Q := isi_1 ty_non kb_non_bool q
theorem kb_non_list : kitB "NoneType" "list" = some false := by decide +kernel
theorem isi_non_list (q : Q (.bl false) H) : gIsi K [.non, .ty "list"] H Q := isi_1 ty_non kb_non_list q
theorem kb_non_tuple : kitB "NoneType" "tuple" = some false := by decide +kernel
theorem isi_non_tuple (q : Q (.bl false) H) : gIsi K [.non, .ty "tuple"] H Q := isi_1 ty_non kb_non_tuple q
theorem isi2_non {tp : Addr} (ht : H tp = some (.tup [.ty "list", .ty "tuple"])) (q : Q (.bl false) H) : gIsi K [.non, .ref tp] H Q := isi_2 ht ty_non kb_non_list kb_non_tuple q
theorem kb_bl_int : kitB "bool" "int" = some true := by decide +kernel
theorem isi_bl_int {k : Bool} (q : Q (.bl true) H) : gIsi K [.bl k, .ty "int"] H Q := isi_1 ty_bl kb_bl_int q
theorem kb_bl_str : kitB "bool" "str" = some false := by decide +kernel
theorem isi_bl_str {k : Bool} (q : Q (.bl false) H) : gIsi K [.bl k, .ty "str"] H Q := isi_1 ty_bl kb_bl_str q
theorem kb_bl_bool : kitB "bool" "bool" = some true := by decide +kernel
theorem isi_bl_bool {k : Bool} (q : Q (.bl true) H) : gIsi K [.bl k, .ty "bool"] H Q := isi_1 ty_bl kb_bl_bool q
theorem kb_bl_list : kitB "bool" "list" = some false := by decide +kernel
theorem isi_bl_list {k : Bool} (q : Q (.bl false) H) : gIsi K [.bl k, .ty "list"] H Q := isi_1 ty_bl kb_bl_list q
theorem kb_bl_tuple : kitB "bool" "tuple" = some false := by decide +kernel
theorem isi_bl_tuple {k : Bool} (q : Q (.bl false) H) : gIsi K [.bl k, .ty "tuple"] H Q := isi_1 ty_bl kb_bl_tuple q
theorem isi2_bl {tp : Addr} {k : Bool} (ht : H tp = some (.tup [.ty "list", .ty "tuple"])) (q : Q (.bl false) H) : gIsi K [.bl k, .ref tp] H Q := isi_2 ht ty_bl kb_bl_list kb_bl_tuple q
theorem kb_int_int : kitB "int" "int" = some true := by decide +kernel
theorem isi_int_int {i : Int} (q : Q (.bl true) H) : gIsi K [.int i, .ty "int"] H Q := isi_1 ty_int kb_int_int q
theorem kb_int_str : kitB "int" "str" = some false := by decide +kernel
theorem isi_int_str {i : Int} (q : Q (.bl false) H) : gIsi K [.int i, .ty "str"] H Q := isi_1 ty_int kb_int_str q
theorem kb_int_bool : kitB "int" "bool" = some false := by decide +kernel
theorem isi_int_bool {i : Int} (q : Q (.bl false) H) : gIsi K [.int i, .ty "bool"] H Q := isi_1 ty_int kb_int_bool q
theorem kb_int_list : kitB "int" "list" = some false := by decide +kernel
theorem isi_int_list {i : Int} (q : Q (.bl false) H) : gIsi K [.int i, .ty "list"] H Q := isi_1 ty_int kb_int_list q
theorem kb_int_tuple : kitB "int" "tuple" = some false := by decide +kernel
theorem isi_int_tuple {i : Int} (q : Q (.bl false) H) : gIsi K [.int i, .ty "tuple"] H Q := isi_1 ty_int kb_int_tuple q
theorem isi2_int {tp : Addr} {i : Int} (ht : H tp = some (.tup [.ty "list", .ty "tuple"])) (q : Q (.bl false) H) : gIsi K [.int i, .ref tp] H Q := isi_2 ht ty_int kb_int_list kb_int_tuple q
theorem kb_str_int : kitB "str" "int" = some false := by decide +kernel
theorem isi_str_int {z : Str} (q : Q (.bl false) H) : gIsi K [.str z, .ty "int"] H Q := isi_1 ty_str kb_str_int q
theorem kb_str_str : kitB "str" "str" = some true := by decide +kernel
theorem isi_str_str {z : Str} (q : Q (.bl true) H) : gIsi K [.str z, .ty "str"] H Q := isi_1 ty_str kb_str_str q
theorem kb_str_bool : kitB "str" "bool" = some false := by decide +kernel
theorem isi_str_bool {z : Str} (q : Q (.bl false) H) : gIsi K [.str z, .ty "bool"] H Q := isi_1 ty_str kb_str_bool q
theorem kb_str_list : kitB "str" "list" = some false := by decide +kernel
theorem isi_str_list {z : Str} (q : Q (.bl false) H) : gIsi K [.str z, .ty "list"] H Q := isi_1 ty_str kb_str_list q
theorem kb_str_tuple : kitB "str" "tuple" = some false := by decide +kernel
theorem isi_str_tuple {z : Str} (q : Q (.bl false) H) : gIsi K [.str z, .ty "tuple"] H Q := isi_1 ty_str kb_str_tuple q
theorem isi2_str {tp : Addr} {z : Str} (ht : H tp = some (.tup [.ty "list", .ty "tuple"])) (q : Q (.bl false) H) : gIsi K [.str z, .ref tp] H Q := isi_2 ht ty_str kb_str_list kb_str_tuple q
theorem kb_lst_int : kitB "list" "int" = some false := by decide +kernel
theorem isi_lst_int {p : Addr} {xs : List V} (h : H p = some (.lst xs)) (q : Q (.bl false) H) : gIsi K [.ref p, .ty "int"] H Q := isi_1 (ty_list h) kb_lst_int q
theorem kb_lst_str : kitB "list" "str" = some false := by decide +kernel
theorem isi_lst_str {p : Addr} {xs : List V} (h : H p = some (.lst xs)) (q : Q (.bl false) H) : gIsi K [.ref p, .ty "str"] H Q := isi_1 (ty_list h) kb_lst_str q
theorem kb_lst_bool : kitB "list" "bool" = some false := by decide +kernel
theorem isi_lst_bool {p : Addr} {xs : List V} (h : H p = some (.lst xs)) (q : Q (.bl false) H) : gIsi K [.ref p, .ty "bool"] H Q := isi_1 (ty_list h) kb_lst_bool q
theorem kb_lst_list : kitB "list" "list" = some true := by decide +kernel
theorem isi_lst_list {p : Addr} {xs : List V} (h : H p = some (.lst xs)) (q : Q (.bl true) H) : gIsi K [.ref p, .ty "list"] H Q := isi_1 (ty_list h) kb_lst_list q
theorem kb_lst_tuple : kitB "list" "tuple" = some false := by decide +kernel
theorem isi_lst_tuple {p : Addr} {xs : List V} (h : H p = some (.lst xs)) (q : Q (.bl false) H) : gIsi K [.ref p, .ty "tuple"] H Q := isi_1 (ty_list h) kb_lst_tuple q
theorem isi2_lst {tp : Addr} {p : Addr} {xs : List V} (h : H p = some (.lst xs)) (ht : H tp = some (.tup [.ty "list", .ty "tuple"])) (q : Q (.bl true) H) : gIsi K [.ref p, .ref tp] H Q := isi_2 ht (ty_list h) kb_lst_list kb_lst_tuple q
theorem kb_tup_int : kitB "tuple" "int" = some false := by decide +kernel
theorem isi_tup_int {p : Addr} {xs : List V} (h : H p = some (.tup xs)) (q : Q (.bl false) H) : gIsi K [.ref p, .ty "int"] H Q := isi_1 (ty_tup h) kb_tup_int q
theorem kb_tup_str : kitB "tuple" "str" = some false := by decide +kernel
theorem isi_tup_str {p : Addr} {xs : List V} (h : H p = some (.tup xs)) (q : Q (.bl false) H) : gIsi K [.ref p, .ty "str"] H Q := isi_1 (ty_tup h) kb_tup_str q
theorem kb_tup_bool : kitB "tuple" "bool" = some false := by decide +kernel
theorem isi_tup_bool {p : Addr} {xs : List V} (h : H p = some (.tup xs)) (q : Q (.bl false) H) : gIsi K [.ref p, .ty "bool"] H Q := isi_1 (ty_tup h) kb_tup_bool q
theorem kb_tup_list : kitB "tuple" "list" = some false := by decide +kernel
theorem isi_tup_list {p : Addr} {xs : List V} (h : H p = some (.tup xs)) (q : Q (.bl false) H) : gIsi K [.ref p, .ty "list"] H Q := isi_1 (ty_tup h) kb_tup_list q
theorem kb_tup_tuple : kitB "tuple" "tuple" = some true := by decide +kernel
theorem isi_tup_tuple {p : Addr} {xs : List V} (h : H p = some (.tup xs)) (q : Q (.bl true) H) : gIsi K [.ref p, .ty "tuple"] H Q := isi_1 (ty_tup h) kb_tup_tuple q
theorem isi2_tup {tp : Addr} {p : Addr} {xs : List V} (h : H p = some (.tup xs)) (ht : H tp = some (.tup [.ty "list", .ty "tuple"])) (q : Q (.bl true) H) : gIsi K [.ref p, .ref tp] H Q := isi_2 ht (ty_tup h) kb_tup_list kb_tup_tuple q
end

/-! ### the same data twice -/
mutual
inductive Sm (B : Hp) : Nat → V → V → Prop
  | non {n : Nat} : Sm B n .non .non
  | bl {n : Nat} (b : Bool) : Sm B n (.bl b) (.bl b)
  | int {n : Nat} (i : Int) : Sm B n (.int i) (.int i)
  | str {n : Nat} (z : Str) : Sm B n (.str z) (.str z)
  | lst {n : Nat} {p q : Addr} {xs ys : List V} : B p = some (.lst xs) → B q = some (.lst ys) → xs.length ≤ 100000 → Sms B n xs ys → Sm B (n + 1) (.ref p) (.ref q)
  | tup {n : Nat} {p q : Addr} {xs ys : List V} : B p = some (.tup xs) → B q = some (.tup ys) → xs.length ≤ 100000 → Sms B n xs ys → Sm B (n + 1) (.ref p) (.ref q)
inductive Sms (B : Hp) : Nat → List V → List V → Prop
  | nil {n : Nat} : Sms B n [] []
  | cons {n : Nat} {x y : V} {xs ys : List V} : Sm B n x y → Sms B n xs ys → Sms B n (x :: xs) (y :: ys)
end
mutual
theorem Sm.mono {B B' : Hp} (s : Same B B') : ∀ {n : Nat} {x y : V}, Sm B n x y → Sm B' n x y
  | _, _, _, .non => .non
  | _, _, _, .bl b => .bl b
  | _, _, _, .int i => .int i
  | _, _, _, .str z => .str z
  | _, _, _, .lst h1 h2 h3 h4 => .lst (s _ _ h1) (s _ _ h2) h3 (Sms.mono s h4)
  | _, _, _, .tup h1 h2 h3 h4 => .tup (s _ _ h1) (s _ _ h2) h3 (Sms.mono s h4)
theorem Sms.mono {B B' : Hp} (s : Same B B') : ∀ {n : Nat} {xs ys : List V}, Sms B n xs ys → Sms B' n xs ys
  | _, _, _, .nil => .nil
  | _, _, _, .cons h t => .cons (Sm.mono s h) (Sms.mono s t)
end
theorem Sms.length {B : Hp} {n : Nat} : ∀ {xs ys : List V}, Sms B n xs ys → xs.length = ys.length
  | _, _, .nil => rfl
  | _, _, .cons _ t => by rw [List.length_cons, List.length_cons, t.length]
theorem Sms.at {B : Hp} {n : Nat} : ∀ {xs ys : List V} {i : Nat} {x y : V}, Sms B n xs ys → xs[i]? = some x → ys[i]? = some y → Sm B n x y
  | _, _, _, _, _, .nil, h, _ => by simp at h
  | _, _, 0, _, _, .cons h _, h1, h2 => by
    have e1 := Option.some.inj h1
    have e2 := Option.some.inj h2
    rw [← e1, ← e2]; exact h
  | _, _, i + 1, _, _, .cons _ t, h1, h2 => t.at (i := i) (by simpa using h1) (by simpa using h2)
theorem Sms.ints {B : Hp} {n : Nat} : ∀ ns : List Int, Sms B n (ns.map V.int) (ns.map V.int)
  | [] => .nil
  | _ :: ns => .cons (.int _) (Sms.ints ns)
theorem Sms.strs {B : Hp} {n : Nat} : ∀ ns : List Str, Sms B n (ns.map V.str) (ns.map V.str)
  | [] => .nil
  | _ :: ns => .cons (.str _) (Sms.strs ns)
theorem Sms.ix {B : Hp} {n : Nat} : ∀ {xs ys : List V}, xs.length = ys.length → (∀ (i : Nat) x y, xs[i]? = some x → ys[i]? = some y → Sm B n x y) → Sms B n xs ys
  | [], [], _, _ => .nil
  | [], _ :: _, h, _ => by simp at h
  | _ :: _, [], h, _ => by simp at h
  | x :: xs, y :: ys, h, f => .cons (f 0 x y rfl rfl) (Sms.ix (by simpa using h) fun i a b h1 h2 => f (i + 1) a b (by simpa using h1) (by simpa using h2))
/-- of depth below n both are the same: then True is told -/
def spSame : Nat → Sp
  | 0 => fun _ _ _ _ => False
  | n + 1 => fun vs H Q _ => ∃ (x y : V) (B : Hp), vs = [x, y] ∧ Same B H ∧ Sm B n x y ∧ ∀ H', Same H H' → Q (.bl true) H'

theorem use_same {a : Addr} {B0 H0 B H : Hp} {n m : Nat} {x y : V} {Q : VK} {E : XK} (S : St a B0 H0 n B H) (h : Sm B m x y) (q : ∀ H', St a B0 H0 n B H' → Oth a B H B H' → Q (.bl true) H') : spSame (m + 1) [x, y] H Q E :=
  ⟨x, y, B, rfl, S.sub, h, fun H' s => q H' (S.pure s) ⟨fun q o _ e => s q o e, fun _ _ => rfl⟩⟩
theorem use_sameP {B0 H0 B H : Hp} {m : Nat} {x y : V} {Q : VK} {E : XK} (S : Pu B0 H0 B H) (h : Sm B m x y) (q : ∀ H', Pu B0 H0 B H' → Old B H B H' → Q (.bl true) H') : spSame (m + 1) [x, y] H Q E :=
  ⟨x, y, B, rfl, S.sub, h, fun H' s => q H' (S.pure s) ⟨s, fun _ _ => rfl⟩⟩
/-- a draws' list that is made here -/
theorem St.made {a : Addr} {B : Hp} {n : Nat} {xs : List V} (h : B a = none) (hl : LeftO n (.lst xs)) : St a B (upd B a (.lst xs)) n B (upd B a (.lst xs)) :=
  St.new (Same.updN h) ⟨_, upd_same, hl⟩ h
theorem St.back {a : Addr} {B H B' H' : Hp} {n : Nat} (S : St a B H n B' H') : Same B H' := S.kn.trans S.sub
theorem all_bl : ∀ {n : Nat} {xs : List V}, xs.length = n → (∀ (i : Nat) v, xs[i]? = some v → v = .bl true) → xs = (List.replicate n true).map V.bl
  | 0, [], _, _ => rfl
  | n + 1, x :: xs, h, f => by
    rw [List.replicate_succ, List.map_cons, f 0 x rfl, ← all_bl (n := n) (xs := xs) (by simpa using h) fun i v e => f (i + 1) v (by simpa using e)]

/-! ### walks: n turns while G holds, Y tells what a turn gives -/
structure Wk (J : It) (n : Nat) (G : Hp → Prop) (Y : Nat → V → Hp → Hp → Prop) : Prop where
  go : ∀ i H, i < n → G H → J.go i H
  stop : ∀ H, G H → J.stop n H
  yld : ∀ i H x H', i < n → G H → J.yld i H x H' → Y i x H H'
theorem wk_rng (lo : Int) (n : Nat) : Wk (Itr lo n) n (fun _ => True) (fun i x H H' => H' = H ∧ x = .int (lo + i)) :=
  ⟨fun _ _ h _ => h, fun _ _ => Nat.le_refl _, fun _ _ _ _ _ _ y => y⟩
section
variable {K : PySem.W.Frag}
theorem wk_list (a : Addr) (xs : List V) : Wk (Itl K a) xs.length (fun H => SqL K H a xs) (fun i x H H' => H' = H ∧ xs[i]? = some x) :=
  ⟨fun i _ h g => ⟨xs, xs[i], g, List.getElem?_eq_getElem h⟩, fun _ g => ⟨xs, g, Nat.le_refl _⟩, fun _ _ _ _ _ g y => ⟨y.1, y.2 xs g⟩⟩
theorem wk_tup (a : Addr) (xs : List V) : Wk (Itt K a) xs.length (fun H => SqT K H a xs) (fun i x H H' => H' = H ∧ xs[i]? = some x) :=
  ⟨fun i _ h g => ⟨xs, xs[i], g, List.getElem?_eq_getElem h⟩, fun _ g => ⟨xs, g, Nat.le_refl _⟩, fun _ _ _ _ _ g y => ⟨y.1, y.2 xs g⟩⟩
theorem wk_str (z : Str) : Wk (Its z) (tl z).length (fun _ => True) (fun i x H H' => H' = H ∧ ∃ c, (tl z)[i]? = some c ∧ x = .str ⟨#[c]⟩) :=
  ⟨fun _ _ h _ => (by rw [Array.length_toList] at h; exact h), fun _ _ => (by show _ ≤ _; rw [Array.length_toList]; exact Nat.le_refl _), fun i _ _ _ _ _ y => ⟨y.1, by
    obtain ⟨c, e, r⟩ := y.2
    exact ⟨c, by rw [← e]; exact Array.getElem?_toList, r⟩⟩⟩
theorem wk_zip (a b : Addr) (xs ys : List V) : Wk (Itz K a b) (min xs.length ys.length) (fun H => SqL K H a xs ∧ SqL K H b ys)
    (fun i v H H' => ∃ T x y, v = .ref T ∧ H T = none ∧ H' = upd H T (.tup [x, y]) ∧ xs[i]? = some x ∧ ys[i]? = some y) :=
  ⟨fun i _ h g => ⟨xs, ys, xs[i]'(by omega), ys[i]'(by omega), g.1, g.2, List.getElem?_eq_getElem (by omega), List.getElem?_eq_getElem (by omega)⟩,
    fun _ g => ⟨xs, ys, g.1, g.2, by omega⟩, fun _ _ _ _ _ g y => by
    obtain ⟨T, x, y', e, hT, eH, f1, f2⟩ := y
    exact ⟨T, x, y', e, hT, eH, f1 xs g.1, f2 ys g.2⟩⟩
theorem wk_zipT (a b : Addr) (xs ys : List V) : Wk (ItzT K a b) (min xs.length ys.length) (fun H => SqT K H a xs ∧ SqT K H b ys)
    (fun i v H H' => ∃ T x y, v = .ref T ∧ H T = none ∧ H' = upd H T (.tup [x, y]) ∧ xs[i]? = some x ∧ ys[i]? = some y) :=
  ⟨fun i _ h g => ⟨xs, ys, xs[i]'(by omega), ys[i]'(by omega), g.1, g.2, List.getElem?_eq_getElem (by omega), List.getElem?_eq_getElem (by omega)⟩,
    fun _ g => ⟨xs, ys, g.1, g.2, by omega⟩, fun _ _ _ _ _ g y => by
    obtain ⟨T, x, y', e, hT, eH, f1, f2⟩ := y
    exact ⟨T, x, y', e, hT, eH, f1 xs g.1, f2 ys g.2⟩⟩
def Zp1 (K : PySem.W.Frag) (R : It → Hp → Prop) (vs : List V) (H1 : Hp) : Prop := ∃ a b xs ys, vs = [.ref a, .ref b] ∧ ((SqL K H1 a xs ∧ SqL K H1 b ys ∧ R (Itz K a b) H1) ∨ (SqT K H1 a xs ∧ SqT K H1 b ys ∧ R (ItzT K a b) H1))
theorem g_izip {ts : TA} {σ : L2.St} {H : Hp} {R : It → Hp → Prop} (h : ts σ H (Zp1 K R)) : iZipA K ts σ H R := h
def En1 (K : PySem.W.Frag) (R : It → Hp → Prop) (vs : List V) (H1 : Hp) : Prop := ∃ a xs, vs = [.ref a] ∧ SqL K H1 a xs ∧ R (Ite K a) H1
theorem g_ienum {ts : TA} {σ : L2.St} {H : Hp} {R : It → Hp → Prop} (h : ts σ H (En1 K R)) : iEnum K ts σ H R := h
theorem wk_enum (a : Addr) (xs : List V) : Wk (Ite K a) xs.length (fun H => SqL K H a xs) (fun i v H H' => ∃ T x, v = .ref T ∧ H T = none ∧ H' = upd H T (.tup [.int i, x]) ∧ xs[i]? = some x) :=
  ⟨fun i _ h g => ⟨xs, xs[i], g, List.getElem?_eq_getElem h⟩, fun _ g => ⟨xs, g, Nat.le_refl _⟩, fun _ _ _ _ _ g y => by
    obtain ⟨T, x, e, hT, eH, f1⟩ := y
    exact ⟨T, x, e, hT, eH, f1 xs g⟩⟩
end
section
variable {σ : L2.St} {H : Hp} {Q : VK} {g : TG} {tt : TT} {te : TE} {vs : List Nat} {tb : TS} {J : It} {n : Nat} {G : Hp → Prop} {Y : Nat → V → Hp → Hp → Prop}
/-- a for loop: Pv by the turn -/
theorem for_wk {nx b c : L2.St → Hp → Prop} {r : VK} (W : Wk J n G Y) (Pv : Nat → L2.St → Hp → Prop) (h0 : Pv 0 σ H) (hG : ∀ i σ' H', i ≤ n → Pv i σ' H' → G H')
    (hs : ∀ i x σ' H' H'', i < n → Pv i σ' H' → Y i x H' H'' → g x σ' H'' fun σ2 H2 => tb ⟨Pv (i + 1), r, nx, Pv (i + 1)⟩ σ2 H2) (hd : ∀ σ' H', Pv n σ' H' → nx σ' H') : FoB g tb ⟨nx, r, b, c⟩ σ J H := by
  refine ⟨fun i m σ H => m = n - i ∧ i ≤ n ∧ Pv i σ H, ⟨n, by simp, Nat.zero_le _, h0⟩, ?_⟩
  rintro i m σ H ⟨rfl, hi, p⟩
  by_cases hlt : i < n
  · exact .inr ⟨W.go i H hlt (hG i σ H hi p), Pv (i + 1), fun σ' H' p' => ⟨n - (i + 1), by omega, rfl, hlt, p'⟩, fun x H' y => hs i x σ H H' hlt p (W.yld i H x H' hlt (hG i σ H hi p) y)⟩
  · have e : i = n := by omega
    subst e
    exact .inl ⟨W.stop H (hG i σ H hi p), hd σ H p⟩
/-- a comprehension's turn: kept, or passed over -/
def LcT (tt : TT) (te : TE) (vs : List Nat) (σ : L2.St) (Qk : VK) (Qn : Hp → Prop) : L2.St → Hp → Prop := fun σ2 H2 => wipe σ2 vs = wipe σ vs ∧ tt σ2 H2 fun b H3 => if b = true then te σ2 H3 Qk else Qn H3
theorem LcT.mk {Qk : VK} {Qn : Hp → Prop} {σ2 : L2.St} {H2 : Hp} (h1 : wipe σ2 vs = wipe σ vs) (h2 : tt σ2 H2 fun b H3 => if b = true then te σ2 H3 Qk else Qn H3) : LcT tt te vs σ Qk Qn σ2 H2 := ⟨h1, h2⟩
/-- a list comprehension that changes nothing: I by the turn and by what is made so far -/
theorem Pu.lc {B0 H0 B H : Hp} (S : Pu B0 H0 B H) (W : Wk J n G Y) (hn : n ≤ 1000000) (hG : ∀ H', Same B H' → G H') (I : Nat → Hp → List V → Prop) (h0 : I 0 B []) (mono : ∀ i B B' acc, Same B B' → I i B acc → I i B' acc)
    (hs : ∀ (i : Nat) x acc B1 H1 H1', i < n → Same B B1 → Same B1 H1 → Y i x H1 H1' → I i B1 acc → acc.length ≤ i → ∀ (Qk : VK) (Qn : Hp → Prop), (∀ v B2 H2, Pu B1 H1 B2 H2 → I (i + 1) B2 (acc ++ [v]) → Qk v H2) →
      (∀ B2 H2, Pu B1 H1 B2 H2 → I (i + 1) B2 acc → Qn H2) → g x (wipe σ vs) H1' (LcT tt te vs σ Qk Qn))
    (q : ∀ p B' H' acc, Pu B0 H0 B' H' → Old B H B' H' → Same B B' → H p = none → B' p = some (.lst acc) → I n B' acc → Q (.ref p) H') : LcB g tt te vs σ Q J H := by
  intro D hD
  have hD0 : H0 D = none := S.free0 hD
  refine ⟨fun i m H' => m = n - i ∧ i ≤ n ∧ ∃ B1 acc, Pu B0 H0 B1 H' ∧ Old B H B1 H' ∧ Same B B1 ∧ B1 D = none ∧ H' D = some (.lst acc) ∧ acc.length ≤ i ∧ I i B1 acc,
    ⟨n, by simp, Nat.zero_le _, B, [], S.vol hD, ⟨Same.updN hD, fun _ _ => rfl⟩, Same.refl _, S.free hD, upd_same, Nat.le_refl _, h0⟩, ?_⟩
  rintro i m H1 ⟨rfl, hi, B1, acc, S1, O1, K1, hb, hx, hl, hI⟩
  have g1 : G H1 := hG _ (K1.trans S1.sub)
  have some_ : ∀ q, H q ≠ none → H1 q ≠ none := fun q hq => by
    cases z : H q with
    | none => exact absurd z hq
    | some u => rw [O1.st q u z]; exact fun z => nomatch z
  by_cases hlt : i < n
  · refine .inr ⟨W.go i H1 hlt g1, fun H2 => ∃ B2 acc', Pu B0 H0 B2 H2 ∧ Old B H B2 H2 ∧ Same B B2 ∧ B2 D = none ∧ H2 D = some (.lst acc') ∧ acc'.length ≤ i + 1 ∧ I (i + 1) B2 acc', fun H2 p => ⟨n - (i + 1), by omega, rfl, hlt, p⟩, fun x H1' y => ?_⟩
    refine hs i x acc B1 H1 H1' hlt K1 S1.sub (W.yld i H1 x H1' hlt g1 y) hI hl _ _ (fun v B2 H2 S2 r => ?_) (fun B2 H2 S2 r => ?_)
    · have hx2 : H2 D = some (.lst acc) := S2.old _ _ hx
      have hb2 : B2 D = none := by rw [S2.fr D (by rw [hx]; exact fun z => nomatch z)]; exact hb
      have S3 := S1.trans S2
      exact ⟨acc, hx2, szl'' (by omega), B2, acc ++ [v], S3.put hD0 hb2, ⟨fun q u e => by
          have : q ≠ D := fun z => by rw [z, hD] at e; cases e
          rw [upd_ne this]; exact S2.old _ _ (O1.st q u e), fun q hq => by rw [S2.fr q (some_ q hq)]; exact O1.fr q hq⟩, K1.trans S2.kn, hb2, upd_same, by rw [List.length_append]; exact Nat.succ_le_succ hl, r⟩
    · have hx2 : H2 D = some (.lst acc) := S2.old _ _ hx
      have hb2 : B2 D = none := by rw [S2.fr D (by rw [hx]; exact fun z => nomatch z)]; exact hb
      exact ⟨B2, acc, S1.trans S2, ⟨O1.st.trans S2.old, fun q hq => by rw [S2.fr q (some_ q hq)]; exact O1.fr q hq⟩, K1.trans S2.kn, hb2, hx2, Nat.le_succ_of_le hl, r⟩
  · have e : i = n := by omega
    subst e
    refine .inl ⟨W.stop H1 g1, q D _ H1 acc (S1.know hx hD0 hb) ⟨O1.st, fun q hq => ?_⟩ (K1.trans (Same.updN hb)) hD upd_same (mono _ _ _ _ (Same.updN hb) hI)⟩
    have : q ≠ D := fun z => hq (z ▸ hD)
    rw [upd_ne this]; exact O1.fr q hq
/-- a list comprehension that draws, cost times at most a turn -/
theorem St.lc {a : Addr} {B0 H0 B H : Hp} {k cost : Nat} (S : St a B0 H0 k B H) (W : Wk J n G Y) (hn : n ≤ 1000000) (hk : n * cost ≤ k) (hG : ∀ H', Same B H' → G H') (I : Nat → Hp → List V → Prop) (h0 : I 0 B []) (mono : ∀ i B B' acc, Same B B' → I i B acc → I i B' acc)
    (hs : ∀ (i : Nat) x acc B1 H1 H1' k1, i < n → Same B B1 → St a B1 H1 k1 B1 H1 → cost ≤ k1 → Y i x H1 H1' → I i B1 acc → acc.length ≤ i → ∀ (Qk : VK) (Qn : Hp → Prop), (∀ v B2 H2, St a B1 H1 (k1 - cost) B2 H2 → I (i + 1) B2 (acc ++ [v]) → Qk v H2) →
      (∀ B2 H2, St a B1 H1 (k1 - cost) B2 H2 → I (i + 1) B2 acc → Qn H2) → g x (wipe σ vs) H1' (LcT tt te vs σ Qk Qn))
    (q : ∀ p B' H' acc, St a B0 H0 (k - n * cost) B' H' → Oth a B H B' H' → Same B B' → H p = none → B' p = some (.lst acc) → I n B' acc → Q (.ref p) H') : LcB g tt te vs σ Q J H := by
  intro D hD
  have hD0 : H0 D = none := S.free0 hD
  have hDa : D ≠ a := S.nea hD
  refine ⟨fun i m H' => m = n - i ∧ i ≤ n ∧ ∃ B1 acc, St a B0 H0 (k - i * cost) B1 H' ∧ Oth a B H B1 H' ∧ Same B B1 ∧ B1 D = none ∧ H' D = some (.lst acc) ∧ acc.length ≤ i ∧ I i B1 acc,
    ⟨n, by simp, Nat.zero_le _, B, [], (S.vol hD).le (by omega), ⟨fun q u _ e => Same.updN hD q u e, fun _ _ => rfl⟩, Same.refl _, S.free hD, upd_same, Nat.le_refl _, h0⟩, ?_⟩
  rintro i m H1 ⟨rfl, hi, B1, acc, S1, O1, K1, hb, hx, hl, hI⟩
  have g1 : G H1 := hG _ (K1.trans S1.sub)
  have some_ : ∀ q, H q ≠ none → H1 q ≠ none := fun q hq => by
    by_cases hqa : q = a
    · rw [hqa]; exact S1.has
    · cases z : H q with
      | none => exact absurd z hq
      | some u => rw [O1.st q u hqa z]; exact fun z => nomatch z
  by_cases hlt : i < n
  · have c1 : (i + 1) * cost ≤ n * cost := Nat.mul_le_mul_right _ hlt
    have c2 : (i + 1) * cost = i * cost + cost := Nat.succ_mul _ _
    refine .inr ⟨W.go i H1 hlt g1, fun H2 => ∃ B2 acc', St a B0 H0 (k - (i + 1) * cost) B2 H2 ∧ Oth a B H B2 H2 ∧ Same B B2 ∧ B2 D = none ∧ H2 D = some (.lst acc') ∧ acc'.length ≤ i + 1 ∧ I (i + 1) B2 acc', fun H2 p => ⟨n - (i + 1), by omega, rfl, hlt, p⟩, fun x H1' y => ?_⟩
    refine hs i x acc B1 H1 H1' (k - i * cost) hlt K1 (.new S1.sub S1.left S1.na) (by omega) (W.yld i H1 x H1' hlt g1 y) hI hl _ _ (fun v B2 H2 S2 r => ?_) (fun B2 H2 S2 r => ?_)
    · have hx2 : H2 D = some (.lst acc) := S2.oth _ _ hDa hx
      have hb2 : B2 D = none := by rw [S2.fr D (by rw [hx]; exact fun z => nomatch z)]; exact hb
      have S3 := S1.trans S2
      exact ⟨acc, hx2, szl'' (by omega), B2, acc ++ [v], (S3.put hD0 hb2 hDa).le (by omega), ⟨fun q u hqa e => by
          have : q ≠ D := fun z => by rw [z, hD] at e; cases e
          rw [upd_ne this]; exact S2.oth _ _ hqa (O1.st q u hqa e), fun q hq => by rw [S2.fr q (some_ q hq)]; exact O1.fr q hq⟩, K1.trans S2.kn, hb2, upd_same, by rw [List.length_append]; exact Nat.succ_le_succ hl, r⟩
    · have hx2 : H2 D = some (.lst acc) := S2.oth _ _ hDa hx
      have hb2 : B2 D = none := by rw [S2.fr D (by rw [hx]; exact fun z => nomatch z)]; exact hb
      exact ⟨B2, acc, (S1.trans S2).le (by omega), ⟨fun q u hqa e => S2.oth _ _ hqa (O1.st q u hqa e), fun q hq => by rw [S2.fr q (some_ q hq)]; exact O1.fr q hq⟩, K1.trans S2.kn, hb2, hx2, Nat.le_succ_of_le hl, r⟩
  · have e : i = n := by omega
    subst e
    refine .inl ⟨W.stop H1 g1, q D _ H1 acc (S1.know hx hD0 hb hDa) ⟨O1.st, fun q hq => ?_⟩ (K1.trans (Same.updN hb)) hD upd_same (mono _ _ _ _ (Same.updN hb) hI)⟩
    have : q ≠ D := fun z => hq (z ▸ hD)
    rw [upd_ne this]; exact O1.fr q hq
/-- each turn gives one, under R -/
def Each (R : Nat → Hp → V → Prop) (i : Nat) (B : Hp) (acc : List V) : Prop := acc.length = i ∧ ∀ (j : Nat) v, acc[j]? = some v → R j B v
theorem Each.zero {R : Nat → Hp → V → Prop} {B : Hp} : Each R 0 B [] := ⟨rfl, fun j v e => by simp at e⟩
theorem Each.mono {R : Nat → Hp → V → Prop} (h : ∀ j B B' v, Same B B' → R j B v → R j B' v) : ∀ i B B' acc, Same B B' → Each R i B acc → Each R i B' acc := fun _ _ _ _ s e => ⟨e.1, fun j v ev => h j _ _ v s (e.2 j v ev)⟩
theorem Each.step {R : Nat → Hp → V → Prop} {i : Nat} {B : Hp} {acc : List V} {v : V} (h : Each R i B acc) (r : R i B v) : Each R (i + 1) B (acc ++ [v]) := by
  refine ⟨by rw [List.length_append, h.1]; rfl, fun j u e => ?_⟩
  by_cases hk : j < acc.length
  · rw [List.getElem?_append_left hk] at e
    exact h.2 j u e
  · rw [List.getElem?_append_right (by omega)] at e
    have hk0 : j - acc.length = 0 := by
      cases z : j - acc.length with
      | zero => rfl
      | succ t => rw [z] at e; simp at e
    rw [hk0] at e
    have e1 : v = u := Option.some.inj e
    have e2 : j = i := by have := h.1; omega
    rw [← e1, e2]; exact r
end
end G

namespace G
open PySem PySem.Spec PyProof.Rows L2 TL RZ

/-! ### zip of two texts -/
def ItzS (x y : Str) : It :=
  ⟨fun i _ => i < min x.cps.size y.cps.size, fun i H v H' => ∃ T c d, v = .ref T ∧ H T = none ∧ H' = upd H T (.tup [.str ⟨#[c]⟩, .str ⟨#[d]⟩]) ∧ x.cps[i]? = some c ∧ y.cps[i]? = some d, fun i _ => i = min x.cps.size y.cps.size⟩
theorem turn_zipS {P : Program} {w : World} {K : PySem.W.Frag} {elts : List Expr} {kk : Nat} {tpos : Pos} {z TI TO i1 i2 : Addr} {x y : Str} {t1 t2 : Tok} (S : ZipSep2 z TI TO i1 i2 [i1] [i2]) :
    Turn P w K (.Tuple elts kk tpos) (ItzS x y) [z, TI, TO, i1, i2] z (fun i h => IsZip h z TI TO .none ∧ IsTupOf2 h TI (.ref i1) (.ref i2) ∧ (∃ a b, IsTupOf2 h TO a b) ∧ h.IsStrIter i1 (strIterType x) x t1 i ∧ h.IsStrIter i2 (strIterType y) y t2 i) where
  mem := by simp
  obj := fun i h st c hc => by
    obtain ⟨hz, hTI, ⟨a, b, hTO⟩, ⟨o1, e1, _, d1⟩, ⟨o2, e2, _, d2⟩⟩ := st
    have e' : c = z ∨ c = TI ∨ c = TO ∨ c = i1 ∨ c = i2 := by simpa using hc
    rcases e' with q | q | q | q | q
    · rw [q]; exact ⟨_, hz, fun v q => nomatch q⟩
    · rw [q]; exact ⟨_, hTI, fun v q => nomatch q⟩
    · rw [q]; exact ⟨_, hTO, fun v q => nomatch q⟩
    · rw [q]; exact ⟨o1, e1, fun v q => by rw [d1] at q; cases q⟩
    · rw [q]; exact ⟨o2, e2, fun v q => by rw [d2] at q; cases q⟩
  keep := fun i h h' st k => by
    obtain ⟨hz, hTI, ⟨a, b, hTO⟩, ⟨o1, e1, r1⟩, ⟨o2, e2, r2⟩⟩ := st
    exact ⟨k z (by simp) _ hz, k TI (by simp) _ hTI, ⟨a, b, k TO (by simp) _ hTO⟩, ⟨o1, k i1 (by simp) _ e1, r1⟩, ⟨o2, k i2 (by simp) _ e2, r2⟩⟩
  item := by
    intro X hP hw hK hc i pins s σ H E I hf st hg
    subst hP hw hK
    have W := WalksT.zipD2 (prog := X.prog) (w := X.w) (A := X.A) S (Draws.text (A := X.A.in1) (I.ok.hd hc) i1 x t1) (Draws.text (A := X.A.in1) (I.ok.hd hc) i2 y t2)
    have lts : ∀ c ∈ [z, TI, TO, i1, i2], c < s.heap.objs.size := fun c hcm => by
      obtain ⟨hz, hTI, ⟨a, b, hTO⟩, ⟨o1, e1, _, d1⟩, ⟨o2, e2, _, d2⟩⟩ := st
      have e' : c = z ∨ c = TI ∨ c = TO ∨ c = i1 ∨ c = i2 := by simpa using hcm
      rcases e' with q | q | q | q | q
      · rw [q]; exact Heap.lt_size hz
      · rw [q]; exact Heap.lt_size hTI
      · rw [q]; exact Heap.lt_size hTO
      · rw [q]; exact Heap.lt_size e1
      · rw [q]; exact Heap.lt_size e2
    refine W.item i s _ _ hg st fun T vals h' tk hP hle hT hm hk => ?_
    obtain ⟨v1, v2, ⟨c, u1, hc1, rfl⟩, ⟨d, u2, hd1, rfl⟩, rfl⟩ := hP
    refine ⟨_, rfl, W.go elts kk tpos i T { s with heap := h', toks := tk } _ _ hm fun h'' st'' hk'' => ?_⟩
    have hT2 := hT.at (h' := h'') fun o e => hk'' T o (W.apart i T h' hm) e
    have new : ObjOk X.prog X.w (upd H T (.tup [.str ⟨#[c]⟩, .str ⟨#[d]⟩])) h'' T (.tup [.str ⟨#[c]⟩, .str ⟨#[d]⟩]) :=
      ⟨by show 2 ≤ sizeLine; decide, [.str ⟨#[c]⟩ u1, .str ⟨#[d]⟩ u2], .cons ⟨_, rfl⟩ (.cons ⟨_, rfl⟩ .nil), hT2⟩
    have I1 : Inv X pins σ (upd H T (.tup [.str ⟨#[c]⟩, .str ⟨#[d]⟩])) { s with heap := h'', toks := tk } :=
      I.turnedNew (t' := tk) (ch := [z, TI, TO, i1, i2]) (fun c o hb q => hk'' c o (fun q' => hb (by
          have e' : c = z ∨ c = TO ∨ c = i1 ∨ c = i2 := by simpa using q'
          rcases e' with q | q | q | q <;> simp [q])) (hk c o (fun q' => hb (by
          have e' : c = z ∨ c = TO ∨ c = i1 ∨ c = i2 := by simpa using q'
          rcases e' with q | q | q | q <;> simp [q])) q)) hf hle new
    refine ⟨.ref T, _, I1, rfl, ⟨T, c, d, rfl, I.hok.fresh hle, rfl, hc1, hd1⟩, st'', fun c hcm => ?_⟩
    rw [upd_ne (Nat.ne_of_lt (Nat.lt_of_lt_of_le (lts c hcm) hle))]
    exact (hf c hcm).1
  done := by
    intro X hP hw hK hc i pins s σ H E I hf st hg
    subst hP hw hK
    have W := WalksT.zipD2 (prog := X.prog) (w := X.w) (A := X.A) S (Draws.text (A := X.A.in1) (I.ok.hd hc) i1 x t1) (Draws.text (A := X.A.in1) (I.ok.hd hc) i2 y t2)
    have hg' : i = min x.cps.size y.cps.size := hg
    subst hg'
    exact W.done s _ _ st fun h' tk hk => ⟨rfl, I.turnedL (t' := tk) (ch := [z, TI, TO, i1, i2]) (fun c o hb q => hk c o (fun q' => hb (by
          have e' : c = z ∨ c = TO ∨ c = i1 ∨ c = i2 := by simpa using q'
          rcases e' with q | q | q | q <;> simp [q])) q) hf⟩
  self := fun A i s Q E st h => wpAny_pyIter_zip st.1 h
theorem pi_zipS {X : Cx} {e e2 : Expr} {ta : TA} {p pos tpos : Pos} {elts : List Expr} {kk : Nat} (hg : Gl X "zip") (hm : X.mg "zip" = none) (ha : PA X [e, e2] ta)
    (hs : starEach [e, e2] X.env = (false, eval e X.env) :: starEach [e2] X.env := by rfl) (hpl : (backTo pos (starEach [e2] X.env)).any (·.1) = false := by rfl) :
    PI X (.Tuple elts kk tpos) (.Call (.Name "zip" p) [e, e2] [] pos) (fun σ H R => ta σ H fun vs H1 => ∃ x y, vs = [.str x, .str y] ∧ R (ItzS x y) H1) := by
  refine ⟨fun pins s σ H R I h => ?_⟩
  refine Call_ (ld_blt I hg hm PyProof.Rows.boot_zip (PyProof.Rows.callWith_type1 (thn (ha.run pos pins s σ H _ I h) fun us s1 ⟨vs, H1, I1, r1, q1⟩ => ?_) hs hpl))
  obtain ⟨x, y, ex, q1⟩ := q1
  subst ex
  cases r1 with
  | cons r rr =>
    cases rr with
    | cons r' rr =>
      cases rr
      obtain ⟨t1, rfl⟩ := r
      obtain ⟨t2, rfl⟩ := r'
      refine zip_begins2 (begins_text x t1) (begins_text y t2) trivial trivial fun h' hz hTI hTO h1 h2 hsz hk => wpAny_pyIter_zip hz ?_
      have I2 : Inv X pins σ H1 { s1 with heap := h' } := I1.kept (t' := s1.toks) hk
      have fresh5 : ∀ c, c ∈ [s1.heap.objs.size + 4, s1.heap.objs.size + 2, s1.heap.objs.size + 3, s1.heap.objs.size, s1.heap.objs.size + 1] → FpOk X pins H1 c := fun c hcm => by
        have e' : c = s1.heap.objs.size + 4 ∨ c = s1.heap.objs.size + 2 ∨ c = s1.heap.objs.size + 3 ∨ c = s1.heap.objs.size ∨ c = s1.heap.objs.size + 1 := by simpa using hcm
        have hle : s1.heap.objs.size ≤ c := by
          rcases e' with z | z | z | z | z
          · rw [z]; exact Nat.le_add_right _ _
          · rw [z]; exact Nat.le_add_right _ _
          · rw [z]; exact Nat.le_add_right _ _
          · rw [z]; exact Nat.le_refl _
          · rw [z]; exact Nat.le_add_right _ _
        exact I1.fpOk hle (I1.hok.fresh hle)
      exact ⟨s1.heap.objs.size + 4, [s1.heap.objs.size + 4, s1.heap.objs.size + 2, s1.heap.objs.size + 3, s1.heap.objs.size, s1.heap.objs.size + 1], _, _, H1, rfl, I2,
        turn_zipS (zip_sep2 (fp1 := []) (fp2 := []) (fun _ h => nomatch h) (fun _ h => nomatch h)), ⟨hz, hTI, ⟨_, _, hTO⟩, ⟨_, h1, rfl, rfl⟩, ⟨_, h2, rfl, rfl⟩⟩, fresh5, q1⟩
def ZpS (R : It → Hp → Prop) (vs : List V) (H1 : Hp) : Prop := ∃ x y, vs = [.str x, .str y] ∧ R (ItzS x y) H1
def iZipS (ta : TA) : TI := fun σ H R => ta σ H (ZpS R)
theorem pi_zipSS {X : Cx} {e e2 : Expr} {ta : TA} {p pos tpos : Pos} {elts : List Expr} {kk : Nat} (hg : Gl X "zip") (hm : X.mg "zip" = none) (ha : PA X [e, e2] ta)
    (hs : starEach [e, e2] X.env = (false, eval e X.env) :: starEach [e2] X.env := by rfl) (hpl : (backTo pos (starEach [e2] X.env)).any (·.1) = false := by rfl) :
    PI X (.Tuple elts kk tpos) (.Call (.Name "zip" p) [e, e2] [] pos) (iZipS ta) := pi_zipS hg hm ha hs hpl
theorem g_izipS {ts : TA} {σ : L2.St} {H : Hp} {R : It → Hp → Prop} (h : ts σ H (ZpS R)) : iZipS ts σ H R := h
theorem wk_zipS (x y : Str) : Wk (ItzS x y) (min (tl x).length (tl y).length) (fun _ => True)
    (fun i v H H' => ∃ T c d, v = .ref T ∧ H T = none ∧ H' = upd H T (.tup [.str ⟨#[c]⟩, .str ⟨#[d]⟩]) ∧ (tl x)[i]? = some c ∧ (tl y)[i]? = some d) :=
  ⟨fun i _ h _ => (by show i < _; rw [Array.length_toList, Array.length_toList] at h; exact h), fun _ _ => (by show _ = _; rw [Array.length_toList, Array.length_toList]), fun i _ _ _ _ _ y => by
    obtain ⟨T, c, d, e, hT, eH, h1, h2⟩ := y
    exact ⟨T, c, d, e, hT, eH, by rw [← h1]; exact Array.getElem?_toList, by rw [← h2]; exact Array.getElem?_toList⟩⟩
end G

namespace G
open PySem PySem.Spec PyProof.Rows L2 TL RZ

/-! ### cuts, membership, == of lists of numbers and of texts -/
theorem cut_take {α : Type} (f : α → V) (xs : List α) (k : Nat) : cutV (xs.map f) none (some (k : Int)) = (xs.take k).map f := by
  unfold cutV
  rw [HT.sIx_none, HT.sIx_nat, List.drop_zero, Nat.sub_zero, ← List.map_take, List.length_map]
  by_cases h : k ≤ xs.length
  · rw [Nat.min_eq_left h]
  · rw [Nat.min_eq_right (by omega), List.take_of_length_le (Nat.le_refl _), List.take_of_length_le (by omega)]
theorem cut_drop {α : Type} (f : α → V) (xs : List α) (k : Nat) : cutV (xs.map f) (some (k : Int)) none = (xs.drop k).map f := by
  unfold cutV
  rw [HT.sIx_none, HT.sIx_nat, List.length_map, ← List.map_drop]
  by_cases h : k ≤ xs.length
  · rw [Nat.min_eq_left h]
    exact List.take_of_length_le (by rw [List.length_map, List.length_drop]; exact Nat.le_refl _)
  · rw [Nat.min_eq_right (by omega), Nat.sub_self, List.take_zero, List.drop_of_length_le (by omega)]; rfl
theorem cut_mid {α : Type} (f : α → V) (xs : List α) (j k : Nat) (hjk : j ≤ k) : cutV (xs.map f) (some (j : Int)) (some (k : Int)) = ((xs.drop j).take (k - j)).map f := by
  unfold cutV
  rw [HT.sIx_nat, HT.sIx_nat, List.length_map, ← List.map_drop, ← List.map_take]
  by_cases h : k ≤ xs.length
  · rw [Nat.min_eq_left h, Nat.min_eq_left (by omega)]
  · by_cases h2 : j ≤ xs.length
    · rw [Nat.min_eq_right (by omega), Nat.min_eq_left h2, List.take_of_length_le (by rw [List.length_drop]; exact Nat.le_refl _), List.take_of_length_le (by rw [List.length_drop]; omega)]
    · rw [Nat.min_eq_right (by omega), Nat.min_eq_right (by omega), List.drop_of_length_le (show xs.length ≤ j by omega), List.drop_of_length_le (Nat.le_refl _)]; simp
theorem flat_ints (ns : List Int) : (ns.map V.int).all flatV = true := by
  rw [List.all_map, List.all_eq_true]; exact fun _ _ => rfl
theorem flat_strs (ns : List Str) : (ns.map V.str).all flatV = true := by
  rw [List.all_map, List.all_eq_true]; exact fun _ _ => rfl
theorem inV_ints (n : Int) (ns : List Int) : inV (.int n) (ns.map V.int) = decide (n ∈ ns) := by
  unfold inV
  rw [List.any_map, Bool.eq_iff_iff, List.any_eq_true, decide_eq_true_eq]
  constructor
  · rintro ⟨x, hx, e⟩
    have e' : (x == n) = true := e
    rw [beq_iff_eq] at e'
    rw [← e']; exact hx
  · exact fun h => ⟨n, h, by show (n == n) = true; simp⟩
theorem inV_strs (n : Str) (ns : List Str) : inV (.str n) (ns.map V.str) = decide (n ∈ ns) := by
  unfold inV
  rw [List.any_map, Bool.eq_iff_iff, List.any_eq_true, decide_eq_true_eq]
  constructor
  · rintro ⟨x, hx, e⟩
    have e' : (x == n) = true := e
    rw [beq_iff_eq] at e'
    rw [← e']; exact hx
  · exact fun h => ⟨n, h, by show (n == n) = true; simp⟩
section
variable {K : PySem.W.Frag} {H : Hp} {Q : VK}
theorem dps_ints : ∀ ns : List Int, DpAll K H (ns.map V.int) (ns.map PyData.int)
  | [] => .nil
  | n :: ns => .cons (.int n) (dps_ints ns)
theorem dps_strs : ∀ ns : List Str, DpAll K H (ns.map V.str) (ns.map PyData.str)
  | [] => .nil
  | n :: ns => .cons (.str n) (dps_strs ns)
theorem lay_ints : ∀ ns : List Int, PyData.canLayAll0 (ns.map PyData.int) = true
  | [] => rfl
  | n :: ns => by
    rw [List.map_cons, PyData.canLayAll0, lay_ints ns]; rfl
theorem lay_strs : ∀ ns : List Str, (∀ z ∈ ns, PyData.strOk z = true) → PyData.canLayAll0 (ns.map PyData.str) = true
  | [], _ => rfl
  | n :: ns, h => by
    rw [List.map_cons, PyData.canLayAll0, lay_strs ns fun z hz => h z (List.mem_cons_of_mem _ hz)]
    show (PyData.strOk n && true) = true
    rw [h n List.mem_cons_self]; rfl
theorem dep_ints : ∀ ns : List Int, PyData.depthAll (ns.map PyData.int) ≤ 1
  | [] => Nat.zero_le _
  | n :: ns => by
    rw [List.map_cons, PyData.depthAll]
    exact Nat.max_le.mpr ⟨by first | exact Nat.zero_le _ | exact Nat.le_refl _, dep_ints ns⟩
theorem dep_strs : ∀ ns : List Str, PyData.depthAll (ns.map PyData.str) ≤ 1
  | [] => Nat.zero_le _
  | n :: ns => by
    rw [List.map_cons, PyData.depthAll]
    exact Nat.max_le.mpr ⟨by first | exact Nat.zero_le _ | exact Nat.le_refl _, dep_strs ns⟩
theorem eqv_ints : ∀ ns ms : List Int, PyData.eqvAll (ns.map PyData.int) (ms.map PyData.int) = decide (ns = ms)
  | [], [] => rfl
  | [], _ :: _ => rfl
  | _ :: _, [] => rfl
  | n :: ns, m :: ms => by
    rw [List.map_cons, List.map_cons, PyData.eqvAll, eqv_ints ns ms]
    show (n == m && decide (ns = ms)) = decide (n :: ns = m :: ms)
    rw [Bool.eq_iff_iff]; simp
theorem eqv_strs : ∀ ns ms : List Str, PyData.eqvAll (ns.map PyData.str) (ms.map PyData.str) = decide (ns = ms)
  | [], [] => rfl
  | [], _ :: _ => rfl
  | _ :: _, [] => rfl
  | n :: ns, m :: ms => by
    rw [List.map_cons, List.map_cons, PyData.eqvAll, eqv_strs ns ms]
    show (n == m && decide (ns = ms)) = decide (n :: ns = m :: ms)
    rw [Bool.eq_iff_iff]; simp
theorem shaped_ints (ns : List Int) : SeqAt.shaped (.list (ns.map PyData.int)) = true := by
  unfold SeqAt.shaped
  rw [show (PyData.list (ns.map PyData.int)).canLay0 = true from lay_ints ns, Bool.true_and]
  have := dep_ints ns
  refine decide_eq_true ?_
  show PyData.depth (.list (ns.map PyData.int)) ≤ 64
  rw [PyData.depth]; omega
theorem shaped_strs (ns : List Str) (hz : ∀ z ∈ ns, PyData.strOk z = true) : SeqAt.shaped (.list (ns.map PyData.str)) = true := by
  unfold SeqAt.shaped
  rw [show (PyData.list (ns.map PyData.str)).canLay0 = true from lay_strs ns hz, Bool.true_and]
  have := dep_strs ns
  refine decide_eq_true ?_
  show PyData.depth (.list (ns.map PyData.str)) ≤ 64
  rw [PyData.depth]; omega
theorem eq_ints {p q : Addr} {ns ms : List Int} (h1 : H p = some (.lst (ns.map V.int))) (h2 : H q = some (.lst (ms.map V.int))) (h : Q (.bl (decide (ns = ms))) H) : gEq K (.ref p) (.ref q) H Q := by
  refine .inr ⟨_, _, .lst (.inl (.inl h1)) (dps_ints ns), .lst (.inl (.inl h2)) (dps_ints ms), shaped_ints ns, shaped_ints ms, ?_⟩
  rw [PyData.eqv, eqv_ints]; exact h
theorem ne_ints {p q : Addr} {ns ms : List Int} (h1 : H p = some (.lst (ns.map V.int))) (h2 : H q = some (.lst (ms.map V.int))) (h : Q (.bl (!decide (ns = ms))) H) : gNe K (.ref p) (.ref q) H Q := by
  refine .inr ⟨_, _, .lst (.inl (.inl h1)) (dps_ints ns), .lst (.inl (.inl h2)) (dps_ints ms), shaped_ints ns, shaped_ints ms, ?_⟩
  rw [PyData.eqv, eqv_ints]; exact h
theorem eq_strs {p q : Addr} {ns ms : List Str} (h1 : H p = some (.lst (ns.map V.str))) (h2 : H q = some (.lst (ms.map V.str))) (k1 : ∀ z ∈ ns, PyData.strOk z = true) (k2 : ∀ z ∈ ms, PyData.strOk z = true) (h : Q (.bl (decide (ns = ms))) H) : gEq K (.ref p) (.ref q) H Q := by
  refine .inr ⟨_, _, .lst (.inl (.inl h1)) (dps_strs ns), .lst (.inl (.inl h2)) (dps_strs ms), shaped_strs ns k1, shaped_strs ms k2, ?_⟩
  rw [PyData.eqv, eqv_strs]; exact h
theorem ne_strs {p q : Addr} {ns ms : List Str} (h1 : H p = some (.lst (ns.map V.str))) (h2 : H q = some (.lst (ms.map V.str))) (k1 : ∀ z ∈ ns, PyData.strOk z = true) (k2 : ∀ z ∈ ms, PyData.strOk z = true) (h : Q (.bl (!decide (ns = ms))) H) : gNe K (.ref p) (.ref q) H Q := by
  refine .inr ⟨_, _, .lst (.inl (.inl h1)) (dps_strs ns), .lst (.inl (.inl h2)) (dps_strs ms), shaped_strs ns k1, shaped_strs ms k2, ?_⟩
  rw [PyData.eqv, eqv_strs]; exact h
end
theorem Ky.ok {n : Nat} {z : Str} (h : Ky n z) : PyData.strOk z = true := by
  unfold PyData.strOk
  rw [← Array.all_toList, List.all_eq_true]
  exact fun c hc => decide_eq_true (Nat.lt_of_le_of_lt (h.2 c hc).2 (by decide))
/-- made by a call: known from now on -/
theorem Pu.knew {B0 H0 B H H' : Hp} {p : Addr} {o : HO} (S : Pu B0 H0 B H) (s : Same H H') (hp : H p = none) (h : H' p = some o) : Pu B0 H0 (upd B p o) H' := (S.pure s).know h (S.free0 hp) (S.free hp)
theorem Same.mut {B H : Hp} {p : Addr} {o : HO} (s : Same B H) (hp : B p = none) : Same B (upd H p o) := fun q u e => by
  have : q ≠ p := fun z => by rw [z, hp] at e; cases e
  rw [upd_ne this]; exact s q u e
end G

namespace G
open PySem PySem.Spec PyProof.Rows L2 TL RZ

/-! ### two keys: how far alike, which is less -/
def lcp : List Nat → List Nat → Nat
  | x :: xs, y :: ys => if x = y then lcp xs ys + 1 else 0
  | _, _ => 0
theorem lcp_le : ∀ xs ys : List Nat, lcp xs ys ≤ xs.length ∧ lcp xs ys ≤ ys.length
  | [], _ => ⟨Nat.zero_le _, Nat.zero_le _⟩
  | _ :: _, [] => ⟨Nat.zero_le _, Nat.zero_le _⟩
  | x :: xs, y :: ys => by
    have := lcp_le xs ys
    unfold lcp
    split
    · simp only [List.length_cons]; omega
    · simp
/-- ahead of the end the signs are alike, there they are not, or one ends -/
theorem lcp_at : ∀ (xs ys : List Nat) (i : Nat), i < lcp xs ys → ∃ c, xs[i]? = some c ∧ ys[i]? = some c
  | [], _, _, h => absurd h (Nat.not_lt_zero _)
  | _ :: _, [], _, h => absurd h (Nat.not_lt_zero _)
  | x :: xs, y :: ys, i, h => by
    unfold lcp at h
    split at h
    · rename_i e
      cases i with
      | zero => exact ⟨x, rfl, by rw [e]; rfl⟩
      | succ i =>
        obtain ⟨c, h1, h2⟩ := lcp_at xs ys i (by omega)
        exact ⟨c, by simpa using h1, by simpa using h2⟩
    · exact absurd h (Nat.not_lt_zero _)
theorem lcp_end : ∀ (xs ys : List Nat) (c d : Nat), xs[lcp xs ys]? = some c → ys[lcp xs ys]? = some d → c ≠ d
  | [], _, _, _, h, _ => by simp [lcp] at h
  | _ :: _, [], _, _, _, h => by simp [lcp] at h
  | x :: xs, y :: ys, c, d, h1, h2 => by
    unfold lcp at h1 h2
    split at h1
    · rename_i e
      rw [if_pos e] at h2
      exact lcp_end xs ys c d (by simpa using h1) (by simpa using h2)
    · rename_i e
      rw [if_neg e] at h2
      have a1 : x = c := by simpa using h1
      have a2 : y = d := by simpa using h2
      rw [← a1, ← a2]; exact e
/-- how many signs two keys are alike -/
def lc (x y : Str) : Nat := lcp (tl x) (tl y)
def cmpL : List Nat → List Nat → Int
  | [], [] => 0
  | [], _ :: _ => -1
  | _ :: _, [] => 1
  | x :: xs, y :: ys => if x = y then cmpL xs ys else if x < y then -1 else 1
theorem cmpL_at : ∀ (xs ys : List Nat) (c d : Nat), xs[lcp xs ys]? = some c → ys[lcp xs ys]? = some d → cmpL xs ys = if c < d then -1 else 1
  | [], _, _, _, h, _ => by simp [lcp] at h
  | _ :: _, [], _, _, _, h => by simp [lcp] at h
  | x :: xs, y :: ys, c, d, h1, h2 => by
    unfold lcp at h1 h2
    unfold cmpL
    split at h1
    · rename_i e
      rw [if_pos e] at h2
      rw [if_pos e]
      exact cmpL_at xs ys c d (by simpa using h1) (by simpa using h2)
    · rename_i e
      rw [if_neg e] at h2
      rw [if_neg e]
      have a1 : x = c := by simpa using h1
      have a2 : y = d := by simpa using h2
      rw [← a1, ← a2]
theorem cmpL_end : ∀ (xs ys : List Nat), (lcp xs ys = xs.length → lcp xs ys = ys.length → cmpL xs ys = 0) ∧ (lcp xs ys = xs.length → lcp xs ys ≠ ys.length → cmpL xs ys = -1) ∧ (lcp xs ys ≠ xs.length → lcp xs ys = ys.length → cmpL xs ys = 1)
  | [], [] => by simp [lcp, cmpL]
  | [], _ :: _ => by simp [lcp, cmpL]
  | _ :: _, [] => by simp [lcp, cmpL]
  | x :: xs, y :: ys => by
    have ih := cmpL_end xs ys
    unfold lcp cmpL
    by_cases h : x = y
    · rw [if_pos h, if_pos h]
      simp only [List.length_cons, Nat.add_right_cancel_iff, ne_eq]
      exact ih
    · rw [if_neg h, if_neg h]
      simp only [List.length_cons]
      refine ⟨fun z => by omega, fun z => by omega, fun _ z => by omega⟩
/-- -1, 0, 1: which key is less -/
def lk (x y : Str) : Int := cmpL (tl x) (tl y)
theorem lcp_comm : ∀ xs ys : List Nat, lcp xs ys = lcp ys xs
  | [], [] => rfl
  | [], _ :: _ => rfl
  | _ :: _, [] => rfl
  | x :: xs, y :: ys => by
    unfold lcp
    by_cases h : x = y
    · rw [if_pos h, if_pos h.symm, lcp_comm xs ys]
    · rw [if_neg h, if_neg (fun z => h z.symm)]
theorem lc_comm (x y : Str) : lc x y = lc y x := lcp_comm _ _
theorem cmpL_anti : ∀ xs ys : List Nat, cmpL ys xs = -cmpL xs ys
  | [], [] => rfl
  | [], _ :: _ => rfl
  | _ :: _, [] => rfl
  | x :: xs, y :: ys => by
    unfold cmpL
    by_cases h : x = y
    · rw [if_pos h, if_pos h.symm]; exact cmpL_anti xs ys
    · rw [if_neg h, if_neg (fun z => h z.symm)]
      by_cases h2 : x < y
      · rw [if_pos h2, if_neg (by omega)]; rfl
      · rw [if_neg h2, if_pos (by omega)]
theorem cmpL_eq : ∀ xs ys : List Nat, cmpL xs ys = 0 ↔ xs = ys
  | [], [] => by simp [cmpL]
  | [], _ :: _ => by simp [cmpL]
  | _ :: _, [] => by simp [cmpL]
  | x :: xs, y :: ys => by
    unfold cmpL
    by_cases h : x = y
    · rw [if_pos h, cmpL_eq xs ys, h]; simp
    · rw [if_neg h]
      refine ⟨fun z => ?_, fun z => absurd (List.cons.inj z).1 h⟩
      split at z <;> omega
theorem cmpL_val : ∀ xs ys : List Nat, cmpL xs ys = -1 ∨ cmpL xs ys = 0 ∨ cmpL xs ys = 1
  | [], [] => by simp [cmpL]
  | [], _ :: _ => by simp [cmpL]
  | _ :: _, [] => by simp [cmpL]
  | x :: xs, y :: ys => by
    unfold cmpL
    by_cases h : x = y
    · rw [if_pos h]; exact cmpL_val xs ys
    · rw [if_neg h]; split <;> simp
theorem cmpL_trans : ∀ xs ys zs : List Nat, cmpL xs ys ≤ 0 → cmpL ys zs ≤ 0 → cmpL xs zs ≤ 0
  | [], _, [] => fun _ _ => by simp [cmpL]
  | [], _, _ :: _ => fun _ _ => by simp [cmpL]
  | _ :: _, [], _ => fun h _ => by simp [cmpL] at h
  | _ :: _, _ :: _, [] => fun _ h => by simp [cmpL] at h
  | x :: xs, y :: ys, z :: zs => fun h1 h2 => by
    unfold cmpL at h1 h2 ⊢
    by_cases a : x = y
    · by_cases b : y = z
      · rw [if_pos a] at h1; rw [if_pos b] at h2; rw [if_pos (a.trans b)]
        exact cmpL_trans xs ys zs h1 h2
      · rw [if_neg b] at h2; rw [if_neg (fun c => b (a.symm.trans c)), a]; exact h2
    · rw [if_neg a] at h1
      have hxy : x < y := by
        refine Decidable.byContradiction fun c => ?_
        rw [if_neg c] at h1; omega
      by_cases b : y = z
      · rw [if_neg (by omega), if_pos (by omega)]; decide
      · rw [if_neg b] at h2
        have hyz : y < z := by
          refine Decidable.byContradiction fun c => ?_
          rw [if_neg c] at h2; omega
        rw [if_neg (by omega), if_pos (by omega)]; decide
theorem cmpL_pre : ∀ (xs : List Nat) (c : Nat), cmpL xs (xs ++ [c]) = -1
  | [], _ => rfl
  | x :: xs, c => by
    show (if x = x then cmpL xs (xs ++ [c]) else _) = -1
    rw [if_pos rfl]; exact cmpL_pre xs c
theorem cmpL_lt : ∀ xs ys : List Nat, xs < ys ↔ cmpL xs ys = -1
  | [], [] => by simp [cmpL]
  | [], _ :: _ => by simp [cmpL]
  | _ :: _, [] => by simp [cmpL]
  | x :: xs, y :: ys => by
    unfold cmpL
    rw [List.cons_lt_cons_iff]
    by_cases h : x = y
    · rw [if_pos h, ← cmpL_lt xs ys]
      constructor
      · rintro (z | ⟨_, z⟩)
        · omega
        · exact z
      · exact fun z => .inr ⟨h, z⟩
    · rw [if_neg h]
      by_cases h2 : x < y
      · rw [if_pos h2]; exact ⟨fun _ => rfl, fun _ => .inl h2⟩
      · rw [if_neg h2]
        constructor
        · rintro (z | ⟨z, _⟩)
          · exact absurd z h2
          · exact absurd z h
        · exact fun z => absurd z (by decide)
theorem lk_anti (x y : Str) : lk y x = -lk x y := cmpL_anti _ _
theorem lk_val (x y : Str) : lk x y = -1 ∨ lk x y = 0 ∨ lk x y = 1 := cmpL_val _ _
theorem lk_self (x : Str) : lk x x = 0 := (cmpL_eq _ _).mpr rfl
theorem lk_eq {x y : Str} : lk x y = 0 ↔ x = y := (cmpL_eq _ _).trans ⟨fun e => ext_tl e, fun e => by rw [e]⟩
theorem lk_trans {x y z : Str} (h1 : lk x y ≤ 0) (h2 : lk y z ≤ 0) : lk x z ≤ 0 := cmpL_trans _ _ _ h1 h2
theorem lk_lt {x y : Str} : (x.cps.toList < y.cps.toList) ↔ lk x y = -1 := cmpL_lt _ _
/-- keys in order -/
def Row (ys : List Str) : Prop := ys.Pairwise fun x y => lk x y ≤ 0
theorem rising_row : ∀ {ys : List Str} {x : Str}, risingS x ys = true → Row (x :: ys)
  | [], x, _ => List.pairwise_singleton _ _
  | y :: ys, x, h => by
    unfold risingS at h
    rw [Bool.and_eq_true, Bool.not_eq_true', ltCps_eq, decide_eq_false_iff_not] at h
    have ih := rising_row h.2
    have h1 : lk x y ≤ 0 := by
      have a := lk_anti x y
      have c := lk_val x y
      have d := mt lk_lt.mpr h.1
      omega
    refine List.pairwise_cons.mpr ⟨fun z hz => ?_, ih⟩
    rcases List.mem_cons.mp hz with rfl | hz
    · exact h1
    · exact lk_trans h1 ((List.pairwise_cons.mp ih).1 z hz)
theorem sorted_row {ys : List Str} (h : sortedS ys = true) : Row ys := by
  cases ys with
  | nil => exact List.Pairwise.nil
  | cons y ys => exact rising_row h
theorem lc_self (x : Str) : lc x x = (tl x).length := by
  have : ∀ l : List Nat, lcp l l = l.length := fun l => by
    induction l with
    | nil => rfl
    | cons a l ih => unfold lcp; rw [if_pos rfl, ih]; rfl
  exact this _
/-- of three keys in order the outer ones are as far alike as the least of both steps -/
theorem lcp_mid : ∀ xs ys zs : List Nat, cmpL xs ys ≤ 0 → cmpL ys zs ≤ 0 → lcp xs zs = min (lcp xs ys) (lcp ys zs)
  | [], _, _ => fun _ _ => by simp [lcp]
  | _ :: _, [], _ => fun h _ => by simp [cmpL] at h
  | _ :: _, _ :: _, [] => fun _ h => by simp [cmpL] at h
  | x :: xs, y :: ys, z :: zs => fun h1 h2 => by
    unfold cmpL at h1 h2
    unfold lcp
    by_cases a : x = y
    · by_cases b : y = z
      · rw [if_pos a] at h1; rw [if_pos b] at h2
        rw [if_pos a, if_pos b, if_pos (a.trans b), lcp_mid xs ys zs h1 h2]; omega
      · rw [if_neg b] at h2
        rw [if_neg (fun c => b (a.symm.trans c)), if_neg b]; omega
    · rw [if_neg a] at h1
      have hxy : x < y := by
        refine Decidable.byContradiction fun c => ?_
        rw [if_neg c] at h1; omega
      have hyz : y ≤ z := by
        by_cases b : y = z
        · omega
        · rw [if_neg b] at h2
          refine Decidable.byContradiction fun c => ?_
          rw [if_neg (by omega)] at h2; omega
      rw [if_neg a, if_neg (by omega)]; omega
theorem lc_mid {x y z : Str} (h1 : lk x y ≤ 0) (h2 : lk y z ≤ 0) : lc x z = min (lc x y) (lc y z) := lcp_mid _ _ _ h1 h2
section
variable {K : PySem.W.Frag} {H : Hp} {Q : VK}
theorem sorted_strs {p : Addr} {xs : List Str} (h : H p = some (.lst (xs.map V.str))) (hl : xs.length < 64) (q : ∀ ys : List Str, ys.Perm xs → Row ys → AtNew Q (.lst (ys.map V.str)) H) : gSorted K [.ref p] H Q :=
  .inr ⟨p, xs, rfl, .inl (.inl h), hl, fun ys p hy hs hp => q ys hy (sorted_row hs) p hp⟩
theorem sorted_ints {p : Addr} {xs : List Int} (h : H p = some (.lst (xs.map V.int))) (q : ∀ ys : List Int, ys.Perm xs → ys.Pairwise (· ≤ ·) → AtNew Q (.lst (ys.map V.int)) H) : gSorted K [.ref p] H Q :=
  .inl ⟨p, xs, rfl, .inl (.inl h), fun ys p hy hs hp => q ys hy hs p hp⟩
theorem min_ints {p : Addr} {xs : List Int} (h : H p = some (.lst (xs.map V.int))) (hl : 0 < xs.length) (q : ∀ m, m ∈ xs → (∀ y ∈ xs, m ≤ y) → Q (.int m) H) : gMin K [.ref p] H Q := .inr ⟨p, xs, rfl, .inl (.inl h), hl, q⟩
theorem max_ints {p : Addr} {xs : List Int} (h : H p = some (.lst (xs.map V.int))) (hl : 0 < xs.length) (q : ∀ m, m ∈ xs → (∀ y ∈ xs, y ≤ m) → Q (.int m) H) : gMax K [.ref p] H Q := .inr ⟨p, xs, rfl, .inl (.inl h), hl, q⟩
theorem sum_ints {p : Addr} {xs : List Int} (h : H p = some (.lst (xs.map V.int))) (q : Q (.int xs.sum) H) : gSum K [.ref p] H Q := ⟨p, xs, rfl, .inl (.inl h), q⟩
theorem m_rep {p : Addr} {k : Int} {xs : List V} (h : H p = some (.lst xs)) (h0 : -1048576 ≤ k) (h1 : k ≤ 1048576) (hl : xs.length * k.toNat ≤ 1048576) (q : AtNew Q (.lst (List.replicate k.toNat xs).flatten) H) : gMul (.ref p) (.int k) H Q :=
  .inr (.inr ⟨p, k, xs, rfl, rfl, h, by omega, by omega, szl' hl, q⟩)
end
/-- each turn gives the list's own -/
theorem Each.eq {L : List V} {n : Nat} {B : Hp} {acc : List V} (h : Each (fun j _ v => L[j]? = some v) n B acc) (hn : n = L.length) : acc = L := by
  refine List.ext_getElem? fun j => ?_
  by_cases hj : j < acc.length
  · rw [List.getElem?_eq_getElem hj]; exact (h.2 j _ (List.getElem?_eq_getElem hj)).symm
  · have := h.1
    rw [List.getElem?_eq_none (by omega), List.getElem?_eq_none (by omega)]
theorem map_at {α : Type} {f : α → V} {xs : List α} {i : Nat} {x : V} (h : (xs.map f)[i]? = some x) : ∃ a, xs[i]? = some a ∧ x = f a := by
  rw [List.getElem?_map] at h
  cases e : xs[i]? with
  | none => rw [e] at h; cases h
  | some a => rw [e] at h; exact ⟨a, rfl, (Option.some.inj h).symm⟩
end G

namespace G
open PySem PySem.Spec PyProof.Rows L2 TL RZ

/-! ### list.insert -/
section
variable {X : Cx}
def rInsert : V → List V → Hp → VK → Prop := fun x vs H Q => ∃ (l : Addr) (xs : List V) (k : Nat) (y : V), x = .ref l ∧ vs = [.int k, y] ∧ H l = some (.lst xs) ∧ k ≤ xs.length ∧ xs.length < 1048576 ∧ Q .non (upd H l (.lst (xs.take k ++ y :: xs.drop k)))
theorem ins_meets (l : Addr) (its : Array Value) (n : Nat) (k : Int) (t : Tok) (w : Value) (h1 : Builtin.List.listFitsIndex k = true) (h2 : its.size ≤ sizeLine) (f : Array Value → Array Value)
    (hf : f = fun xs => (xs.extract 0 (if k < 0 then (k + (xs.size : Int)).toNat else min k.toNat xs.size)).push w ++ xs.extract (if k < 0 then (k + (xs.size : Int)).toNat else min k.toNat xs.size)) :
    Meets (Builtin.«list.insert» ⟨[.ref l, .int k t, w], []⟩) (fun _ R s => s.heap.get? l = some { cls := .type "list", dict := none, data := .seq its n, slots := #[] } ∧ R (.ok (.ret Value.none)) { s with heap := s.heap.update l (Obj.mapSeq f), toks := s.toks }) := by
  subst hf
  exact PySem.AutoSeq1.list_insert_list_int_val_1 l its n k t w (by rw [h1]; exact fun z => nomatch z) h2
theorem mt_insert : MtM X "list.insert" rInsert := by
  intro pins s σ H x vs v us Q I rx rv h
  obtain ⟨l, xs, k, y, rfl, rfl, hH, hk, hz, q⟩ := h
  cases rx
  obtain ⟨u, w, rfl, ru, rw'⟩ := rv.two
  obtain ⟨t, rfl⟩ := ru
  obtain ⟨z, its, n, r, hl, e⟩ := I.lstM hH
  obtain ⟨ki, hki⟩ : ∃ ki : Int, ki = k := ⟨_, rfl⟩
  rw [← hki]
  have hf : Builtin.List.listFitsIndex ki = true := fitsIndex_both (by omega) (by omega)
  have hsz : its.length ≤ sizeLine := Nat.le_of_lt (szl'' (by omega))
  refine call_meets PySem.F.slot_list_insert ⟨_, e, rfl⟩ PySem.F.entry_list_insert (PySem.F.args_list_insert_3 _ _ _) (ins_meets l its.toArray n ki t w hf (by rw [List.size_toArray]; exact hsz) _ rfl) ⟨e, ?_⟩
  refine ⟨.non, _, I.lset (its' := its.take k ++ w :: its.drop k) hH e ?_ ((r.take k).append (.cons rw' (r.drop k))) ?_, rfl, q⟩
  · have hm : min ki.toNat its.toArray.size = k := by rw [List.size_toArray]; omega
    rw [if_neg (by omega), hm, PySem.W.kl_ins_eq]
  · rw [List.length_append, List.length_cons, List.length_take, List.length_drop]
    exact szl' (by omega)
end
section
variable {K : PySem.W.Frag} {H : Hp} {Q : VK}
theorem ins_lst {l : Addr} {xs : List V} {k : Nat} {y : V} (h : H l = some (.lst xs)) (hk : k ≤ xs.length) (hl : xs.length < 1048576) (q : Q .non (upd H l (.lst (xs.take k ++ y :: xs.drop k)))) : rInsert (.ref l) [.int k, y] H Q := ⟨l, xs, k, y, rfl, rfl, h, hk, hl, q⟩
theorem ixN_n {n j : Nat} (hj : j < n) : ixN n (j : Int) = some j := by
  unfold ixN
  rw [if_pos (by omega), if_pos (by omega)]
  simp
/-- an item by a drawn place is put otherwise -/
theorem setL_nat {p : Addr} {xs : List V} {j : Nat} {v : V} {R : Hp → Prop} (h1 : H p = some (.lst xs)) (h2 : j < xs.length) (h : R (upd H p (.lst (xs.set j v)))) : rSetL (.ref p) (.int (j : Int)) v H R := setL_lst h1 (ixN_n h2) h
theorem ix_nat {p : Addr} {xs : List V} {j : Nat} {v : V} (h1 : H p = some (.lst xs)) (h2 : xs[j]? = some v) (h : Q v H) : gIx K (.ref p) (.int (j : Int)) H Q := ix_lst h1 (atI_nat h2) h
theorem ix_str {p : Addr} {ys : List Str} {j : Nat} (h1 : H p = some (.lst (ys.map V.str))) (h2 : j < ys.length) (h : Q (.str (ys[j]'h2)) H) : gIx K (.ref p) (.int (j : Int)) H Q := ix_lst h1 (atI_nat (by rw [List.getElem?_map, List.getElem?_eq_getElem h2]; rfl)) h
theorem ix_i {p : Addr} {ys : List Int} {j : Nat} (h1 : H p = some (.lst (ys.map V.int))) (h2 : j < ys.length) (h : Q (.int (ys[j]'h2)) H) : gIx K (.ref p) (.int (j : Int)) H Q := ix_lst h1 (atI_nat (by rw [List.getElem?_map, List.getElem?_eq_getElem h2]; rfl)) h
end
theorem nat_of {d : Int} (h : 0 ≤ d) : ∃ j : Nat, d = (j : Int) := ⟨d.toNat, by omega⟩
/-! ### letters -/
theorem mem_letters (c : Nat) : c ∈ (Str.ofString "abcdefghijklmnopqrstuvwxyz").cps.toList ↔ 97 ≤ c ∧ c ≤ 122 := by
  constructor
  · exact (show ∀ c ∈ (Str.ofString "abcdefghijklmnopqrstuvwxyz").cps.toList, 97 ≤ c ∧ c ≤ 122 by decide +kernel) c
  · rintro ⟨h1, h2⟩
    have : ∀ d, d < 26 → 97 + d ∈ (Str.ofString "abcdefghijklmnopqrstuvwxyz").cps.toList := by decide +kernel
    have := this (c - 97) (by omega)
    rwa [Nat.add_sub_cancel' h1] at this
instance {l : List Nat} : Decidable (LtL l) := inferInstanceAs (Decidable (∀ c ∈ l, 97 ≤ c ∧ c ≤ 122))
theorem all_letters (l : List Nat) : (l.map fun c => decide (c ∈ (Str.ofString "abcdefghijklmnopqrstuvwxyz").cps.toList)).all id = decide (LtL l) := by
  rw [Bool.eq_iff_iff, List.all_eq_true, decide_eq_true_eq]
  constructor
  · intro h c hc
    exact (mem_letters c).mp (of_decide_eq_true (h _ (List.mem_map.mpr ⟨c, hc, rfl⟩)))
  · intro h b hb
    obtain ⟨c, hc, rfl⟩ := List.mem_map.mp hb
    exact decide_eq_true ((mem_letters c).mpr (h c hc))
section
variable {K : PySem.W.Frag} {H : Hp} {Q : VK}
theorem in_chr {c : Nat} {z : Str} (h : Q (.bl (decide (c ∈ z.cps.toList))) H) : gIn K (.str ⟨#[c]⟩) (.str z) H Q := .inr ⟨c, z, rfl, rfl, h⟩
theorem all_lst {p : Addr} {bs : List Bool} (h : H p = some (.lst (bs.map V.bl))) (q : Q (.bl (bs.all id)) H) : gAll K [.ref p] H Q := ⟨p, bs, rfl, .inl (.inl h), q⟩
theorem any_lst {p : Addr} {bs : List Bool} (h : H p = some (.lst (bs.map V.bl))) (q : Q (.bl (bs.any id)) H) : gAny K [.ref p] H Q := ⟨p, bs, rfl, .inl (.inl h), q⟩
theorem at_neg1 {α : Type} {xs : List α} {v : α} (h2 : xs[xs.length - 1]? = some v) : atI xs (-1) = some v := by
  have hl : 0 < xs.length := by
    refine Decidable.byContradiction fun z => ?_
    rw [List.getElem?_eq_none (by omega)] at h2; cases h2
  unfold atI ixN
  rw [if_neg (by decide), if_pos (by omega)]
  show xs[((-1 : Int) + xs.length).toNat]? = some v
  rw [show ((-1 : Int) + xs.length).toNat = xs.length - 1 by omega]; exact h2
end
/-- what may be asked if it is a key -/
def KeyV (H : Hp) (v : V) (b : Bool) : Prop := (∃ z, v = .str z ∧ z.length ≤ 100000 ∧ b = decide (LtL (tl z))) ∨
  (b = false ∧ (v = .non ∨ (∃ k, v = .bl k) ∨ (∃ i, v = .int i) ∨ (∃ p xs, v = .ref p ∧ H p = some (.lst xs)) ∨ ∃ p xs, v = .ref p ∧ H p = some (.tup xs)))
theorem KeyV.mono {H H' : Hp} {v : V} {b : Bool} (s : Same H H') : KeyV H v b → KeyV H' v b
  | .inl h => .inl h
  | .inr ⟨h, .inl e⟩ => .inr ⟨h, .inl e⟩
  | .inr ⟨h, .inr (.inl e)⟩ => .inr ⟨h, .inr (.inl e)⟩
  | .inr ⟨h, .inr (.inr (.inl e))⟩ => .inr ⟨h, .inr (.inr (.inl e))⟩
  | .inr ⟨h, .inr (.inr (.inr (.inl ⟨p, xs, e, hp⟩)))⟩ => .inr ⟨h, .inr (.inr (.inr (.inl ⟨p, xs, e, s _ _ hp⟩)))⟩
  | .inr ⟨h, .inr (.inr (.inr (.inr ⟨p, xs, e, hp⟩)))⟩ => .inr ⟨h, .inr (.inr (.inr (.inr ⟨p, xs, e, s _ _ hp⟩)))⟩
/-- the first place whose key is less than the one ahead -/
def Brk (ys : List Str) (o : Option Nat) : Prop := match o with
  | none => ∀ (i : Nat) a b, ys[i]? = some a → ys[i + 1]? = some b → ¬ lk b a < 0
  | some n => 1 ≤ n ∧ n < ys.length ∧ (∀ a b, ys[n - 1]? = some a → ys[n]? = some b → lk b a < 0) ∧ ∀ (i : Nat) a b, i + 1 < n → ys[i]? = some a → ys[i + 1]? = some b → ¬ lk b a < 0
def optV : Option Nat → V
  | none => .non
  | some n => .int n
theorem lk_nlt {a b : Str} : ¬ lk b a < 0 ↔ lk a b ≤ 0 := by
  have := lk_anti a b
  omega
theorem row_of : ∀ {ys : List Str}, (∀ (i : Nat) a b, ys[i]? = some a → ys[i + 1]? = some b → ¬ lk b a < 0) → Row ys
  | [], _ => List.Pairwise.nil
  | [_], _ => List.pairwise_singleton _ _
  | x :: y :: r, h => by
    have ih := row_of (ys := y :: r) fun i a b h1 h2 => h (i + 1) a b (by simpa using h1) (by simpa using h2)
    have h0 : lk x y ≤ 0 := lk_nlt.mp (h 0 x y rfl rfl)
    refine List.pairwise_cons.mpr ⟨fun z hz => ?_, ih⟩
    rcases List.mem_cons.mp hz with rfl | hz
    · exact h0
    · exact lk_trans h0 ((List.pairwise_cons.mp ih).1 z hz)
theorem row_at {ys : List Str} (h : Row ys) {i j : Nat} {a b : Str} (hij : i < j) (ha : ys[i]? = some a) (hb : ys[j]? = some b) : lk a b ≤ 0 := by
  have hj : j < ys.length := by
    refine Decidable.byContradiction fun z => ?_
    rw [List.getElem?_eq_none (by omega)] at hb; cases hb
  have e1 : ys[i]'(by omega) = a := Option.some.inj ((List.getElem?_eq_getElem (by omega)).symm.trans ha)
  have e2 : ys[j]'hj = b := Option.some.inj ((List.getElem?_eq_getElem hj).symm.trans hb)
  have := List.pairwise_iff_getElem.mp h i j (by omega) hj hij
  rw [e1, e2] at this; exact this
theorem brk_none {ys : List Str} : Brk ys none ↔ Row ys := ⟨row_of, fun h i a b h1 h2 => lk_nlt.mpr (row_at h (Nat.lt_succ_self i) h1 h2)⟩
theorem Brk.uniq {ys : List Str} : ∀ {o o' : Option Nat}, Brk ys o → Brk ys o' → o = o'
  | none, none, _, _ => rfl
  | none, some n, h, ⟨h1, h2, h3, _⟩ => by
    have e1 : ys[n - 1]? = some (ys[n - 1]'(by omega)) := List.getElem?_eq_getElem _
    have e2 : ys[n]? = some (ys[n]'h2) := List.getElem?_eq_getElem _
    exact absurd (h3 _ _ e1 e2) (h (n - 1) _ _ e1 (by rw [Nat.sub_add_cancel h1]; exact e2))
  | some n, none, ⟨h1, h2, h3, _⟩, h => by
    have e1 : ys[n - 1]? = some (ys[n - 1]'(by omega)) := List.getElem?_eq_getElem _
    have e2 : ys[n]? = some (ys[n]'h2) := List.getElem?_eq_getElem _
    exact absurd (h3 _ _ e1 e2) (h (n - 1) _ _ e1 (by rw [Nat.sub_add_cancel h1]; exact e2))
  | some n, some m, ⟨h1, h2, h3, h4⟩, ⟨k1, k2, k3, k4⟩ => by
    have e1 : ys[n - 1]? = some (ys[n - 1]'(by omega)) := List.getElem?_eq_getElem _
    have e2 : ys[n]? = some (ys[n]'h2) := List.getElem?_eq_getElem _
    have f1 : ys[m - 1]? = some (ys[m - 1]'(by omega)) := List.getElem?_eq_getElem _
    have f2 : ys[m]? = some (ys[m]'k2) := List.getElem?_eq_getElem _
    rcases Nat.lt_trichotomy n m with h | h | h
    · exact absurd (h3 _ _ e1 e2) (k4 (n - 1) _ _ (by omega) e1 (by rw [Nat.sub_add_cancel h1]; exact e2))
    · rw [h]
    · exact absurd (k3 _ _ f1 f2) (h4 (m - 1) _ _ (by omega) f1 (by rw [Nat.sub_add_cancel k1]; exact f2))
theorem set_ok {n : Nat} {ys : List Str} {j : Nat} {z : Str} (h : ∀ y ∈ ys, Ky n y) (hz : Ky n z) : ∀ y ∈ ys.set j z, Ky n y := fun y hy => by
  rcases List.mem_or_eq_of_mem_set hy with hy | hy
  · exact h y hy
  · rw [hy]; exact hz
theorem app_ok {n : Nat} {ys zs : List Str} (h : ∀ y ∈ ys, Ky n y) (hz : ∀ y ∈ zs, Ky n y) : ∀ y ∈ ys ++ zs, Ky n y := fun y hy => by
  rcases List.mem_append.mp hy with hy | hy
  · exact h y hy
  · exact hz y hy
theorem ins_ok {n : Nat} {ys : List Str} {j : Nat} {z : Str} (h : ∀ y ∈ ys, Ky n y) (hz : Ky n z) : ∀ y ∈ ys.take j ++ z :: ys.drop j, Ky n y := fun y hy => by
  rcases List.mem_append.mp hy with hy | hy
  · exact h y (List.mem_of_mem_take hy)
  · rcases List.mem_cons.mp hy with rfl | hy
    · exact hz
    · exact h y (List.mem_of_mem_drop hy)
theorem kys_le {n m : Nat} {ys : List Str} (h : ∀ y ∈ ys, Ky n y) (hm : n ≤ m) : ∀ y ∈ ys, Ky m y := fun y hy => (h y hy).le hm
end G

local macro_rules | `(tactic| walk_at "side") => `(tactic| first | assumption | decide | omega | (exact G.szl' (by omega)) | (exact G.szl'' (by omega)))
local macro_rules | `(tactic| walk_at "ne") => `(tactic| first | assumption | (exact Ne.symm (by assumption)) | (exact L2.ne_of_none (by walk_at "fact") (by assumption)) | (exact Ne.symm (L2.ne_of_none (by walk_at "fact") (by assumption))))
local macro_rules | `(tactic| walk_at "factB") => `(tactic| first | assumption | (refine (by assumption : L2.Same _ _) _ _ ?_; walk_at "factB"))
local macro_rules | `(tactic| walk_at "fact") => `(tactic| first | assumption | (exact L2.upd_same) | (refine (L2.upd_ne ?_).trans ?_; (walk_at "ne"); (walk_at "fact")) | (refine G.St.sub (by assumption) _ _ ?_; walk_at "factB") | (refine G.Pu.sub (by assumption) _ _ ?_; walk_at "factB") | (walk_at "factB"))
local macro_rules | `(tactic| walk_at "s1") => `(tactic| with_reducible first
  | refine G.g_seq ?_ | refine G.g_set ?_ | refine G.g_ret ?_ | refine G.g_c ?_ | refine G.g_op ?_ | refine G.g_cons ?_ | refine G.g_nil ?_ | refine G.g_cb ?_ | refine G.g_call ?_
  | refine G.g_call2 ?_ | refine G.g_call1 ?_ | refine G.g_call3 ?_ | refine G.g_call4 ?_ | refine G.g_bl ?_ | refine G.g_if ?_ | refine G.g_test ?_ | refine G.g_B ?_ | refine G.g_next ?_ | refine G.g_asg ?_ | refine G.g_drop ?_
  | refine G.g_and ?_ | refine G.g_or ?_ | refine G.g_not ?_ | refine G.g_ifE ?_ | refine G.g_andV ?_ | refine G.g_orV ?_ | refine G.g_notV ?_ | refine G.g_un ?_ | refine G.g_neg ?_ | refine G.g_lst ?_ | refine G.g_tup ?_
  | refine G.g_sl ?_ | refine G.g_noPart ?_ | refine G.g_part ?_ | refine G.g_int ?_ | refine G.g_sub ?_ | refine G.g_name ?_ | refine G.g_gcons ?_ | refine G.g_gnil ?_ | refine G.g_bm ?_ | refine G.g_bm0 ?_ | refine G.g_m1 ?_ | refine G.g_par ?_ | refine G.g_par2 ?_
  | refine G.WB.mk ?_ | refine G.g_revL ?_ | refine G.g_chain ?_ | refine G.g_izip ?_ | refine G.g_izipS ?_ | refine G.g_ienum ?_ | refine G.g_lc ?_ | refine G.g_for ?_ | refine G.g_rng1 ?_ | refine G.g_rng2 ?_ | refine G.g_ilist ?_ | refine G.g_itup ?_ | refine G.g_istr ?_
  | refine G.g_yes ?_ | refine G.g_brk ?_ | refine G.g_cont ?_ | refine L2.iteT ?_ | refine L2.iteF ?_)
local macro_rules | `(tactic| walk_at "s2") => `(tactic| with_reducible first
  | refine G.a_int ?_ | refine G.sub_int ?_ | refine G.lt_int' ?_ | refine G.lt_str' ?_ | refine G.le_int' ?_ | refine G.le_str' ?_ | refine G.gt_int' ?_ | refine G.gt_str' ?_ | refine G.ge_int' ?_ | refine G.ge_str' ?_
  | refine G.eq_int' ?_ | refine G.eq_str' ?_ | refine G.eq_bl' ?_ | refine G.ne_int' ?_ | refine G.ne_str' ?_ | refine G.ne_bl' ?_ | refine G.eq_non ?_ | refine G.ne_non ?_ | refine G.is_non ?_ | refine G.is_bl ?_ | refine G.isn_bl ?_ | refine G.isn_non ?_ | refine G.min_int ?_ | refine G.max_int ?_ | refine G.int_int ?_ | refine G.int_bl ?_ | refine G.abs_int ?_ | refine G.g_ipI ?_)
local macro_rules | `(tactic| walk_at "s3") => `(tactic| first
  | ((with_reducible refine' G.g_var ?e ?_); (case e => exact rfl))
  | ((with_reducible refine' G.g_aug ?e ?_); (case e => exact rfl))
  | ((with_reducible refine' G.a_str ?c ?_); (case c => walk_at "side"))
  | ((with_reducible refine' G.m_int ?c ?_); (case c => first | (refine Or.inl ⟨?_, ?_⟩ <;> (walk_at "side")) | (refine Or.inr ⟨?_, ?_⟩ <;> (walk_at "side"))))
  | ((with_reducible refine' G.mod_int ?c ?_); (case c => walk_at "side"))
  | ((with_reducible refine' G.div_int ?c ?d ?_); (case c => walk_at "side"); (case d => walk_at "side"))
  | ((with_reducible refine' G.pow_int ?c ?_); (case c => (refine ⟨?_, ?_, ?_⟩ <;> decide)))
  | ((with_reducible refine' G.ix_lst ?c ?d ?_); (case c => walk_at "fact"); (case d => first | assumption | rfl))
  | ((with_reducible refine' G.ix_tpl ?c ?d ?_); (case c => walk_at "fact"); (case d => first | assumption | rfl))
  | ((with_reducible refine' G.ix_sql ?c ?d ?_); (case c => assumption); (case d => first | assumption | rfl))
  | ((with_reducible refine' G.ix_text ?c ?d ?_); (case c => walk_at "side"); (case d => first | assumption | rfl))
  | ((with_reducible refine' G.sl_text ?c ?_); (case c => walk_at "side"))
  | ((with_reducible refine' G.len_lst ?c ?_); (case c => walk_at "fact"))
  | ((with_reducible refine' G.len_tup ?c ?_); (case c => walk_at "fact"))
  | ((with_reducible refine' G.len_sql ?c ?_); (case c => assumption))
  | ((with_reducible refine' G.len_text ?c ?_); (case c => walk_at "side"))
  | ((with_reducible refine' G.g_gtupG ?c ?d ?_); (case c => exact Or.inl (Or.inl (by walk_at "fact"))); (case d => exact rfl))
  | ((with_reducible refine' G.g_gunl ?c ?d ?_); (case c => exact Or.inl (Or.inl (by walk_at "fact"))); (case d => exact rfl))
  | ((with_reducible refine' G.g_tyl ?c ?_); (case c => walk_at "fact"))
  | ((with_reducible refine' G.rev_ip ?c ?_); (case c => walk_at "fact"))
  | ((with_reducible refine' G.clear_ip ?c ?_); (case c => walk_at "fact"))
  | ((with_reducible refine' G.rev_lst ?c ?_); (case c => walk_at "fact"))
  | ((with_reducible refine' G.list_lst ?c ?_); (case c => walk_at "fact"))
  | ((with_reducible refine' G.tuple_lst ?c ?_); (case c => walk_at "fact"))
  | ((with_reducible refine' G.LcT.mk ?c ?_); (case c => exact rfl))
  | ((with_reducible refine' G.NewL.mk ?c ?_); (case c => exact Nat.le_of_ble_eq_true rfl))
  | ((with_reducible refine' G.NewT.mk ?c ?_); (case c => exact Nat.le_of_ble_eq_true rfl))
  | ((with_reducible refine' G.setL_lst ?c ?d ?_); (case c => walk_at "fact"); (case d => rfl)))
local macro_rules | `(tactic| walk_at "s4") => `(tactic| ((with_reducible refine' G.use_pick (by assumption) ?c0 ?c1 ?c2 ?_); (case c0 => omega); (case c1 => first | decide | omega); (case c2 => first | decide | omega); (intro _ _ _ _ _ _)))
local macro_rules | `(tactic| walk_at "s5") => `(tactic| first | ((with_reducible refine' G.St.atNew (o := L2.HO.tup _) (by assumption) ?_); (intro _ _ _ _ _ _ _ _)) | ((with_reducible refine' G.St.atNew (o := L2.HO.lst (_ :: _)) (by assumption) ?_); (intro _ _ _ _ _ _ _ _)) | ((with_reducible refine' G.Pu.atNew (o := L2.HO.tup _) (by assumption) ?_); (intro _ _ _ _ _ _ _ _)) | ((with_reducible refine' G.Pu.atNew (o := L2.HO.lst (_ :: _)) (by assumption) ?_); (intro _ _ _ _ _ _ _ _)))
local macro_rules | `(tactic| walk_at "s6") => `(tactic| first
  | with_reducible refine G.isi_non_int ?_
  | with_reducible refine G.isi_non_str ?_
  | with_reducible refine G.isi_non_bool ?_
  | with_reducible refine G.isi_non_list ?_
  | with_reducible refine G.isi_non_tuple ?_
  | ((with_reducible refine' G.isi2_non ?d ?_); (case d => walk_at "fact"))
  | with_reducible refine G.isi_bl_int ?_
  | with_reducible refine G.isi_bl_str ?_
  | with_reducible refine G.isi_bl_bool ?_
  | with_reducible refine G.isi_bl_list ?_
  | with_reducible refine G.isi_bl_tuple ?_
  | ((with_reducible refine' G.isi2_bl ?d ?_); (case d => walk_at "fact"))
  | with_reducible refine G.isi_int_int ?_
  | with_reducible refine G.isi_int_str ?_
  | with_reducible refine G.isi_int_bool ?_
  | with_reducible refine G.isi_int_list ?_
  | with_reducible refine G.isi_int_tuple ?_
  | ((with_reducible refine' G.isi2_int ?d ?_); (case d => walk_at "fact"))
  | with_reducible refine G.isi_str_int ?_
  | with_reducible refine G.isi_str_str ?_
  | with_reducible refine G.isi_str_bool ?_
  | with_reducible refine G.isi_str_list ?_
  | with_reducible refine G.isi_str_tuple ?_
  | ((with_reducible refine' G.isi2_str ?d ?_); (case d => walk_at "fact"))
  | ((with_reducible refine' G.isi_lst_int ?c ?_); (case c => walk_at "fact"))
  | ((with_reducible refine' G.isi_lst_str ?c ?_); (case c => walk_at "fact"))
  | ((with_reducible refine' G.isi_lst_bool ?c ?_); (case c => walk_at "fact"))
  | ((with_reducible refine' G.isi_lst_list ?c ?_); (case c => walk_at "fact"))
  | ((with_reducible refine' G.isi_lst_tuple ?c ?_); (case c => walk_at "fact"))
  | ((with_reducible refine' G.isi2_lst ?c ?d ?_); (case c => walk_at "fact"); (case d => walk_at "fact"))
  | ((with_reducible refine' G.isi_tup_int ?c ?_); (case c => walk_at "fact"))
  | ((with_reducible refine' G.isi_tup_str ?c ?_); (case c => walk_at "fact"))
  | ((with_reducible refine' G.isi_tup_bool ?c ?_); (case c => walk_at "fact"))
  | ((with_reducible refine' G.isi_tup_list ?c ?_); (case c => walk_at "fact"))
  | ((with_reducible refine' G.isi_tup_tuple ?c ?_); (case c => walk_at "fact"))
  | ((with_reducible refine' G.isi2_tup ?c ?d ?_); (case c => walk_at "fact"); (case d => walk_at "fact")))
local macro_rules | `(tactic| walk_at "dec") => `(tactic| first | rfl | assumption | omega | (intro hh; cases hh; done) | (intro hh; contradiction) | decide)
local macro_rules | `(tactic| walk_at "s7") => `(tactic| first
  | with_reducible refine G.if_ny ?_
  | with_reducible refine G.if_nn ?_
  | ((with_reducible refine' G.if_yes ?c ?_); (case c => walk_at "dec"))
  | ((with_reducible refine' G.if_no ?c ?_); (case c => walk_at "dec"))
  | ((with_reducible refine' G.if_nyes ?c ?_); (case c => walk_at "dec"))
  | ((with_reducible refine' G.if_nno ?c ?_); (case c => walk_at "dec")))
local macro_rules | `(tactic| walk_at "go") => `(tactic| repeat (first | (walk_at "s1") | (walk_at "s2") | (walk_at "s3") | (walk_at "s4") | (walk_at "s5") | (walk_at "s6") | (walk_at "s7")))
local macro_rules | `(tactic| walk_at "s5t") => `(tactic| first | ((with_reducible refine' G.St.atNew (o := L2.HO.tup _) (by assumption) ?_); (intro _ _ _ _ _ _ _ _)) | ((with_reducible refine' G.Pu.atNew (o := L2.HO.tup _) (by assumption) ?_); (intro _ _ _ _ _ _ _ _)))
local macro_rules | `(tactic| walk_at "gov") => `(tactic| repeat (first | (walk_at "s1") | (walk_at "s2") | (walk_at "s3") | (walk_at "s4") | (walk_at "s5t") | (walk_at "s6") | (walk_at "s7")))

namespace L
open PySem PySem.Spec PyProof.Rows L2 TL G
def topS (i : Nat) : Stmt := PySem.Challenge.pw_mergetree_k06_where_a_row_breaks.main.body.getD i (.Pass ⟨0, 0, 0, 0⟩)
abbrev s_alike_from : Stmt := topS 3
abbrev N_alike_from : List Str := ["one", "other", "far", "most"]
theorem sc_alike_from : FnScope N_alike_from ["one", "other", "far"] (defScope s_alike_from) := ⟨rfl, rfl, rfl, by decide +kernel, rfl, by decide +kernel, by decide +kernel⟩
def sp_alike_from : Sp := fun vs H Q _ => ∃ (x y : Str) (f : Nat), vs = [.str x, .str y, .int f] ∧ x.length ≤ 100000 ∧ y.length ≤ 100000 ∧ f ≤ lc x y ∧ Q (.int (lc x y)) H
theorem ok_alike_from {P : Program} {w : World} {K : PySem.W.Frag} {mg : Str → Option Value} {base : Heap} (B : Blt mg)   {f : Addr} {fd : FuncData} (F : Fun K "alike_from" "alike_from" s_alike_from f fd) :
    FnOk P w K mg base CX0 1 f fd ["one", "other", "far"] (sp_alike_from) := by
  refine F.ok sc_alike_from (fun vs H Q E h => ?_) (fun cdv A outer s H vs Q E hr h => ?_)
  · obtain ⟨x, y, f, rfl, _⟩ := h; rfl
  · have nd := sc_alike_from.nd
    obtain ⟨x, y, f, rfl, hx, hy, hf, q⟩ := h
    refine ⟨_, (pss_cons (ps_set (i := 3) nd rfl (.inl rfl) (pe_callB (oMin (K := K) rfl hr.units) (by rfl) B.min_ (by decide +kernel) (pa_cons (pe_callB (oLen (K := K)) (by rfl) B.len_ (by decide +kernel) (pa_cons (pv 0) pa_nil)) (pa_cons (pe_callB (oLen (K := K)) (by rfl) B.len_ (by decide +kernel) (pa_cons (pv 1) pa_nil)) pa_nil))))
        (pss_cons (ps_while PassesOwn.never (PW.pt (pw_and (pt_cmpR (oLt hr.units) (pv 2) (pv 3) (nomark _)) (pw_and1 (pt_cmpR (oEq (K := K) hr.units) (pe_ix (oIx (K := K)) (pv 0) (pv 2) (fun _ _ => rfl)) (pe_ix (oIx (K := K)) (pv 1) (pv 2) (fun _ _ => rfl)) (nomark _)))))
        (pss_one (ps_aug (i := 2) nd rfl (.inl rfl) pe_int ip_add)))
        (pss_one (ps_ret (pv 2))))), ?_⟩
    have hl := lcp_le (tl x) (tl y)
    rw [← TL.len_tl, ← TL.len_tl] at hl
    walk_at "go"
    refine g_while (fun m σ' H' => ∃ f : Nat, σ' = [some (.str x), some (.str y), some (.int f), some (.int (if (y.length : Int) < x.length then (y.length : Int) else x.length))] ∧ H' = H ∧ f ≤ lc x y ∧ m = lc x y - f) (lc x y - f) ⟨f, rfl, rfl, hf, rfl⟩ ?_
    rintro m σ' H' ⟨f, rfl, rfl, hf, rfl⟩
    have hmin : (lc x y : Int) ≤ if (y.length : Int) < x.length then (y.length : Int) else x.length := by
      unfold lc
      split <;> omega
    walk_at "go"
    refine g_ite (fun hc => ?_) (fun hc => ?_)
    · walk_at "go"
      have h1 : f < (tl x).length := by rw [← TL.len_tl]; split at hc <;> omega
      have h2 : f < (tl y).length := by rw [← TL.len_tl]; split at hc <;> omega
      refine ix_text (szl' (by omega)) (atI_nat (List.getElem?_eq_getElem h1)) ?_
      walk_at "go"
      refine ix_text (szl' (by omega)) (atI_nat (List.getElem?_eq_getElem h2)) ?_
      walk_at "go"
      refine g_ite (fun he => ?_) (fun he => ?_)
      · walk_at "go"
        refine ⟨_, ?_, f + 1, rfl, rfl, ?_, rfl⟩
        all_goals
          have : f ≠ lc x y := fun z => by
            subst z
            refine lcp_end (tl x) (tl y) _ _ (List.getElem?_eq_getElem h1) (List.getElem?_eq_getElem h2) ?_
            have := congrArg (fun s => tl s) he
            simpa using this
          omega
      · walk_at "go"
        have : f = lc x y := by
          refine Decidable.byContradiction fun z => ?_
          obtain ⟨c, e1, e2⟩ := lcp_at (tl x) (tl y) f (by unfold lc at hf z; omega)
          rw [List.getElem?_eq_getElem h1] at e1
          rw [List.getElem?_eq_getElem h2] at e2
          exact he (by rw [Option.some.inj e1, Option.some.inj e2])
        subst this
        exact q
    · walk_at "go"
      have : f = lc x y := by omega
      subst this
      exact q
abbrev s_alike : Stmt := topS 4
abbrev N_alike : List Str := ["one", "other"]
theorem sc_alike : FnScope N_alike ["one", "other"] (defScope s_alike) := ⟨rfl, rfl, rfl, by decide +kernel, rfl, by decide +kernel, by decide +kernel⟩
def sp_alike : Sp := fun vs H Q _ => ∃ x y : Str, vs = [.str x, .str y] ∧ x.length ≤ 100000 ∧ y.length ≤ 100000 ∧ Q (.int (lc x y)) H
theorem ok_alike {P : Program} {w : World} {K : PySem.W.Frag} {mg : Str → Option Value} {base : Heap} (B : Blt mg) (c_alike_from : Has P w K mg base 1 "alike_from" ["one", "other", "far"] (sp_alike_from))  {f : Addr} {fd : FuncData} (F : Fun K "alike" "alike" s_alike f fd) :
    FnOk P w K mg base CX0 2 f fd ["one", "other"] (sp_alike) := by
  refine F.ok sc_alike (fun vs H Q E h => ?_) (fun cdv A outer s H vs Q E hr h => ?_)
  · obtain ⟨x, y, rfl, _⟩ := h; rfl
  · have nd := sc_alike.nd
    obtain ⟨x, y, rfl, hx, hy, q⟩ := h
    refine ⟨_, (pss_one (ps_ret (pe_callH c_alike_from (hr.mono (by decide)) (by rfl) (pa_cons (pv 0) (pa_cons (pv 1) (pa_cons pe_int pa_nil)))))), ?_⟩
    walk_at "go"
    exact ⟨x, y, 0, rfl, hx, hy, Nat.zero_le _, q⟩
abbrev s_order_behind : Stmt := topS 5
abbrev N_order_behind : List Str := ["one", "other", "far"]
theorem sc_order_behind : FnScope N_order_behind ["one", "other", "far"] (defScope s_order_behind) := ⟨rfl, rfl, rfl, by decide +kernel, rfl, by decide +kernel, by decide +kernel⟩
def sp_order_behind : Sp := fun vs H Q _ => ∃ (x y : Str), vs = [.str x, .str y, .int (lc x y)] ∧ x.length ≤ 100000 ∧ y.length ≤ 100000 ∧ Q (.int (lk x y)) H
theorem ok_order_behind {P : Program} {w : World} {K : PySem.W.Frag} {mg : Str → Option Value} {base : Heap} (B : Blt mg)   {f : Addr} {fd : FuncData} (F : Fun K "order_behind" "order_behind" s_order_behind f fd) :
    FnOk P w K mg base CX0 1 f fd ["one", "other", "far"] (sp_order_behind) := by
  refine F.ok sc_order_behind (fun vs H Q E h => ?_) (fun cdv A outer s H vs Q E hr h => ?_)
  · obtain ⟨x, y, rfl, _⟩ := h; rfl
  · have nd := sc_order_behind.nd
    obtain ⟨x, y, rfl, hx, hy, q⟩ := h
    refine ⟨_, (pss_cons (ps_if (pt_cmpR (oEq (K := K) hr.units) (pv 2) (pe_callB (oLen (K := K)) (by rfl) B.len_ (by decide +kernel) (pa_cons (pv 0) pa_nil)) (nomark _))
        (pss_one (ps_ret (pe_ifExp (pt_cmpR (oEq (K := K) hr.units) (pv 2) (pe_callB (oLen (K := K)) (by rfl) B.len_ (by decide +kernel) (pa_cons (pv 1) pa_nil)) (nomark _)) pe_int (pe_un un_neg pe_int))))
        pss_nil)
        (pss_cons (ps_if (pt_cmpR (oEq (K := K) hr.units) (pv 2) (pe_callB (oLen (K := K)) (by rfl) B.len_ (by decide +kernel) (pa_cons (pv 1) pa_nil)) (nomark _))
        (pss_one (ps_ret pe_int))
        pss_nil)
        (pss_one (ps_ret (pe_ifExp (pt_cmpR (oLt hr.units) (pe_ix (oIx (K := K)) (pv 0) (pv 2) (fun _ _ => rfl)) (pe_ix (oIx (K := K)) (pv 1) (pv 2) (fun _ _ => rfl)) (nomark _)) (pe_un un_neg pe_int) pe_int))))), ?_⟩
    have hl := lcp_le (tl x) (tl y)
    have he := cmpL_end (tl x) (tl y)
    rw [← TL.len_tl, ← TL.len_tl] at hl he
    walk_at "go"
    refine g_ite (fun h1 => ?_) (fun h1 => ?_)
    · walk_at "go"
      refine g_ite (fun h2 => ?_) (fun h2 => ?_)
      · walk_at "go"
        have e : lk x y = 0 := he.1 (by unfold lc at h1; omega) (by unfold lc at h2; omega)
        rw [e] at q; exact q
      · walk_at "go"
        have e : lk x y = -1 := he.2.1 (by unfold lc at h1; omega) (by unfold lc at h2; omega)
        rw [e] at q; exact q
    · walk_at "go"
      refine g_ite (fun h2 => ?_) (fun h2 => ?_)
      · walk_at "go"
        have e : lk x y = 1 := he.2.2 (by unfold lc at h1; omega) (by unfold lc at h2; omega)
        rw [e] at q; exact q
      · walk_at "go"
        have h3 : lc x y < (tl x).length := by rw [← TL.len_tl]; unfold lc at *; omega
        have h4 : lc x y < (tl y).length := by rw [← TL.len_tl]; unfold lc at *; omega
        refine ix_text (szl' (by omega)) (atI_nat (List.getElem?_eq_getElem h3)) ?_
        walk_at "go"
        refine ix_text (szl' (by omega)) (atI_nat (List.getElem?_eq_getElem h4)) ?_
        walk_at "go"
        have e := cmpL_at (tl x) (tl y) _ _ (List.getElem?_eq_getElem h3) (List.getElem?_eq_getElem h4)
        refine g_ite (fun h5 => ?_) (fun h5 => ?_)
        · walk_at "go"
          rw [if_pos (one_lt.mp h5)] at e
          unfold lk at q; rw [e] at q; exact q
        · walk_at "go"
          rw [if_neg (fun z => h5 (one_lt.mpr z))] at e
          unfold lk at q; rw [e] at q; exact q
abbrev s_liken : Stmt := topS 6
abbrev N_liken : List Str := ["one", "other"]
theorem sc_liken : FnScope N_liken ["one", "other"] (defScope s_liken) := ⟨rfl, rfl, rfl, by decide +kernel, rfl, by decide +kernel, by decide +kernel⟩
def sp_liken : Sp := fun vs H Q _ => ∃ (x y : Str), vs = [.str x, .str y] ∧ x.length ≤ 100000 ∧ y.length ≤ 100000 ∧ Q (.int (lk x y)) H
theorem ok_liken {P : Program} {w : World} {K : PySem.W.Frag} {mg : Str → Option Value} {base : Heap} (B : Blt mg) (c_alike : Has P w K mg base 2 "alike" ["one", "other"] (sp_alike)) (c_order_behind : Has P w K mg base 1 "order_behind" ["one", "other", "far"] (sp_order_behind))  {f : Addr} {fd : FuncData} (F : Fun K "liken" "liken" s_liken f fd) :
    FnOk P w K mg base CX0 3 f fd ["one", "other"] (sp_liken) := by
  refine F.ok sc_liken (fun vs H Q E h => ?_) (fun cdv A outer s H vs Q E hr h => ?_)
  · obtain ⟨x, y, rfl, _⟩ := h; rfl
  · have nd := sc_liken.nd
    obtain ⟨x, y, rfl, hx, hy, q⟩ := h
    refine ⟨_, (pss_one (ps_ret (pe_callH c_order_behind (hr.mono (by decide)) (by rfl) (pa_cons (pv 0) (pa_cons (pv 1) (pa_cons (pe_callH c_alike (hr.mono (by decide)) (by rfl) (pa_cons (pv 0) (pa_cons (pv 1) pa_nil))) pa_nil)))))), ?_⟩
    walk_at "go"
    refine ⟨x, y, rfl, hx, hy, ?_⟩
    walk_at "go"
    exact ⟨x, y, rfl, hx, hy, q⟩
abbrev s_first_break : Stmt := topS 8
abbrev N_first_break : List Str := ["keys", "place"]
theorem sc_first_break : FnScope N_first_break ["keys"] (defScope s_first_break) := ⟨rfl, rfl, rfl, by decide +kernel, rfl, by decide +kernel, by decide +kernel⟩
def sp_first_break : Sp := fun vs H Q _ => ∃ (p : Addr) (ys : List Str), vs = [.ref p] ∧ H p = some (.lst (ys.map V.str)) ∧ ys.length ≤ 100000 ∧ (∀ y ∈ ys, y.length ≤ 100000) ∧ ∀ o, Brk ys o → Q (optV o) H
theorem ok_first_break {P : Program} {w : World} {K : PySem.W.Frag} {mg : Str → Option Value} {base : Heap} (B : Blt mg) (c_liken : Has P w K mg base 3 "liken" ["one", "other"] (sp_liken))  {f : Addr} {fd : FuncData} (F : Fun K "first_break" "first_break" s_first_break f fd) :
    FnOk P w K mg base CX0 4 f fd ["keys"] (sp_first_break) := by
  refine F.ok sc_first_break (fun vs H Q E h => ?_) (fun cdv A outer s H vs Q E hr h => ?_)
  · obtain ⟨p, ys, rfl, _⟩ := h; rfl
  · have nd := sc_first_break.nd
    obtain ⟨p, ys, rfl, hp, hl, hy, q⟩ := h
    refine ⟨_, (pss_cons (ps_for PassesOwn.never rfl (pi_range2 (by rfl) B.range_ (pa_cons pe_int (pa_cons (pe_callB (oLen (K := K)) (by rfl) B.len_ (by decide +kernel) (pa_cons (pv 0) pa_nil)) pa_nil))) (pg_name (i := 1) nd rfl (.inl rfl))
        (pss_one (ps_if (pt_cmpR (oLt hr.units) (pe_callH c_liken (hr.mono (by decide)) (by rfl) (pa_cons (pe_ix (oIx (K := K)) (pv 0) (pv 1) (fun _ _ => rfl)) (pa_cons (pe_ix (oIx (K := K)) (pv 0) (pe_op oSub (pv 1) pe_int) (fun _ _ => rfl)) pa_nil))) pe_int (nomark _))
        (pss_one (ps_ret (pv 1)))
        pss_nil)))
        (pss_one (ps_ret pe_non))), ?_⟩
    have lm : (ys.map V.str).length = ys.length := List.length_map ..
    walk_at "go"
    refine ⟨_, _, rfl, ⟨by omega, by omega, by omega, by omega⟩, ?_⟩
    refine for_wk (wk_rng 1 _) (fun i σ H' => (∃ v1, σ = [some (.ref p), v1]) ∧ H' = H ∧ ∀ (j : Nat) a b, j < i → ys[j]? = some a → ys[j + 1]? = some b → ¬ lk b a < 0) ⟨⟨_, rfl⟩, rfl, fun _ _ _ h => absurd h (Nat.not_lt_zero _)⟩ (fun _ _ _ _ _ => trivial) ?_ ?_
    · rintro i x σ' Hz H1 hi ⟨⟨v1, rfl⟩, rfl, hno⟩ ⟨rfl, rfl⟩
      have h1 : i < ys.length := by omega
      have h2 : i + 1 < ys.length := by omega
      walk_at "go"
      rw [show (1 : Int) + (i : Int) = ((i + 1 : Nat) : Int) by omega]
      refine ix_str hp h2 ?_
      walk_at "go"
      rw [show ((i + 1 : Nat) : Int) - 1 = (i : Int) by omega]
      refine ix_str hp h1 ?_
      walk_at "go"
      refine ⟨_, _, rfl, hy _ (List.getElem_mem _), hy _ (List.getElem_mem _), ?_⟩
      walk_at "go"
      refine g_ite (fun hc => ?_) (fun hc => ?_)
      · walk_at "go"
        refine q (some (i + 1)) ⟨by omega, h2, fun a b ha hb => ?_, fun j a b hj => hno j a b (by omega)⟩
        have e1 := ha.symm.trans (List.getElem?_eq_getElem h1)
        have e2 := hb.symm.trans (List.getElem?_eq_getElem h2)
        rw [Option.some.inj e1, Option.some.inj e2]; exact hc
      · walk_at "go"
        refine ⟨⟨_, rfl⟩, rfl, fun j a b hj ha hb => ?_⟩
        by_cases e : j = i
        · subst e
          have e1 := ha.symm.trans (List.getElem?_eq_getElem h1)
          have e2 := hb.symm.trans (List.getElem?_eq_getElem h2)
          rw [Option.some.inj e1, Option.some.inj e2]; exact hc
        · exact hno j a b (by omega) ha hb
    · rintro σ' H1 ⟨⟨v1, rfl⟩, rfl, hno⟩
      walk_at "go"
      refine q none fun j a b ha hb => hno j a b ?_ ha hb
      have : j + 1 < ys.length := by
        refine Decidable.byContradiction fun z => ?_
        rw [List.getElem?_eq_none (by omega)] at hb; cases hb
      omega
abbrev s_is_key : Stmt := topS 2
abbrev N_is_key : List Str := ["thing", "sign"]
theorem sc_is_key : FnScope N_is_key ["thing"] (defScope s_is_key) := ⟨rfl, rfl, rfl, by decide +kernel, rfl, by decide +kernel, by decide +kernel⟩
def sp_is_key : Sp := fun vs H Q _ => ∃ (v : V) (b : Bool), vs = [v] ∧ KeyV H v b ∧ ∀ H', Same H H' → Q (.bl b) H'
theorem ok_is_key {P : Program} {w : World} {K : PySem.W.Frag} {mg : Str → Option Value} {base : Heap} (B : Blt mg)  (g_LETTERS : ∃ t, mg "LETTERS" = some (.str "abcdefghijklmnopqrstuvwxyz" t)) {f : Addr} {fd : FuncData} (F : Fun K "is_key" "is_key" s_is_key f fd) :
    FnOk P w K mg base CX0 1 f fd ["thing"] (sp_is_key) := by
  refine F.ok sc_is_key (fun vs H Q E h => ?_) (fun cdv A outer s H vs Q E hr h => ?_)
  · obtain ⟨v, b, rfl, _⟩ := h; rfl
  · have nd := sc_is_key.nd
    obtain ⟨t_LETTERS, e_LETTERS⟩ := g_LETTERS
    obtain ⟨v, b, rfl, hv, q⟩ := h
    refine ⟨_, (pss_one (ps_ret (pe_and (pe_callB (oIsi (K := K)) (by rfl) B.isinstance_ (by decide +kernel) (pa_cons (pv 0) (pa_cons (pe_bltn (v := .ty "str") (by rfl) B.str_ (by decide +kernel) rfl) pa_nil))) (pe_one (pe_callB (oAll (K := K) rfl) (by rfl) B.all_ (by decide +kernel) (pa_cons (pe_lc (own := [("sign", 1)]) (g := gName 1) (tt := tYes) (by rfl) nd (pi_str (pv 0)) (blkOk_by (N := N_is_key) (own := [("sign", 1)]) (sc := defScope s_is_key) (by decide +kernel)) (fun _ _ _ _ _ => (pg_name (i := 1) nd rfl (by first | exact Or.inl rfl | exact Or.inr rfl))) (fun _ _ _ _ _ => pts_nil) (fun _ _ _ _ _ => (pe_cmpR (oIn (K := K) hr.units) (pv 1) (pe_glob (v := .str "abcdefghijklmnopqrstuvwxyz") (by rfl) e_LETTERS ⟨_, rfl⟩) (by rfl)))) pa_nil)))))), ?_⟩
    rcases hv with ⟨z, rfl, hz, rfl⟩ | ⟨rfl, rfl | ⟨k, rfl⟩ | ⟨k, rfl⟩ | ⟨p, xs, rfl, hp⟩ | ⟨p, xs, rfl, hp⟩⟩
    · have S0 : Pu H H H H := Pu.new (Same.refl _)
      have htl := TL.len_tl z
      walk_at "go"
      refine ⟨z, rfl, ?_⟩
      refine S0.lc (wk_str z) (by omega) (fun _ _ => trivial) (Each fun j _ v => (((tl z).map fun c => decide (c ∈ (Str.ofString "abcdefghijklmnopqrstuvwxyz").cps.toList)).map V.bl)[j]? = some v) Each.zero (Each.mono fun _ _ _ _ _ r => r)
        (fun i x acc B1 H1 H1' hi K1 hs1 hyl hI hl Qk Qn qk qn => ?_) (fun p B1 H1 acc S1 O1 K1 n1 e1 hI => ?_)
      · obtain ⟨rfl, c, hc, rfl⟩ := hyl
        walk_at "go"
        refine in_chr ?_
        refine qk _ _ _ (Pu.new hs1) (hI.step ?_)
        rw [List.getElem?_map, List.getElem?_map, hc]; rfl
      · have ea := hI.eq (by rw [List.length_map, List.length_map])
        rw [ea] at e1
        walk_at "go"
        refine all_lst (S1.sub _ _ e1) ?_
        rw [all_letters]
        exact q _ S1.old
    all_goals
      walk_at "go"
      exact q _ (Same.refl _)
abbrev s_is_row : Stmt := topS 9
abbrev N_is_row : List Str := ["thing", "key"]
theorem sc_is_row : FnScope N_is_row ["thing"] (defScope s_is_row) := ⟨rfl, rfl, rfl, by decide +kernel, rfl, by decide +kernel, by decide +kernel⟩
/-- things that are asked if they are keys -/
inductive KeyVs (H : Hp) : List V → List Bool → Prop
  | nil : KeyVs H [] []
  | cons {v : V} {b : Bool} {vs : List V} {bs : List Bool} : KeyV H v b → KeyVs H vs bs → KeyVs H (v :: vs) (b :: bs)
theorem KeyVs.mono {H H' : Hp} (s : Same H H') : ∀ {vs bs}, KeyVs H vs bs → KeyVs H' vs bs
  | _, _, .nil => .nil
  | _, _, .cons h t => .cons (h.mono s) (t.mono s)
theorem KeyVs.len {H : Hp} : ∀ {vs bs}, KeyVs H vs bs → vs.length = bs.length
  | _, _, .nil => rfl
  | _, _, .cons _ t => by rw [List.length_cons, List.length_cons, t.len]
theorem KeyVs.at {H : Hp} : ∀ {vs bs}, KeyVs H vs bs → ∀ {i : Nat} {v : V}, vs[i]? = some v → ∃ b, bs[i]? = some b ∧ KeyV H v b
  | _, _, .nil, _, _, h => by simp at h
  | _, _, .cons h _, 0, v, e => by
    have e1 := Option.some.inj e
    rw [← e1]; exact ⟨_, rfl, h⟩
  | _, _, .cons _ t, i + 1, v, e => by
    obtain ⟨b, h1, h2⟩ := t.at (i := i) (by simpa using e)
    exact ⟨b, by simpa using h1, h2⟩
theorem KeyVs.all {H : Hp} : ∀ {vs bs}, KeyVs H vs bs → bs.all id = true → ∃ ys : List Str, vs = ys.map V.str ∧ ∀ y ∈ ys, y.length ≤ 100000
  | _, _, .nil, _ => ⟨[], rfl, fun _ h => nomatch h⟩
  | _, _, .cons h t, e => by
    rw [List.all_cons, Bool.and_eq_true] at e
    obtain ⟨ys, rfl, hl⟩ := t.all e.2
    have e1 := e.1
    rcases h with ⟨z, rfl, hz, hb⟩ | ⟨hb, _⟩
    · refine ⟨z :: ys, rfl, fun y hy => ?_⟩
      rcases List.mem_cons.mp hy with rfl | hy
      · exact hz
      · exact hl y hy
    · rw [hb] at e1; cases e1
theorem KeyVs.strs {H : Hp} : ∀ {ys : List Str}, (∀ y ∈ ys, y.length ≤ 100000) → KeyVs H (ys.map V.str) (ys.map fun y => decide (LtL (tl y)))
  | [], _ => .nil
  | y :: ys, h => .cons (.inl ⟨y, rfl, h y List.mem_cons_self, rfl⟩) (KeyVs.strs fun z hz => h z (List.mem_cons_of_mem _ hz))
instance {ys : List Str} : Decidable (Row ys) := inferInstanceAs (Decidable (ys.Pairwise _))
/-- what may be asked if it is a row -/
def RowV (H : Hp) (v : V) (b : Bool) : Prop :=
  (b = false ∧ (v = .non ∨ (∃ k, v = .bl k) ∨ (∃ i, v = .int i) ∨ (∃ z, v = .str z) ∨ ∃ p xs, v = .ref p ∧ H p = some (.tup xs))) ∨
  ∃ p xs bs, v = .ref p ∧ H p = some (.lst xs) ∧ xs.length ≤ 100000 ∧ KeyVs H xs bs ∧ (bs.all id = false → b = false) ∧ (bs.all id = true → ∀ ys : List Str, xs = ys.map V.str → b = decide (Row ys))
def sp_is_row : Sp := fun vs H Q _ => ∃ (v : V) (b : Bool), vs = [v] ∧ RowV H v b ∧ ∀ H', Same H H' → Q (.bl b) H'
theorem rowV_keys {H : Hp} {p : Addr} {ys : List Str} {n : Nat} (h : H p = some (.lst (ys.map V.str))) (hy : ∀ y ∈ ys, Ky n y) (hn : n ≤ 100000) (hl : ys.length ≤ 100000) : RowV H (.ref p) (decide (Row ys)) := by
  refine .inr ⟨p, _, _, rfl, h, by rw [List.length_map]; exact hl, KeyVs.strs (fun y m => Nat.le_trans (hy y m).len hn), fun e => ?_, fun _ zs e => ?_⟩
  · rw [show (ys.map fun y => decide (LtL (tl y))).all id = true by
      rw [List.all_eq_true]
      intro b hb
      obtain ⟨y, m, rfl⟩ := List.mem_map.mp hb
      exact decide_eq_true (hy y m).2] at e
    cases e
  · have : zs = ys := by
      have := congrArg (List.map fun v => match v with | V.str z => z | _ => Str.ofString "") e
      rw [List.map_map, List.map_map] at this
      have id_ : ∀ l : List Str, l.map ((fun v => match v with | V.str z => z | _ => Str.ofString "") ∘ V.str) = l := fun l => by
        induction l with
        | nil => rfl
        | cons a l ih => rw [List.map_cons, ih]; rfl
      rw [id_, id_] at this
      exact this.symm
    rw [this]
theorem ok_is_row {P : Program} {w : World} {K : PySem.W.Frag} {mg : Str → Option Value} {base : Heap} (B : Blt mg) (c_is_key : Has P w K mg base 1 "is_key" ["thing"] (sp_is_key)) (c_first_break : Has P w K mg base 4 "first_break" ["keys"] (sp_first_break))  {f : Addr} {fd : FuncData} (F : Fun K "is_row" "is_row" s_is_row f fd) :
    FnOk P w K mg base CX0 5 f fd ["thing"] (sp_is_row) := by
  refine F.ok sc_is_row (fun vs H Q E h => ?_) (fun cdv A outer s H vs Q E hr h => ?_)
  · obtain ⟨v, b, rfl, _⟩ := h; rfl
  · have nd := sc_is_row.nd
    obtain ⟨v, b, rfl, hv, q⟩ := h
    refine ⟨_, (pss_one (ps_ret (pe_and (pe_callB (oIsi (K := K)) (by rfl) B.isinstance_ (by decide +kernel) (pa_cons (pv 0) (pa_cons (pe_bltn (v := .ty "list") (by rfl) B.list_ (by decide +kernel) rfl) pa_nil))) (pe_and (pe_callB (oAll (K := K) rfl) (by rfl) B.all_ (by decide +kernel) (pa_cons (pe_lc (own := [("key", 1)]) (g := gName 1) (tt := tYes) (by rfl) nd (pi_listK (K := K) (pv 0)) (blkOk_by (N := N_is_row) (own := [("key", 1)]) (sc := defScope s_is_row) (by decide +kernel)) (fun _ _ _ _ _ => (pg_name (i := 1) nd rfl (by first | exact Or.inl rfl | exact Or.inr rfl))) (fun _ _ _ _ _ => pts_nil) (fun _ _ _ _ _ => (pe_callH c_is_key (hr.mono (by decide)) (by rfl) (pa_cons (pv 1) pa_nil)))) pa_nil)) (pe_one (pe_cmpR oIs (pe_callH c_first_break (hr.mono (by decide)) (by rfl) (pa_cons (pv 0) pa_nil)) pe_non (nomark _))))))), ?_⟩
    rcases hv with ⟨rfl, hv⟩ | ⟨p, xs, bs, rfl, hp, hl, hk, hno, hyes⟩
    · rcases hv with rfl | ⟨k, rfl⟩ | ⟨k, rfl⟩ | ⟨k, rfl⟩ | ⟨p, xs, rfl, hp⟩
      all_goals
        walk_at "go"
        exact q _ (Same.refl _)
    · have S0 : Pu H H H H := Pu.new (Same.refl _)
      have hbl := hk.len
      walk_at "go"
      refine ⟨p, rfl, ⟨_, .inl (.inl hp)⟩, ?_⟩
      refine S0.lc (wk_list p xs) (by omega) (fun H' s => .inl (.inl (s _ _ hp))) (Each fun j _ v => (bs.map V.bl)[j]? = some v) Each.zero (Each.mono fun _ _ _ _ _ r => r)
        (fun i x acc B1 H1 H1' hi K1 hs1 hyl hI hl Qk Qn qk qn => ?_) (fun p1 B1 H1 acc S1 O1 K1 n1 e1 hI => ?_)
      · obtain ⟨rfl, hx⟩ := hyl
        obtain ⟨b', hb, hkb⟩ := hk.at hx
        walk_at "go"
        refine ⟨x, b', rfl, (hkb.mono K1).mono hs1, fun H2 s2 => ?_⟩
        exact qk _ _ _ ((Pu.new hs1).pure s2) (hI.step (by rw [List.getElem?_map, hb]; rfl))
      · have ea := hI.eq (by rw [List.length_map]; exact hbl)
        rw [ea] at e1
        walk_at "go"
        refine all_lst (S1.sub _ _ e1) ?_
        walk_at "go"
        refine g_iteB (fun hall => ?_) (fun hall => ?_)
        · obtain ⟨ys, rfl, hyl⟩ := hk.all hall
          have hb := hyes hall ys rfl
          rw [List.length_map] at hl
          walk_at "go"
          refine ⟨p, ys, rfl, S1.old _ _ hp, hl, hyl, fun o ho => ?_⟩
          walk_at "go"
          have q' := q _ S1.old
          cases o with
          | none => rw [hb, decide_eq_true (brk_none.mp ho)] at q'; exact q'
          | some n =>
            have : ¬ Row ys := fun z => nomatch (brk_none.mpr z).uniq ho
            rw [hb, decide_eq_false this] at q'; exact q'
        · walk_at "go"
          rw [hno hall] at q
          exact q _ S1.old
abbrev s_w_left : Stmt := topS 12
abbrev N_w_left : List Str := ["_law_script", "_law_k", "_law_cell"]
theorem sc_w_left : FnScope N_w_left ["_law_script", "_law_k"] (defScope s_w_left) := ⟨rfl, rfl, rfl, by decide +kernel, rfl, by decide +kernel, by decide +kernel⟩
def cellF (ns : List Int) (k : Int) : Int := if k < ns.length then ns.getD k.toNat 0 else 0
def leftF (ns : List Int) (k : Int) : List V :=
  [.int ((if cellF ns k < 0 then -cellF ns k else cellF ns k) * (if decide ((10 : Int) ^ (18 : Int).toNat ≤ (if cellF ns k < 0 then -cellF ns k else cellF ns k)) = true then 1 else 0)), .int (cellF ns k + 1000003 * k), .int 0]
theorem leftF_ok (ns : List Int) (k : Int) : LeftO 1152921504606846976 (.lst (leftF ns k)) := by
  refine ⟨_, _, _, rfl, ?_, by decide, by decide⟩
  by_cases h : cellF ns k < 0
  · rw [if_pos h]
    split <;> simp <;> omega
  · rw [if_neg h]
    split <;> simp <;> omega
def sp_w_left (K : PySem.W.Frag) : Sp := fun vs H Q _ => ∃ (s : Addr) (ns : List Int) (k : Int), vs = [.ref s, .int k] ∧ SqL K H s (ns.map V.int) ∧ 0 ≤ k ∧ k < 4294967296 ∧
  ∀ a, H a = none → Q (.ref a) (upd H a (.lst (leftF ns k)))
theorem ok_w_left {P : Program} {w : World} {K : PySem.W.Frag} {mg : Str → Option Value} {base : Heap} (B : Blt mg)   {f : Addr} {fd : FuncData} (F : Fun K "_law_left" "_law_left" s_w_left f fd) :
    FnOk P w K mg base CX0 1 f fd ["_law_script", "_law_k"] (sp_w_left K) := by
  refine F.ok sc_w_left (fun vs H Q E h => ?_) (fun cdv A outer s H vs Q E hr h => ?_)
  · obtain ⟨s, ns, k, rfl, _⟩ := h; rfl
  · have nd := sc_w_left.nd
    obtain ⟨s, ns, k, rfl, hS, h0, h1, q⟩ := h
    refine ⟨_, (pss_cons (ps_set (i := 2) nd rfl (.inl rfl) (pe_ifExp (pt_cmpR (oLt hr.units) (pv 1) (pe_callB (oLen (K := K)) (by rfl) B.len_ (by decide +kernel) (pa_cons (pv 0) pa_nil)) (nomark _)) (pe_ix (oIx (K := K)) (pv 0) (pv 1) (fun _ _ => rfl)) pe_int))
        (pss_one (ps_ret (pe_lst (pa_cons (pe_op oMul (pe_callB oAbs (by rfl) B.abs_ (by decide +kernel) (pa_cons (pv 2) pa_nil)) (pe_callTy oInt (by rfl) B.int_ (by decide +kernel) (pa_cons (pe_cmpR (oGe hr.units) (pe_callB oAbs (by rfl) B.abs_ (by decide +kernel) (pa_cons (pv 2) pa_nil)) (pe_op oPow pe_int pe_int) (nomark _)) pa_nil))) (pa_cons (pe_op (oAdd (K := K)) (pv 2) (pe_op oMul pe_int (pv 1))) (pa_cons pe_int pa_nil))))))), ?_⟩
    walk_at "go"
    refine g_ite (fun hc => ?_) (fun hc => ?_)
    · have hk : k < (ns.length : Int) := by rw [List.length_map] at hc; exact hc
      have hi : atI (ns.map V.int) k = some (.int (cellF ns k)) := by
        obtain ⟨j, rfl⟩ : ∃ j : Nat, k = (j : Int) := ⟨k.toNat, by omega⟩
        have hj : j < ns.length := by omega
        refine atI_nat ?_
        rw [List.getElem?_map, List.getElem?_eq_getElem hj]
        show some (V.int ns[j]) = some (V.int (cellF ns j))
        unfold cellF
        rw [if_pos hk, Int.toNat_natCast, List.getD_eq_getElem?_getD, List.getElem?_eq_getElem hj]
        rfl
      walk_at "go"
      exact q
    · have hk : ¬ k < (ns.length : Int) := by rw [List.length_map] at hc; exact hc
      have hz : cellF ns k = 0 := if_neg hk
      walk_at "go"
      unfold leftF at q
      rw [hz] at q
      exact q
abbrev s_w_same : Stmt := topS 17
abbrev N_w_same : List Str := ["_law_found", "_law_due_here", "_law_one", "_law_other"]
theorem sc_w_same : FnScope N_w_same ["_law_found", "_law_due_here"] (defScope s_w_same) := ⟨rfl, rfl, rfl, by decide +kernel, rfl, by decide +kernel, by decide +kernel⟩
abbrev sp_w_same : Sp := spSame 26
theorem ok_w_same_step {P : Program} {w : World} {K : PySem.W.Frag} {mg : Str → Option Value} {base : Heap} (B : Blt mg) {kk n : Nat} (c_w_same : Has P w K mg base kk "_law_same" ["_law_found", "_law_due_here"] (spSame n))
    {f : Addr} {fd : FuncData} (F : Fun K "_law_same" "_law_same" s_w_same f fd) : FnOk P w K mg base CX0 (kk + 1) f fd ["_law_found", "_law_due_here"] (spSame (n + 1)) := by
  refine F.ok sc_w_same (fun vs H Q E h => ?_) (fun cdv A outer s H vs Q E hr h => ?_)
  · obtain ⟨x, y, B, rfl, _⟩ := h; rfl
  · have nd := sc_w_same.nd
    obtain ⟨x, y, B0, rfl, hsub, hS, q⟩ := h
    refine ⟨_, (pss_cons (ps_if (pt_val (pe_callB (oIsi (K := K)) (by rfl) B.isinstance_ (by decide +kernel) (pa_cons (pv 1) (pa_cons (pe_tup (pa_cons (pe_bltn (v := .ty "list") (by rfl) B.list_ (by decide +kernel) rfl) (pa_cons (pe_bltn (v := .ty "tuple") (by rfl) B.tuple_ (by decide +kernel) rfl) pa_nil))) pa_nil))))
    (pss_cons (ps_if (PW.pt (pw_or (pt_cmpR (oNe (K := K) hr.units) (pe_callB (oIsi (K := K)) (by rfl) B.isinstance_ (by decide +kernel) (pa_cons (pv 0) (pa_cons (pe_bltn (v := .ty "list") (by rfl) B.list_ (by decide +kernel) rfl) pa_nil))) (pe_callB (oIsi (K := K)) (by rfl) B.isinstance_ (by decide +kernel) (pa_cons (pv 1) (pa_cons (pe_bltn (v := .ty "list") (by rfl) B.list_ (by decide +kernel) rfl) pa_nil))) (nomark _)) (pw_or1 (pt_cmpR (oNe (K := K) hr.units) (pe_callB (oIsi (K := K)) (by rfl) B.isinstance_ (by decide +kernel) (pa_cons (pv 0) (pa_cons (pe_bltn (v := .ty "tuple") (by rfl) B.tuple_ (by decide +kernel) rfl) pa_nil))) (pe_callB (oIsi (K := K)) (by rfl) B.isinstance_ (by decide +kernel) (pa_cons (pv 1) (pa_cons (pe_bltn (v := .ty "tuple") (by rfl) B.tuple_ (by decide +kernel) rfl) pa_nil))) (nomark _)))))
    (pss_one (ps_ret pe_bl))
    pss_nil)
    (pss_one (ps_ret (pe_and (pe_cmpR (oEq (K := K) hr.units) (pe_callB (oLen (K := K)) (by rfl) B.len_ (by decide +kernel) (pa_cons (pv 0) pa_nil)) (pe_callB (oLen (K := K)) (by rfl) B.len_ (by decide +kernel) (pa_cons (pv 1) pa_nil)) (nomark _)) (pe_one (pe_callB (oAll (K := K) rfl) (by rfl) B.all_ (by decide +kernel) (pa_cons (pe_lc (own := [("_law_one", 2), ("_law_other", 3)]) (tt := tYes) (by rfl) nd (pi_zipAK (K := K) (by rfl) B.zip_ (pa_cons (pv 0) (pa_cons (pv 1) pa_nil))) (blkOk_by (N := N_w_same) (own := [("_law_one", 2), ("_law_other", 3)]) (sc := defScope s_w_same) (by decide +kernel)) (fun _ _ _ _ _ => (pg_tupG (K := K) (n := 2) (by rfl) (pgs_cons (pg_name (i := 2) nd rfl (by first | exact Or.inl rfl | exact Or.inr rfl)) (pgs_cons (pg_name (i := 3) nd rfl (by first | exact Or.inl rfl | exact Or.inr rfl)) pgs_nil)))) (fun _ _ _ _ _ => pts_nil) (fun _ _ _ _ _ => (pe_callH c_w_same hr (by rfl) (pa_cons (pv 2) (pa_cons (pv 3) pa_nil))))) pa_nil)))))))
    pss_nil)
    (pss_cons (ps_if (PW.pt (pw_or (pt_cmpR oIs (pv 1) pe_non (nomark _)) (pw_or1 (pt_val (pe_callB (oIsi (K := K)) (by rfl) B.isinstance_ (by decide +kernel) (pa_cons (pv 1) (pa_cons (pe_bltn (v := .ty "str") (by rfl) B.str_ (by decide +kernel) rfl) pa_nil)))))))
    (pss_one (ps_ret (pe_and (pe_cmpR (oEq (K := K) hr.units) (pv 0) (pv 1) (nomark _)) (pe_one (pe_cmpR (oEq (K := K) hr.units) (pe_callB (oIsi (K := K)) (by rfl) B.isinstance_ (by decide +kernel) (pa_cons (pv 0) (pa_cons (pe_bltn (v := .ty "str") (by rfl) B.str_ (by decide +kernel) rfl) pa_nil))) (pe_callB (oIsi (K := K)) (by rfl) B.isinstance_ (by decide +kernel) (pa_cons (pv 1) (pa_cons (pe_bltn (v := .ty "str") (by rfl) B.str_ (by decide +kernel) rfl) pa_nil))) (nomark _))))))
    pss_nil)
    (pss_cons (ps_if (pt_val (pe_callB (oIsi (K := K)) (by rfl) B.isinstance_ (by decide +kernel) (pa_cons (pv 1) (pa_cons (pe_bltn (v := .ty "bool") (by rfl) B.bool_ (by decide +kernel) rfl) pa_nil))))
    (pss_one (ps_ret (pe_and (pe_callB (oIsi (K := K)) (by rfl) B.isinstance_ (by decide +kernel) (pa_cons (pv 0) (pa_cons (pe_bltn (v := .ty "bool") (by rfl) B.bool_ (by decide +kernel) rfl) pa_nil))) (pe_one (pe_cmpR (oEq (K := K) hr.units) (pv 0) (pv 1) (nomark _))))))
    pss_nil)
    (pss_one (ps_ret (pe_and (pe_callB (oIsi (K := K)) (by rfl) B.isinstance_ (by decide +kernel) (pa_cons (pv 0) (pa_cons (pe_bltn (v := .ty "int") (by rfl) B.int_ (by decide +kernel) rfl) pa_nil))) (pe_and (pe_not (pe_callB (oIsi (K := K)) (by rfl) B.isinstance_ (by decide +kernel) (pa_cons (pv 0) (pa_cons (pe_bltn (v := .ty "bool") (by rfl) B.bool_ (by decide +kernel) rfl) pa_nil)))) (pe_one (pe_cmpR (oEq (K := K) hr.units) (pv 0) (pv 1) (nomark _)))))))))), ?_⟩
    have S0 : Pu B0 H B0 H := Pu.new hsub
    have eT : ∀ {b : Bool} {H' : Hp}, b = true → Same H H' → Q (.bl b) H' := fun e s => by rw [e]; exact q _ s
    cases hS with
    | non => walk_at "go"; exact eT rfl (Pu.old (by assumption))
    | bl b => walk_at "go"; exact eT (decide_eq_true rfl) (Pu.old (by assumption))
    | int i => walk_at "go"; exact eT (decide_eq_true rfl) (Pu.old (by assumption))
    | str z => walk_at "go"; exact eT rfl (Pu.old (by assumption))
    | lst h1 h2 h3 h4 =>
      have hl := h4.length
      walk_at "go"
      rename_i tp B1 H1 S1 O1 K1 hp1 hB1
      refine ⟨_, _, _, _, rfl, .inl ⟨.inl (.inl (S1.sub _ _ (K1 _ _ h1))), .inl (.inl (S1.sub _ _ (K1 _ _ h2))), ?_⟩⟩
      refine S1.lc (wk_zip _ _ _ _) (by omega) (fun H' s => ⟨.inl (.inl (s _ _ (K1 _ _ h1))), .inl (.inl (s _ _ (K1 _ _ h2)))⟩) (Each fun _ _ v => v = .bl true) Each.zero (Each.mono fun _ _ _ _ _ r => r)
        (fun i x acc B3 H3 H3' hi K3 hs3 hy hI hl3 Qk Qn qk qn => ?_) (fun p' B' H' xs S' O' K' hp' hB' hI => ?_)
      · obtain ⟨T, x', y', rfl, hT, rfl, hx, hy⟩ := hy
        have S4 := (Pu.new hs3).alloc (o := .tup [x', y']) hT
        walk_at "go"
        exact ⟨x', y', _, rfl, S4.sub, (h4.at hx hy).mono ((K1.trans K3).trans S4.kn), fun H5 s5 => qk _ _ _ (S4.pure s5) (hI.step rfl)⟩
      · have e := all_bl hI.1 hI.2
        walk_at "go"
        refine ⟨p', _, rfl, .inl (.inl (S'.sub _ _ (by rw [hB', e]))), ?_⟩
        refine eT ?_ S'.old
        rw [List.all_replicate]
        split <;> rfl
    | tup h1 h2 h3 h4 =>
      have hl := h4.length
      walk_at "go"
      rename_i tp B1 H1 S1 O1 K1 hp1 hB1
      refine ⟨_, _, _, _, rfl, .inr ⟨.inl (.inl (S1.sub _ _ (K1 _ _ h1))), .inl (.inl (S1.sub _ _ (K1 _ _ h2))), ?_⟩⟩
      refine S1.lc (wk_zipT _ _ _ _) (by omega) (fun H' s => ⟨.inl (.inl (s _ _ (K1 _ _ h1))), .inl (.inl (s _ _ (K1 _ _ h2)))⟩) (Each fun _ _ v => v = .bl true) Each.zero (Each.mono fun _ _ _ _ _ r => r)
        (fun i x acc B3 H3 H3' hi K3 hs3 hy hI hl3 Qk Qn qk qn => ?_) (fun p' B' H' xs S' O' K' hp' hB' hI => ?_)
      · obtain ⟨T, x', y', rfl, hT, rfl, hx, hy⟩ := hy
        have S4 := (Pu.new hs3).alloc (o := .tup [x', y']) hT
        walk_at "go"
        exact ⟨x', y', _, rfl, S4.sub, (h4.at hx hy).mono ((K1.trans K3).trans S4.kn), fun H5 s5 => qk _ _ _ (S4.pure s5) (hI.step rfl)⟩
      · have e := all_bl hI.1 hI.2
        walk_at "go"
        refine ⟨p', _, rfl, .inl (.inl (S'.sub _ _ (by rw [hB', e]))), ?_⟩
        refine eT ?_ S'.old
        rw [List.all_replicate]
        split <;> rfl
theorem ok_w_same {P : Program} {w : World} {K : PySem.W.Frag} {mg : Str → Option Value} {base : Heap} (B : Blt mg) {f : Addr} {fd : FuncData} (F : Fun K "_law_same" "_law_same" s_w_same f fd)
    (hm : mg "_law_same" = some (.ref f)) (hb : Binds K fd ["_law_found", "_law_due_here"] []) : FnOk P w K mg base CX0 26 f fd ["_law_found", "_law_due_here"] sp_w_same := by
  have all : ∀ n, FnOk P w K mg base CX0 n f fd ["_law_found", "_law_due_here"] (spSame n) := by
    intro n
    induction n with
    | zero => exact ⟨fun _ _ _ _ h => h.elim, fun _ _ _ _ _ _ _ _ _ _ _ _ _ h => h.elim⟩
    | succ n ih => exact ok_w_same_step B ⟨f, fd, hm, F.kp, hb, ih⟩ F
  exact all 26

abbrev s_w_less : Stmt := topS 18
abbrev N_w_less : List Str := ["_law_one", "_law_other", "_law_a", "_law_b"]
theorem sc_w_less : FnScope N_w_less ["_law_one", "_law_other"] (defScope s_w_less) := ⟨rfl, rfl, rfl, by decide +kernel, rfl, by decide +kernel, by decide +kernel⟩
def sp_w_less : Sp := fun vs H Q _ => ∃ (x y : Str), vs = [.str x, .str y] ∧ x.length ≤ 100000 ∧ y.length ≤ 100000 ∧ ∀ H', Same H H' → Q (.int (-lk x y)) H'
theorem ok_w_less {P : Program} {w : World} {K : PySem.W.Frag} {mg : Str → Option Value} {base : Heap} (B : Blt mg)   {f : Addr} {fd : FuncData} (F : Fun K "_law_less" "_law_less" s_w_less f fd) :
    FnOk P w K mg base CX0 1 f fd ["_law_one", "_law_other"] (sp_w_less) := by
  refine F.ok sc_w_less (fun vs H Q E h => ?_) (fun cdv A outer s H vs Q E hr h => ?_)
  · obtain ⟨x, y, rfl, _⟩ := h; rfl
  · have nd := sc_w_less.nd
    obtain ⟨x, y, rfl, hx, hy, q⟩ := h
    refine ⟨_, (pss_cons (ps_for PassesOwn.never rfl (pi_zipSS (by rfl) B.zip_ (pa_cons (pv 0) (pa_cons (pv 1) pa_nil))) (pg_tupG (K := K) (n := 2) (by rfl) (pgs_cons (pg_name (i := 2) nd rfl (.inl rfl)) (pgs_cons (pg_name (i := 3) nd rfl (.inl rfl)) pgs_nil)))
        (pss_one (ps_if (pt_cmpR (oNe (K := K) hr.units) (pv 2) (pv 3) (nomark _))
        (pss_one (ps_ret (pe_ifExp (pt_cmpR (oLt hr.units) (pv 2) (pv 3) (nomark _)) pe_int (pe_un un_neg pe_int))))
        pss_nil)))
        (pss_one (ps_ret (pe_op oSub (pe_callTy oInt (by rfl) B.int_ (by decide +kernel) (pa_cons (pe_cmpR (oLt hr.units) (pe_callB (oLen (K := K)) (by rfl) B.len_ (by decide +kernel) (pa_cons (pv 0) pa_nil)) (pe_callB (oLen (K := K)) (by rfl) B.len_ (by decide +kernel) (pa_cons (pv 1) pa_nil)) (nomark _)) pa_nil)) (pe_callTy oInt (by rfl) B.int_ (by decide +kernel) (pa_cons (pe_cmpR (oGt hr.units) (pe_callB (oLen (K := K)) (by rfl) B.len_ (by decide +kernel) (pa_cons (pv 0) pa_nil)) (pe_callB (oLen (K := K)) (by rfl) B.len_ (by decide +kernel) (pa_cons (pv 1) pa_nil)) (nomark _)) pa_nil)))))), ?_⟩
    have hl := lcp_le (tl x) (tl y)
    have he := cmpL_end (tl x) (tl y)
    walk_at "go"
    refine ⟨x, y, rfl, ?_⟩
    refine for_wk (wk_zipS x y) (fun i σ H' => (∃ v1 v2, σ = [some (.str x), some (.str y), v1, v2]) ∧ Same H H' ∧ i ≤ lc x y) ⟨⟨_, _, rfl⟩, Same.refl _, Nat.zero_le _⟩ (fun _ _ _ _ _ => trivial) ?_ ?_
    · rintro i v σ' H1 H2 hi ⟨⟨v1, v2, rfl⟩, hs, hil⟩ ⟨T, c, d, rfl, hT, rfl, hc, hd⟩
      have hs2 : Same H (upd H1 T (.tup [.str ⟨#[c]⟩, .str ⟨#[d]⟩])) := hs.trans (Same.updN hT)
      walk_at "go"
      refine g_iteN (fun h1 => ?_) (fun h1 => ?_)
      · walk_at "go"
        have hcd : c ≠ d := fun z => h1 (by rw [z])
        have hil' : i = lc x y := by
          refine Decidable.byContradiction fun z => ?_
          obtain ⟨c', e1, e2⟩ := lcp_at (tl x) (tl y) i (by unfold lc at *; omega)
          rw [hc] at e1; rw [hd] at e2
          exact hcd (by rw [Option.some.inj e1, Option.some.inj e2])
        have e := cmpL_at (tl x) (tl y) c d (by rw [hil'] at hc; exact hc) (by rw [hil'] at hd; exact hd)
        refine g_ite (fun h5 => ?_) (fun h5 => ?_)
        · walk_at "go"
          have q' := q _ hs2
          rw [if_pos (one_lt.mp h5)] at e
          unfold lk at q'; rw [e] at q'; exact q'
        · walk_at "go"
          have q' := q _ hs2
          rw [if_neg (fun z => h5 (one_lt.mpr z))] at e
          unfold lk at q'; rw [e] at q'; exact q'
      · walk_at "go"
        refine ⟨⟨_, _, rfl⟩, hs2, ?_⟩
        have hcd : c = d := one_eq.mp h1
        have : i ≠ lc x y := fun z => lcp_end (tl x) (tl y) c d (by rw [z] at hc; exact hc) (by rw [z] at hd; exact hd) hcd
        omega
    · rintro σ' H1 ⟨⟨v1, v2, rfl⟩, hs, hil⟩
      walk_at "go"
      have q' := q _ hs
      have e : (if decide ((x.length : Int) < y.length) = true then (1 : Int) else 0) - (if decide ((y.length : Int) < x.length) = true then 1 else 0) = -lk x y := by
        unfold lk
        rw [TL.len_tl, TL.len_tl]
        unfold lc at hil
        by_cases h1 : (tl x).length < (tl y).length
        · rw [if_pos (decide_eq_true (by omega)), if_neg (by simpa using (by omega : ((tl x).length : Int) ≤ (tl y).length)), he.2.1 (by omega) (by omega)]; rfl
        · by_cases h2 : (tl y).length < (tl x).length
          · rw [if_neg (by simpa using (by omega : ((tl y).length : Int) ≤ (tl x).length)), if_pos (decide_eq_true (by omega)), he.2.2 (by omega) (by omega)]; rfl
          · rw [if_neg (by simpa using (by omega : ((tl y).length : Int) ≤ (tl x).length)), if_neg (by simpa using (by omega : ((tl x).length : Int) ≤ (tl y).length)), he.1 (by omega) (by omega)]; rfl
      rw [e]; exact q'
abbrev s_w_due : Stmt := topS 20
abbrev N_w_due : List Str := ["_law_keys_here", "_law_place"]
theorem sc_w_due : FnScope N_w_due ["_law_keys_here"] (defScope s_w_due) := ⟨rfl, rfl, rfl, by decide +kernel, rfl, by decide +kernel, by decide +kernel⟩
def sp_w_due : Sp := fun vs H Q _ => ∃ (p : Addr) (ys : List Str), vs = [.ref p] ∧ H p = some (.lst (ys.map V.str)) ∧ ys.length ≤ 100000 ∧ (∀ y ∈ ys, y.length ≤ 100000) ∧ ∀ o H', Same H H' → Brk ys o → Q (optV o) H'
theorem ok_w_due {P : Program} {w : World} {K : PySem.W.Frag} {mg : Str → Option Value} {base : Heap} (B : Blt mg) (c_w_less : Has P w K mg base 1 "_law_less" ["_law_one", "_law_other"] (sp_w_less))  {f : Addr} {fd : FuncData} (F : Fun K "_law_due" "_law_due" s_w_due f fd) :
    FnOk P w K mg base CX0 2 f fd ["_law_keys_here"] (sp_w_due) := by
  refine F.ok sc_w_due (fun vs H Q E h => ?_) (fun cdv A outer s H vs Q E hr h => ?_)
  · obtain ⟨p, ys, rfl, _⟩ := h; rfl
  · have nd := sc_w_due.nd
    obtain ⟨p, ys, rfl, hp, hl, hy, q⟩ := h
    refine ⟨_, (pss_cons (ps_for PassesOwn.never rfl (pi_range2 (by rfl) B.range_ (pa_cons pe_int (pa_cons (pe_callB (oLen (K := K)) (by rfl) B.len_ (by decide +kernel) (pa_cons (pv 0) pa_nil)) pa_nil))) (pg_name (i := 1) nd rfl (.inl rfl))
        (pss_one (ps_if (pt_cmpR (oEq (K := K) hr.units) (pe_callH c_w_less (hr.mono (by decide)) (by rfl) (pa_cons (pe_ix (oIx (K := K)) (pv 0) (pv 1) (fun _ _ => rfl)) (pa_cons (pe_ix (oIx (K := K)) (pv 0) (pe_op oSub (pv 1) pe_int) (fun _ _ => rfl)) pa_nil))) pe_int (nomark _))
        (pss_one (ps_ret (pv 1)))
        pss_nil)))
        (pss_one (ps_ret pe_non))), ?_⟩
    have lm : (ys.map V.str).length = ys.length := List.length_map ..
    walk_at "go"
    refine ⟨_, _, rfl, ⟨by omega, by omega, by omega, by omega⟩, ?_⟩
    refine for_wk (wk_rng 1 _) (fun i σ H' => (∃ v1, σ = [some (.ref p), v1]) ∧ Same H H' ∧ ∀ (j : Nat) a b, j < i → ys[j]? = some a → ys[j + 1]? = some b → ¬ lk b a < 0) ⟨⟨_, rfl⟩, Same.refl _, fun _ _ _ h => absurd h (Nat.not_lt_zero _)⟩ (fun _ _ _ _ _ => trivial) ?_ ?_
    · rintro i x σ' Hz H1 hi ⟨⟨v1, rfl⟩, hs, hno⟩ ⟨rfl, rfl⟩
      have h1 : i < ys.length := by omega
      have h2 : i + 1 < ys.length := by omega
      have hp1 := hs _ _ hp
      walk_at "go"
      rw [show (1 : Int) + (i : Int) = ((i + 1 : Nat) : Int) by omega]
      refine ix_str hp1 h2 ?_
      walk_at "go"
      rw [show ((i + 1 : Nat) : Int) - 1 = (i : Int) by omega]
      refine ix_str hp1 h1 ?_
      walk_at "go"
      refine ⟨_, _, rfl, hy _ (List.getElem_mem _), hy _ (List.getElem_mem _), fun H2 s2 => ?_⟩
      have hv := lk_val (ys[i + 1]'h2) (ys[i]'h1)
      walk_at "go"
      refine g_ite (fun hc => ?_) (fun hc => ?_)
      · walk_at "go"
        refine q (some (i + 1)) _ (hs.trans s2) ⟨by omega, h2, fun a b ha hb => ?_, fun j a b hj => hno j a b (by omega)⟩
        have e1 := ha.symm.trans (List.getElem?_eq_getElem h1)
        have e2 := hb.symm.trans (List.getElem?_eq_getElem h2)
        rw [Option.some.inj e1, Option.some.inj e2]; omega
      · walk_at "go"
        refine ⟨⟨_, rfl⟩, hs.trans s2, fun j a b hj ha hb => ?_⟩
        by_cases e : j = i
        · subst e
          have e1 := ha.symm.trans (List.getElem?_eq_getElem h1)
          have e2 := hb.symm.trans (List.getElem?_eq_getElem h2)
          rw [Option.some.inj e1, Option.some.inj e2]; omega
        · exact hno j a b (by omega) ha hb
    · rintro σ' H1 ⟨⟨v1, rfl⟩, hs, hno⟩
      walk_at "go"
      refine q none _ hs fun j a b ha hb => hno j a b ?_ ha hb
      have : j + 1 < ys.length := by
        refine Decidable.byContradiction fun z => ?_
        rw [List.getElem?_eq_none (by omega)] at hb; cases hb
      omega
abbrev s_w_mix : Stmt := topS 11
abbrev N_w_mix : List Str := ["_law_cell", "_law_k", "_law_m"]
theorem sc_w_mix : FnScope N_w_mix ["_law_cell", "_law_k"] (defScope s_w_mix) := ⟨rfl, rfl, rfl, by decide +kernel, rfl, by decide +kernel, by decide +kernel⟩
def mixF (c k : Int) : Int := (((c % 2147483629 + k * k * 7919 + 11) * 48271) % 2147483647) * (((c % 2147483629 + k * k * 7919 + 11) * 48271) % 2147483647) % 1999999973
theorem mixF_nonneg (c k : Int) : 0 ≤ mixF c k := Int.emod_nonneg _ (by decide)
theorem mixF_lt (c k : Int) : mixF c k < 1999999973 := Int.emod_lt_of_pos _ (by decide)
def sp_w_mix : Sp := fun vs H Q _ => ∃ c k : Int, vs = [.int c, .int k] ∧ -9223372036854775808 < k ∧ k < 9223372036854775808 ∧ Q (.int (mixF c k)) H
theorem ok_w_mix {P : Program} {w : World} {K : PySem.W.Frag} {mg : Str → Option Value} {base : Heap} (B : Blt mg)   {f : Addr} {fd : FuncData} (F : Fun K "_law_mix" "_law_mix" s_w_mix f fd) :
    FnOk P w K mg base CX0 1 f fd ["_law_cell", "_law_k"] (sp_w_mix) := by
  refine F.ok sc_w_mix (fun vs H Q E h => ?_) (fun cdv A outer s H vs Q E hr h => ?_)
  · obtain ⟨c, k, rfl, _⟩ := h; rfl
  · have nd := sc_w_mix.nd
    obtain ⟨c, k, rfl, h0, h1, q⟩ := h
    refine ⟨_, (pss_cons (ps_set (i := 2) nd rfl (.inl rfl) (pe_op oMod (pe_op oMul (pe_op (oAdd (K := K)) (pe_op (oAdd (K := K)) (pe_op oMod (pv 0) pe_int) (pe_op oMul (pe_op oMul (pv 1) (pv 1)) pe_int)) pe_int) pe_int) pe_int))
        (pss_one (ps_ret (pe_op oMod (pe_op oMul (pv 2) (pv 2)) pe_int)))), ?_⟩
    have hm := Int.emod_nonneg ((c % 2147483629 + k * k * 7919 + 11) * 48271) (show (2147483647 : Int) ≠ 0 by decide)
    have hm' := Int.emod_lt_of_pos ((c % 2147483629 + k * k * 7919 + 11) * 48271) (show (0 : Int) < 2147483647 by decide)
    walk_at "go"
    exact q
abbrev s_w_pick : Stmt := topS 13
abbrev N_w_pick : List Str := ["_law_left_here", "_law_many", "_law_digit"]
theorem sc_w_pick : FnScope N_w_pick ["_law_left_here", "_law_many"] (defScope s_w_pick) := ⟨rfl, rfl, rfl, by decide +kernel, rfl, by decide +kernel, by decide +kernel⟩
abbrev sp_w_pick : Sp := spPick
theorem ok_w_pick {P : Program} {w : World} {K : PySem.W.Frag} {mg : Str → Option Value} {base : Heap} (B : Blt mg) (c_w_mix : Has P w K mg base 1 "_law_mix" ["_law_cell", "_law_k"] (sp_w_mix))  {f : Addr} {fd : FuncData} (F : Fun K "_law_pick" "_law_pick" s_w_pick f fd) :
    FnOk P w K mg base CX0 2 f fd ["_law_left_here", "_law_many"] (sp_w_pick) := by
  refine F.ok sc_w_pick (fun vs H Q E h => ?_) (fun cdv A outer s H vs Q E hr h => ?_)
  · obtain ⟨a, n, B, m, rfl, _⟩ := h; rfl
  · have nd := sc_w_pick.nd
    obtain ⟨a, n, B0, m, rfl, hsub, hna, hleft, hn, hm0, hm1, q⟩ := h
    obtain ⟨o, hL, x, y, z, rfl, hx, hz, hzn⟩ := hleft
    refine ⟨_, (pss_cons (ps_asg (pe_op (oAdd (K := K)) (pe_ix (oIx (K := K)) (pv 0) pe_int (fun _ _ => rfl)) pe_int) (pg_sub (pv 0) pe_int set_list))
        (pss_cons (ps_if (pt_cmpR (oGt hr.units) (pe_ix (oIx (K := K)) (pv 0) pe_int (fun _ _ => rfl)) pe_int (nomark _))
        (pss_cons (ps_set (i := 2) nd rfl (.inl rfl) (pe_op oMod (pe_ix (oIx (K := K)) (pv 0) pe_int (fun _ _ => rfl)) (pv 1)))
        (pss_cons (ps_asg (pe_op oDiv (pe_ix (oIx (K := K)) (pv 0) pe_int (fun _ _ => rfl)) (pv 1)) (pg_sub (pv 0) pe_int set_list))
        (pss_one (ps_ret (pv 2)))))
        pss_nil)
        (pss_one (ps_ret (pe_op oMod (pe_op oDiv (pe_callH c_w_mix (hr.mono (by decide)) (by rfl) (pa_cons (pe_callH c_w_mix (hr.mono (by decide)) (by rfl) (pa_cons (pe_ix (oIx (K := K)) (pv 0) pe_int (fun _ _ => rfl)) (pa_cons (pe_ix (oIx (K := K)) (pv 0) pe_int (fun _ _ => rfl)) pa_nil))) (pa_cons (pe_op (oAdd (K := K)) (pe_ix (oIx (K := K)) (pv 0) pe_int (fun _ _ => rfl)) pe_int) pa_nil))) pe_int) (pv 1)))))), ?_⟩
    have fin : ∀ x' y' : Int, 0 ≤ x' → ∀ d : Int, 0 ≤ d → d < m → Q (.int d) (upd H a (.lst [.int x', .int y', .int (z + 1)])) := fun x' y' hx' d h0 h1 => by
      refine q _ _ h0 h1 ⟨Same.refl _, fun p u e => ?_, hna, ⟨_, upd_same, x', y', z + 1, rfl, hx', by omega, by omega⟩, fun p u hp e => by rw [upd_ne hp]; exact e, fun _ _ => rfl⟩
      have : p ≠ a := fun z => by rw [z, hna] at e; cases e
      rw [upd_ne this]; exact hsub p u e
    walk_at "go"
    refine g_ite (fun hc => ?_) (fun hc => ?_)
    · walk_at "go"
      rw [upd_upd]
      exact fin _ _ (Int.ediv_nonneg hx (by omega)) _ (Int.emod_nonneg _ (by omega)) (Int.emod_lt_of_pos _ hm0)
    · walk_at "go"
      refine ⟨_, _, rfl, by omega, by omega, ?_⟩
      walk_at "go"
      refine ⟨_, _, rfl, by omega, by omega, ?_⟩
      walk_at "go"
      exact fin x y hx _ (Int.emod_nonneg _ (by omega)) (Int.emod_lt_of_pos _ hm0)
abbrev s_w_stems : Stmt := topS 14
abbrev N_w_stems : List Str := ["_law_left_here", "_law_some", "_law_k"]
theorem sc_w_stems : FnScope N_w_stems ["_law_left_here"] (defScope s_w_stems) := ⟨rfl, rfl, rfl, by decide +kernel, rfl, by decide +kernel, by decide +kernel⟩
def sp_w_stems : Sp := spGen 5 (fun _ rest => rest = []) fun _ B v => ∃ p zs, v = .ref p ∧ Kys 24 B p zs ∧ 1 ≤ zs.length ∧ zs.length ≤ 4
def stemL : List Str := [Str.ofString "", Str.ofString "a", Str.ofString "ab", Str.ofString "aba", Str.ofString "abab", Str.ofString "b", Str.ofString "zebra", Str.ofString "aaaaaaaa", Str.ofString "knowswho", Str.ofString "z", Str.ofString "abababababab", Txt.mul (Str.ofString "a") 24]
theorem stemL_ok : ∀ z ∈ stemL, Ky 24 z := by
  unfold Ky LtL
  decide +kernel
theorem use_stems {a : Addr} {B0 H0 B H : Hp} {n : Nat} {Q : VK} {E : XK} (S : G.St a B0 H0 n B H) (hn : 5 ≤ n)
    (q : ∀ (p : Addr) (zs : List Str) B' H', B' p = some (.lst (zs.map V.str)) → (∀ z ∈ zs, Ky 24 z) → 1 ≤ zs.length → zs.length ≤ 4 → G.St a B0 H0 (n - 5) B' H' → Oth a B H B' H' → Same B B' → Q (.ref p) H') : sp_w_stems [.ref a] H Q E :=
  S.gen hn rfl fun v B' H' S' O' K' ⟨p, zs, e, ⟨h1, h2⟩, h3, h4⟩ => by rw [e]; exact q p zs B' H' h1 h2 h3 h4 S' O' K'
theorem ok_w_stems {P : Program} {w : World} {K : PySem.W.Frag} {mg : Str → Option Value} {base : Heap} (B : Blt mg) (c_w_pick : Has P w K mg base 2 "_law_pick" ["_law_left_here", "_law_many"] (sp_w_pick))  {f : Addr} {fd : FuncData} (F : Fun K "_law_stems" "_law_stems" s_w_stems f fd) :
    FnOk P w K mg base CX0 3 f fd ["_law_left_here"] (sp_w_stems) := by
  refine F.ok sc_w_stems (fun vs H Q E h => ?_) (fun cdv A outer s H vs Q E hr h => ?_)
  · obtain ⟨a, rest, n, B, rfl, _, _, _, _, rfl, _⟩ := h; rfl
  · have nd := sc_w_stems.nd
    obtain ⟨a, rest, n, B0, rfl, hsub, hna, hleft, hn, rfl, q⟩ := h
    refine ⟨_, (pss_cons (ps_set (i := 1) nd rfl (.inr rfl) (pe_lst (pa_cons pe_str (pa_cons pe_str (pa_cons pe_str (pa_cons pe_str (pa_cons pe_str (pa_cons pe_str (pa_cons pe_str (pa_cons pe_str (pa_cons pe_str (pa_cons pe_str (pa_cons pe_str (pa_cons (pe_op oMul pe_str pe_int) pa_nil))))))))))))))
        (pss_one (ps_ret (pe_lc (own := [("_law_k", 2)]) (g := gName 2) (tt := tYes) (by rfl) nd (pi_range1 (by rfl) B.range_ (pa_cons (pe_op (oAdd (K := K)) pe_int (pe_callH c_w_pick (hr.mono (by decide)) (by rfl) (pa_cons (pv 0) (pa_cons pe_int pa_nil)))) pa_nil)) (blkOk_by (N := N_w_stems) (own := [("_law_k", 2)]) (sc := defScope s_w_stems) (by decide +kernel)) (fun _ _ _ _ _ => (pg_name (i := 2) nd rfl (by first | exact Or.inl rfl | exact Or.inr rfl))) (fun _ _ _ _ _ => pts_nil) (fun _ _ _ _ _ => (pe_ix (oIx (K := K)) (pv 1) (pe_callH c_w_pick (hr.mono (by decide)) (by rfl) (pa_cons (pv 0) (pa_cons pe_int pa_nil))) (fun _ _ => rfl))))))), ?_⟩
    have S0 : G.St a B0 H n B0 H := G.St.new hsub hleft hna
    walk_at "go"
    refine G.m_str (mulOk (by decide) (by decide) (by decide)) ?_
    walk_at "go"
    rename_i p B1 H1 S1 O1 K1 hp hB d H2 hd0 hd1 S2 O2
    refine ⟨_, rfl, by omega, by omega, ?_⟩
    refine S2.lc (cost := 1) (wk_rng 0 _) (by omega) (by omega) (fun _ _ => trivial) (Each fun _ _ v => ∃ z, v = .str z ∧ Ky 24 z) Each.zero (Each.mono fun _ _ _ _ _ r => r) (fun i x acc B3 H3 H3' n3 hi K3 S3 hn3 hy hI hl Qk Qn qk qn => ?_) (fun p' B' H' xs S' O' K' hp' hB' hI => ?_)
    · obtain ⟨rfl, rfl⟩ := hy
      walk_at "go"
      rename_i d' H4 hd0' hd1' S4 O4
      obtain ⟨z, hz, ha⟩ := at_str (zs := stemL) hd0' hd1'
      refine ix_lst (S4.sub _ _ (K3 _ _ hB)) ha ?_
      exact qk _ _ _ S4 (hI.step ⟨z, rfl, stemL_ok z hz⟩)
    · obtain ⟨zs, rfl, hz⟩ := strs_of (mem_ix hI.2)
      have hl := hI.1
      rw [List.length_map] at hl
      exact q _ B' H' (S'.le (by omega)) ⟨p', zs, rfl, ⟨hB', hz⟩, by omega, by omega⟩
abbrev s_w_key : Stmt := topS 15
abbrev N_w_key : List Str := ["_law_left_here", "_law_stems_here", "_law_tail", "_law_k"]
theorem sc_w_key : FnScope N_w_key ["_law_left_here", "_law_stems_here"] (defScope s_w_key) := ⟨rfl, rfl, rfl, by decide +kernel, rfl, by decide +kernel, by decide +kernel⟩
def sp_w_key : Sp := spGen 6 (fun B rest => ∃ p zs, rest = [.ref p] ∧ Kys 24 B p zs ∧ 1 ≤ zs.length ∧ zs.length ≤ 1000) fun _ _ v => ∃ z, v = .str z ∧ Ky 28 z
theorem use_key {a : Addr} {B0 H0 B H : Hp} {n : Nat} {p : Addr} {zs : List Str} {Q : VK} {E : XK} (S : G.St a B0 H0 n B H) (hn : 6 ≤ n) (hp : B p = some (.lst (zs.map V.str))) (hz : ∀ z ∈ zs, Ky 24 z) (h1 : 1 ≤ zs.length) (h2 : zs.length ≤ 1000)
    (q : ∀ z B' H', Ky 28 z → G.St a B0 H0 (n - 6) B' H' → Oth a B H B' H' → Same B B' → Q (.str z) H') : sp_w_key [.ref a, .ref p] H Q E :=
  S.gen hn ⟨p, zs, rfl, ⟨hp, hz⟩, h1, h2⟩ fun v B' H' S' O' K' ⟨z, e, hz⟩ => by rw [e]; exact q z B' H' hz S' O' K'
theorem ok_w_key {P : Program} {w : World} {K : PySem.W.Frag} {mg : Str → Option Value} {base : Heap} (B : Blt mg) (c_w_pick : Has P w K mg base 2 "_law_pick" ["_law_left_here", "_law_many"] (sp_w_pick))  {f : Addr} {fd : FuncData} (F : Fun K "_law_key" "_law_key" s_w_key f fd) :
    FnOk P w K mg base CX0 3 f fd ["_law_left_here", "_law_stems_here"] (sp_w_key) := by
  refine F.ok sc_w_key (fun vs H Q E h => ?_) (fun cdv A outer s H vs Q E hr h => ?_)
  · obtain ⟨a, rest, n, B, rfl, _, _, _, _, ⟨p, zs, rfl, _⟩, _⟩ := h; rfl
  · have nd := sc_w_key.nd
    obtain ⟨a, rest, n, B0, rfl, hsub, hna, hleft, hn, ⟨ps, zs, rfl, ⟨hK1, hK2⟩, hl1, hl2⟩, q⟩ := h
    refine ⟨_, (pss_cons (ps_set (i := 2) nd rfl (.inl rfl) (pe_joinK (K := K) pe_str (pe_lc (own := [("_law_k", 3)]) (g := gName 3) (tt := tYes) (by rfl) nd (pi_range1 (by rfl) B.range_ (pa_cons (pe_callH c_w_pick (hr.mono (by decide)) (by rfl) (pa_cons (pv 0) (pa_cons pe_int pa_nil))) pa_nil)) (blkOk_by (N := N_w_key) (own := [("_law_k", 3)]) (sc := defScope s_w_key) (by decide +kernel)) (fun _ _ _ _ _ => (pg_name (i := 3) nd rfl (by first | exact Or.inl rfl | exact Or.inr rfl))) (fun _ _ _ _ _ => pts_nil) (fun _ _ _ _ _ => (pe_ix (oIx (K := K)) pe_str (pe_callH c_w_pick (hr.mono (by decide)) (by rfl) (pa_cons (pv 0) (pa_cons pe_int pa_nil))) (fun _ _ => rfl))))))
        (pss_one (ps_ret (pe_op (oAdd (K := K)) (pe_ix (oIx (K := K)) (pv 1) (pe_callH c_w_pick (hr.mono (by decide)) (by rfl) (pa_cons (pv 0) (pa_cons (pe_callB (oLen (K := K)) (by rfl) B.len_ (by decide +kernel) (pa_cons (pv 1) pa_nil)) pa_nil))) (fun _ _ => rfl)) (pv 2))))), ?_⟩
    have S0 : G.St a B0 H n B0 H := G.St.new hsub hleft hna
    walk_at "go"
    refine ⟨⟨_, rfl⟩, ?_⟩
    walk_at "go"
    rename_i d H2 hd0 hd1 S2 O2
    refine ⟨_, rfl, by omega, by omega, ?_⟩
    refine S2.lc (cost := 1) (wk_rng 0 _) (by omega) (by omega) (fun _ _ => trivial) (Each fun _ _ v => ∃ z, v = .str z ∧ Ky 1 z) Each.zero (Each.mono fun _ _ _ _ _ r => r) (fun i x acc B3 H3 H3' n3 hi K3 S3 hn3 hy hI hl Qk Qn qk qn => ?_) (fun p' B' H' xs S' O' K' hp' hB' hI => ?_)
    · obtain ⟨rfl, rfl⟩ := hy
      walk_at "go"
      rename_i d' H4 hd0' hd1' S4 O4
      obtain ⟨c, hc, ha⟩ := at_chr (zs := tl (Str.ofString "ababcz")) hd0' hd1'
      refine ix_text (szl' (by decide)) ha ?_
      exact qk _ _ _ S4 (hI.step ⟨_, rfl, Ky.one ((show ∀ c ∈ tl (Str.ofString "ababcz"), 97 ≤ c ∧ c ≤ 122 by decide +kernel) c hc)⟩)
    · obtain ⟨ys, rfl, hz⟩ := strs_of (mem_ix hI.2)
      have hl := hI.1
      rw [List.length_map] at hl
      have hj := Ky.join (y := Str.ofString "") (by decide +kernel) hz
      have hs := Ky.sum hz
      have e0 : (Str.ofString "").length = 0 := by decide +kernel
      have e2 : (zs.map V.str).length = zs.length := List.length_map ..
      refine ⟨_, p', ys, rfl, rfl, .inl (.inl (.inl (S'.sub _ _ hB'))), by rw [e0]; omega, ?_⟩
      walk_at "go"
      rename_i d' H4 hd0' hd1' S4 O4
      obtain ⟨z, hz, ha⟩ := at_str (zs := zs) hd0' (by omega)
      refine ix_lst (S4.sub _ _ (K' _ _ hK1)) ha ?_
      have h24 := hK2 z hz
      have hl24 := h24.len
      have hlj := hj.len
      walk_at "go"
      exact q _ _ _ (S4.le (by omega)) ⟨_, rfl, (h24.app hj).le (by omega)⟩
abbrev s_w_keys : Stmt := topS 16
abbrev N_w_keys : List Str := ["_law_left_here", "_law_stems_here", "_law_most", "_law_found", "_law_k", "_law_key_here"]
theorem sc_w_keys : FnScope N_w_keys ["_law_left_here", "_law_stems_here", "_law_most"] (defScope s_w_keys) := ⟨rfl, rfl, rfl, by decide +kernel, rfl, by decide +kernel, by decide +kernel⟩
def sp_w_keys : Sp := spGen 500 (fun B rest => ∃ (p : Addr) (zs : List Str) (m : Int), rest = [.ref p, .int m] ∧ Kys 24 B p zs ∧ 1 ≤ zs.length ∧ zs.length ≤ 1000 ∧ 0 ≤ m ∧ m ≤ 60) fun rest B v => ∃ (p : Addr) (zs : List Str) (q : V) (m : Int), v = .ref p ∧ Kys 28 B p zs ∧ rest = [q, .int m] ∧ (zs.length : Int) ≤ m
theorem use_keys {a : Addr} {B0 H0 B H : Hp} {n : Nat} {p : Addr} {zs : List Str} {m : Int} {Q : VK} {E : XK} (S : G.St a B0 H0 n B H) (hn : 500 ≤ n) (hp : B p = some (.lst (zs.map V.str))) (hz : ∀ z ∈ zs, Ky 24 z) (h1 : 1 ≤ zs.length) (h2 : zs.length ≤ 1000) (hm0 : 0 ≤ m) (hm1 : m ≤ 60)
    (q : ∀ (p : Addr) (ys : List Str) B' H', B' p = some (.lst (ys.map V.str)) → (∀ z ∈ ys, Ky 28 z) → (ys.length : Int) ≤ m → G.St a B0 H0 (n - 500) B' H' → Oth a B H B' H' → Same B B' → Q (.ref p) H') : sp_w_keys [.ref a, .ref p, .int m] H Q E :=
  S.gen hn ⟨p, zs, m, rfl, ⟨hp, hz⟩, h1, h2, hm0, hm1⟩ fun v B' H' S' O' K' ⟨p', ys, q', m', e, ⟨hy1, hy2⟩, er, hl⟩ => by
    rw [e]
    cases er
    exact q p' ys B' H' hy1 hy2 hl S' O' K'
theorem ok_w_keys {P : Program} {w : World} {K : PySem.W.Frag} {mg : Str → Option Value} {base : Heap} (B : Blt mg) (c_w_pick : Has P w K mg base 2 "_law_pick" ["_law_left_here", "_law_many"] (sp_w_pick)) (c_w_key : Has P w K mg base 3 "_law_key" ["_law_left_here", "_law_stems_here"] (sp_w_key))  {f : Addr} {fd : FuncData} (F : Fun K "_law_keys" "_law_keys" s_w_keys f fd) :
    FnOk P w K mg base CX0 4 f fd ["_law_left_here", "_law_stems_here", "_law_most"] (sp_w_keys) := by
  refine F.ok sc_w_keys (fun vs H Q E h => ?_) (fun cdv A outer s H vs Q E hr h => ?_)
  · obtain ⟨a, rest, n, B, rfl, _, _, _, _, ⟨p, zs, m, rfl, _⟩, _⟩ := h; rfl
  · have nd := sc_w_keys.nd
    obtain ⟨a, rest, n, B0, rfl, hsub, hna, hleft, hn, ⟨ps, zs, m, rfl, ⟨hK1, hK2⟩, hl1, hl2, hm0, hm1⟩, q⟩ := h
    refine ⟨_, (pss_cons (ps_set (i := 3) nd rfl (.inl rfl) (pe_lst pa_nil))
        (pss_cons (ps_for PassesOwn.never rfl (pi_range1 (by rfl) B.range_ (pa_cons (pe_callH c_w_pick (hr.mono (by decide)) (by rfl) (pa_cons (pv 0) (pa_cons (pe_op (oAdd (K := K)) (pv 2) pe_int) pa_nil))) pa_nil)) (pg_name (i := 4) nd rfl (.inl rfl))
        (pss_cons (ps_set (i := 5) nd rfl (.inl rfl) (pe_callH c_w_key (hr.mono (by decide)) (by rfl) (pa_cons (pv 0) (pa_cons (pv 1) pa_nil))))
        (pss_cons (ps_if (PW.pt (pw_and (pt_cmpR (oNe (K := K) hr.units) (pv 3) (pe_lst pa_nil) (nomark _)) (pw_and1 (pt_cmpR (oEq (K := K) hr.units) (pe_callH c_w_pick (hr.mono (by decide)) (by rfl) (pa_cons (pv 0) (pa_cons pe_int pa_nil))) pe_int (nomark _)))))
        (pss_one (ps_set (i := 5) nd rfl (.inl rfl) (pe_ix (oIx (K := K)) (pv 3) (pe_callH c_w_pick (hr.mono (by decide)) (by rfl) (pa_cons (pv 0) (pa_cons (pe_callB (oLen (K := K)) (by rfl) B.len_ (by decide +kernel) (pa_cons (pv 3) pa_nil)) pa_nil))) (fun _ _ => rfl))))
        pss_nil)
        (pss_one (ps_expr (pe_bmK (K := K) PySem.F.plainAttrs_list PySem.F.slot_list_append PySem.F.type_list_append mt_append (pv 3) (pa_cons (pv 5) pa_nil)))))))
        (pss_one (ps_ret (pv 3))))), ?_⟩
    have S0 : G.St a B0 H n B0 H := G.St.new hsub hleft hna
    walk_at "gov"
    refine S0.atVol fun pf H1 S1 O1 n1 e1 b1 f1 pa => ?_
    walk_at "gov"
    rename_i d H2 hd0 hd1 S2 O2
    obtain ⟨e2, b2⟩ := O2.cell pa e1 b1
    refine ⟨_, rfl, by omega, by omega, ?_⟩
    refine for_wk (wk_rng 0 _) (fun i σ H' => (∃ v4 v5, σ = [some (.ref a), some (.ref ps), some (.int m), some (.ref pf), v4, v5]) ∧ ∃ (B' : Hp) (ys : List Str), G.St a B0 H (n - 1 - i * 8) B' H' ∧ H' pf = some (.lst (ys.map V.str)) ∧ B' pf = none ∧ (∀ z ∈ ys, Ky 28 z) ∧ ys.length = i)
      ⟨⟨_, _, rfl⟩, B0, [], S2.le (by omega), e2, b2, (fun z hz => nomatch hz), rfl⟩ (fun _ _ _ _ _ => trivial) ?_ ?_
    · rintro i x σ' Hz H3 hi ⟨⟨v4, v5, rfl⟩, B3, ys, S3, e3, b3, hys, hyl⟩ ⟨rfl, rfl⟩
      have ly : (ys.map V.str).length = ys.length := List.length_map ..
      have hi60 : i < 60 := by omega
      walk_at "gov"
      refine use_key S3 (by omega) (S3.kn _ _ hK1) hK2 hl1 hl2 fun z B4 H4 hz S4 O4 K4 => ?_
      obtain ⟨e4, b4⟩ := O4.cell pa e3 b3
      walk_at "gov"
      refine S4.atNew fun p5 B5 H5 S5 O5 K5 n5 e5 => ?_
      obtain ⟨e6, b6⟩ := O5.cell pa e4 b4
      refine ne_strs (ms := []) (S5.sub _ _ e5 |> fun _ => e6) (S5.sub _ _ e5) (fun z hz => (hys z hz).ok) (fun z hz => nomatch hz) ?_
      have fin : ∀ (y : Str) (B7 H7 : Hp), Ky 28 y → G.St a B0 H (n - 1 - (i + 1) * 8) B7 H7 → B7 pf = none →
          ∃ (B' : Hp) (ws : List Str), G.St a B0 H (n - 1 - (i + 1) * 8) B' (upd H7 pf (.lst (ys.map V.str ++ [.str y]))) ∧ upd H7 pf (.lst (ys.map V.str ++ [.str y])) pf = some (.lst (ws.map V.str)) ∧ B' pf = none ∧ (∀ z ∈ ws, Ky 28 z) ∧ ws.length = i + 1 := fun y B7 H7 hy S7 b7 =>
        ⟨B7, ys ++ [y], S7.put f1 b7 pa, by rw [upd_same, List.map_append]; rfl, b7, fun z hz => by
          rcases List.mem_append.mp hz with hz | hz
          · exact hys z hz
          · rw [List.mem_singleton.mp hz]; exact hy, by rw [List.length_append, hyl]; rfl⟩
      walk_at "gov"
      refine g_iteN (fun hne => ?_) (fun hne => ?_)
      · walk_at "gov"
        rename_i d7 H7 h70 h71 S7 O7
        obtain ⟨e7, b7⟩ := O7.cell pa e6 b6
        walk_at "gov"
        refine g_ite (fun h0 => ?_) (fun h0 => ?_)
        · have hpos : 0 < ys.length := by
            cases ys with
            | nil => exact absurd rfl hne
            | cons _ _ => exact Nat.succ_pos _
          walk_at "gov"
          rename_i d8 H8 h80 h81 S8 O8
          obtain ⟨e8, b8⟩ := O8.cell pa e7 b7
          refine ix_strsP e8 h80 (by omega) fun y hy => ?_
          walk_at "gov"
          refine app_lst e8 (szl'' (by omega)) ?_
          exact ⟨⟨_, _, rfl⟩, fin y _ _ (hys y hy) (S8.le (by omega)) b8⟩
        · walk_at "gov"
          refine app_lst e7 (szl'' (by omega)) ?_
          exact ⟨⟨_, _, rfl⟩, fin z _ _ hz (S7.le (by omega)) b7⟩
      · walk_at "gov"
        refine app_lst e6 (szl'' (by omega)) ?_
        exact ⟨⟨_, _, rfl⟩, fin z _ _ hz (S5.le (by omega)) b6⟩
    · rintro σ' H3 ⟨⟨v4, v5, rfl⟩, B3, ys, S3, e3, b3, hys, hyl⟩
      walk_at "go"
      exact q _ _ _ ((S3.know e3 f1 b3 pa).le (by omega)) ⟨pf, ys, _, m, rfl, ⟨upd_same, hys⟩, rfl, by omega⟩
abbrev s_w_spoilt : Stmt := topS 19
abbrev N_w_spoilt : List Str := ["_law_left_here", "_law_row", "_law_way", "_law_at", "_law_to"]
theorem sc_w_spoilt : FnScope N_w_spoilt ["_law_left_here", "_law_row"] (defScope s_w_spoilt) := ⟨rfl, rfl, rfl, by decide +kernel, rfl, by decide +kernel, by decide +kernel⟩
def sp_w_spoilt : Sp := spGen 5 (fun B rest => ∃ p zs, rest = [.ref p] ∧ Kys 28 B p zs ∧ zs.length ≤ 1000) fun rest B v => ∃ (p0 : Addr) (ys : List Str) (p : Addr) (zs : List Str), rest = [.ref p0] ∧ B p0 = some (.lst (ys.map V.str)) ∧ v = .ref p ∧ Kys 33 B p zs ∧ zs.length ≤ ys.length + 1
theorem ok_w_spoilt {P : Program} {w : World} {K : PySem.W.Frag} {mg : Str → Option Value} {base : Heap} (B : Blt mg) (c_w_pick : Has P w K mg base 2 "_law_pick" ["_law_left_here", "_law_many"] (sp_w_pick))  {f : Addr} {fd : FuncData} (F : Fun K "_law_spoilt" "_law_spoilt" s_w_spoilt f fd) :
    FnOk P w K mg base CX0 3 f fd ["_law_left_here", "_law_row"] (sp_w_spoilt) := by
  refine F.ok sc_w_spoilt (fun vs H Q E h => ?_) (fun cdv A outer s H vs Q E hr h => ?_)
  · obtain ⟨a, rest, n, B, rfl, _, _, _, _, ⟨p, zs, rfl, _⟩, _⟩ := h; rfl
  · have nd := sc_w_spoilt.nd
    obtain ⟨a, rest, n, B0, rfl, hsub, hna, hleft, hn, ⟨p0, ys, rfl, ⟨hK1, hK2⟩, hl1⟩, q⟩ := h
    refine ⟨_, (pss_cons (ps_set (i := 1) nd rfl (.inl rfl) (pe_callTy (oList (K := K)) (by rfl) B.list_ (by decide +kernel) (pa_cons (pv 1) pa_nil)))
        (pss_cons (ps_set (i := 2) nd rfl (.inl rfl) (pe_callH c_w_pick (hr.mono (by decide)) (by rfl) (pa_cons (pv 0) (pa_cons pe_int pa_nil))))
        (pss_cons (ps_if (PW.pt (pw_or (pt_cmpR (oEq (K := K) hr.units) (pv 2) pe_int (nomark _)) (pw_or1 (pt_cmpR (oEq (K := K) hr.units) (pv 1) (pe_lst pa_nil) (nomark _)))))
        (pss_one (ps_ret (pv 1)))
        pss_nil)
        (pss_cons (ps_par (i := 3) (j := 4) (by rfl) nd rfl rfl (by decide) rfl rfl (pa_cons (pe_callH c_w_pick (hr.mono (by decide)) (by rfl) (pa_cons (pv 0) (pa_cons (pe_callB (oLen (K := K)) (by rfl) B.len_ (by decide +kernel) (pa_cons (pv 1) pa_nil)) pa_nil))) (pa_cons (pe_callH c_w_pick (hr.mono (by decide)) (by rfl) (pa_cons (pv 0) (pa_cons (pe_callB (oLen (K := K)) (by rfl) B.len_ (by decide +kernel) (pa_cons (pv 1) pa_nil)) pa_nil))) pa_nil)) (by rfl))
        (pss_cons (ps_if (pt_cmpR (oEq (K := K) hr.units) (pv 2) pe_int (nomark _))
        (pss_one (ps_asg (pe_tup (pa_cons (pe_ix (oIx (K := K)) (pv 1) (pv 4) (fun _ _ => rfl)) (pa_cons (pe_ix (oIx (K := K)) (pv 1) (pv 3) (fun _ _ => rfl)) pa_nil))) (pg_tupG (K := K) (n := 2) (by rfl) (pgs_cons (pg_sub (pv 1) (pv 3) set_list) (pgs_cons (pg_sub (pv 1) (pv 4) set_list) pgs_nil)))))
        (pss_one (ps_if (pt_cmpR (oEq (K := K) hr.units) (pv 2) pe_int (nomark _))
        (pss_one (ps_asg (pe_slice (oSl (K := K)) (pe_ix (oIx (K := K)) (pv 1) (pv 3) (fun _ _ => rfl)) po_none (po_some (pe_callH c_w_pick (hr.mono (by decide)) (by rfl) (pa_cons (pv 0) (pa_cons (pe_op (oAdd (K := K)) (pe_callB (oLen (K := K)) (by rfl) B.len_ (by decide +kernel) (pa_cons (pe_ix (oIx (K := K)) (pv 1) (pv 3) (fun _ _ => rfl)) pa_nil)) pe_int) pa_nil))))) (pg_sub (pv 1) (pv 3) set_list)))
        (pss_one (ps_if (pt_cmpR (oEq (K := K) hr.units) (pv 2) pe_int (nomark _))
        (pss_one (ps_asg (pe_op (oAdd (K := K)) (pe_ix (oIx (K := K)) (pv 1) (pv 3) (fun _ _ => rfl)) (pe_ix (oIx (K := K)) pe_str (pe_callH c_w_pick (hr.mono (by decide)) (by rfl) (pa_cons (pv 0) (pa_cons pe_int pa_nil))) (fun _ _ => rfl))) (pg_sub (pv 1) (pv 3) set_list)))
        (pss_one (ps_if (pt_cmpR (oEq (K := K) hr.units) (pv 2) pe_int (nomark _))
        (pss_one (ps_set (i := 1) nd rfl (.inl rfl) (pe_revLK (K := K) (pv 1))))
        (pss_one (ps_expr (pe_bmK (K := K) PySem.F.plainAttrs_list PySem.F.slot_list_insert PySem.F.type_list_insert mt_insert (pv 1) (pa_cons (pv 4) (pa_cons (pe_op (oAdd (K := K)) (pe_slice (oSl (K := K)) (pe_ix (oIx (K := K)) (pv 1) (pv 3) (fun _ _ => rfl)) po_none (po_some pe_int)) pe_str) pa_nil))))))))))))
        (pss_one (ps_ret (pv 1)))))))), ?_⟩
    have S0 : G.St a B0 H n B0 H := G.St.new hsub hleft hna
    have hp0 := hsub _ _ hK1
    have hK3 := kys_le hK2 (show 28 ≤ 33 by decide)
    have lm : (ys.map V.str).length = ys.length := List.length_map ..
    have fin : ∀ (pr : Addr) (zs : List Str) (n' : Nat) (B' H' : Hp), H pr = none → pr ≠ a → B' pr = none → G.St a B0 H n' B' H' → n - 5 ≤ n' → H' pr = some (.lst (zs.map V.str)) → (∀ z ∈ zs, Ky 33 z) → zs.length ≤ ys.length + 1 → Q (.ref pr) H' :=
      fun pr zs n' B' H' h0 ha hb S hn' he hz hl => q _ _ _ ((S.know he h0 hb ha).le hn') ⟨p0, ys, pr, zs, rfl, (S.know he h0 hb ha).kn _ _ hK1, rfl, ⟨upd_same, hz⟩, hl⟩
    walk_at "gov"
    refine S0.atVol fun pr H1 S1 O1 n1 e1 b1 f1 pa => ?_
    walk_at "gov"
    rename_i d2 H2 h20 h21 S2 O2
    obtain ⟨e2, b2⟩ := O2.cell pa e1 b1
    walk_at "gov"
    refine g_ite (fun c2 => ?_) (fun c2 => ?_)
    · walk_at "gov"
      exact fin pr ys _ _ _ f1 pa b2 S2 (by omega) e2 hK3 (by omega)
    walk_at "gov"
    refine S2.atNew fun p3 B3 H3 S3 O3 K3 n3 e3 => ?_
    obtain ⟨e4, b4⟩ := O3.cell pa e2 b2
    refine eq_strs (ms := []) e4 (S3.sub _ _ e3) (fun z hz => (hK2 z hz).ok) (fun z hz => nomatch hz) ?_
    walk_at "gov"
    refine g_ite (fun c3 => ?_) (fun c3 => ?_)
    · walk_at "gov"
      exact fin pr ys _ _ _ f1 pa b4 S3 (by omega) e4 hK3 (by omega)
    have hpos : 0 < ys.length := by
      cases ys with
      | nil => exact absurd rfl c3
      | cons _ _ => exact Nat.succ_pos _
    walk_at "gov"
    rename_i d5 H5 h50 h51 S5 O5
    obtain ⟨e5, b5⟩ := O5.cell pa e4 b4
    walk_at "gov"
    rename_i d6 H6 h60 h61 S6 O6
    obtain ⟨e6, b6⟩ := O6.cell pa e5 b5
    obtain ⟨j, rfl⟩ := nat_of h50
    obtain ⟨k, rfl⟩ := nat_of h60
    have hj : j < ys.length := by omega
    have hk : k < ys.length := by omega
    have hkj := hK2 _ (List.getElem_mem hj)
    have hkk := hK2 _ (List.getElem_mem hk)
    have hkl := hkj.len
    clear S0 S1 S2 S3 S5 O1 O2 O3 O5 O6
    refine g_ite (fun c5 => ?_) (fun c5 => ?_)
    · walk_at "gov"
      refine ix_str e6 hk ?_
      walk_at "gov"
      refine ix_str e6 hj ?_
      walk_at "gov"
      rename_i t7 B7 H7 S7 O7 K7 n7 e7
      obtain ⟨e8, b8⟩ := O7.cell pa e6 b6
      refine setL_nat e8 (by omega) ?_
      walk_at "gov"
      refine setL_nat upd_same (by rw [List.length_set]; omega) ?_
      walk_at "gov"
      have S8 := (S7.put (o := .lst ((ys.map V.str).set j (.str (ys[k]'hk)))) f1 b8 pa).put (o := .lst (((ys.map V.str).set j (.str (ys[k]'hk))).set k (.str (ys[j]'hj)))) f1 b8 pa
      refine fin pr ((ys.set j (ys[k]'hk)).set k (ys[j]'hj)) _ _ _ f1 pa b8 S8 (by omega) ?_ (set_ok (set_ok hK3 (hkk.le (by decide))) (hkj.le (by decide))) (by rw [List.length_set, List.length_set]; omega)
      rw [upd_same, List.map_set, List.map_set]
    walk_at "gov"
    refine g_ite (fun c6 => ?_) (fun c6 => ?_)
    · walk_at "gov"
      refine ix_str e6 hj ?_
      walk_at "gov"
      refine ix_str e6 hj ?_
      walk_at "gov"
      rename_i d7 H7 h70 h71 S7 O7
      obtain ⟨e7, b7⟩ := O7.cell pa e6 b6
      walk_at "gov"
      refine setL_nat e7 (by omega) ?_
      walk_at "gov"
      have S8 := S7.put (o := .lst ((ys.map V.str).set j (.str (cutS (ys[j]'hj) none (some d7))))) f1 b7 pa
      refine fin pr (ys.set j (cutS (ys[j]'hj) none (some d7))) _ _ _ f1 pa b7 S8 (by omega) ?_ (set_ok hK3 ((hkj.cut _ _).le (by decide))) (by rw [List.length_set]; omega)
      rw [upd_same, List.map_set]
    walk_at "gov"
    refine g_ite (fun c7 => ?_) (fun c7 => ?_)
    · walk_at "gov"
      refine ix_str e6 hj ?_
      walk_at "gov"
      rename_i d7 H7 h70 h71 S7 O7
      obtain ⟨e7, b7⟩ := O7.cell pa e6 b6
      have l2 : (tl (Str.ofString "az")).length = 2 := by decide +kernel
      refine ix_textP (z := Str.ofString "az") (by decide) h70 (by omega) fun c hc => ?_
      have hc1 : Ky 1 (⟨#[c]⟩ : Str) := Ky.one ((show ∀ c ∈ tl (Str.ofString "az"), 97 ≤ c ∧ c ≤ 122 by decide +kernel) c hc)
      have hc2 := hc1.len
      walk_at "gov"
      refine setL_nat e7 (by omega) ?_
      walk_at "gov"
      have S8 := S7.put (o := .lst ((ys.map V.str).set j (.str ((ys[j]'hj) ++ ⟨#[c]⟩)))) f1 b7 pa
      refine fin pr (ys.set j ((ys[j]'hj) ++ ⟨#[c]⟩)) _ _ _ f1 pa b7 S8 (by omega) ?_ (set_ok hK3 ((hkj.app hc1).le (by decide))) (by rw [List.length_set]; omega)
      rw [upd_same, List.map_set]
    walk_at "gov"
    refine g_ite (fun c8 => ?_) (fun c8 => ?_)
    · walk_at "gov"
      refine S6.atVol fun pr2 H7 S7 O7 n7 e7 b7 f7 pa7 => ?_
      walk_at "gov"
      refine fin pr2 ys.reverse _ _ _ f7 pa7 b7 S7 (by omega) (by rw [e7, List.map_reverse]) (fun z hz => hK3 z (List.mem_reverse.mp hz)) (by rw [List.length_reverse]; omega)
    · walk_at "gov"
      refine ix_str e6 hj ?_
      have hm : Ky 1 (Str.ofString "m") := by unfold Ky LtL; decide +kernel
      have hm2 := hm.len
      have hc4 := (hkj.cut none (some 4)).len
      walk_at "gov"
      refine ins_lst e6 (by omega) (by omega) ?_
      walk_at "gov"
      have S8 := S6.put (o := .lst ((ys.map V.str).take k ++ .str (cutS (ys[j]'hj) none (some 4) ++ Str.ofString "m") :: (ys.map V.str).drop k)) f1 b6 pa
      refine fin pr (ys.take k ++ (cutS (ys[j]'hj) none (some 4) ++ Str.ofString "m") :: ys.drop k) _ _ _ f1 pa b6 S8 (by omega) ?_ (ins_ok hK3 (((hkj.cut _ _).app hm).le (by decide))) (by rw [List.length_append, List.length_cons, List.length_take, List.length_drop]; omega)
      rw [upd_same, List.map_append, List.map_cons, List.map_take, List.map_drop]
abbrev s_w_made : Stmt := topS 21
abbrev N_w_made : List Str := ["_law_left_here", "_law_keys_here", "_law_way", "_law_row"]
theorem sc_w_made : FnScope N_w_made ["_law_left_here"] (defScope s_w_made) := ⟨rfl, rfl, rfl, by decide +kernel, rfl, by decide +kernel, by decide +kernel⟩
def sp_w_made : Sp := spGen 512 (fun _ rest => rest = []) fun _ B v => ∃ (p : Addr) (zs : List Str), v = .ref p ∧ Kys 33 B p zs ∧ zs.length ≤ 58
theorem ok_w_made {P : Program} {w : World} {K : PySem.W.Frag} {mg : Str → Option Value} {base : Heap} (B : Blt mg) (c_w_pick : Has P w K mg base 2 "_law_pick" ["_law_left_here", "_law_many"] (sp_w_pick)) (c_w_stems : Has P w K mg base 3 "_law_stems" ["_law_left_here"] (sp_w_stems)) (c_w_keys : Has P w K mg base 4 "_law_keys" ["_law_left_here", "_law_stems_here", "_law_most"] (sp_w_keys)) (c_w_spoilt : Has P w K mg base 3 "_law_spoilt" ["_law_left_here", "_law_row"] (sp_w_spoilt))  {f : Addr} {fd : FuncData} (F : Fun K "_law_made" "_law_made" s_w_made f fd) :
    FnOk P w K mg base CX0 5 f fd ["_law_left_here"] (sp_w_made) := by
  refine F.ok sc_w_made (fun vs H Q E h => ?_) (fun cdv A outer s H vs Q E hr h => ?_)
  · obtain ⟨a, rest, n, B, rfl, _, _, _, _, rfl, _⟩ := h; rfl
  · have nd := sc_w_made.nd
    obtain ⟨a, rest, n, B0, rfl, hsub, hna, hleft, hn, rfl, q⟩ := h
    refine ⟨_, (pss_cons (ps_set (i := 1) nd rfl (.inl rfl) (pe_callH c_w_keys (hr.mono (by decide)) (by rfl) (pa_cons (pv 0) (pa_cons (pe_callH c_w_stems (hr.mono (by decide)) (by rfl) (pa_cons (pv 0) pa_nil)) (pa_cons (pe_ix (oIx (K := K)) (pe_lst (pa_cons pe_int (pa_cons pe_int pa_nil))) (pe_callTy oInt (by rfl) B.int_ (by decide +kernel) (pa_cons (pe_cmpR (oEq (K := K) hr.units) (pe_callH c_w_pick (hr.mono (by decide)) (by rfl) (pa_cons (pv 0) (pa_cons pe_int pa_nil))) pe_int (nomark _)) pa_nil)) (fun _ _ => rfl)) pa_nil)))))
        (pss_cons (ps_set (i := 2) nd rfl (.inl rfl) (pe_callH c_w_pick (hr.mono (by decide)) (by rfl) (pa_cons (pv 0) (pa_cons pe_int pa_nil))))
        (pss_cons (ps_if (pt_cmpR (oEq (K := K) hr.units) (pv 2) pe_int (nomark _))
        (pss_one (ps_ret (pv 1)))
        pss_nil)
        (pss_cons (ps_set (i := 3) nd rfl (.inl rfl) (pe_callB (oSorted (K := K) rfl hr.units) (by rfl) B.sorted_ (by decide +kernel) (pa_cons (pv 1) pa_nil)))
        (pss_one (ps_ret (pe_ix (oIx (K := K)) (pe_lst (pa_cons (pv 3) (pa_cons (pe_callH c_w_spoilt (hr.mono (by decide)) (by rfl) (pa_cons (pv 0) (pa_cons (pv 3) pa_nil))) (pa_cons (pe_op (oAdd (K := K)) (pv 3) (pv 3)) pa_nil)))) (pe_op oSub (pv 2) pe_int) (fun _ _ => rfl)))))))), ?_⟩
    have S0 : G.St a B0 H n B0 H := G.St.new hsub hleft hna
    walk_at "go"
    refine use_stems S0 (by omega) fun ps zs B3 H3 hps hz hz1 hz2 S3 O3 K3 => ?_
    walk_at "go"
    rename_i p4 B4 H4 S4 O4 K4 n4 e4 d5 H5 h50 h51 S5 O5
    refine ix_lstP (S5.sub _ _ e4) (by split <;> omega) (by split <;> simp) fun v hv => ?_
    obtain ⟨m, rfl, hm0, hm1⟩ : ∃ m : Int, v = .int m ∧ 0 ≤ m ∧ m ≤ 29 := by
      simp only [List.mem_cons, List.not_mem_nil, or_false] at hv
      rcases hv with rfl | rfl
      all_goals exact ⟨_, rfl, by omega, by omega⟩
    walk_at "go"
    refine use_keys S5 (by omega) (K4 _ _ hps) hz hz1 (by omega) hm0 (by omega) fun pk xs B6 H6 hpk hxs hxl S6 O6 K6 => ?_
    walk_at "go"
    rename_i d7 H7 h70 h71 S7 O7
    have h33 := kys_le hxs (show 28 ≤ 33 by decide)
    refine g_ite (fun c7 => ?_) (fun c7 => ?_)
    · walk_at "go"
      exact q _ _ _ (S7.le (by omega)) ⟨pk, xs, rfl, ⟨hpk, h33⟩, by omega⟩
    · walk_at "go"
      refine sorted_strs (S7.sub _ _ hpk) (by omega) fun ys hperm hrow => ?_
      refine S7.atNew fun pr B8 H8 S8 O8 K8 n8 e8 => ?_
      have hyl := hperm.length_eq
      have hys : ∀ y ∈ ys, Ky 28 y := fun y hy => hxs y (hperm.mem_iff.mp hy)
      have hys33 := kys_le hys (show 28 ≤ 33 by decide)
      have lm : (ys.map V.str).length = ys.length := List.length_map ..
      walk_at "go"
      refine S8.gen (by omega) ⟨pr, ys, rfl, ⟨e8, hys⟩, by omega⟩ fun v B9 H9 S9 O9 K9 ⟨p0, ys', p9, zs9, er, ey', ev, ⟨e9, hz9⟩, hl9⟩ => ?_
      subst ev
      cases er
      have ey2 := (K9 _ _ e8).symm.trans ey'
      have hyy : ys'.length = ys.length := by
        have := congrArg (fun o => match o with | some (HO.lst l) => l.length | _ => 0) ey2
        simpa using this.symm
      walk_at "go"
      refine a_lst (S9.sub _ _ (K9 _ _ e8)) (S9.sub _ _ (K9 _ _ e8)) (szl' (by omega)) ?_
      rw [← List.map_append]
      refine S9.atNew fun pd B10 H10 S10 O10 K10 n10 e10 => ?_
      walk_at "go"
      rename_i p11 B11 H11 S11 O11 K11 n11 e11
      refine ix_lstP (S11.sub _ _ e11) (by omega) (by simp only [List.length_cons, List.length_nil]; omega) fun v hv => ?_
      refine q _ _ _ (S11.le (by omega)) ?_
      simp only [List.mem_cons, List.not_mem_nil, or_false] at hv
      rcases hv with rfl | rfl | rfl
      · exact ⟨pr, ys, rfl, ⟨K11 _ _ (K10 _ _ (K9 _ _ e8)), hys33⟩, by omega⟩
      · exact ⟨p9, zs9, rfl, ⟨K11 _ _ (K10 _ _ e9), hz9⟩, by omega⟩
      · exact ⟨pd, ys ++ ys, rfl, ⟨K11 _ _ e10, app_ok hys33 hys33⟩, by rw [List.length_append]; omega⟩
abbrev s_law : Stmt := topS 22
abbrev N_law : List Str := ["_law_script", "_law_k", "_law_left_here", "_law_turn", "_law_keys_here", "_law_kept", "_law_due_here", "_law_again", "_law_found", "_law_row"]
theorem sc_law : FnScope N_law ["_law_script"] (defScope s_law) := ⟨rfl, rfl, rfl, by decide +kernel, rfl, by decide +kernel, by decide +kernel⟩
theorem brk_row {ys : List Str} {n : Nat} (h : Brk ys (some n)) : Row (ys.take n) := by
  refine row_of fun i a b h1 h2 => ?_
  have hi : i + 1 < n := by
    refine Decidable.byContradiction fun z => ?_
    rw [List.getElem?_eq_none (by rw [List.length_take]; omega)] at h2; cases h2
  rw [List.getElem?_take, if_pos (by omega)] at h1 h2
  exact h.2.2.2 i a b hi h1 h2
theorem brk_last {ys : List Str} {a b : Str} (hr : Row ys) (ha : ys[ys.length - 1]? = some a) (hb : lk b a < 0) : Brk (ys ++ [b]) (some ys.length) := by
  have hpos : 0 < ys.length := by
    refine Decidable.byContradiction fun z => ?_
    rw [List.getElem?_eq_none (by omega)] at ha; cases ha
  refine ⟨hpos, by rw [List.length_append]; exact Nat.lt_succ_self _, fun x y hx hy => ?_, fun i x y hi hx hy => ?_⟩
  · rw [List.getElem?_append_left (by omega), ha] at hx
    rw [List.getElem?_append_right (Nat.le_refl _), Nat.sub_self] at hy
    rw [← Option.some.inj hx, ← Option.some.inj hy]; exact hb
  · rw [List.getElem?_append_left (by omega)] at hx hy
    exact lk_nlt.mpr (row_at hr (Nat.lt_succ_self i) hx hy)
theorem optV_sm {B : Hp} {n : Nat} (o : Option Nat) : Sm B n (optV o) (optV o) := by
  cases o with
  | none => exact .non
  | some i => exact .int _
theorem cmpL_cut : ∀ (xs : List Nat), xs ≠ [] → cmpL xs.dropLast xs = -1
  | [], h => absurd rfl h
  | [_], _ => rfl
  | x :: y :: r, _ => by
    show (if x = x then cmpL (y :: r).dropLast (y :: r) else _) = -1
    rw [if_pos rfl]; exact cmpL_cut (y :: r) (fun z => nomatch z)
theorem tl_cut_last (z : Str) (h : 0 < (tl z).length) : tl (cutS z none (some (-1))) = (tl z).dropLast := by
  rw [tl_cut, HT.sIx_none, List.drop_zero, Nat.sub_zero, List.dropLast_eq_take]
  congr 1
  have hl := TL.len_tl z
  show ((-1 : Int) + z.length).toNat = _
  omega
def sp_law (K : PySem.W.Frag) : Sp := fun vs H Q _ => ∃ (a : Addr) (ns : List Int), vs = [.ref a] ∧ SqL K H a (ns.map V.int) ∧ ns.length ≤ 63 ∧ ∀ H', Q (.bl true) H'
theorem ok_law {P : Program} {w : World} {K : PySem.W.Frag} {mg : Str → Option Value} {base : Heap} (B : Blt mg) (c_first_break : Has P w K mg base 4 "first_break" ["keys"] (sp_first_break)) (c_is_row : Has P w K mg base 5 "is_row" ["thing"] (sp_is_row)) (c_w_left : Has P w K mg base 1 "_law_left" ["_law_script", "_law_k"] (sp_w_left K)) (c_w_same : Has P w K mg base 26 "_law_same" ["_law_found", "_law_due_here"] (sp_w_same)) (c_w_due : Has P w K mg base 2 "_law_due" ["_law_keys_here"] (sp_w_due)) (c_w_made : Has P w K mg base 5 "_law_made" ["_law_left_here"] (sp_w_made))  {f : Addr} {fd : FuncData} (F : Fun K "law" "law" s_law f fd) :
    FnOk P w K mg base CX0 27 f fd ["_law_script"] (sp_law K) := by
  refine F.ok sc_law (fun vs H Q E h => ?_) (fun cdv A outer s H vs Q E hr h => ?_)
  · obtain ⟨a, ns, rfl, _⟩ := h; rfl
  · have nd := sc_law.nd
    obtain ⟨s0, ns, rfl, hS, hlen, q⟩ := h
    refine ⟨_, (pss_cons (ps_for PassesOwn.never rfl (pi_range1 (by rfl) B.range_ (pa_cons (pe_callB (oMax (K := K) rfl hr.units) (by rfl) B.max_ (by decide +kernel) (pa_cons pe_int (pa_cons (pe_callB (oMin (K := K) rfl hr.units) (by rfl) B.min_ (by decide +kernel) (pa_cons (pe_callB (oLen (K := K)) (by rfl) B.len_ (by decide +kernel) (pa_cons (pv 0) pa_nil)) (pa_cons pe_int pa_nil))) pa_nil))) pa_nil)) (pg_name (i := 1) nd rfl (.inl rfl))
        (pss_cons (ps_set (i := 2) nd rfl (.inl rfl) (pe_callH c_w_left (hr.mono (by decide)) (by rfl) (pa_cons (pv 0) (pa_cons (pv 1) pa_nil))))
        (pss_one (ps_for PassesOwn.never rfl (pi_range1 (by rfl) B.range_ (pa_cons pe_int pa_nil)) (pg_name (i := 3) nd rfl (.inl rfl))
        (pss_cons (ps_set (i := 4) nd rfl (.inl rfl) (pe_callH c_w_made (hr.mono (by decide)) (by rfl) (pa_cons (pv 2) pa_nil)))
        (pss_cons (ps_set (i := 5) nd rfl (.inl rfl) (pe_callTy (oList (K := K)) (by rfl) B.list_ (by decide +kernel) (pa_cons (pv 4) pa_nil)))
        (pss_cons (ps_set (i := 6) nd rfl (.inl rfl) (pe_callH c_w_due (hr.mono (by decide)) (by rfl) (pa_cons (pv 4) pa_nil)))
        (pss_cons (ps_for PassesOwn.never rfl (pi_range1 (by rfl) B.range_ (pa_cons pe_int pa_nil)) (pg_name (i := 7) nd rfl (.inl rfl))
        (pss_cons (ps_set (i := 8) nd rfl (.inl rfl) (pe_callH c_first_break (hr.mono (by decide)) (by rfl) (pa_cons (pv 4) pa_nil)))
        (pss_one (ps_if (PW.pt (pw_or (pt_not (pt_val (pe_callH c_w_same (hr.mono (by decide)) (by rfl) (pa_cons (pv 8) (pa_cons (pv 6) pa_nil))))) (pw_or1 (pt_cmpR (oNe (K := K) hr.units) (pv 4) (pv 5) (nomark _)))))
        (pss_one (ps_ret pe_bl))
        pss_nil))))
        (pss_cons (ps_if (PW.pt (pw_and (pt_cmpR oIsN (pv 6) pe_non (nomark _)) (pw_and1 (pt_cmpR oIsN (pe_callH c_is_row (hr.mono (by decide)) (by rfl) (pa_cons (pe_slice (oSl (K := K)) (pv 4) po_none (po_some (pv 6))) pa_nil)) pe_bl (nomark _)))))
        (pss_one (ps_ret pe_bl))
        pss_nil)
        (pss_cons (ps_set (i := 9) nd rfl (.inl rfl) (pe_callB (oSorted (K := K) rfl hr.units) (by rfl) B.sorted_ (by decide +kernel) (pa_cons (pv 4) pa_nil)))
        (pss_one (ps_if (PW.pt (pw_and (pt_cmpR (oNe (K := K) hr.units) (pv 9) (pe_lst pa_nil) (nomark _)) (pw_and (pt_cmpR (oNe (K := K) hr.units) (pe_ix (oIx (K := K)) (pv 9) (pe_un un_neg pe_int) (fun _ _ => rfl)) pe_str (nomark _)) (pw_and1 (pt_not (pt_val (pe_callH c_w_same (hr.mono (by decide)) (by rfl) (pa_cons (pe_callH c_first_break (hr.mono (by decide)) (by rfl) (pa_cons (pe_op (oAdd (K := K)) (pv 9) (pe_lst (pa_cons (pe_slice (oSl (K := K)) (pe_ix (oIx (K := K)) (pv 9) (pe_un un_neg pe_int) (fun _ _ => rfl)) po_none (po_some (pe_un un_neg pe_int))) pa_nil))) pa_nil)) (pa_cons (pe_callB (oLen (K := K)) (by rfl) B.len_ (by decide +kernel) (pa_cons (pv 9) pa_nil)) pa_nil)))))))))
        (pss_one (ps_ret pe_bl))
        pss_nil))))))))))))
        (pss_one (ps_ret pe_bl))), ?_⟩
    walk_at "go"
    refine ⟨_, rfl, ?_, ?_, ?_⟩
    · split <;> split <;> omega
    · split <;> split <;> (try rw [List.length_map]) <;> omega
    generalize hN : (if (if (6 : Int) < ((ns.map V.int).length : Int) then (6 : Int) else ((ns.map V.int).length : Int)) > 2 then (if (6 : Int) < ((ns.map V.int).length : Int) then (6 : Int) else ((ns.map V.int).length : Int)) else 2).toNat = N
    have hN8 : N ≤ 6 := by
      rw [← hN]
      split <;> split <;> omega
    refine for_wk (wk_rng 0 N) (fun i σ H' => (∃ v1 v2 v3 v4 v5 v6 v7 v8 v9, σ = [some (.ref s0), v1, v2, v3, v4, v5, v6, v7, v8, v9]) ∧ Same H H') ⟨⟨_, _, _, _, _, _, _, _, _, rfl⟩, Same.refl _⟩ (fun _ _ _ _ _ => trivial) ?_ ?_
    · rintro i x σ' Hz H1 hi ⟨⟨v1, v2, v3, v4, v5, v6, v7, v8, v9, rfl⟩, hs1⟩ ⟨rfl, rfl⟩
      rw [Int.zero_add]
      walk_at "go"
      refine ⟨s0, ns, i, rfl, Same.seq hs1 hS, by omega, by omega, fun l hl => ?_⟩
      have S0 := St.made hl (leftF_ok ns i)
      walk_at "go"
      refine ⟨_, rfl, by decide, by decide, ?_⟩
      refine for_wk (wk_rng 0 5) (fun t σ H' => (∃ v3 v4 v5 v6 v7 v8 v9, σ = [some (.ref s0), some (.int i), some (.ref l), v3, v4, v5, v6, v7, v8, v9]) ∧ ∃ B', G.St l H1 (upd H1 l (.lst (leftF ns i))) (1152921504606846976 - t * 600) B' H') ⟨⟨_, _, _, _, _, _, _, rfl⟩, _, S0⟩ (fun _ _ _ _ _ => trivial) ?_ ?_
      · rintro t x σ' Hz H2 ht ⟨⟨v3, v4, v5, v6, v7, v8, v9, rfl⟩, B2, S2⟩ ⟨rfl, rfl⟩
        walk_at "go"
        refine S2.gen (by omega) rfl fun v B3 H3 S3 O3 K3 ⟨pk, ys, ev, ⟨ek, hys⟩, hyl⟩ => ?_
        subst ev
        have hok : ∀ z ∈ ys, PyData.strOk z = true := fun z hz => (hys z hz).ok
        have hlen' : ∀ y ∈ ys, y.length ≤ 100000 := fun y hy => by have := (hys y hy).len; omega
        have lm : (ys.map V.str).length = ys.length := List.length_map ..
        walk_at "go"
        refine S3.atNew fun pc B4 H4 S4 O4 K4 n4 e4 => ?_
        have ek4 := K4 _ _ ek
        walk_at "go"
        refine ⟨pk, ys, rfl, S4.sub _ _ ek4, by omega, hlen', fun o H5 s5 ho => ?_⟩
        have S5 := S4.pure s5
        walk_at "go"
        refine ⟨_, rfl, by decide, by decide, ?_⟩
        refine for_wk (wk_rng 0 _) (fun j σ H' => (∃ v7 v8 v9, σ = [some (.ref s0), some (.int i), some (.ref l), some (.int (0 + (t : Int))), some (.ref pk), some (.ref pc), some (optV o), v7, v8, v9]) ∧ G.St l H1 (upd H1 l (.lst (leftF ns i))) (1152921504606846976 - t * 600 - 512) B4 H')
          ⟨⟨_, _, _, rfl⟩, S5⟩ (fun _ _ _ _ _ => trivial) ?_ ?_
        · rintro j x σ' Hz H6 hj ⟨⟨v7, v8, v9, rfl⟩, S6⟩ ⟨rfl, rfl⟩
          walk_at "go"
          refine ⟨pk, ys, rfl, S6.sub _ _ ek4, by omega, hlen', fun o' ho' => ?_⟩
          cases ho.uniq ho'
          walk_at "go"
          refine ⟨_, _, _, rfl, Same.refl _, optV_sm o, fun H7 s7 => ?_⟩
          have S7 := S6.pure s7
          walk_at "go"
          refine ne_strs (S7.sub _ _ ek4) (S7.sub _ _ e4) hok hok ?_
          rw [decide_eq_true rfl]
          walk_at "go"
          exact ⟨⟨_, _, _, rfl⟩, S7⟩
        · rintro σ' H6 ⟨⟨v7, v8, v9, rfl⟩, S6⟩
          clear S2 S3 S4 S5 O3 O4
          cases o with
          | none =>
            have eo : optV none = V.non := rfl
            rw [eo]
            walk_at "go"
            have SX := S6
            have KX := Same.refl B4
            refine sorted_strs (SX.sub _ _ (KX _ _ ek4)) (by omega) fun rs hperm hrow => ?_
            refine SX.atNew fun pr B10 H10 S10 O10 K10 n10 e10 => ?_
            have hrl := hperm.length_eq
            have hrs : ∀ y ∈ rs, Ky 33 y := fun y hy => hys y (hperm.mem_iff.mp hy)
            have lr : (rs.map V.str).length = rs.length := List.length_map ..
            walk_at "go"
            refine S10.atNew fun p11 B11 H11 S11 O11 K11 n11 e11 => ?_
            refine ne_strs (ms := []) (S11.sub _ _ (K11 _ _ e10)) (S11.sub _ _ e11) (fun z hz => (hrs z hz).ok) (fun z hz => nomatch hz) ?_
            walk_at "go"
            refine g_iteN (fun hne => ?_) (fun hne => ?_)
            · have hpos : 0 < rs.length := by
                cases rs with
                | nil => exact absurd rfl hne
                | cons _ _ => exact Nat.succ_pos _
              obtain ⟨z, hz⟩ : ∃ z, rs[rs.length - 1]? = some z := ⟨_, List.getElem?_eq_getElem (by omega)⟩
              have hzk := hrs z (List.mem_of_getElem? hz)
              have hzl := hzk.len
              have hz' : (rs.map V.str)[(rs.map V.str).length - 1]? = some (.str z) := by rw [lr, List.getElem?_map, hz]; rfl
              have er11 := S11.sub _ _ (K11 _ _ e10)
              have ha := at_neg1 hz'
              walk_at "go"
              refine g_iteN (fun hz0 => ?_) (fun hz0 => ?_)
              · walk_at "go"
                rename_i p12 B12 H12 S12 O12 K12 n12 e12
                refine a_lst (S12.sub _ _ (K12 _ _ (K11 _ _ e10))) (S12.sub _ _ e12) (szl' (by simp only [List.length_cons, List.length_nil]; omega)) ?_
                refine S12.atNew fun p13 B13 H13 S13 O13 K13 n13 e13 => ?_
                have hzp : 0 < (tl z).length := by
                  refine Nat.pos_of_ne_zero fun h => hz0 (ext_tl ?_)
                  rw [List.eq_nil_of_length_eq_zero h]; rfl
                have hb : lk (cutS z none (some (-1))) z < 0 := by
                  unfold lk
                  rw [tl_cut_last z hzp, cmpL_cut _ (List.ne_nil_of_length_pos hzp)]; decide
                have hcut := (hzk.cut none (some (-1))).len
                walk_at "go"
                refine ⟨p13, rs ++ [cutS z none (some (-1))], rfl, by rw [S13.sub _ _ e13, List.map_append]; rfl, by rw [List.length_append, List.length_singleton]; omega, fun y hy => ?_, fun o' ho' => ?_⟩
                · rcases List.mem_append.mp hy with hy | hy
                  · have := (hrs y hy).len; omega
                  · rw [List.mem_singleton.mp hy]; omega
                cases ho'.uniq (brk_last hrow hz hb)
                have er13 := S13.sub _ _ (K13 _ _ (K12 _ _ (K11 _ _ e10)))
                walk_at "go"
                refine ⟨_, _, _, rfl, Same.refl _, by rw [lr]; exact optV_sm (B := H13) (n := 25) (some rs.length), fun H14 s14 => ?_⟩
                have S14 := S13.pure s14
                walk_at "go"
                exact ⟨⟨_, _, _, _, _, _, _, rfl⟩, _, S14.le (by omega)⟩
              · walk_at "go"
                exact ⟨⟨_, _, _, _, _, _, _, rfl⟩, _, S11.le (by omega)⟩
            · walk_at "go"
              exact ⟨⟨_, _, _, _, _, _, _, rfl⟩, _, S11.le (by omega)⟩
          | some n =>
            have eo : optV (some n) = V.int n := rfl
            rw [eo]
            walk_at "go"
            refine sl_lst (S6.sub _ _ ek4) ?_
            rw [cut_take]
            refine S6.atNew fun p7 B7 H7 S7 O7 K7 n7 e7 => ?_
            walk_at "go"
            refine ⟨_, _, rfl, rowV_keys (S7.sub _ _ e7) (fun y hy => hys y (List.mem_of_mem_take hy)) (by decide) (by rw [List.length_take]; omega), fun H8 s8 => ?_⟩
            rw [decide_eq_true (brk_row ho)]
            have SX := S7.pure s8
            have KX := K7
            walk_at "go"
            refine sorted_strs (SX.sub _ _ (KX _ _ ek4)) (by omega) fun rs hperm hrow => ?_
            refine SX.atNew fun pr B10 H10 S10 O10 K10 n10 e10 => ?_
            have hrl := hperm.length_eq
            have hrs : ∀ y ∈ rs, Ky 33 y := fun y hy => hys y (hperm.mem_iff.mp hy)
            have lr : (rs.map V.str).length = rs.length := List.length_map ..
            walk_at "go"
            refine S10.atNew fun p11 B11 H11 S11 O11 K11 n11 e11 => ?_
            refine ne_strs (ms := []) (S11.sub _ _ (K11 _ _ e10)) (S11.sub _ _ e11) (fun z hz => (hrs z hz).ok) (fun z hz => nomatch hz) ?_
            walk_at "go"
            refine g_iteN (fun hne => ?_) (fun hne => ?_)
            · have hpos : 0 < rs.length := by
                cases rs with
                | nil => exact absurd rfl hne
                | cons _ _ => exact Nat.succ_pos _
              obtain ⟨z, hz⟩ : ∃ z, rs[rs.length - 1]? = some z := ⟨_, List.getElem?_eq_getElem (by omega)⟩
              have hzk := hrs z (List.mem_of_getElem? hz)
              have hzl := hzk.len
              have hz' : (rs.map V.str)[(rs.map V.str).length - 1]? = some (.str z) := by rw [lr, List.getElem?_map, hz]; rfl
              have er11 := S11.sub _ _ (K11 _ _ e10)
              have ha := at_neg1 hz'
              walk_at "go"
              refine g_iteN (fun hz0 => ?_) (fun hz0 => ?_)
              · walk_at "go"
                rename_i p12 B12 H12 S12 O12 K12 n12 e12
                refine a_lst (S12.sub _ _ (K12 _ _ (K11 _ _ e10))) (S12.sub _ _ e12) (szl' (by simp only [List.length_cons, List.length_nil]; omega)) ?_
                refine S12.atNew fun p13 B13 H13 S13 O13 K13 n13 e13 => ?_
                have hzp : 0 < (tl z).length := by
                  refine Nat.pos_of_ne_zero fun h => hz0 (ext_tl ?_)
                  rw [List.eq_nil_of_length_eq_zero h]; rfl
                have hb : lk (cutS z none (some (-1))) z < 0 := by
                  unfold lk
                  rw [tl_cut_last z hzp, cmpL_cut _ (List.ne_nil_of_length_pos hzp)]; decide
                have hcut := (hzk.cut none (some (-1))).len
                walk_at "go"
                refine ⟨p13, rs ++ [cutS z none (some (-1))], rfl, by rw [S13.sub _ _ e13, List.map_append]; rfl, by rw [List.length_append, List.length_singleton]; omega, fun y hy => ?_, fun o' ho' => ?_⟩
                · rcases List.mem_append.mp hy with hy | hy
                  · have := (hrs y hy).len; omega
                  · rw [List.mem_singleton.mp hy]; omega
                cases ho'.uniq (brk_last hrow hz hb)
                have er13 := S13.sub _ _ (K13 _ _ (K12 _ _ (K11 _ _ e10)))
                walk_at "go"
                refine ⟨_, _, _, rfl, Same.refl _, by rw [lr]; exact optV_sm (B := H13) (n := 25) (some rs.length), fun H14 s14 => ?_⟩
                have S14 := S13.pure s14
                walk_at "go"
                exact ⟨⟨_, _, _, _, _, _, _, rfl⟩, _, S14.le (by omega)⟩
              · walk_at "go"
                exact ⟨⟨_, _, _, _, _, _, _, rfl⟩, _, S11.le (by omega)⟩
            · walk_at "go"
              exact ⟨⟨_, _, _, _, _, _, _, rfl⟩, _, S11.le (by omega)⟩
      · rintro σ' H3 ⟨⟨v3, v4, v5, v6, v7, v8, v9, rfl⟩, B3, S3⟩
        exact ⟨⟨_, _, _, _, _, _, _, _, _, rfl⟩, hs1.trans S3.back⟩
    · rintro σ' H' ⟨⟨v1, v2, v3, v4, v5, v6, v7, v8, v9, rfl⟩, hs1⟩
      walk_at "go"
      exact q _
theorem all_mk {l : PySem.W.OpenLaw} {w : World} {K : PySem.W.Frag} {h : Heap} {mg : Str → Option Value} {fa : Addr} (X : K.In h) (G : h.Ns mainGlobals mg) (hfa : mg "law" = some (.ref fa))
    {f0 : Addr} {od0 an0 : Option Addr} {sl0 : Array (Option Value)} {oc0 kV0 dc0 pm0 cd0 ct0 : Value}
    (a0 : PySem.W.nsIn K mainGlobals "alike_from" = some (some (.ref f0))) (l0 : K.lookup f0 = some ⟨oc0, od0, .func (PySem.W.fnOf "alike_from" "alike_from" (defArgs s_alike_from) (defBody s_alike_from) (defScope s_alike_from) .none kV0 dc0 pm0 an0 cd0 ct0), sl0⟩) (c0 : PySem.W.codeIn K cd0 "alike_from" = true) (k0 : PySem.W.keepIn K (.ref f0) = true)
    {f1 : Addr} {od1 an1 : Option Addr} {sl1 : Array (Option Value)} {oc1 kV1 dc1 pm1 cd1 ct1 : Value}
    (a1 : PySem.W.nsIn K mainGlobals "alike" = some (some (.ref f1))) (l1 : K.lookup f1 = some ⟨oc1, od1, .func (PySem.W.fnOf "alike" "alike" (defArgs s_alike) (defBody s_alike) (defScope s_alike) .none kV1 dc1 pm1 an1 cd1 ct1), sl1⟩) (c1 : PySem.W.codeIn K cd1 "alike" = true) (k1 : PySem.W.keepIn K (.ref f1) = true)
    {f2 : Addr} {od2 an2 : Option Addr} {sl2 : Array (Option Value)} {oc2 kV2 dc2 pm2 cd2 ct2 : Value}
    (a2 : PySem.W.nsIn K mainGlobals "order_behind" = some (some (.ref f2))) (l2 : K.lookup f2 = some ⟨oc2, od2, .func (PySem.W.fnOf "order_behind" "order_behind" (defArgs s_order_behind) (defBody s_order_behind) (defScope s_order_behind) .none kV2 dc2 pm2 an2 cd2 ct2), sl2⟩) (c2 : PySem.W.codeIn K cd2 "order_behind" = true) (k2 : PySem.W.keepIn K (.ref f2) = true)
    {f3 : Addr} {od3 an3 : Option Addr} {sl3 : Array (Option Value)} {oc3 kV3 dc3 pm3 cd3 ct3 : Value}
    (a3 : PySem.W.nsIn K mainGlobals "liken" = some (some (.ref f3))) (l3 : K.lookup f3 = some ⟨oc3, od3, .func (PySem.W.fnOf "liken" "liken" (defArgs s_liken) (defBody s_liken) (defScope s_liken) .none kV3 dc3 pm3 an3 cd3 ct3), sl3⟩) (c3 : PySem.W.codeIn K cd3 "liken" = true) (k3 : PySem.W.keepIn K (.ref f3) = true)
    {f4 : Addr} {od4 an4 : Option Addr} {sl4 : Array (Option Value)} {oc4 kV4 dc4 pm4 cd4 ct4 : Value}
    (a4 : PySem.W.nsIn K mainGlobals "first_break" = some (some (.ref f4))) (l4 : K.lookup f4 = some ⟨oc4, od4, .func (PySem.W.fnOf "first_break" "first_break" (defArgs s_first_break) (defBody s_first_break) (defScope s_first_break) .none kV4 dc4 pm4 an4 cd4 ct4), sl4⟩) (c4 : PySem.W.codeIn K cd4 "first_break" = true) (k4 : PySem.W.keepIn K (.ref f4) = true)
    {f5 : Addr} {od5 an5 : Option Addr} {sl5 : Array (Option Value)} {oc5 kV5 dc5 pm5 cd5 ct5 : Value}
    (a5 : PySem.W.nsIn K mainGlobals "is_key" = some (some (.ref f5))) (l5 : K.lookup f5 = some ⟨oc5, od5, .func (PySem.W.fnOf "is_key" "is_key" (defArgs s_is_key) (defBody s_is_key) (defScope s_is_key) .none kV5 dc5 pm5 an5 cd5 ct5), sl5⟩) (c5 : PySem.W.codeIn K cd5 "is_key" = true) (k5 : PySem.W.keepIn K (.ref f5) = true)
    {f6 : Addr} {od6 an6 : Option Addr} {sl6 : Array (Option Value)} {oc6 kV6 dc6 pm6 cd6 ct6 : Value}
    (a6 : PySem.W.nsIn K mainGlobals "is_row" = some (some (.ref f6))) (l6 : K.lookup f6 = some ⟨oc6, od6, .func (PySem.W.fnOf "is_row" "is_row" (defArgs s_is_row) (defBody s_is_row) (defScope s_is_row) .none kV6 dc6 pm6 an6 cd6 ct6), sl6⟩) (c6 : PySem.W.codeIn K cd6 "is_row" = true) (k6 : PySem.W.keepIn K (.ref f6) = true)
    {f7 : Addr} {od7 an7 : Option Addr} {sl7 : Array (Option Value)} {oc7 kV7 dc7 pm7 cd7 ct7 : Value}
    (a7 : PySem.W.nsIn K mainGlobals "_law_left" = some (some (.ref f7))) (l7 : K.lookup f7 = some ⟨oc7, od7, .func (PySem.W.fnOf "_law_left" "_law_left" (defArgs s_w_left) (defBody s_w_left) (defScope s_w_left) .none kV7 dc7 pm7 an7 cd7 ct7), sl7⟩) (c7 : PySem.W.codeIn K cd7 "_law_left" = true) (k7 : PySem.W.keepIn K (.ref f7) = true)
    {f8 : Addr} {od8 an8 : Option Addr} {sl8 : Array (Option Value)} {oc8 kV8 dc8 pm8 cd8 ct8 : Value}
    (a8 : PySem.W.nsIn K mainGlobals "_law_same" = some (some (.ref f8))) (l8 : K.lookup f8 = some ⟨oc8, od8, .func (PySem.W.fnOf "_law_same" "_law_same" (defArgs s_w_same) (defBody s_w_same) (defScope s_w_same) .none kV8 dc8 pm8 an8 cd8 ct8), sl8⟩) (c8 : PySem.W.codeIn K cd8 "_law_same" = true) (k8 : PySem.W.keepIn K (.ref f8) = true)
    {f9 : Addr} {od9 an9 : Option Addr} {sl9 : Array (Option Value)} {oc9 kV9 dc9 pm9 cd9 ct9 : Value}
    (a9 : PySem.W.nsIn K mainGlobals "_law_less" = some (some (.ref f9))) (l9 : K.lookup f9 = some ⟨oc9, od9, .func (PySem.W.fnOf "_law_less" "_law_less" (defArgs s_w_less) (defBody s_w_less) (defScope s_w_less) .none kV9 dc9 pm9 an9 cd9 ct9), sl9⟩) (c9 : PySem.W.codeIn K cd9 "_law_less" = true) (k9 : PySem.W.keepIn K (.ref f9) = true)
    {f10 : Addr} {od10 an10 : Option Addr} {sl10 : Array (Option Value)} {oc10 kV10 dc10 pm10 cd10 ct10 : Value}
    (a10 : PySem.W.nsIn K mainGlobals "_law_due" = some (some (.ref f10))) (l10 : K.lookup f10 = some ⟨oc10, od10, .func (PySem.W.fnOf "_law_due" "_law_due" (defArgs s_w_due) (defBody s_w_due) (defScope s_w_due) .none kV10 dc10 pm10 an10 cd10 ct10), sl10⟩) (c10 : PySem.W.codeIn K cd10 "_law_due" = true) (k10 : PySem.W.keepIn K (.ref f10) = true)
    {f11 : Addr} {od11 an11 : Option Addr} {sl11 : Array (Option Value)} {oc11 kV11 dc11 pm11 cd11 ct11 : Value}
    (a11 : PySem.W.nsIn K mainGlobals "_law_mix" = some (some (.ref f11))) (l11 : K.lookup f11 = some ⟨oc11, od11, .func (PySem.W.fnOf "_law_mix" "_law_mix" (defArgs s_w_mix) (defBody s_w_mix) (defScope s_w_mix) .none kV11 dc11 pm11 an11 cd11 ct11), sl11⟩) (c11 : PySem.W.codeIn K cd11 "_law_mix" = true) (k11 : PySem.W.keepIn K (.ref f11) = true)
    {f12 : Addr} {od12 an12 : Option Addr} {sl12 : Array (Option Value)} {oc12 kV12 dc12 pm12 cd12 ct12 : Value}
    (a12 : PySem.W.nsIn K mainGlobals "_law_pick" = some (some (.ref f12))) (l12 : K.lookup f12 = some ⟨oc12, od12, .func (PySem.W.fnOf "_law_pick" "_law_pick" (defArgs s_w_pick) (defBody s_w_pick) (defScope s_w_pick) .none kV12 dc12 pm12 an12 cd12 ct12), sl12⟩) (c12 : PySem.W.codeIn K cd12 "_law_pick" = true) (k12 : PySem.W.keepIn K (.ref f12) = true)
    {f13 : Addr} {od13 an13 : Option Addr} {sl13 : Array (Option Value)} {oc13 kV13 dc13 pm13 cd13 ct13 : Value}
    (a13 : PySem.W.nsIn K mainGlobals "_law_stems" = some (some (.ref f13))) (l13 : K.lookup f13 = some ⟨oc13, od13, .func (PySem.W.fnOf "_law_stems" "_law_stems" (defArgs s_w_stems) (defBody s_w_stems) (defScope s_w_stems) .none kV13 dc13 pm13 an13 cd13 ct13), sl13⟩) (c13 : PySem.W.codeIn K cd13 "_law_stems" = true) (k13 : PySem.W.keepIn K (.ref f13) = true)
    {f14 : Addr} {od14 an14 : Option Addr} {sl14 : Array (Option Value)} {oc14 kV14 dc14 pm14 cd14 ct14 : Value}
    (a14 : PySem.W.nsIn K mainGlobals "_law_key" = some (some (.ref f14))) (l14 : K.lookup f14 = some ⟨oc14, od14, .func (PySem.W.fnOf "_law_key" "_law_key" (defArgs s_w_key) (defBody s_w_key) (defScope s_w_key) .none kV14 dc14 pm14 an14 cd14 ct14), sl14⟩) (c14 : PySem.W.codeIn K cd14 "_law_key" = true) (k14 : PySem.W.keepIn K (.ref f14) = true)
    {f15 : Addr} {od15 an15 : Option Addr} {sl15 : Array (Option Value)} {oc15 kV15 dc15 pm15 cd15 ct15 : Value}
    (a15 : PySem.W.nsIn K mainGlobals "_law_keys" = some (some (.ref f15))) (l15 : K.lookup f15 = some ⟨oc15, od15, .func (PySem.W.fnOf "_law_keys" "_law_keys" (defArgs s_w_keys) (defBody s_w_keys) (defScope s_w_keys) .none kV15 dc15 pm15 an15 cd15 ct15), sl15⟩) (c15 : PySem.W.codeIn K cd15 "_law_keys" = true) (k15 : PySem.W.keepIn K (.ref f15) = true)
    {f16 : Addr} {od16 an16 : Option Addr} {sl16 : Array (Option Value)} {oc16 kV16 dc16 pm16 cd16 ct16 : Value}
    (a16 : PySem.W.nsIn K mainGlobals "_law_spoilt" = some (some (.ref f16))) (l16 : K.lookup f16 = some ⟨oc16, od16, .func (PySem.W.fnOf "_law_spoilt" "_law_spoilt" (defArgs s_w_spoilt) (defBody s_w_spoilt) (defScope s_w_spoilt) .none kV16 dc16 pm16 an16 cd16 ct16), sl16⟩) (c16 : PySem.W.codeIn K cd16 "_law_spoilt" = true) (k16 : PySem.W.keepIn K (.ref f16) = true)
    {f17 : Addr} {od17 an17 : Option Addr} {sl17 : Array (Option Value)} {oc17 kV17 dc17 pm17 cd17 ct17 : Value}
    (a17 : PySem.W.nsIn K mainGlobals "_law_made" = some (some (.ref f17))) (l17 : K.lookup f17 = some ⟨oc17, od17, .func (PySem.W.fnOf "_law_made" "_law_made" (defArgs s_w_made) (defBody s_w_made) (defScope s_w_made) .none kV17 dc17 pm17 an17 cd17 ct17), sl17⟩) (c17 : PySem.W.codeIn K cd17 "_law_made" = true) (k17 : PySem.W.keepIn K (.ref f17) = true)
    {f18 : Addr} {od18 an18 : Option Addr} {sl18 : Array (Option Value)} {oc18 kV18 dc18 pm18 cd18 ct18 : Value}
    (a18 : PySem.W.nsIn K mainGlobals "law" = some (some (.ref f18))) (l18 : K.lookup f18 = some ⟨oc18, od18, .func (PySem.W.fnOf "law" "law" (defArgs s_law) (defBody s_law) (defScope s_law) .none kV18 dc18 pm18 an18 cd18 ct18), sl18⟩) (c18 : PySem.W.codeIn K cd18 "law" = true) (k18 : PySem.W.keepIn K (.ref f18) = true)
    {t_LETTERS : Tok} (z_LETTERS : PySem.W.nsIn K mainGlobals "LETTERS" = some (some (.str "abcdefghijklmnopqrstuvwxyz" t_LETTERS)))
    (zb_len : PySem.W.nsIn K mainGlobals "len" = some none)
    (zb_sum : PySem.W.nsIn K mainGlobals "sum" = some none)
    (zb_min : PySem.W.nsIn K mainGlobals "min" = some none)
    (zb_max : PySem.W.nsIn K mainGlobals "max" = some none)
    (zb_sorted : PySem.W.nsIn K mainGlobals "sorted" = some none)
    (zb_all : PySem.W.nsIn K mainGlobals "all" = some none)
    (zb_any : PySem.W.nsIn K mainGlobals "any" = some none)
    (zb_int : PySem.W.nsIn K mainGlobals "int" = some none)
    (zb_str : PySem.W.nsIn K mainGlobals "str" = some none)
    (zb_bool : PySem.W.nsIn K mainGlobals "bool" = some none)
    (zb_list : PySem.W.nsIn K mainGlobals "list" = some none)
    (zb_tuple : PySem.W.nsIn K mainGlobals "tuple" = some none)
    (zb_dict : PySem.W.nsIn K mainGlobals "dict" = some none)
    (zb_set : PySem.W.nsIn K mainGlobals "set" = some none)
    (zb_zip : PySem.W.nsIn K mainGlobals "zip" = some none)
    (zb_range : PySem.W.nsIn K mainGlobals "range" = some none)
    (zb_enumerate : PySem.W.nsIn K mainGlobals "enumerate" = some none)
    (zb_isinstance : PySem.W.nsIn K mainGlobals "isinstance" = some none)
    (zb_abs : PySem.W.nsIn K mainGlobals "abs" = some none)
    : ∃ fd : FuncData, (∀ (s : Shared) (v : Value), BindsTo s fd ⟨[v], []⟩ [("_law_script", v)]) ∧ ∀ base : Heap, K.In base → base.Ns mainGlobals mg → FnOk l.prog w K mg base CX0 27 fa fd ["_law_script"] (sp_law K) := by
  have e := hfa.symm.trans (PySem.W.mg_of X G a18)
  cases e
  have B : Blt mg := ⟨PySem.W.mg_none_of X G zb_len, PySem.W.mg_none_of X G zb_sum, PySem.W.mg_none_of X G zb_min, PySem.W.mg_none_of X G zb_max, PySem.W.mg_none_of X G zb_sorted, PySem.W.mg_none_of X G zb_all, PySem.W.mg_none_of X G zb_any, PySem.W.mg_none_of X G zb_int, PySem.W.mg_none_of X G zb_str, PySem.W.mg_none_of X G zb_bool, PySem.W.mg_none_of X G zb_list, PySem.W.mg_none_of X G zb_tuple, PySem.W.mg_none_of X G zb_dict, PySem.W.mg_none_of X G zb_set, PySem.W.mg_none_of X G zb_zip, PySem.W.mg_none_of X G zb_range, PySem.W.mg_none_of X G zb_enumerate, PySem.W.mg_none_of X G zb_isinstance, PySem.W.mg_none_of X G zb_abs⟩
  have F0 := fun_mk (st := s_alike_from) l0 c0 k0
  have b0 := F0.binds (ps := ["one", "other", "far"]) fun _ _ _ _ _ _ us hl => match us, hl with | [_, _, _], _ => rfl
  have F1 := fun_mk (st := s_alike) l1 c1 k1
  have b1 := F1.binds (ps := ["one", "other"]) fun _ _ _ _ _ _ us hl => match us, hl with | [_, _], _ => rfl
  have F2 := fun_mk (st := s_order_behind) l2 c2 k2
  have b2 := F2.binds (ps := ["one", "other", "far"]) fun _ _ _ _ _ _ us hl => match us, hl with | [_, _, _], _ => rfl
  have F3 := fun_mk (st := s_liken) l3 c3 k3
  have b3 := F3.binds (ps := ["one", "other"]) fun _ _ _ _ _ _ us hl => match us, hl with | [_, _], _ => rfl
  have F4 := fun_mk (st := s_first_break) l4 c4 k4
  have b4 := F4.binds (ps := ["keys"]) fun _ _ _ _ _ _ us hl => match us, hl with | [_], _ => rfl
  have F5 := fun_mk (st := s_is_key) l5 c5 k5
  have b5 := F5.binds (ps := ["thing"]) fun _ _ _ _ _ _ us hl => match us, hl with | [_], _ => rfl
  have F6 := fun_mk (st := s_is_row) l6 c6 k6
  have b6 := F6.binds (ps := ["thing"]) fun _ _ _ _ _ _ us hl => match us, hl with | [_], _ => rfl
  have F7 := fun_mk (st := s_w_left) l7 c7 k7
  have b7 := F7.binds (ps := ["_law_script", "_law_k"]) fun _ _ _ _ _ _ us hl => match us, hl with | [_, _], _ => rfl
  have F8 := fun_mk (st := s_w_same) l8 c8 k8
  have b8 := F8.binds (ps := ["_law_found", "_law_due_here"]) fun _ _ _ _ _ _ us hl => match us, hl with | [_, _], _ => rfl
  have F9 := fun_mk (st := s_w_less) l9 c9 k9
  have b9 := F9.binds (ps := ["_law_one", "_law_other"]) fun _ _ _ _ _ _ us hl => match us, hl with | [_, _], _ => rfl
  have F10 := fun_mk (st := s_w_due) l10 c10 k10
  have b10 := F10.binds (ps := ["_law_keys_here"]) fun _ _ _ _ _ _ us hl => match us, hl with | [_], _ => rfl
  have F11 := fun_mk (st := s_w_mix) l11 c11 k11
  have b11 := F11.binds (ps := ["_law_cell", "_law_k"]) fun _ _ _ _ _ _ us hl => match us, hl with | [_, _], _ => rfl
  have F12 := fun_mk (st := s_w_pick) l12 c12 k12
  have b12 := F12.binds (ps := ["_law_left_here", "_law_many"]) fun _ _ _ _ _ _ us hl => match us, hl with | [_, _], _ => rfl
  have F13 := fun_mk (st := s_w_stems) l13 c13 k13
  have b13 := F13.binds (ps := ["_law_left_here"]) fun _ _ _ _ _ _ us hl => match us, hl with | [_], _ => rfl
  have F14 := fun_mk (st := s_w_key) l14 c14 k14
  have b14 := F14.binds (ps := ["_law_left_here", "_law_stems_here"]) fun _ _ _ _ _ _ us hl => match us, hl with | [_, _], _ => rfl
  have F15 := fun_mk (st := s_w_keys) l15 c15 k15
  have b15 := F15.binds (ps := ["_law_left_here", "_law_stems_here", "_law_most"]) fun _ _ _ _ _ _ us hl => match us, hl with | [_, _, _], _ => rfl
  have F16 := fun_mk (st := s_w_spoilt) l16 c16 k16
  have b16 := F16.binds (ps := ["_law_left_here", "_law_row"]) fun _ _ _ _ _ _ us hl => match us, hl with | [_, _], _ => rfl
  have F17 := fun_mk (st := s_w_made) l17 c17 k17
  have b17 := F17.binds (ps := ["_law_left_here"]) fun _ _ _ _ _ _ us hl => match us, hl with | [_], _ => rfl
  have F18 := fun_mk (st := s_law) l18 c18 k18
  have g_LETTERS : ∃ t, mg "LETTERS" = some (.str "abcdefghijklmnopqrstuvwxyz" t) := ⟨_, PySem.W.mg_of X G z_LETTERS⟩
  refine ⟨PySem.W.fnOf "law" "law" (defArgs s_law) (defBody s_law) (defScope s_law) .none kV18 dc18 pm18 an18 cd18 ct18, fun s v => .of_eq rfl, fun base _ _ => ?_⟩
  have c_alike_from : Has l.prog w K mg base 1 "alike_from" ["one", "other", "far"] (sp_alike_from) := ⟨f0, _, PySem.W.mg_of X G a0, F0.kp, b0, ok_alike_from B   F0⟩
  have c_alike : Has l.prog w K mg base 2 "alike" ["one", "other"] (sp_alike) := ⟨f1, _, PySem.W.mg_of X G a1, F1.kp, b1, ok_alike B c_alike_from  F1⟩
  have c_order_behind : Has l.prog w K mg base 1 "order_behind" ["one", "other", "far"] (sp_order_behind) := ⟨f2, _, PySem.W.mg_of X G a2, F2.kp, b2, ok_order_behind B   F2⟩
  have c_liken : Has l.prog w K mg base 3 "liken" ["one", "other"] (sp_liken) := ⟨f3, _, PySem.W.mg_of X G a3, F3.kp, b3, ok_liken B c_alike c_order_behind  F3⟩
  have c_first_break : Has l.prog w K mg base 4 "first_break" ["keys"] (sp_first_break) := ⟨f4, _, PySem.W.mg_of X G a4, F4.kp, b4, ok_first_break B c_liken  F4⟩
  have c_is_key : Has l.prog w K mg base 1 "is_key" ["thing"] (sp_is_key) := ⟨f5, _, PySem.W.mg_of X G a5, F5.kp, b5, ok_is_key B  g_LETTERS F5⟩
  have c_is_row : Has l.prog w K mg base 5 "is_row" ["thing"] (sp_is_row) := ⟨f6, _, PySem.W.mg_of X G a6, F6.kp, b6, ok_is_row B c_is_key c_first_break  F6⟩
  have c_w_left : Has l.prog w K mg base 1 "_law_left" ["_law_script", "_law_k"] (sp_w_left K) := ⟨f7, _, PySem.W.mg_of X G a7, F7.kp, b7, ok_w_left B   F7⟩
  have c_w_same : Has l.prog w K mg base 26 "_law_same" ["_law_found", "_law_due_here"] (sp_w_same) := ⟨f8, _, PySem.W.mg_of X G a8, F8.kp, b8, ok_w_same B   F8 (PySem.W.mg_of X G a8) b8⟩
  have c_w_less : Has l.prog w K mg base 1 "_law_less" ["_law_one", "_law_other"] (sp_w_less) := ⟨f9, _, PySem.W.mg_of X G a9, F9.kp, b9, ok_w_less B   F9⟩
  have c_w_due : Has l.prog w K mg base 2 "_law_due" ["_law_keys_here"] (sp_w_due) := ⟨f10, _, PySem.W.mg_of X G a10, F10.kp, b10, ok_w_due B c_w_less  F10⟩
  have c_w_mix : Has l.prog w K mg base 1 "_law_mix" ["_law_cell", "_law_k"] (sp_w_mix) := ⟨f11, _, PySem.W.mg_of X G a11, F11.kp, b11, ok_w_mix B   F11⟩
  have c_w_pick : Has l.prog w K mg base 2 "_law_pick" ["_law_left_here", "_law_many"] (sp_w_pick) := ⟨f12, _, PySem.W.mg_of X G a12, F12.kp, b12, ok_w_pick B c_w_mix  F12⟩
  have c_w_stems : Has l.prog w K mg base 3 "_law_stems" ["_law_left_here"] (sp_w_stems) := ⟨f13, _, PySem.W.mg_of X G a13, F13.kp, b13, ok_w_stems B c_w_pick  F13⟩
  have c_w_key : Has l.prog w K mg base 3 "_law_key" ["_law_left_here", "_law_stems_here"] (sp_w_key) := ⟨f14, _, PySem.W.mg_of X G a14, F14.kp, b14, ok_w_key B c_w_pick  F14⟩
  have c_w_keys : Has l.prog w K mg base 4 "_law_keys" ["_law_left_here", "_law_stems_here", "_law_most"] (sp_w_keys) := ⟨f15, _, PySem.W.mg_of X G a15, F15.kp, b15, ok_w_keys B c_w_pick c_w_key  F15⟩
  have c_w_spoilt : Has l.prog w K mg base 3 "_law_spoilt" ["_law_left_here", "_law_row"] (sp_w_spoilt) := ⟨f16, _, PySem.W.mg_of X G a16, F16.kp, b16, ok_w_spoilt B c_w_pick  F16⟩
  have c_w_made : Has l.prog w K mg base 5 "_law_made" ["_law_left_here"] (sp_w_made) := ⟨f17, _, PySem.W.mg_of X G a17, F17.kp, b17, ok_w_made B c_w_pick c_w_stems c_w_keys c_w_spoilt  F17⟩
  exact ok_law B c_first_break c_is_row c_w_left c_w_same c_w_due c_w_made  F18
end L
open PySem PySem.W PyProof.Rows in
set_option maxHeartbeats 0 in
theorem PySem.Challenge.cw_mergetree_k06_where_a_row_breaks_holds : PySem.Challenge.rw_mergetree_k06_where_a_row_breaks.Holds := by
  w_on; o_law; k_head; (case hw => w_witness2)
  k_fill
  refine L2.walk_of (l := PySem.Challenge.rw_mergetree_k06_where_a_row_breaks) (n := 63) (k := 27) (x := "_law_script") (CX := fun _ => L2.CX0) (sp := fun w => L.sp_law _) rfl (by decide) rfl ⟨rfl, by decide, by decide⟩ (fun w h Y => PySem.W.kIn_of Y) ?F (fun _ _ a ns hl _ hS => ⟨a, ns, rfl, hS, hl, fun _ => rfl⟩) (fun _ _ _ _ _ h => h)
  case F =>
    intro w mg fa h KX G hmg
    refine' L.all_mk KX G hmg ?a0 ?l0 ?c0 ?k0 ?a1 ?l1 ?c1 ?k1 ?a2 ?l2 ?c2 ?k2 ?a3 ?l3 ?c3 ?k3 ?a4 ?l4 ?c4 ?k4 ?a5 ?l5 ?c5 ?k5 ?a6 ?l6 ?c6 ?k6 ?a7 ?l7 ?c7 ?k7 ?a8 ?l8 ?c8 ?k8 ?a9 ?l9 ?c9 ?k9 ?a10 ?l10 ?c10 ?k10 ?a11 ?l11 ?c11 ?k11 ?a12 ?l12 ?c12 ?k12 ?a13 ?l13 ?c13 ?k13 ?a14 ?l14 ?c14 ?k14 ?a15 ?l15 ?c15 ?k15 ?a16 ?l16 ?c16 ?k16 ?a17 ?l17 ?c17 ?k17 ?a18 ?l18 ?c18 ?k18 ?z_LETTERS ?zb_len ?zb_sum ?zb_min ?zb_max ?zb_sorted ?zb_all ?zb_any ?zb_int ?zb_str ?zb_bool ?zb_list ?zb_tuple ?zb_dict ?zb_set ?zb_zip ?zb_range ?zb_enumerate ?zb_isinstance ?zb_abs
    (case a0 => k_is); (case l0 => k_is); (case c0 => k_is); (case k0 => k_is); (case a1 => k_is); (case l1 => k_is); (case c1 => k_is); (case k1 => k_is); (case a2 => k_is); (case l2 => k_is); (case c2 => k_is); (case k2 => k_is); (case a3 => k_is); (case l3 => k_is); (case c3 => k_is); (case k3 => k_is); (case a4 => k_is); (case l4 => k_is); (case c4 => k_is); (case k4 => k_is); (case a5 => k_is); (case l5 => k_is); (case c5 => k_is); (case k5 => k_is); (case a6 => k_is); (case l6 => k_is); (case c6 => k_is); (case k6 => k_is); (case a7 => k_is); (case l7 => k_is); (case c7 => k_is); (case k7 => k_is); (case a8 => k_is); (case l8 => k_is); (case c8 => k_is); (case k8 => k_is); (case a9 => k_is); (case l9 => k_is); (case c9 => k_is); (case k9 => k_is); (case a10 => k_is); (case l10 => k_is); (case c10 => k_is); (case k10 => k_is); (case a11 => k_is); (case l11 => k_is); (case c11 => k_is); (case k11 => k_is); (case a12 => k_is); (case l12 => k_is); (case c12 => k_is); (case k12 => k_is); (case a13 => k_is); (case l13 => k_is); (case c13 => k_is); (case k13 => k_is); (case a14 => k_is); (case l14 => k_is); (case c14 => k_is); (case k14 => k_is); (case a15 => k_is); (case l15 => k_is); (case c15 => k_is); (case k15 => k_is); (case a16 => k_is); (case l16 => k_is); (case c16 => k_is); (case k16 => k_is); (case a17 => k_is); (case l17 => k_is); (case c17 => k_is); (case k17 => k_is); (case a18 => k_is); (case l18 => k_is); (case c18 => k_is); (case k18 => k_is); (case z_LETTERS => k_is); (case zb_len => k_is); (case zb_sum => k_is); (case zb_min => k_is); (case zb_max => k_is); (case zb_sorted => k_is); (case zb_all => k_is); (case zb_any => k_is); (case zb_int => k_is); (case zb_str => k_is); (case zb_bool => k_is); (case zb_list => k_is); (case zb_tuple => k_is); (case zb_dict => k_is); (case zb_set => k_is); (case zb_zip => k_is); (case zb_range => k_is); (case zb_enumerate => k_is); (case zb_isinstance => k_is); (case zb_abs => k_is)
