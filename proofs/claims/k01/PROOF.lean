import PyProof.Rows.All
import Wide.All
import OpenK.AllK
import Wide.FinOn
import HandS.ForMost
import HandS.ForExc
import HandS.Flow
import HandS.IsInst
import HandS.Style
import HandS.Wide
import HandS.Defaults
import HandS.Head0
import HandS.Head1
import HandS.Head2
import HandS.HeadEnd
import HandS.HeadHook1
import HandS.HeadHook2
import PySem.Challenge.RW_anyonefall_k01_words_and_shares_told
set_option Elab.async false
set_option linter.all false
set_option maxRecDepth 100000
set_option maxHeartbeats 4000000
/-! GL: a general layer over HandS: rules by values, step lemmas for readings, defs by names. -/
namespace GL
open PySem PySem.Spec PyProof.Rows L2

/-! ### a def by its name -/
structure FnG (P : Program) (w : World) (K : PySem.W.Frag) (mg : Str → Option Value) (base : Heap) (k : Nat) (x : Str) (ps : List Str) (sp : Sp) : Prop where
  ex : ∃ fd, FnOk P w K mg base (L2.CX P w) k (He.ga K x) fd ps sp ∧ Binds K fd ps []
  gl : mg x = some (.ref (He.ga K x))
  kp : PySem.W.keepIn K (.ref (He.ga K x)) = true
/-- a call that may raise: E is what is wanted then -/
def tCl (sp : Sp) (E : XK) (t : TA) : TE := fun σ H Q => t σ H fun vs H1 => sp vs H1 Q E
/-- the promise of a def whose exceptions are ruled out -/
def nr (sp : Sp) : Sp := fun vs H Q _ => sp vs H Q E0
theorem FnOk.nr {P : Program} {w : World} {K : PySem.W.Frag} {mg : Str → Option Value} {base : Heap} {k : Nat} {f : Addr} {fd : FuncData} {ps : List Str} {sp : Sp}
    (F : FnOk P w K mg base (L2.CX P w) k f fd ps sp) : FnOk P w K mg base CX0 k f fd ps (nr sp) := by
  refine ⟨fun vs H Q E h => F.len vs H Q E0 h, fun A outer s H args us vs Q E hr he hb hv hs => ?_⟩
  refine codeAny_mono (F.run A outer s H args us vs Q E0 hr he hb hv hs) fun r s' hq => ?_
  cases r with
  | ok fl =>
    cases fl with
    | ret u => exact hq
    | next => exact hq
    | brk => exact hq
    | cont => exact hq
  | error e =>
    obtain ⟨_, _, _, _, _, _, _, _, _, _, _, _, z⟩ := hq
    exact z.elim
section
variable {X : Cx} {k : Nat} {ps : List Str} {sp : Sp} {E : XK} {x : Str} {p pos : Pos} {e : Expr} {es : List Expr} {t : TA}
/-- f(e, ..) that may raise -/
theorem pe_g (F : FnG X.prog X.w X.K X.mg X.base k x ps sp) (hr : Room k X.A) (hx : Passes (L2.CX X.prog X.w) X E) (ha : PA X (e :: es) t) (hg : Gl X x := by rfl)
    (hdb : (x == ("__debug__" : Str)) = false := by decide) (he : starEach (e :: es) X.env = (false, eval e X.env) :: starEach es X.env := by rfl) (hpl : (backTo pos (starEach es X.env)).any (·.1) = false := by rfl) :
    PE X (.Call (.Name x p) (e :: es) [] pos) (tCl sp E t) := by
  obtain ⟨fd, G, b⟩ := F.ex
  have h := pe_call (p := p) G hr hg F.gl F.kp b .nil hx ha hdb he hpl
  have e1 : tCall sp [] E t = tCl sp E t := by
    funext σ H Q
    simp only [tCall, tCl, List.append_nil]
  rw [← e1]
  exact h
/-- f(e, ..) that raises nothing -/
theorem pe_g0 (F : FnG X.prog X.w X.K X.mg X.base k x ps sp) (hr : Room k X.A) (ha : PA X (e :: es) t) (hg : Gl X x := by rfl)
    (hdb : (x == ("__debug__" : Str)) = false := by decide) (he : starEach (e :: es) X.env = (false, eval e X.env) :: starEach es X.env := by rfl) (hpl : (backTo pos (starEach es X.env)).any (·.1) = false := by rfl) :
    PE X (.Call (.Name x p) (e :: es) [] pos) (tCl sp E0 t) := by
  obtain ⟨fd, G, b⟩ := F.ex
  have h := pe_call (p := p) (FnOk.nr G) hr hg F.gl F.kp b .nil pass0 ha hdb he hpl
  have e1 : tCall (nr sp) [] E0 t = tCl sp E0 t := by
    funext σ H Q
    simp only [tCall, tCl, nr, List.append_nil]
  rw [← e1]
  exact h
end

/-! ### a statement with a word between it and the rest -/
def tMid (t u : TS) : TS := fun D σ H => ∃ M : L2.St → Hp → Prop, t { D with nx := M } σ H ∧ ∀ σ' H', M σ' H' → u D σ' H'
theorem pss_mid {X : Cx} {st : Stmt} {rest : List Stmt} {t u : TS} (h1 : PS X st t) (h2 : PSs X rest u) : PSs X (st :: rest) (tMid t u) := by
  refine ⟨fun pins s σ H D I h => ?_⟩
  obtain ⟨M, h, hm⟩ := h
  refine wpAny_execs_cons (thn (h1.run pins s σ H { D with nx := M } I h) fun f s1 q => ?_)
  cases f with
  | next =>
    obtain ⟨σ', H', I', q⟩ := q
    exact h2.run pins s1 σ' H' D I' (hm σ' H' q)
  | ret v => exact q
  | brk => exact q
  | cont => exact q

/-! ### operators by values -/
section
variable {X : Cx} {a b c : Expr} {ta tb : TE} {pos : Pos}
def rAddS : R2 := fun x y H Q => ∃ i j, x = .str i ∧ y = .str j ∧ i.length + j.length ≤ sizeLine ∧ Q (.str (i ++ j)) H
def gAdd (K : PySem.W.Frag) : R2 := fun x y H Q => rI0 (fun i j => .int (i + j)) x y H Q ∨ rAddS x y H Q ∨ rCat x y H Q ∨ rCatT K x y H Q
theorem og_add : OpR X (binaryOp .Add) (gAdd X.K) := op_add.or (op_add_str.or (op_cat.or op_catT))
def gSubI : R2 := rI0 fun i j => .int (i - j)
theorem og_sub : OpR X (binaryOp .Sub) gSubI := op_sub
def repS (x : Str) (n : Nat) : Str := ⟨(List.replicate n x.cps).foldl (· ++ ·) #[]⟩
def rRepS : R2 := fun x y H Q => ∃ z n, x = .str z ∧ y = .int n ∧ 2 ≤ n ∧ z.length ≠ 0 ∧ z.length * n.toNat ≤ sizeLine ∧ Q (.str (repS z n.toNat)) H
theorem op_repS : OpR X (binaryOp .Mult) rRepS := by
  intro pins s σ H x y v u Q I rx ry h
  obtain ⟨z, n, rfl, rfl, h2, h0, hl, q⟩ := h
  obtain ⟨t, rfl⟩ := rx
  obtain ⟨t', rfl⟩ := ry
  have hz : 1 ≤ z.length := by omega
  have hn : n.toNat ≤ sizeLine := Nat.le_trans (Nat.le_mul_of_pos_left _ hz) hl
  have hn2 : n < 2 ^ 63 := by
    have := line63
    have : (n.toNat : Int) = n := by omega
    omega
  have e1 : (n == 1 || z.length == 0) = false := by
    have a1 : (n == 1) = false := beq_eq_false_iff_ne.mpr (by omega)
    have a2 : (z.length == 0) = false := beq_eq_false_iff_ne.mpr h0
    rw [a1, a2]; rfl
  refine PySem.P.mul_str (by rw [decide_eq_false (by omega), decide_eq_false (by omega)]; rfl) (fun _ _ => ?_) (fun _ _ => ?_) ?_
  · intro hgt
    have h3 : (2 ^ 63 - 1) / n ≥ (z.length : Int) := by
      apply (Int.le_ediv_iff_mul_le (by omega)).mpr
      have hc : (z.length : Int) * n = ((z.length * n.toNat : Nat) : Int) := by
        rw [Int.natCast_mul]; congr 1; omega
      rw [hc]
      have := line63
      omega
    omega
  · exact decide_eq_false (by omega)
  · rw [if_neg (by omega), if_neg (by rw [e1]; exact Bool.false_ne_true)]
    exact ⟨(by
      show (repS z n.toNat).length ≤ sizeLine
      have e : (repS z n.toNat).length = z.length * n.toNat := by
        unfold repS Str.length
        have : ∀ (k : Nat) (acc : Array Nat), ((List.replicate k z.cps).foldl (· ++ ·) acc).size = acc.size + k * z.cps.size := by
          intro k
          induction k with
          | zero => intro acc; simp
          | succ k ih => intro acc; rw [List.replicate_succ, List.foldl_cons, ih, Array.size_append, Nat.succ_mul]; omega
        rw [this, Array.size_empty, Nat.zero_add, Nat.mul_comm]
      rw [e]; exact hl), ⟨.str _, H, I.tok _, ⟨_, rfl⟩, q⟩⟩
def gMul : R2 := fun x y H Q => rI CMulW (fun i j => .int (i * j)) x y H Q ∨ rRepS x y H Q ∨ rRep x y H Q
theorem og_mul : OpR X (binaryOp .Mult) gMul := op_mulW.or (op_repS.or op_rep)
/-- // by a positive divisor that is not enormous -/
def gFdiv : R2 := rI CDivW fun i j => .int (i / j)
theorem og_fdiv : OpR X (binaryOp .FloorDiv) gFdiv := op_fdivW
def gMod : R2 := rI (fun _ j => 0 < j) fun i j => .int (i % j)
theorem og_mod : OpR X (binaryOp .Mod) gMod := op_mod
def gPow : R2 := rI CPow fun i j => .int (i ^ j.toNat)
theorem og_pow : OpR X (binaryOp .Pow) gPow := op_pow
def gShl : R2 := rI CPow fun i j => .int (i * 2 ^ j.toNat)
theorem og_shl : OpR X (binaryOp .LShift) gShl := op_shl
def gShr : R2 := rI (fun _ j => 0 ≤ j) fun i j => .int (i / 2 ^ j.toNat)
theorem og_shr : OpR X (binaryOp .RShift) gShr := op_shr
def gAnd : R2 := rI0 fun i j => .int (Builtin.bitAnd i j)
theorem og_and : OpR X (binaryOp .BitAnd) gAnd := op_and
def gOr : R2 := rI0 fun i j => .int (Builtin.bitOr i j)
theorem og_or : OpR X (binaryOp .BitOr) gOr := op_or
def gXor : R2 := rI0 fun i j => .int (Builtin.bitXor i j)
theorem og_xor : OpR X (binaryOp .BitXor) gXor := op_xor
def gNeg : V → Hp → VK → Prop := rU fun i => .int (-i)
theorem og_neg : UnR X (unaryOp .USub) gNeg := un_neg
/-! comparisons -/
def gEq (K : PySem.W.Frag) : R2 := fun x y H Q => rEq x y H Q ∨ rEqD K x y H Q
theorem og_eq (hu : X.A.units + 64 < cLine) : OpR X (compareOp .Eq) (gEq X.K) := op_eq.or (op_eqD hu)
def gNe (K : PySem.W.Frag) : R2 := fun x y H Q => rNe x y H Q ∨ rNeD K x y H Q
theorem og_ne (hu : X.A.units + 64 < cLine) : OpR X (compareOp .NotEq) (gNe X.K) := op_ne.or (op_neD hu)
def rLtS : R2 := fun x y H Q => ∃ i j, x = .str i ∧ y = .str j ∧ Q (.bl (decide (i.cps.toList < j.cps.toList))) H
def rLeS : R2 := fun x y H Q => ∃ i j, x = .str i ∧ y = .str j ∧ Q (.bl (!decide (j.cps.toList < i.cps.toList))) H
def gLt : R2 := fun x y H Q => rI0 (fun i j => .bl (decide (i < j))) x y H Q ∨ rLtS x y H Q
def gLe : R2 := fun x y H Q => rI0 (fun i j => .bl (decide (i ≤ j))) x y H Q ∨ rLeS x y H Q
def gGt : R2 := rI0 fun i j => .bl (decide (j < i))
def gGe : R2 := rI0 fun i j => .bl (decide (j ≤ i))
theorem og_lt : OpR X (compareOp .Lt) gLt := op_lt.or op_lt_str
theorem og_le : OpR X (compareOp .LtE) gLe := op_le.or op_le_str
theorem og_gt : OpR X (compareOp .Gt) gGt := op_gt
theorem og_ge : OpR X (compareOp .GtE) gGe := op_ge
/-! is -/
def gIs : R2 := fun x y H Q => (y = .non ∧ Q (.bl (decide (x = .non))) H) ∨ rIsB x y H Q
theorem og_is : OpR X (compareOp .Is) gIs := op_isN.or op_isBl
def gIsNot : R2 := fun x y H Q => y = .non ∧ Q (.bl (!decide (x = .non))) H
theorem og_isnot : OpR X (compareOp .IsNot) gIsNot := op_notN
/-! in -/
def gInS : R2 := fun x y H Q => ∃ i j, x = .str i ∧ y = .str j ∧ Q (.bl (!(Builtin.Str.occurrences j i 0 j.length 1).isEmpty)) H
theorem og_inS : OpR X (compareOp .In) gInS := op_in_str
def gInC : R2 := fun x y H Q => ∃ (c : Nat) (z : Str), x = .str ⟨#[c]⟩ ∧ y = .str z ∧ Q (.bl (decide (c ∈ z.cps.toList))) H
theorem og_inC : OpR X (compareOp .In) gInC := op_in_sign
def gIn (K : PySem.W.Frag) : R2 := rIn K false
theorem og_in : OpR X (compareOp .In) (gIn X.K) := op_in_seq
def gNotIn (K : PySem.W.Frag) : R2 := rIn K true
theorem og_notin : OpR X (compareOp .NotIn) (gNotIn X.K) := op_notIn_seq
/-! truth -/
def hasT (K : PySem.W.Frag) (x : V) (H : Hp) (R : Bool → Hp → Prop) : Prop := ∃ k, TruV K x H k ∧ R k H
def tTru (K : PySem.W.Frag) (ta : TE) : TT := fun σ H Q => ta σ H fun x H' => hasT K x H' Q
theorem pt_tru (ha : PE X a ta) (he : ∀ whole, isTrue a X.env whole = (do let v ← whole; standAt a.pos; holding [v] (truthy v)) := by intro _; rfl) : PT X a (tTru X.K ta) := pt_truth ha he
/-! built-ins -/
def gLen (K : PySem.W.Frag) : List V → Hp → VK → Prop := fun xs H Q => (∃ x n, xs = [x] ∧ LenV K x H n ∧ Q (.int n) H) ∨ ∃ a kvs, xs = [.ref a] ∧ H a = some (.dK kvs) ∧ Q (.int (kvs.length : Int)) H
theorem CallR.or {f : Value} {r r' : List V → Hp → VK → Prop} (h : CallR X f r) (h' : CallR X f r') : CallR X f (fun xs H Q => r xs H Q ∨ r' xs H Q) := by
  intro pins s σ H xs us Q I rv q
  rcases q with q | q
  · exact h pins s σ H xs us Q I rv q
  · exact h' pins s σ H xs us Q I rv q
theorem cg_len : CallR X (.builtin "len") (gLen X.K) := CallR.or call_len call_lenD
def gIsi (K : PySem.W.Frag) : List V → Hp → VK → Prop := fun xs H Q => rIsi K xs H Q ∨ rIsiT K xs H Q
theorem cg_isi : CallR X (.builtin "isinstance") (gIsi X.K) := CallR.or call_isi call_isiT
end
end GL

/-! ### steps: what a reading asks, one construct at a time -/
namespace GL
open PySem PySem.Spec PyProof.Rows L2
section
variable {K : PySem.W.Frag} {σ : L2.St} {H : Hp} {Q : VK} {nx bk ct : L2.St → Hp → Prop} {rt : VK} {QB : Bool → Hp → Prop} {QA : List V → Hp → Prop}
def isB (x : V) (H : Hp) (R : Bool → Hp → Prop) : Prop := ∃ k, x = .bl k ∧ R k H
theorem s_isB {b : Bool} {R : Bool → Hp → Prop} (h : R b H) : isB (.bl b) H R := ⟨b, rfl, h⟩
-- statements
theorem s_seq {t u : TS} (h : t ⟨u ⟨nx, rt, bk, ct⟩, rt, bk, ct⟩ σ H) : tSeq t u ⟨nx, rt, bk, ct⟩ σ H := h
theorem s_mid {t u : TS} (M : L2.St → Hp → Prop) (h : t ⟨M, rt, bk, ct⟩ σ H) (hm : ∀ σ' H', M σ' H' → u ⟨nx, rt, bk, ct⟩ σ' H') : tMid t u ⟨nx, rt, bk, ct⟩ σ H := ⟨M, h, hm⟩
theorem s_asg {te : TE} {g : TG} (h : te σ H fun x H1 => g x σ H1 nx) : tAsg te g ⟨nx, rt, bk, ct⟩ σ H := h
theorem s_ret {te : TE} (h : te σ H rt) : tRet te ⟨nx, rt, bk, ct⟩ σ H := h
theorem s_retN (h : rt .non H) : tRetN ⟨nx, rt, bk, ct⟩ σ H := h
theorem s_drop {te : TE} (h : te σ H fun _ H1 => nx σ H1) : tDrop te ⟨nx, rt, bk, ct⟩ σ H := h
theorem s_ifS {c : TT} {t u : TS} (h : c σ H fun b H1 => if b = true then t ⟨nx, rt, bk, ct⟩ σ H1 else u ⟨nx, rt, bk, ct⟩ σ H1) : tIfS c t u ⟨nx, rt, bk, ct⟩ σ H := h
theorem s_next (h : nx σ H) : tNext ⟨nx, rt, bk, ct⟩ σ H := h
theorem s_break (h : bk σ H) : tBreak ⟨nx, rt, bk, ct⟩ σ H := h
theorem s_cont (h : ct σ H) : tCont ⟨nx, rt, bk, ct⟩ σ H := h
def is2 (vs : List V) (R : V → V → Prop) : Prop := ∃ v w, vs = [v, w] ∧ R v w
theorem s_is2 {v w : V} {R : V → V → Prop} (h : R v w) : is2 [v, w] R := ⟨v, w, rfl, h⟩
theorem s_par {i j : Nat} {ta : TA} (h : ta σ H fun vs H1 => is2 vs fun v w => nx ((σ.set i (some v)).set j (some w)) H1) : tPar i j ta ⟨nx, rt, bk, ct⟩ σ H := h
-- expressions
theorem s_C {v : V} (h : Q v H) : tC v σ H Q := h
theorem s_op {r : R2} {ta tb : TE} (h : ta σ H fun x H1 => tb σ H1 fun y H2 => r x y H2 Q) : tOp r ta tb σ H Q := h
theorem s_un {r : V → Hp → VK → Prop} {ta : TE} (h : ta σ H fun x H1 => r x H1 Q) : tUn r ta σ H Q := h
theorem s_if {t : TT} {ta tb : TE} (h : t σ H fun c H1 => if c = true then ta σ H1 Q else tb σ H1 Q) : tIf t ta tb σ H Q := h
theorem s_nil (h : QA [] H) : tNil σ H QA := h
theorem s_cons {ta : TE} {tr : TA} (h : ta σ H fun x H1 => tr σ H1 fun xs H2 => QA (x :: xs) H2) : tCons ta tr σ H QA := h
theorem s_cl {sp : Sp} {E : XK} {t : TA} (h : t σ H fun vs H1 => sp vs H1 Q E) : tCl sp E t σ H Q := h
theorem s_cb {r : List V → Hp → VK → Prop} {t : TA} (h : t σ H fun vs H1 => r vs H1 Q) : tCB r t σ H Q := h
def mkT (xs : List V) (H : Hp) (Q : VK) : Prop := xs.length ≤ sizeLine ∧ ∀ p, H p = none → Q (.ref p) (upd H p (.tup xs))
def mkL (xs : List V) (H : Hp) (Q : VK) : Prop := xs.length ≤ sizeLine ∧ ∀ p, H p = none → Q (.ref p) (upd H p (.lst xs))
theorem s_tup {t : TA} (h : t σ H fun xs H1 => mkT xs H1 Q) : tTup t σ H Q := h
theorem s_lst {t : TA} (h : t σ H fun xs H1 => mkL xs H1 Q) : tLst t σ H Q := h
theorem s_mkT {xs : List V} (hl : xs.length ≤ sizeLine) (h : ∀ p, H p = none → Q (.ref p) (upd H p (.tup xs))) : mkT xs H Q := ⟨hl, h⟩
theorem s_mkL {xs : List V} (hl : xs.length ≤ sizeLine) (h : ∀ p, H p = none → Q (.ref p) (upd H p (.lst xs))) : mkL xs H Q := ⟨hl, h⟩
-- tests
theorem s_test {t : TE} (h : t σ H fun x H' => isB x H' QB) : tTest t σ H QB := h
theorem s_and {t u : TT} (h : t σ H fun c H1 => if c = true then u σ H1 QB else QB false H1) : tAnd t u σ H QB := h
theorem s_or {t u : TT} (h : t σ H fun c H1 => if c = true then QB true H1 else u σ H1 QB) : tOr t u σ H QB := h
theorem s_not {t : TT} (h : t σ H fun c H1 => QB (!c) H1) : tNot t σ H QB := h
theorem s_tru {ta : TE} (h : ta σ H fun x H' => hasT K x H' QB) : tTru K ta σ H QB := h
theorem s_yes (h : QB true H) : tYes σ H QB := h
theorem s_chain {r r' : R2} {ta tb tc : TE} (h : ta σ H fun x H1 => tb σ H1 fun y H2 => r x y H2 fun z H3 => isB z H3 fun k H3 => if k = true then tc σ H3 fun w' H4 => r' y w' H4 Q else Q (.bl false) H3) : tChain r r' ta tb tc σ H Q := h
theorem s_andT {ta tb : TE} (h : ta σ H fun x H1 => hasT K x H1 fun k H1 => if k = true then tb σ H1 Q else Q x H1) : tAndT K ta tb σ H Q := h
theorem s_orT {ta tb : TE} (h : ta σ H fun x H1 => hasT K x H1 fun k H1 => if k = true then Q x H1 else tb σ H1 Q) : tOrT K ta tb σ H Q := h
theorem s_notT {ta : TE} (h : ta σ H fun x H1 => hasT K x H1 fun k H1 => Q (.bl (!k)) H1) : tNotT K ta σ H Q := h
-- truth
theorem tr_bl {b : Bool} (h : QB b H) : hasT K (.bl b) H QB := ⟨b, rfl, h⟩
theorem tr_int {i : Int} (h : QB (i != 0) H) : hasT K (.int i) H QB := ⟨_, rfl, h⟩
theorem tr_non (h : QB false H) : hasT K .non H QB := ⟨_, rfl, h⟩
theorem tr_lst {a : Addr} {xs : List V} (e : H a = some (.lst xs)) (h : QB (!xs.isEmpty) H) : hasT K (.ref a) H QB := ⟨_, .inl ⟨xs, SqL.of e, rfl⟩, h⟩
theorem tr_tup {a : Addr} {xs : List V} (e : H a = some (.tup xs)) (h : QB (!xs.isEmpty) H) : hasT K (.ref a) H QB := ⟨_, .inr (.inl ⟨xs, SqT.of e, rfl⟩), h⟩
-- ifs
theorem s_dec {p : Prop} [Decidable p] {A B : Prop} (h1 : p → A) (h2 : ¬ p → B) : if decide p = true then A else B := by
  by_cases hp : p
  · rw [if_pos (decide_eq_true hp)]; exact h1 hp
  · rw [if_neg (by rw [decide_eq_false hp]; exact Bool.false_ne_true)]; exact h2 hp
theorem s_ndec {p : Prop} [Decidable p] {A B : Prop} (h1 : ¬ p → A) (h2 : p → B) : if (!decide p) = true then A else B := by
  by_cases hp : p
  · rw [if_neg (by rw [decide_eq_true hp]; exact Bool.false_ne_true)]; exact h2 hp
  · rw [if_pos (by rw [decide_eq_false hp]; rfl)]; exact h1 hp
theorem s_bool {b : Bool} {A B : Prop} (h1 : b = true → A) (h2 : b = false → B) : if b = true then A else B := by
  cases b with
  | true => rw [if_pos rfl]; exact h1 rfl
  | false => rw [if_neg Bool.false_ne_true]; exact h2 rfl
theorem s_nbool {b : Bool} {A B : Prop} (h1 : b = false → A) (h2 : b = true → B) : if (!b) = true then A else B := by
  cases b with
  | true => rw [if_neg (by decide)]; exact h2 rfl
  | false => rw [if_pos (by decide)]; exact h1 rfl
theorem s_nT {A B : Prop} (h : B) : if (!true) = true then A else B := by rw [if_neg (by decide)]; exact h
theorem s_nF {A B : Prop} (h : A) : if (!false) = true then A else B := by rw [if_pos (by decide)]; exact h
/-- .. where the value itself goes on -/
theorem s_decV {p : Prop} [Decidable p] {A : Prop} {B : Bool → Prop} (h1 : p → A) (h2 : ¬ p → B false) : if decide p = true then A else B (decide p) := by
  by_cases hp : p
  · rw [if_pos (decide_eq_true hp)]; exact h1 hp
  · rw [decide_eq_false hp, if_neg Bool.false_ne_true]; exact h2 hp
theorem s_decP {p : Prop} [Decidable p] {A B : Prop} (hp : p) (h : A) : if decide p = true then A else B := s_dec (fun _ => h) (fun n => absurd hp n)
theorem s_decN {p : Prop} [Decidable p] {A B : Prop} (hp : ¬ p) (h : B) : if decide p = true then A else B := s_dec (fun n => absurd n hp) (fun _ => h)
-- operators
theorem o_addI {i j : Int} (h : Q (.int (i + j)) H) : gAdd K (.int i) (.int j) H Q := .inl ⟨i, j, rfl, rfl, h⟩
theorem o_addS {i j : Str} (hl : i.length + j.length ≤ sizeLine) (h : Q (.str (i ++ j)) H) : gAdd K (.str i) (.str j) H Q := .inr (.inl ⟨i, j, rfl, rfl, hl, h⟩)
theorem o_addL {a b : Addr} {xs ys : List V} (ha : H a = some (.lst xs)) (hb : H b = some (.lst ys)) (hl : xs.length + ys.length ≤ sizeLine) (h : ∀ p, H p = none → Q (.ref p) (upd H p (.lst (xs ++ ys)))) : gAdd K (.ref a) (.ref b) H Q :=
  .inr (.inr (.inl ⟨a, b, xs, ys, rfl, rfl, ha, hb, hl, h⟩))
theorem o_sub {i j : Int} (h : Q (.int (i - j)) H) : gSubI (.int i) (.int j) H Q := ⟨i, j, rfl, rfl, h⟩
theorem o_mulI {i j : Int} (hc : CMulW i j) (h : Q (.int (i * j)) H) : gMul (.int i) (.int j) H Q := .inl ⟨i, j, rfl, rfl, hc, h⟩
theorem o_mulS {z : Str} {n : Int} (h2 : 2 ≤ n) (h0 : z.length ≠ 0) (hl : z.length * n.toNat ≤ sizeLine) (h : Q (.str (repS z n.toNat)) H) : gMul (.str z) (.int n) H Q := .inr (.inl ⟨z, n, rfl, rfl, h2, h0, hl, h⟩)
theorem o_mulL {a : Addr} {xs : List V} {k : Int} (ha : H a = some (.lst xs)) (h1 : -(2 ^ 63) ≤ k) (h2 : k < 2 ^ 63) (hl : xs.length * k.toNat ≤ sizeLine) (h : ∀ p, H p = none → Q (.ref p) (upd H p (.lst (List.replicate k.toNat xs).flatten))) :
    gMul (.ref a) (.int k) H Q := .inr (.inr ⟨a, k, xs, rfl, rfl, ha, h1, h2, hl, h⟩)
theorem o_fdiv {i j : Int} (hc : CDivW i j) (h : Q (.int (i / j)) H) : gFdiv (.int i) (.int j) H Q := ⟨i, j, rfl, rfl, hc, h⟩
theorem o_mod {i j : Int} (hc : 0 < j) (h : Q (.int (i % j)) H) : gMod (.int i) (.int j) H Q := ⟨i, j, rfl, rfl, hc, h⟩
theorem o_pow {i j : Int} (hc : CPow i j) (h : Q (.int (i ^ j.toNat)) H) : gPow (.int i) (.int j) H Q := ⟨i, j, rfl, rfl, hc, h⟩
theorem o_shl {i j : Int} (hc : CPow i j) (h : Q (.int (i * 2 ^ j.toNat)) H) : gShl (.int i) (.int j) H Q := ⟨i, j, rfl, rfl, hc, h⟩
theorem o_shr {i j : Int} (hc : 0 ≤ j) (h : Q (.int (i / 2 ^ j.toNat)) H) : gShr (.int i) (.int j) H Q := ⟨i, j, rfl, rfl, hc, h⟩
theorem o_and {i j : Int} (h : Q (.int (Builtin.bitAnd i j)) H) : gAnd (.int i) (.int j) H Q := ⟨i, j, rfl, rfl, h⟩
theorem o_or {i j : Int} (h : Q (.int (Builtin.bitOr i j)) H) : gOr (.int i) (.int j) H Q := ⟨i, j, rfl, rfl, h⟩
theorem o_xor {i j : Int} (h : Q (.int (Builtin.bitXor i j)) H) : gXor (.int i) (.int j) H Q := ⟨i, j, rfl, rfl, h⟩
theorem o_neg {i : Int} (h : Q (.int (-i)) H) : gNeg (.int i) H Q := ⟨i, rfl, h⟩
theorem cpow {i j : Int} (h0 : 0 ≤ j) (h1 : j ≤ 1000000) (h2 : i.natAbs < 2 ^ 64) : CPow i j := ⟨h0, h1, h2⟩
theorem cdiv {i j : Int} (h0 : 0 < j) (h1 : j < 2 ^ 64) : CDivW i j := wide_div (b := 64) h0 (by omega) (by decide) (by decide)
theorem cmul {i j : Int} (h1 : -(2 ^ 64) < i) (h2 : i < 2 ^ 64) (h3 : -(2 ^ 64) < j) (h4 : j < 2 ^ 64) : CMulW i j := wide_mul (a := 64) (b := 64) (by omega) (by omega) (by decide) (by decide) (by decide)
-- comparisons
theorem o_eqI {i j : Int} (h : Q (.bl (decide (i = j))) H) : gEq K (.int i) (.int j) H Q := .inl ⟨rfl, by rw [dec_int, show (i == j) = decide (i = j) from Bool.beq_eq_decide_eq i j]; exact h⟩
theorem o_eqS {i j : Str} (h : Q (.bl (decide (i = j))) H) : gEq K (.str i) (.str j) H Q := .inl ⟨rfl, by rw [show decide (V.str i = V.str j) = decide (i = j) from by rw [Bool.eq_iff_iff]; simp]; exact h⟩
theorem o_eqB {i j : Bool} (h : Q (.bl (decide (i = j))) H) : gEq K (.bl i) (.bl j) H Q := .inl ⟨rfl, by rw [show decide (V.bl i = V.bl j) = decide (i = j) from by rw [Bool.eq_iff_iff]; simp]; exact h⟩
theorem o_eqD {x y : V} {d e : PyData} (hx : Dp K H x d) (hy : Dp K H y e) (s1 : SeqAt.shaped d = true) (s2 : SeqAt.shaped e = true) (h : Q (.bl (PyData.eqv d e)) H) : gEq K x y H Q := .inr ⟨d, e, hx, hy, s1, s2, h⟩
theorem o_neI {i j : Int} (h : Q (.bl (!decide (i = j))) H) : gNe K (.int i) (.int j) H Q := .inl ⟨rfl, by rw [dec_int, show (i == j) = decide (i = j) from Bool.beq_eq_decide_eq i j]; exact h⟩
theorem o_neS {i j : Str} (h : Q (.bl (!decide (i = j))) H) : gNe K (.str i) (.str j) H Q := .inl ⟨rfl, by rw [show decide (V.str i = V.str j) = decide (i = j) from by rw [Bool.eq_iff_iff]; simp]; exact h⟩
theorem o_neB {i j : Bool} (h : Q (.bl (!decide (i = j))) H) : gNe K (.bl i) (.bl j) H Q := .inl ⟨rfl, by rw [show decide (V.bl i = V.bl j) = decide (i = j) from by rw [Bool.eq_iff_iff]; simp]; exact h⟩
theorem o_ltI {i j : Int} (h : Q (.bl (decide (i < j))) H) : gLt (.int i) (.int j) H Q := .inl ⟨i, j, rfl, rfl, h⟩
theorem o_ltS {i j : Str} (h : Q (.bl (decide (i.cps.toList < j.cps.toList))) H) : gLt (.str i) (.str j) H Q := .inr ⟨i, j, rfl, rfl, h⟩
theorem o_leI {i j : Int} (h : Q (.bl (decide (i ≤ j))) H) : gLe (.int i) (.int j) H Q := .inl ⟨i, j, rfl, rfl, h⟩
theorem o_leS {i j : Str} (h : Q (.bl (!decide (j.cps.toList < i.cps.toList))) H) : gLe (.str i) (.str j) H Q := .inr ⟨i, j, rfl, rfl, h⟩
theorem o_gt {i j : Int} (h : Q (.bl (decide (j < i))) H) : gGt (.int i) (.int j) H Q := ⟨i, j, rfl, rfl, h⟩
theorem o_ge {i j : Int} (h : Q (.bl (decide (j ≤ i))) H) : gGe (.int i) (.int j) H Q := ⟨i, j, rfl, rfl, h⟩
theorem o_isN {x : V} (h : Q (.bl (decide (x = .non))) H) : gIs x .non H Q := .inl ⟨rfl, h⟩
theorem o_isB {a b : Bool} (h : Q (.bl (decide (a = b))) H) : gIs (.bl a) (.bl b) H Q := .inr ⟨a, b, rfl, rfl, h⟩
theorem o_isnN {x : V} (h : Q (.bl (!decide (x = .non))) H) : gIsNot x .non H Q := ⟨rfl, h⟩
theorem o_inC {c : Nat} {z : Str} (h : Q (.bl (decide (c ∈ z.cps.toList))) H) : gInC (.str ⟨#[c]⟩) (.str z) H Q := ⟨c, z, rfl, rfl, h⟩
theorem o_inL {x : V} {a : Addr} {xs : List V} (ha : H a = some (.lst xs)) (f1 : flatV x = true) (f2 : xs.all flatV = true) (h : Q (.bl (inV x xs)) H) : gIn K x (.ref a) H Q := ⟨a, xs, rfl, .inl (SqL.of ha), f1, f2, h⟩
theorem o_inT {x : V} {a : Addr} {xs : List V} (ha : H a = some (.tup xs)) (f1 : flatV x = true) (f2 : xs.all flatV = true) (h : Q (.bl (inV x xs)) H) : gIn K x (.ref a) H Q := ⟨a, xs, rfl, .inr (SqT.of ha), f1, f2, h⟩
theorem o_ninL {x : V} {a : Addr} {xs : List V} (ha : H a = some (.lst xs)) (f1 : flatV x = true) (f2 : xs.all flatV = true) (h : Q (.bl (!inV x xs)) H) : gNotIn K x (.ref a) H Q := ⟨a, xs, rfl, .inl (SqL.of ha), f1, f2, h⟩
theorem o_ninT {x : V} {a : Addr} {xs : List V} (ha : H a = some (.tup xs)) (f1 : flatV x = true) (f2 : xs.all flatV = true) (h : Q (.bl (!inV x xs)) H) : gNotIn K x (.ref a) H Q := ⟨a, xs, rfl, .inr (SqT.of ha), f1, f2, h⟩
-- items
theorem o_ixL {a : Addr} {xs : List V} {i : Int} {v : V} (ha : H a = some (.lst xs)) (hv : atI xs i = some v) (h : Q v H) : rIx K (.ref a) (.int i) H Q := .inl ⟨a, xs, i, v, rfl, rfl, SqL.of ha, hv, h⟩
theorem o_ixT {a : Addr} {xs : List V} {i : Int} {v : V} (ha : H a = some (.tup xs)) (hv : atI xs i = some v) (h : Q v H) : rIx K (.ref a) (.int i) H Q := .inr (.inl ⟨a, xs, i, v, rfl, rfl, SqT.of ha, hv, h⟩)
theorem o_ixS {z : Str} {i : Int} {c : Nat} (hz : z.length ≤ sizeLine) (hc : atI z.cps.toList i = some c) (h : Q (.str ⟨#[c]⟩) H) : rIx K (.str z) (.int i) H Q := .inr (.inr ⟨z, i, c, rfl, rfl, hz, hc, h⟩)
-- stores
theorem s_sub {to ti : TE} {t : TSet} {v : V} {N : L2.St → Hp → Prop} (h : to σ H fun o H1 => ti σ H1 fun i H2 => t o i v H2 fun H3 => N σ H3) : L2.gSub to ti t v σ H N := h
theorem o_setL {a : Addr} {xs : List V} {k : Int} {j : Nat} {v : V} {N : Hp → Prop} (ha : H a = some (.lst xs)) (hj : ixN xs.length k = some j) (h : N (upd H a (.lst (xs.set j v)))) : rSetL (.ref a) (.int k) v H N := ⟨a, xs, k, j, rfl, rfl, ha, hj, h⟩
theorem o_set3a {a : Addr} {x y z v : V} {N : Hp → Prop} (ha : H a = some (.lst [x, y, z])) (h : N (upd H a (.lst [v, y, z]))) : rSetL (.ref a) (.int 0) v H N := ⟨a, _, 0, 0, rfl, rfl, ha, rfl, h⟩
theorem o_set3b {a : Addr} {x y z v : V} {N : Hp → Prop} (ha : H a = some (.lst [x, y, z])) (h : N (upd H a (.lst [x, v, z]))) : rSetL (.ref a) (.int 1) v H N := ⟨a, _, 1, 1, rfl, rfl, ha, rfl, h⟩
theorem o_set3c {a : Addr} {x y z v : V} {N : Hp → Prop} (ha : H a = some (.lst [x, y, z])) (h : N (upd H a (.lst [x, y, v]))) : rSetL (.ref a) (.int 2) v H N := ⟨a, _, 2, 2, rfl, rfl, ha, rfl, h⟩
-- built-ins
theorem c_lenL {a : Addr} {xs : List V} (ha : H a = some (.lst xs)) (h : Q (.int (xs.length : Int)) H) : gLen K [.ref a] H Q := .inl ⟨.ref a, xs.length, rfl, .inl ⟨xs, SqL.of ha, rfl⟩, h⟩
theorem c_lenT {a : Addr} {xs : List V} (ha : H a = some (.tup xs)) (h : Q (.int (xs.length : Int)) H) : gLen K [.ref a] H Q := .inl ⟨.ref a, xs.length, rfl, .inr ⟨xs, SqT.of ha, rfl⟩, h⟩
theorem c_lenS {z : Str} (hz : z.length ≤ sizeLine) (h : Q (.int (z.length : Int)) H) : gLen K [.str z] H Q := .inl ⟨.str z, z.length, rfl, ⟨hz, rfl⟩, h⟩
theorem c_lenQ {a : Addr} {xs : List V} (ha : SqL K H a xs) (h : Q (.int (xs.length : Int)) H) : gLen K [.ref a] H Q := .inl ⟨.ref a, xs.length, rfl, .inl ⟨xs, ha, rfl⟩, h⟩
theorem c_lenD {a : Addr} {kvs : List (Key × V)} (ha : H a = some (.dK kvs)) (h : Q (.int (kvs.length : Int)) H) : gLen K [.ref a] H Q := .inr ⟨a, kvs, rfl, ha, h⟩
/-- the kinds that are told apart -/
def kindOf (H : Hp) : V → Option String
  | .non => some "NoneType"
  | .bl _ => some "bool"
  | .int _ => some "int"
  | .str _ => some "str"
  | .ref a => (match H a with
    | some (.lst _) => some "list"
    | some (.frz _ (.lst _)) => some "list"
    | some (.tup _) => some "tuple"
    | some (.dK _) => some "dict"
    | some (.dT _) => some "dict"
    | _ => none)
  | _ => none
theorem kindOf_ty {x : V} {t : String} (h : kindOf H x = some t) : TyX K H x (.type t) := by
  cases x with
  | non => cases h; exact .base .non
  | bl b => cases h; exact .base (.bl b)
  | int i => cases h; exact .base (.int i)
  | str z => cases h; exact .base (.str z)
  | ref a =>
    unfold kindOf at h
    cases e : H a with
    | none => simp only [e] at h; cases h
    | some o =>
      simp only [e] at h
      cases o with
      | lst xs => cases h; exact .base (.lst e)
      | tup xs => cases h; exact .base (.tup e)
      | dK kvs => cases h; exact .base (.dK e)
      | dT kvs => cases h; exact .base (.dT e)
      | frz ob u =>
        cases u with
        | lst xs => cases h; exact .base (.frz e)
        | _ => cases h
      | _ => cases h
  | _ => cases h
theorem c_isi {x : V} {t c : String} {b : Bool} (hk : kindOf H x = some t) (hb : kitB t c = some b) (h : Q (.bl b) H) : gIsi K [x, .ty c] H Q := .inl ⟨x, .ty c, .type t, .type c, b, rfl, .ty c, kindOf_ty hk, kit_ty hb, h⟩
def kitBs (t : String) : List String → Option Bool
  | [] => some false
  | c :: cs => (match kitB t c with
    | some true => some true
    | some false => kitBs t cs
    | none => none)
theorem kitBs_any {t : String} : ∀ {cs : List String} {b : Bool}, kitBs t cs = some b → PySem.W.kitAny K (.type t) (cs.map Value.type) = some b
  | [], b, h => by cases h; rfl
  | c :: cs, b, h => by
    unfold kitBs at h
    cases e : kitB t c with
    | none => rw [e] at h; cases h
    | some k =>
      rw [e] at h
      cases k with
      | true => cases h; exact kitAny_cons (kit_ty e) (fun z => by cases z) (fun _ => rfl)
      | false => exact kitAny_cons (kit_ty e) (fun _ => kitBs_any h) (fun z => by cases z)
theorem clsVs : ∀ cs : List String, Paired ClsV (cs.map V.ty) (cs.map Value.type)
  | [] => .nil
  | c :: cs => .cons (.ty c) (clsVs cs)
theorem c_isiT {x : V} {a : Addr} {t : String} {cs : List String} {b : Bool} (ha : H a = some (.tup (cs.map V.ty))) (hk : kindOf H x = some t) (hb : kitBs t cs = some b) (h : Q (.bl b) H) : gIsi K [x, .ref a] H Q :=
  .inr ⟨x, a, cs.map V.ty, .type t, cs.map Value.type, b, rfl, ha, clsVs cs, kindOf_ty hk, kitBs_any hb, h⟩

theorem s_v0 {v : V} {r : L2.St} (h : Q v H) : tVar 0 (some v :: r) H Q := ⟨v, rfl, h⟩
theorem s_g0 {v : V} {y : Option V} {r : L2.St} {N : L2.St → Hp → Prop} (h : N (some v :: r) H) : gName 0 v (y :: r) H N := h
theorem s_v1 {v : V} {x0 : Option V} {r : L2.St} (h : Q v H) : tVar 1 (x0 :: some v :: r) H Q := ⟨v, rfl, h⟩
theorem s_g1 {v : V} {x0 : Option V} {y : Option V} {r : L2.St} {N : L2.St → Hp → Prop} (h : N (x0 :: some v :: r) H) : gName 1 v (x0 :: y :: r) H N := h
theorem s_v2 {v : V} {x0 x1 : Option V} {r : L2.St} (h : Q v H) : tVar 2 (x0 :: x1 :: some v :: r) H Q := ⟨v, rfl, h⟩
theorem s_g2 {v : V} {x0 x1 : Option V} {y : Option V} {r : L2.St} {N : L2.St → Hp → Prop} (h : N (x0 :: x1 :: some v :: r) H) : gName 2 v (x0 :: x1 :: y :: r) H N := h
theorem s_v3 {v : V} {x0 x1 x2 : Option V} {r : L2.St} (h : Q v H) : tVar 3 (x0 :: x1 :: x2 :: some v :: r) H Q := ⟨v, rfl, h⟩
theorem s_g3 {v : V} {x0 x1 x2 : Option V} {y : Option V} {r : L2.St} {N : L2.St → Hp → Prop} (h : N (x0 :: x1 :: x2 :: some v :: r) H) : gName 3 v (x0 :: x1 :: x2 :: y :: r) H N := h
theorem s_v4 {v : V} {x0 x1 x2 x3 : Option V} {r : L2.St} (h : Q v H) : tVar 4 (x0 :: x1 :: x2 :: x3 :: some v :: r) H Q := ⟨v, rfl, h⟩
theorem s_g4 {v : V} {x0 x1 x2 x3 : Option V} {y : Option V} {r : L2.St} {N : L2.St → Hp → Prop} (h : N (x0 :: x1 :: x2 :: x3 :: some v :: r) H) : gName 4 v (x0 :: x1 :: x2 :: x3 :: y :: r) H N := h
theorem s_v5 {v : V} {x0 x1 x2 x3 x4 : Option V} {r : L2.St} (h : Q v H) : tVar 5 (x0 :: x1 :: x2 :: x3 :: x4 :: some v :: r) H Q := ⟨v, rfl, h⟩
theorem s_g5 {v : V} {x0 x1 x2 x3 x4 : Option V} {y : Option V} {r : L2.St} {N : L2.St → Hp → Prop} (h : N (x0 :: x1 :: x2 :: x3 :: x4 :: some v :: r) H) : gName 5 v (x0 :: x1 :: x2 :: x3 :: x4 :: y :: r) H N := h
theorem s_v6 {v : V} {x0 x1 x2 x3 x4 x5 : Option V} {r : L2.St} (h : Q v H) : tVar 6 (x0 :: x1 :: x2 :: x3 :: x4 :: x5 :: some v :: r) H Q := ⟨v, rfl, h⟩
theorem s_g6 {v : V} {x0 x1 x2 x3 x4 x5 : Option V} {y : Option V} {r : L2.St} {N : L2.St → Hp → Prop} (h : N (x0 :: x1 :: x2 :: x3 :: x4 :: x5 :: some v :: r) H) : gName 6 v (x0 :: x1 :: x2 :: x3 :: x4 :: x5 :: y :: r) H N := h
theorem s_v7 {v : V} {x0 x1 x2 x3 x4 x5 x6 : Option V} {r : L2.St} (h : Q v H) : tVar 7 (x0 :: x1 :: x2 :: x3 :: x4 :: x5 :: x6 :: some v :: r) H Q := ⟨v, rfl, h⟩
theorem s_g7 {v : V} {x0 x1 x2 x3 x4 x5 x6 : Option V} {y : Option V} {r : L2.St} {N : L2.St → Hp → Prop} (h : N (x0 :: x1 :: x2 :: x3 :: x4 :: x5 :: x6 :: some v :: r) H) : gName 7 v (x0 :: x1 :: x2 :: x3 :: x4 :: x5 :: x6 :: y :: r) H N := h
theorem s_v8 {v : V} {x0 x1 x2 x3 x4 x5 x6 x7 : Option V} {r : L2.St} (h : Q v H) : tVar 8 (x0 :: x1 :: x2 :: x3 :: x4 :: x5 :: x6 :: x7 :: some v :: r) H Q := ⟨v, rfl, h⟩
theorem s_g8 {v : V} {x0 x1 x2 x3 x4 x5 x6 x7 : Option V} {y : Option V} {r : L2.St} {N : L2.St → Hp → Prop} (h : N (x0 :: x1 :: x2 :: x3 :: x4 :: x5 :: x6 :: x7 :: some v :: r) H) : gName 8 v (x0 :: x1 :: x2 :: x3 :: x4 :: x5 :: x6 :: x7 :: y :: r) H N := h
theorem s_v9 {v : V} {x0 x1 x2 x3 x4 x5 x6 x7 x8 : Option V} {r : L2.St} (h : Q v H) : tVar 9 (x0 :: x1 :: x2 :: x3 :: x4 :: x5 :: x6 :: x7 :: x8 :: some v :: r) H Q := ⟨v, rfl, h⟩
theorem s_g9 {v : V} {x0 x1 x2 x3 x4 x5 x6 x7 x8 : Option V} {y : Option V} {r : L2.St} {N : L2.St → Hp → Prop} (h : N (x0 :: x1 :: x2 :: x3 :: x4 :: x5 :: x6 :: x7 :: x8 :: some v :: r) H) : gName 9 v (x0 :: x1 :: x2 :: x3 :: x4 :: x5 :: x6 :: x7 :: x8 :: y :: r) H N := h
theorem s_v10 {v : V} {x0 x1 x2 x3 x4 x5 x6 x7 x8 x9 : Option V} {r : L2.St} (h : Q v H) : tVar 10 (x0 :: x1 :: x2 :: x3 :: x4 :: x5 :: x6 :: x7 :: x8 :: x9 :: some v :: r) H Q := ⟨v, rfl, h⟩
theorem s_g10 {v : V} {x0 x1 x2 x3 x4 x5 x6 x7 x8 x9 : Option V} {y : Option V} {r : L2.St} {N : L2.St → Hp → Prop} (h : N (x0 :: x1 :: x2 :: x3 :: x4 :: x5 :: x6 :: x7 :: x8 :: x9 :: some v :: r) H) : gName 10 v (x0 :: x1 :: x2 :: x3 :: x4 :: x5 :: x6 :: x7 :: x8 :: x9 :: y :: r) H N := h
theorem s_v11 {v : V} {x0 x1 x2 x3 x4 x5 x6 x7 x8 x9 x10 : Option V} {r : L2.St} (h : Q v H) : tVar 11 (x0 :: x1 :: x2 :: x3 :: x4 :: x5 :: x6 :: x7 :: x8 :: x9 :: x10 :: some v :: r) H Q := ⟨v, rfl, h⟩
theorem s_g11 {v : V} {x0 x1 x2 x3 x4 x5 x6 x7 x8 x9 x10 : Option V} {y : Option V} {r : L2.St} {N : L2.St → Hp → Prop} (h : N (x0 :: x1 :: x2 :: x3 :: x4 :: x5 :: x6 :: x7 :: x8 :: x9 :: x10 :: some v :: r) H) : gName 11 v (x0 :: x1 :: x2 :: x3 :: x4 :: x5 :: x6 :: x7 :: x8 :: x9 :: x10 :: y :: r) H N := h
theorem s_v12 {v : V} {x0 x1 x2 x3 x4 x5 x6 x7 x8 x9 x10 x11 : Option V} {r : L2.St} (h : Q v H) : tVar 12 (x0 :: x1 :: x2 :: x3 :: x4 :: x5 :: x6 :: x7 :: x8 :: x9 :: x10 :: x11 :: some v :: r) H Q := ⟨v, rfl, h⟩
theorem s_g12 {v : V} {x0 x1 x2 x3 x4 x5 x6 x7 x8 x9 x10 x11 : Option V} {y : Option V} {r : L2.St} {N : L2.St → Hp → Prop} (h : N (x0 :: x1 :: x2 :: x3 :: x4 :: x5 :: x6 :: x7 :: x8 :: x9 :: x10 :: x11 :: some v :: r) H) : gName 12 v (x0 :: x1 :: x2 :: x3 :: x4 :: x5 :: x6 :: x7 :: x8 :: x9 :: x10 :: x11 :: y :: r) H N := h
theorem s_v13 {v : V} {x0 x1 x2 x3 x4 x5 x6 x7 x8 x9 x10 x11 x12 : Option V} {r : L2.St} (h : Q v H) : tVar 13 (x0 :: x1 :: x2 :: x3 :: x4 :: x5 :: x6 :: x7 :: x8 :: x9 :: x10 :: x11 :: x12 :: some v :: r) H Q := ⟨v, rfl, h⟩
theorem s_g13 {v : V} {x0 x1 x2 x3 x4 x5 x6 x7 x8 x9 x10 x11 x12 : Option V} {y : Option V} {r : L2.St} {N : L2.St → Hp → Prop} (h : N (x0 :: x1 :: x2 :: x3 :: x4 :: x5 :: x6 :: x7 :: x8 :: x9 :: x10 :: x11 :: x12 :: some v :: r) H) : gName 13 v (x0 :: x1 :: x2 :: x3 :: x4 :: x5 :: x6 :: x7 :: x8 :: x9 :: x10 :: x11 :: x12 :: y :: r) H N := h
theorem s_v14 {v : V} {x0 x1 x2 x3 x4 x5 x6 x7 x8 x9 x10 x11 x12 x13 : Option V} {r : L2.St} (h : Q v H) : tVar 14 (x0 :: x1 :: x2 :: x3 :: x4 :: x5 :: x6 :: x7 :: x8 :: x9 :: x10 :: x11 :: x12 :: x13 :: some v :: r) H Q := ⟨v, rfl, h⟩
theorem s_g14 {v : V} {x0 x1 x2 x3 x4 x5 x6 x7 x8 x9 x10 x11 x12 x13 : Option V} {y : Option V} {r : L2.St} {N : L2.St → Hp → Prop} (h : N (x0 :: x1 :: x2 :: x3 :: x4 :: x5 :: x6 :: x7 :: x8 :: x9 :: x10 :: x11 :: x12 :: x13 :: some v :: r) H) : gName 14 v (x0 :: x1 :: x2 :: x3 :: x4 :: x5 :: x6 :: x7 :: x8 :: x9 :: x10 :: x11 :: x12 :: x13 :: y :: r) H N := h
theorem s_v15 {v : V} {x0 x1 x2 x3 x4 x5 x6 x7 x8 x9 x10 x11 x12 x13 x14 : Option V} {r : L2.St} (h : Q v H) : tVar 15 (x0 :: x1 :: x2 :: x3 :: x4 :: x5 :: x6 :: x7 :: x8 :: x9 :: x10 :: x11 :: x12 :: x13 :: x14 :: some v :: r) H Q := ⟨v, rfl, h⟩
theorem s_g15 {v : V} {x0 x1 x2 x3 x4 x5 x6 x7 x8 x9 x10 x11 x12 x13 x14 : Option V} {y : Option V} {r : L2.St} {N : L2.St → Hp → Prop} (h : N (x0 :: x1 :: x2 :: x3 :: x4 :: x5 :: x6 :: x7 :: x8 :: x9 :: x10 :: x11 :: x12 :: x13 :: x14 :: some v :: r) H) : gName 15 v (x0 :: x1 :: x2 :: x3 :: x4 :: x5 :: x6 :: x7 :: x8 :: x9 :: x10 :: x11 :: x12 :: x13 :: x14 :: y :: r) H N := h
theorem s_v16 {v : V} {x0 x1 x2 x3 x4 x5 x6 x7 x8 x9 x10 x11 x12 x13 x14 x15 : Option V} {r : L2.St} (h : Q v H) : tVar 16 (x0 :: x1 :: x2 :: x3 :: x4 :: x5 :: x6 :: x7 :: x8 :: x9 :: x10 :: x11 :: x12 :: x13 :: x14 :: x15 :: some v :: r) H Q := ⟨v, rfl, h⟩
theorem s_g16 {v : V} {x0 x1 x2 x3 x4 x5 x6 x7 x8 x9 x10 x11 x12 x13 x14 x15 : Option V} {y : Option V} {r : L2.St} {N : L2.St → Hp → Prop} (h : N (x0 :: x1 :: x2 :: x3 :: x4 :: x5 :: x6 :: x7 :: x8 :: x9 :: x10 :: x11 :: x12 :: x13 :: x14 :: x15 :: some v :: r) H) : gName 16 v (x0 :: x1 :: x2 :: x3 :: x4 :: x5 :: x6 :: x7 :: x8 :: x9 :: x10 :: x11 :: x12 :: x13 :: x14 :: x15 :: y :: r) H N := h
theorem s_v17 {v : V} {x0 x1 x2 x3 x4 x5 x6 x7 x8 x9 x10 x11 x12 x13 x14 x15 x16 : Option V} {r : L2.St} (h : Q v H) : tVar 17 (x0 :: x1 :: x2 :: x3 :: x4 :: x5 :: x6 :: x7 :: x8 :: x9 :: x10 :: x11 :: x12 :: x13 :: x14 :: x15 :: x16 :: some v :: r) H Q := ⟨v, rfl, h⟩
theorem s_g17 {v : V} {x0 x1 x2 x3 x4 x5 x6 x7 x8 x9 x10 x11 x12 x13 x14 x15 x16 : Option V} {y : Option V} {r : L2.St} {N : L2.St → Hp → Prop} (h : N (x0 :: x1 :: x2 :: x3 :: x4 :: x5 :: x6 :: x7 :: x8 :: x9 :: x10 :: x11 :: x12 :: x13 :: x14 :: x15 :: x16 :: some v :: r) H) : gName 17 v (x0 :: x1 :: x2 :: x3 :: x4 :: x5 :: x6 :: x7 :: x8 :: x9 :: x10 :: x11 :: x12 :: x13 :: x14 :: x15 :: x16 :: y :: r) H N := h
theorem s_v18 {v : V} {x0 x1 x2 x3 x4 x5 x6 x7 x8 x9 x10 x11 x12 x13 x14 x15 x16 x17 : Option V} {r : L2.St} (h : Q v H) : tVar 18 (x0 :: x1 :: x2 :: x3 :: x4 :: x5 :: x6 :: x7 :: x8 :: x9 :: x10 :: x11 :: x12 :: x13 :: x14 :: x15 :: x16 :: x17 :: some v :: r) H Q := ⟨v, rfl, h⟩
theorem s_g18 {v : V} {x0 x1 x2 x3 x4 x5 x6 x7 x8 x9 x10 x11 x12 x13 x14 x15 x16 x17 : Option V} {y : Option V} {r : L2.St} {N : L2.St → Hp → Prop} (h : N (x0 :: x1 :: x2 :: x3 :: x4 :: x5 :: x6 :: x7 :: x8 :: x9 :: x10 :: x11 :: x12 :: x13 :: x14 :: x15 :: x16 :: x17 :: some v :: r) H) : gName 18 v (x0 :: x1 :: x2 :: x3 :: x4 :: x5 :: x6 :: x7 :: x8 :: x9 :: x10 :: x11 :: x12 :: x13 :: x14 :: x15 :: x16 :: x17 :: y :: r) H N := h
theorem s_v19 {v : V} {x0 x1 x2 x3 x4 x5 x6 x7 x8 x9 x10 x11 x12 x13 x14 x15 x16 x17 x18 : Option V} {r : L2.St} (h : Q v H) : tVar 19 (x0 :: x1 :: x2 :: x3 :: x4 :: x5 :: x6 :: x7 :: x8 :: x9 :: x10 :: x11 :: x12 :: x13 :: x14 :: x15 :: x16 :: x17 :: x18 :: some v :: r) H Q := ⟨v, rfl, h⟩
theorem s_g19 {v : V} {x0 x1 x2 x3 x4 x5 x6 x7 x8 x9 x10 x11 x12 x13 x14 x15 x16 x17 x18 : Option V} {y : Option V} {r : L2.St} {N : L2.St → Hp → Prop} (h : N (x0 :: x1 :: x2 :: x3 :: x4 :: x5 :: x6 :: x7 :: x8 :: x9 :: x10 :: x11 :: x12 :: x13 :: x14 :: x15 :: x16 :: x17 :: x18 :: some v :: r) H) : gName 19 v (x0 :: x1 :: x2 :: x3 :: x4 :: x5 :: x6 :: x7 :: x8 :: x9 :: x10 :: x11 :: x12 :: x13 :: x14 :: x15 :: x16 :: x17 :: x18 :: y :: r) H N := h
theorem s_v20 {v : V} {x0 x1 x2 x3 x4 x5 x6 x7 x8 x9 x10 x11 x12 x13 x14 x15 x16 x17 x18 x19 : Option V} {r : L2.St} (h : Q v H) : tVar 20 (x0 :: x1 :: x2 :: x3 :: x4 :: x5 :: x6 :: x7 :: x8 :: x9 :: x10 :: x11 :: x12 :: x13 :: x14 :: x15 :: x16 :: x17 :: x18 :: x19 :: some v :: r) H Q := ⟨v, rfl, h⟩
theorem s_g20 {v : V} {x0 x1 x2 x3 x4 x5 x6 x7 x8 x9 x10 x11 x12 x13 x14 x15 x16 x17 x18 x19 : Option V} {y : Option V} {r : L2.St} {N : L2.St → Hp → Prop} (h : N (x0 :: x1 :: x2 :: x3 :: x4 :: x5 :: x6 :: x7 :: x8 :: x9 :: x10 :: x11 :: x12 :: x13 :: x14 :: x15 :: x16 :: x17 :: x18 :: x19 :: some v :: r) H) : gName 20 v (x0 :: x1 :: x2 :: x3 :: x4 :: x5 :: x6 :: x7 :: x8 :: x9 :: x10 :: x11 :: x12 :: x13 :: x14 :: x15 :: x16 :: x17 :: x18 :: x19 :: y :: r) H N := h
theorem s_v21 {v : V} {x0 x1 x2 x3 x4 x5 x6 x7 x8 x9 x10 x11 x12 x13 x14 x15 x16 x17 x18 x19 x20 : Option V} {r : L2.St} (h : Q v H) : tVar 21 (x0 :: x1 :: x2 :: x3 :: x4 :: x5 :: x6 :: x7 :: x8 :: x9 :: x10 :: x11 :: x12 :: x13 :: x14 :: x15 :: x16 :: x17 :: x18 :: x19 :: x20 :: some v :: r) H Q := ⟨v, rfl, h⟩
theorem s_g21 {v : V} {x0 x1 x2 x3 x4 x5 x6 x7 x8 x9 x10 x11 x12 x13 x14 x15 x16 x17 x18 x19 x20 : Option V} {y : Option V} {r : L2.St} {N : L2.St → Hp → Prop} (h : N (x0 :: x1 :: x2 :: x3 :: x4 :: x5 :: x6 :: x7 :: x8 :: x9 :: x10 :: x11 :: x12 :: x13 :: x14 :: x15 :: x16 :: x17 :: x18 :: x19 :: x20 :: some v :: r) H) : gName 21 v (x0 :: x1 :: x2 :: x3 :: x4 :: x5 :: x6 :: x7 :: x8 :: x9 :: x10 :: x11 :: x12 :: x13 :: x14 :: x15 :: x16 :: x17 :: x18 :: x19 :: x20 :: y :: r) H N := h
theorem s_v22 {v : V} {x0 x1 x2 x3 x4 x5 x6 x7 x8 x9 x10 x11 x12 x13 x14 x15 x16 x17 x18 x19 x20 x21 : Option V} {r : L2.St} (h : Q v H) : tVar 22 (x0 :: x1 :: x2 :: x3 :: x4 :: x5 :: x6 :: x7 :: x8 :: x9 :: x10 :: x11 :: x12 :: x13 :: x14 :: x15 :: x16 :: x17 :: x18 :: x19 :: x20 :: x21 :: some v :: r) H Q := ⟨v, rfl, h⟩
theorem s_g22 {v : V} {x0 x1 x2 x3 x4 x5 x6 x7 x8 x9 x10 x11 x12 x13 x14 x15 x16 x17 x18 x19 x20 x21 : Option V} {y : Option V} {r : L2.St} {N : L2.St → Hp → Prop} (h : N (x0 :: x1 :: x2 :: x3 :: x4 :: x5 :: x6 :: x7 :: x8 :: x9 :: x10 :: x11 :: x12 :: x13 :: x14 :: x15 :: x16 :: x17 :: x18 :: x19 :: x20 :: x21 :: some v :: r) H) : gName 22 v (x0 :: x1 :: x2 :: x3 :: x4 :: x5 :: x6 :: x7 :: x8 :: x9 :: x10 :: x11 :: x12 :: x13 :: x14 :: x15 :: x16 :: x17 :: x18 :: x19 :: x20 :: x21 :: y :: r) H N := h
theorem s_v23 {v : V} {x0 x1 x2 x3 x4 x5 x6 x7 x8 x9 x10 x11 x12 x13 x14 x15 x16 x17 x18 x19 x20 x21 x22 : Option V} {r : L2.St} (h : Q v H) : tVar 23 (x0 :: x1 :: x2 :: x3 :: x4 :: x5 :: x6 :: x7 :: x8 :: x9 :: x10 :: x11 :: x12 :: x13 :: x14 :: x15 :: x16 :: x17 :: x18 :: x19 :: x20 :: x21 :: x22 :: some v :: r) H Q := ⟨v, rfl, h⟩
theorem s_g23 {v : V} {x0 x1 x2 x3 x4 x5 x6 x7 x8 x9 x10 x11 x12 x13 x14 x15 x16 x17 x18 x19 x20 x21 x22 : Option V} {y : Option V} {r : L2.St} {N : L2.St → Hp → Prop} (h : N (x0 :: x1 :: x2 :: x3 :: x4 :: x5 :: x6 :: x7 :: x8 :: x9 :: x10 :: x11 :: x12 :: x13 :: x14 :: x15 :: x16 :: x17 :: x18 :: x19 :: x20 :: x21 :: x22 :: some v :: r) H) : gName 23 v (x0 :: x1 :: x2 :: x3 :: x4 :: x5 :: x6 :: x7 :: x8 :: x9 :: x10 :: x11 :: x12 :: x13 :: x14 :: x15 :: x16 :: x17 :: x18 :: x19 :: x20 :: x21 :: x22 :: y :: r) H N := h
end
end GL

/-! ### names of the module and built-ins -/
namespace GL
open PySem PySem.Spec PyProof.Rows L2
/-- all but b stands -/
def Keep (b : Addr) (H H' : Hp) : Prop := ∀ a o, a ≠ b → H a = some o → H' a = some o
theorem Keep.refl (b : Addr) (H : Hp) : Keep b H H := fun _ _ _ h => h
theorem Keep.trans {b : Addr} {H H1 H2 : Hp} (x : Keep b H H1) (y : Keep b H1 H2) : Keep b H H2 := fun a o n h => y a o n (x a o n h)
theorem Keep.upd (b : Addr) (H : Hp) (o : HO) : Keep b H (L2.upd H b o) := fun a u n h => by rw [upd_ne n]; exact h
theorem Keep.new {b p : Addr} {H : Hp} {o : HO} (hp : H p = none) : Keep b H (L2.upd H p o) := fun a u _ h => by rw [upd_ne (ne_of_none h hp)]; exact h
theorem Keep.same {b : Addr} {H H' : Hp} (s : Same H H') : Keep b H H' := fun a o _ h => s a o h
theorem same_new {p : Addr} {H : Hp} {o : HO} (hp : H p = none) : Same H (L2.upd H p o) := fun a u h => by rw [upd_ne (ne_of_none h hp)]; exact h
section
variable {X : Cx} {x z : Str} {i : Int} {pos : Pos}
theorem pe_gi (h : ∃ t, X.mg x = some (.int i t)) (hg : Gl X x := by rfl) (hd : (x == ("__debug__" : Str)) = false := by decide) : PE X (.Name x pos) (tC (.int i)) := by
  obtain ⟨t, h⟩ := h
  exact pe_glob hg h ⟨t, rfl⟩ hd
theorem pe_gs (h : ∃ t, X.mg x = some (.str z t)) (hg : Gl X x := by rfl) (hd : (x == ("__debug__" : Str)) = false := by decide) : PE X (.Name x pos) (tC (.str z)) := by
  obtain ⟨t, h⟩ := h
  exact pe_glob hg h ⟨t, rfl⟩ hd
theorem pe_gc {C : Addr} (h : X.mg x = some (.ref C)) (hg : Gl X x := by rfl) (hd : (x == ("__debug__" : Str)) = false := by decide) : PE X (.Name x pos) (tC (.ref C)) := pe_glob hg h rfl hd
theorem pe_ty {T : String} (hv : bootBuiltins x = some (.type T)) (hm : X.mg x = none) (hg : Gl X x := by rfl) (hn : x ≠ "__name__" := by decide) (hd : (x == ("__debug__" : Str)) = false := by decide) : PE X (.Name x pos) (tC (.ty T)) := pe_bltn hg hm hv rfl hn hd
end
theorem b_len : bootBuiltins "len" = some (.builtin "len") := by decide +kernel
theorem b_isinstance : bootBuiltins "isinstance" = some (.builtin "isinstance") := by decide +kernel
theorem b_all : bootBuiltins "all" = some (.builtin "all") := by decide +kernel
theorem b_any : bootBuiltins "any" = some (.builtin "any") := by decide +kernel
theorem b_max : bootBuiltins "max" = some (.builtin "max") := by decide +kernel
theorem b_min : bootBuiltins "min" = some (.builtin "min") := by decide +kernel
theorem b_sum : bootBuiltins "sum" = some (.builtin "sum") := by decide +kernel
theorem b_sorted : bootBuiltins "sorted" = some (.builtin "sorted") := by decide +kernel
theorem b_repr : bootBuiltins "repr" = some (.builtin "repr") := by decide +kernel
theorem b_int : bootBuiltins "int" = some (.type "int") := by decide +kernel
theorem b_bool : bootBuiltins "bool" = some (.type "bool") := by decide +kernel
theorem b_str : bootBuiltins "str" = some (.type "str") := by decide +kernel
theorem b_list : bootBuiltins "list" = some (.type "list") := by decide +kernel
theorem b_tuple : bootBuiltins "tuple" = some (.type "tuple") := by decide +kernel
theorem b_dict : bootBuiltins "dict" = some (.type "dict") := by decide +kernel
theorem b_ValueError : bootBuiltins "ValueError" = some (.type "ValueError") := by decide +kernel
section
variable {X : Cx}
def gMax2 : List V → Hp → VK → Prop := fun xs H Q => ∃ i j, xs = [.int i, .int j] ∧ Q (.int (if j > i then j else i)) H
def gMin2 : List V → Hp → VK → Prop := fun xs H Q => ∃ i j, xs = [.int i, .int j] ∧ Q (.int (if j < i then j else i)) H
theorem cg_max2 (hc : X.calm = true) : CallR X (.builtin "max") gMax2 := call_max2 hc
theorem cg_min2 (hc : X.calm = true) : CallR X (.builtin "min") gMin2 := call_min2 hc
def gInt : List V → Hp → VK → Prop := fun xs H Q => (∃ i, xs = [.int i] ∧ Q (.int i) H) ∨ ∃ k, xs = [.bl k] ∧ Q (.int (if k then 1 else 0)) H
theorem cg_int : CallR X (.type "int") gInt := call_int1
def gJoin (K : PySem.W.Frag) : V → List V → Hp → VK → Prop := fun x xs H Q => ∃ a p, ∃ ys : List Str, x = .str a ∧ xs = [.ref p] ∧ (SqL K H p (ys.map V.str) ∨ SqT K H p (ys.map V.str)) ∧ (ys.map (·.length)).sum + ys.length * a.length ≤ 16777216 ∧ Q (.str (Txt.join a ys)) H
def gUpper : V → List V → Hp → VK → Prop := fun x xs H Q => ∃ a, x = .str a ∧ xs = [] ∧ a.length ≤ 5592405 ∧ Q (.str (Txt.upper a)) H
variable {K : PySem.W.Frag} {σ : L2.St} {H : Hp} {Q : VK}
theorem c_max2 {i j : Int} (h : Q (.int (if j > i then j else i)) H) : gMax2 [.int i, .int j] H Q := ⟨i, j, rfl, h⟩
theorem c_min2 {i j : Int} (h : Q (.int (if j < i then j else i)) H) : gMin2 [.int i, .int j] H Q := ⟨i, j, rfl, h⟩
theorem n_max2 {i j : Int} (h : ∀ n, i ≤ n → j ≤ n → (n = i ∨ n = j) → Q (.int n) H) : gMax2 [.int i, .int j] H Q := ⟨i, j, rfl, h _ (by split <;> omega) (by split <;> omega) (by split <;> omega)⟩
theorem n_min2 {i j : Int} (h : ∀ n, n ≤ i → n ≤ j → (n = i ∨ n = j) → Q (.int n) H) : gMin2 [.int i, .int j] H Q := ⟨i, j, rfl, h _ (by split <;> omega) (by split <;> omega) (by split <;> omega)⟩
theorem c_intI {i : Int} (h : Q (.int i) H) : gInt [.int i] H Q := .inl ⟨i, rfl, h⟩
theorem c_intB {k : Bool} (h : Q (.int (if k then 1 else 0)) H) : gInt [.bl k] H Q := .inr ⟨k, rfl, h⟩
theorem s_m1 {r : V → List V → Hp → VK → Prop} {to te : TE} (h : to σ H fun x H1 => (∃ a, x = .str a) ∧ te σ H1 fun y H2 => r x [y] H2 Q) : tM1 r to te σ H Q := h
theorem s_m0 {r : V → List V → Hp → VK → Prop} {to : TE} (h : to σ H fun x H1 => (∃ a, x = .str a) ∧ r x [] H1 Q) : tM0 r to σ H Q := h
theorem m_join {a : Str} {p : Addr} {ys : List Str} (hp : H p = some (.lst (ys.map V.str))) (hl : (ys.map (·.length)).sum + ys.length * a.length ≤ 16777216) (h : Q (.str (Txt.join a ys)) H) : gJoin K (.str a) [.ref p] H Q := ⟨a, p, ys, rfl, rfl, .inl (SqL.of hp), hl, h⟩
theorem m_upper {a : Str} (hl : a.length ≤ 5592405) (h : Q (.str (Txt.upper a)) H) : gUpper (.str a) [] H Q := ⟨a, rfl, rfl, hl, h⟩
end
end GL

/-! ### loops and comprehensions -/
namespace GL
open PySem PySem.Spec PyProof.Rows L2
/-- an iterator that yields known items and lays nothing -/
structure Walk (J : It) (n : Nat) (item : Nat → V) (Ok : Hp → Prop) : Prop where
  go : ∀ i H, i < n → Ok H → J.go i H
  yld : ∀ i H x H', i < n → Ok H → J.yld i H x H' → H' = H ∧ x = item i
  stop : ∀ H, Ok H → J.stop n H
theorem walk_rng (lo : Int) (n : Nat) : Walk (Itr lo n) n (fun i => .int (lo + i)) (fun _ => True) := ⟨fun _ _ h _ => h, fun _ _ _ _ _ _ h => h, fun _ _ => Nat.le_refl _⟩
theorem walk_list (K : PySem.W.Frag) (a : Addr) (xs : List V) : Walk (Itl K a) xs.length (fun i => xs.getD i .non) (fun H => SqL K H a xs) := by
  refine ⟨fun i H h q => ⟨xs, xs[i], q, by simp [h]⟩, fun i H x H' h q y => ⟨y.1, ?_⟩, fun H q => ⟨xs, q, Nat.le_refl _⟩⟩
  have e := y.2 xs q
  simp [List.getD, e]
theorem walk_tup (K : PySem.W.Frag) (a : Addr) (xs : List V) : Walk (Itt K a) xs.length (fun i => xs.getD i .non) (fun H => SqT K H a xs) := by
  refine ⟨fun i H h q => ⟨xs, xs[i], q, by simp [h]⟩, fun i H x H' h q y => ⟨y.1, ?_⟩, fun H q => ⟨xs, q, Nat.le_refl _⟩⟩
  have e := y.2 xs q
  simp [List.getD, e]
theorem walk_str (x : Str) : Walk (Its x) x.length (fun i => .str ⟨#[x.cps.getD i 0]⟩) (fun _ => True) := by
  refine ⟨fun i H h _ => h, fun i H v H' h _ y => ⟨y.1, ?_⟩, fun H _ => Nat.le_refl _⟩
  obtain ⟨_, c, hc, rfl⟩ := y
  simp [Array.getD_eq_getD_getElem?, hc]
section
variable {K : PySem.W.Frag} {σ : L2.St} {H : Hp} {Q : VK} {nx bk ct : L2.St → Hp → Prop} {rt : VK} {J : It} {n : Nat} {item : Nat → V} {Ok : Hp → Prop} {g : TG} {tt : TT} {te : TE} {tb : TS} {vs : List Nat} {R : It → Hp → Prop}
def lcOf (J : It) (g : TG) (tt : TT) (te : TE) (vs : List Nat) (σ : L2.St) (H1 : Hp) (Q : VK) : Prop := ∀ D, H1 D = none → ∃ W : Nat → Nat → Hp → Prop, (∃ m, W 0 m (upd H1 D (.lst []))) ∧ ∀ i m H, W i m H →
  (J.stop i H ∧ Q (.ref D) H) ∨ (J.go i H ∧ ∃ Nx : Hp → Prop, (∀ H', Nx H' → ∃ m', m' < m ∧ W (i + 1) m' H') ∧ ∀ x H', J.yld i H x H' → g x (wipe σ vs) H' fun σ2 H2 => wipe σ2 vs = wipe σ vs ∧ tt σ2 H2 fun b H3 =>
    if b = true then te σ2 H3 fun y H4 => ∃ acc, H4 D = some (.lst acc) ∧ acc.length < sizeLine ∧ Nx (upd H4 D (.lst (acc ++ [y]))) else Nx H3)
theorem s_lc {wi : TI} (h : wi σ H fun J H1 => lcOf J g tt te vs σ H1 Q) : tLc wi g tt te vs σ H Q := h
def forOf (J : It) (g : TG) (tb : TS) (D : Ends) (σ : L2.St) (H1 : Hp) : Prop := ∃ W : Nat → Nat → L2.St → Hp → Prop, (∃ m, W 0 m σ H1) ∧ ∀ i m σ H, W i m σ H →
  (J.stop i H ∧ D.nx σ H) ∨ (J.go i H ∧ ∃ N : L2.St → Hp → Prop, (∀ σ' H', N σ' H' → ∃ m', m' < m ∧ W (i + 1) m' σ' H') ∧ ∀ x H', J.yld i H x H' → g x σ H' fun σ2 H2 => tb { D with nx := N, ct := N, bk := D.nx } σ2 H2)
theorem s_for {wi : TI} {D : Ends} (h : wi σ H fun J H1 => forOf J g tb D σ H1) : tFor wi g tb D σ H := h
-- what is walked
def isRng (vs : List V) (H : Hp) (R : It → Hp → Prop) : Prop := ∃ j : Int, vs = [.int j] ∧ -(2 ^ 62) ≤ j ∧ j < 2 ^ 62 ∧ R (Itr 0 j.toNat) H
theorem s_rng1 {ta : TA} (h : ta σ H fun vs H1 => isRng vs H1 R) : iRng1 ta σ H R := h
theorem s_isRng {j : Int} (h1 : -(2 ^ 62) ≤ j) (h2 : j < 2 ^ 62) (h : R (Itr 0 j.toNat) H) : isRng [.int j] H R := ⟨j, rfl, h1, h2, h⟩
def isRng2 (vs : List V) (H : Hp) (R : It → Hp → Prop) : Prop := ∃ i j : Int, vs = [.int i, .int j] ∧ (-(2 ^ 62) ≤ i ∧ i < 2 ^ 62 ∧ -(2 ^ 62) ≤ j ∧ j < 2 ^ 62) ∧ R (Itr i (j - i).toNat) H
theorem s_rng2 {ta : TA} (h : ta σ H fun vs H1 => isRng2 vs H1 R) : iRng2 ta σ H R := h
theorem s_isRng2 {i j : Int} (h1 : -(2 ^ 62) ≤ i) (h2 : i < 2 ^ 62) (h3 : -(2 ^ 62) ≤ j) (h4 : j < 2 ^ 62) (h : R (Itr i (j - i).toNat) H) : isRng2 [.int i, .int j] H R := ⟨i, j, rfl, ⟨h1, h2, h3, h4⟩, h⟩
def isLst (K : PySem.W.Frag) (x : V) (H : Hp) (R : It → Hp → Prop) : Prop := ∃ a, x = .ref a ∧ (∃ xs, SqL K H a xs) ∧ R (Itl K a) H
theorem s_iList {tl : TE} (h : tl σ H fun x H1 => isLst K x H1 R) : iList K tl σ H R := h
theorem s_isLst {a : Addr} {xs : List V} (q : SqL K H a xs) (h : R (Itl K a) H) : isLst K (.ref a) H R := ⟨a, rfl, ⟨xs, q⟩, h⟩
def isTp (K : PySem.W.Frag) (x : V) (H : Hp) (R : It → Hp → Prop) : Prop := ∃ a, x = .ref a ∧ (∃ xs, SqT K H a xs) ∧ R (Itt K a) H
theorem s_iTup {tl : TE} (h : tl σ H fun x H1 => isTp K x H1 R) : iTup K tl σ H R := h
theorem s_isTp {a : Addr} {xs : List V} (q : SqT K H a xs) (h : R (Itt K a) H) : isTp K (.ref a) H R := ⟨a, rfl, ⟨xs, q⟩, h⟩
def isSt (x : V) (H : Hp) (R : It → Hp → Prop) : Prop := ∃ z, x = .str z ∧ R (Its z) H
theorem s_iStr {tl : TE} (h : tl σ H fun x H1 => isSt x H1 R) : iStr tl σ H R := h
theorem s_isSt {z : Str} (h : R (Its z) H) : isSt (.str z) H R := ⟨z, rfl, h⟩
-- the forms one uses
theorem for_walk (W : Walk J n item Ok) (Pv : Nat → L2.St → Hp → Prop) (h0 : Pv 0 σ H) (hok : ∀ i σ H, Pv i σ H → Ok H)
    (hs : ∀ i σ H, i < n → Pv i σ H → g (item i) σ H fun σ2 H2 => tb ⟨Pv (i + 1), rt, nx, Pv (i + 1)⟩ σ2 H2) (hd : ∀ σ H, Pv n σ H → nx σ H) : forOf J g tb ⟨nx, rt, bk, ct⟩ σ H := by
  refine ⟨fun i m σ H => m = n - i ∧ i ≤ n ∧ Pv i σ H, ⟨n, by simp, Nat.zero_le _, h0⟩, ?_⟩
  rintro i m σ H ⟨rfl, hi, p⟩
  by_cases hlt : i < n
  · refine .inr ⟨W.go i H hlt (hok i σ H p), Pv (i + 1), fun σ' H' p' => ⟨n - (i + 1), by omega, rfl, hlt, p'⟩, fun x H' y => ?_⟩
    obtain ⟨e1, e2⟩ := W.yld i H x H' hlt (hok i σ H p) y
    subst e1 e2
    exact hs i σ _ hlt p
  · have e : i = n := by omega
    subst e
    exact .inl ⟨W.stop H (hok _ σ H p), hd σ H p⟩
/-- a comprehension; acc is the list so far -/
def lcNx (Pv : Addr → Nat → List V → Hp → Prop) (D : Addr) (j : Nat) (H2 : Hp) : Prop := ∃ acc, H2 D = some (.lst acc) ∧ acc.length ≤ j ∧ Pv D j acc H2
def lcPut (D : Addr) (Nx : Hp → Prop) (y : V) (H4 : Hp) : Prop := ∃ acc, H4 D = some (.lst acc) ∧ acc.length < sizeLine ∧ Nx (upd H4 D (.lst (acc ++ [y])))
theorem put_ok {Pv : Addr → Nat → List V → Hp → Prop} {D : Addr} {i : Nat} {acc : List V} {y : V} (h1 : H D = some (.lst acc)) (h2 : acc.length ≤ i) (h3 : i < sizeLine) (h4 : Pv D (i + 1) (acc ++ [y]) (upd H D (.lst (acc ++ [y])))) : lcPut D (lcNx Pv D (i + 1)) y H :=
  ⟨acc, h1, by omega, acc ++ [y], upd_same, by rw [List.length_append, List.length_singleton]; omega, h4⟩
theorem nx_ok {Pv : Addr → Nat → List V → Hp → Prop} {D : Addr} {i : Nat} {acc : List V} (h1 : H D = some (.lst acc)) (h2 : acc.length ≤ i) (h4 : Pv D (i + 1) acc H) : lcNx Pv D (i + 1) H := ⟨acc, h1, by omega, h4⟩
theorem lc_walk (W : Walk J n item Ok) (σw : L2.St) (hw : wipe σ vs = σw) (Pv : Addr → Nat → List V → Hp → Prop) (h0 : ∀ D, H D = none → Pv D 0 [] (upd H D (.lst []))) (hok : ∀ D i acc H', H D = none → H' D = some (.lst acc) → Pv D i acc H' → Ok H')
    (hs : ∀ D i acc H', H D = none → i < n → H' D = some (.lst acc) → acc.length ≤ i → Pv D i acc H' → g (item i) σw H' fun σ2 H2 => wipe σ2 vs = σw ∧ tt σ2 H2 fun b H3 => if b = true then te σ2 H3 fun y H4 => lcPut D (lcNx Pv D (i + 1)) y H4 else lcNx Pv D (i + 1) H3)
    (hd : ∀ D acc H', H D = none → H' D = some (.lst acc) → acc.length ≤ n → Pv D n acc H' → Q (.ref D) H') : lcOf J g tt te vs σ H Q := by
  intro D hD
  refine ⟨fun i m H' => m = n - i ∧ i ≤ n ∧ lcNx Pv D i H', ⟨n, by simp, Nat.zero_le _, [], upd_same, Nat.le_refl _, h0 D hD⟩, ?_⟩
  rintro i m H' ⟨rfl, hi, acc, ha, hl, p⟩
  by_cases hlt : i < n
  · refine .inr ⟨W.go i H' hlt (hok D i acc H' hD ha p), lcNx Pv D (i + 1), fun H2 q => ⟨n - (i + 1), by omega, rfl, hlt, q⟩, fun x H2 y => ?_⟩
    obtain ⟨e1, e2⟩ := W.yld i H' x H2 hlt (hok D i acc H' hD ha p) y
    subst e1 e2
    rw [hw]
    exact hs D i acc _ hD hlt ha hl p
  · have e : i = n := by omega
    subst e
    exact .inl ⟨W.stop H' (hok D _ acc H' hD ha p), hd D acc H' hD ha hl p⟩
-- targets of several names
theorem s_gtup {a : Addr} {xs : List V} {k : Nat} {t : TGs} {N : L2.St → Hp → Prop} (q : H a = some (.tup xs)) (hl : xs.length = k) (h : t xs σ H N) : gTup K k t (.ref a) σ H N := ⟨a, xs, rfl, SqT.of q, hl, h⟩
theorem s_gcons {t : TG} {u : TGs} {v : V} {r : List V} {N : L2.St → Hp → Prop} (h : t v σ H fun σ' H' => u r σ' H' N) : gCons t u (v :: r) σ H N := ⟨v, r, rfl, h⟩
theorem s_gnil {N : L2.St → Hp → Prop} (h : N σ H) : gNil [] σ H N := ⟨rfl, h⟩
theorem take_snoc {α : Type} {l : List α} {i : Nat} {x : α} (h : l[i]? = some x) : l.take (i + 1) = l.take i ++ [x] := by rw [List.take_succ, h]; rfl
-- while
def whI (Pv : Nat → L2.St → Hp → Prop) (m : Nat) (σ : L2.St) (H : Hp) : Prop := ∃ m', m' < m ∧ Pv m' σ H
def whN (Pv : Nat → L2.St → Hp → Prop) (m : Nat) (tb : TS) (nx : L2.St → Hp → Prop) (rt : VK) (σ : L2.St) (H : Hp) : Prop := ∃ N : L2.St → Hp → Prop, (∀ σ' H', N σ' H' → ∃ m', m' < m ∧ Pv m' σ' H') ∧ tb ⟨N, rt, nx, N⟩ σ H
theorem wh_ok {Pv : Nat → L2.St → Hp → Prop} {m : Nat} (h : tb ⟨whI Pv m, rt, nx, whI Pv m⟩ σ H) : whN Pv m tb nx rt σ H := ⟨_, fun _ _ q => q, h⟩
theorem s_while {c : TT} (Pv : Nat → L2.St → Hp → Prop) (m0 : Nat) (h0 : Pv m0 σ H) (hs : ∀ m σ H, Pv m σ H → c σ H fun b H1 => if b = true then whN Pv m tb nx rt σ H1 else nx σ H1) : tWhile c tb ⟨nx, rt, bk, ct⟩ σ H := ⟨Pv, ⟨m0, h0⟩, hs⟩
-- items that are there
theorem atI_of {α : Type} {xs : List α} {i : Int} (h0 : 0 ≤ i) (h1 : i < xs.length) : ∃ v, atI xs i = some v ∧ xs[i.toNat]? = some v := by
  have hl : i.toNat < xs.length := by omega
  refine ⟨xs[i.toNat], ?_, by simp [hl]⟩
  unfold atI ixN
  rw [if_pos h0, if_pos h1]
  simp [hl]
theorem o_ixQ {a : Addr} {xs : List V} {i : Int} {v : V} (ha : SqL K H a xs) (hv : atI xs i = some v) (h : Q v H) : rIx K (.ref a) (.int i) H Q := .inl ⟨a, xs, i, v, rfl, rfl, ha, hv, h⟩
end
end GL

/-! ### isinstance of the built-in kinds -/
namespace GL
open PySem PySem.Spec PyProof.Rows L2
def intL : V → Bool
  | .int _ => true
  | .bl _ => true
  | _ => false
def boolL : V → Bool
  | .bl _ => true
  | _ => false
def strL : V → Bool
  | .str _ => true
  | _ => false
def lstL (H : Hp) : V → Bool
  | .ref a => (match H a with
    | some (.lst _) => true
    | some (.frz _ (.lst _)) => true
    | _ => false)
  | _ => false
def tupL (H : Hp) : V → Bool
  | .ref a => (match H a with
    | some (.tup _) => true
    | _ => false)
  | _ => false
theorem kit_t1 : kitB "NoneType" "int" = some false ∧ kitB "bool" "int" = some true ∧ kitB "int" "int" = some true ∧ kitB "str" "int" = some false ∧ kitB "list" "int" = some false ∧ kitB "tuple" "int" = some false ∧ kitB "dict" "int" = some false := by decide +kernel
theorem kit_t2 : kitB "NoneType" "bool" = some false ∧ kitB "bool" "bool" = some true ∧ kitB "int" "bool" = some false ∧ kitB "str" "bool" = some false ∧ kitB "list" "bool" = some false ∧ kitB "tuple" "bool" = some false ∧ kitB "dict" "bool" = some false := by decide +kernel
theorem kit_t3 : kitB "NoneType" "str" = some false ∧ kitB "bool" "str" = some false ∧ kitB "int" "str" = some false ∧ kitB "str" "str" = some true ∧ kitB "list" "str" = some false ∧ kitB "tuple" "str" = some false ∧ kitB "dict" "str" = some false := by decide +kernel
theorem kit_t4 : kitB "NoneType" "list" = some false ∧ kitB "bool" "list" = some false ∧ kitB "int" "list" = some false ∧ kitB "str" "list" = some false ∧ kitB "list" "list" = some true ∧ kitB "tuple" "list" = some false ∧ kitB "dict" "list" = some false := by decide +kernel
theorem kit_t5 : kitB "NoneType" "tuple" = some false ∧ kitB "bool" "tuple" = some false ∧ kitB "int" "tuple" = some false ∧ kitB "str" "tuple" = some false ∧ kitB "list" "tuple" = some false ∧ kitB "tuple" "tuple" = some true ∧ kitB "dict" "tuple" = some false := by decide +kernel
section
variable {K : PySem.W.Frag} {H : Hp} {Q : VK} {v : V} {t : String}
/-- by the kind -/
theorem isi_by {c : String} {f : V → Bool} (T : kitB "NoneType" c = some (f .non) ∧ (∀ b, kitB "bool" c = some (f (.bl b))) ∧ (∀ i, kitB "int" c = some (f (.int i))) ∧ (∀ z, kitB "str" c = some (f (.str z))) ∧
      (∀ a xs, H a = some (.lst xs) → kitB "list" c = some (f (.ref a))) ∧ (∀ a o xs, H a = some (.frz o (.lst xs)) → kitB "list" c = some (f (.ref a))) ∧ (∀ a xs, H a = some (.tup xs) → kitB "tuple" c = some (f (.ref a))) ∧ (∀ a kvs, H a = some (.dK kvs) → kitB "dict" c = some (f (.ref a))) ∧ ∀ a kvs, H a = some (.dT kvs) → kitB "dict" c = some (f (.ref a)))
    (hk : kindOf H v = some t) (h : Q (.bl (f v)) H) : gIsi K [v, .ty c] H Q := by
  obtain ⟨t1, t2, t3, t4, t5, t6, t7, t8, t9⟩ := T
  cases v with
  | non => exact c_isi rfl t1 h
  | bl b => exact c_isi rfl (t2 b) h
  | int i => exact c_isi rfl (t3 i) h
  | str z => exact c_isi rfl (t4 z) h
  | ref a =>
    have hk' := hk
    unfold kindOf at hk
    cases e : H a with
    | none => simp only [e] at hk; cases hk
    | some o =>
      simp only [e] at hk
      cases o with
      | lst xs => cases hk; exact c_isi hk' (t5 a xs e) h
      | tup xs => cases hk; exact c_isi hk' (t7 a xs e) h
      | dK kvs => cases hk; exact c_isi hk' (t8 a kvs e) h
      | dT kvs => cases hk; exact c_isi hk' (t9 a kvs e) h
      | frz ob u =>
        cases u with
        | lst xs => cases hk; exact c_isi hk' (t6 a ob xs e) h
        | _ => cases hk
      | _ => cases hk
  | _ => cases hk
theorem i_int (hk : kindOf H v = some t) (h : Q (.bl (intL v)) H) : gIsi K [v, .ty "int"] H Q :=
  isi_by ⟨kit_t1.1, fun _ => kit_t1.2.1, fun _ => kit_t1.2.2.1, fun _ => kit_t1.2.2.2.1, fun _ _ _ => kit_t1.2.2.2.2.1, fun _ _ _ _ => kit_t1.2.2.2.2.1, fun _ _ _ => kit_t1.2.2.2.2.2.1, fun _ _ _ => kit_t1.2.2.2.2.2.2, fun _ _ _ => kit_t1.2.2.2.2.2.2⟩ hk h
theorem i_bool (hk : kindOf H v = some t) (h : Q (.bl (boolL v)) H) : gIsi K [v, .ty "bool"] H Q :=
  isi_by ⟨kit_t2.1, fun _ => kit_t2.2.1, fun _ => kit_t2.2.2.1, fun _ => kit_t2.2.2.2.1, fun _ _ _ => kit_t2.2.2.2.2.1, fun _ _ _ _ => kit_t2.2.2.2.2.1, fun _ _ _ => kit_t2.2.2.2.2.2.1, fun _ _ _ => kit_t2.2.2.2.2.2.2, fun _ _ _ => kit_t2.2.2.2.2.2.2⟩ hk h
theorem i_str (hk : kindOf H v = some t) (h : Q (.bl (strL v)) H) : gIsi K [v, .ty "str"] H Q :=
  isi_by ⟨kit_t3.1, fun _ => kit_t3.2.1, fun _ => kit_t3.2.2.1, fun _ => kit_t3.2.2.2.1, fun _ _ _ => kit_t3.2.2.2.2.1, fun _ _ _ _ => kit_t3.2.2.2.2.1, fun _ _ _ => kit_t3.2.2.2.2.2.1, fun _ _ _ => kit_t3.2.2.2.2.2.2, fun _ _ _ => kit_t3.2.2.2.2.2.2⟩ hk h
theorem i_list (hk : kindOf H v = some t) (h : Q (.bl (lstL H v)) H) : gIsi K [v, .ty "list"] H Q :=
  isi_by (f := lstL H) ⟨kit_t4.1, fun _ => kit_t4.2.1, fun _ => kit_t4.2.2.1, fun _ => kit_t4.2.2.2.1, fun a xs e => by simp only [lstL, e]; exact kit_t4.2.2.2.2.1, fun a o xs e => by simp only [lstL, e]; exact kit_t4.2.2.2.2.1, fun a xs e => by simp only [lstL, e]; exact kit_t4.2.2.2.2.2.1, fun a xs e => by simp only [lstL, e]; exact kit_t4.2.2.2.2.2.2, fun a xs e => by simp only [lstL, e]; exact kit_t4.2.2.2.2.2.2⟩ hk h
theorem i_tuple (hk : kindOf H v = some t) (h : Q (.bl (tupL H v)) H) : gIsi K [v, .ty "tuple"] H Q :=
  isi_by (f := tupL H) ⟨kit_t5.1, fun _ => kit_t5.2.1, fun _ => kit_t5.2.2.1, fun _ => kit_t5.2.2.2.1, fun a xs e => by simp only [tupL, e]; exact kit_t5.2.2.2.2.1, fun a o xs e => by simp only [tupL, e]; exact kit_t5.2.2.2.2.1, fun a xs e => by simp only [tupL, e]; exact kit_t5.2.2.2.2.2.1, fun a xs e => by simp only [tupL, e]; exact kit_t5.2.2.2.2.2.2, fun a xs e => by simp only [tupL, e]; exact kit_t5.2.2.2.2.2.2⟩ hk h
theorem tupL_true {v : V} {H : Hp} (h : tupL H v = true) : ∃ a xs, v = .ref a ∧ H a = some (.tup xs) := by
  unfold tupL at h
  split at h
  · split at h
    · exact ⟨_, _, rfl, by assumption⟩
    · cases h
  · cases h
theorem tupL_false {a : Addr} {H : Hp} {xs : List V} (h : tupL H (.ref a) = false) (e : H a = some (.tup xs)) : False := by
  simp only [tupL, e] at h
  cases h
theorem lstL_true {v : V} {H : Hp} (h : lstL H v = true) : ∃ a xs, v = .ref a ∧ (H a = some (.lst xs) ∨ ∃ o, H a = some (.frz o (.lst xs))) := by
  unfold lstL at h
  split at h
  · split at h
    · exact ⟨_, _, rfl, .inl (by assumption)⟩
    · exact ⟨_, _, rfl, .inr ⟨_, by assumption⟩⟩
    · cases h
  · cases h
theorem lstL_false {a : Addr} {H : Hp} {xs : List V} (h : lstL H (.ref a) = false) (e : H a = some (.lst xs)) : False := by
  simp only [lstL, e] at h
  cases h
theorem strL_true {v : V} (h : strL v = true) : ∃ z, v = .str z := by cases v <;> first | exact ⟨_, rfl⟩ | cases h
theorem boolL_true {v : V} (h : boolL v = true) : ∃ z, v = .bl z := by cases v <;> first | exact ⟨_, rfl⟩ | cases h
end
end GL

/-! ### texts -/
namespace GL
open PySem PySem.Spec PyProof.Rows L2
theorem str_len (z : Str) : z.length = z.cps.toList.length := by simp [Str.length]
theorem app_cps (x y : Str) : (x ++ y).cps.toList = x.cps.toList ++ y.cps.toList := by
  show (x.cps ++ y.cps).toList = _
  simp
theorem join_cps : ∀ ys : List Str, (Txt.join ("" : Str) ys).cps.toList = ys.flatMap (·.cps.toList) := by
  intro ys
  unfold Txt.join
  rw [StrLaws.glued_eq_join]
  induction ys with
  | nil => rfl
  | cons x r ih =>
    cases r with
    | nil => show x.cps.toList = _; simp
    | cons y r =>
      show (x ++ ("" : Str) ++ Str.join ("" : Str) (y :: r)).cps.toList = _
      rw [app_cps, app_cps, ih]
      have e : (("" : Str)).cps.toList = [] := rfl
      rw [e, List.append_nil]
      simp only [List.flatMap_cons]
theorem join_len (ys : List Str) (h : ∀ y ∈ ys, y.length = 1) : (Txt.join ("" : Str) ys).length = ys.length := by
  rw [str_len, join_cps]
  induction ys with
  | nil => rfl
  | cons x r ih =>
    rw [List.flatMap_cons, List.length_append, ih fun y hy => h y (List.mem_cons_of_mem _ hy), ← str_len, h x List.mem_cons_self, List.length_cons]
    omega
theorem sum_ones (ys : List Str) (h : ∀ y ∈ ys, y.length = 1) : (ys.map (·.length)).sum = ys.length := by
  induction ys with
  | nil => rfl
  | cons x r ih => rw [List.map_cons, List.sum_cons, ih fun y hy => h y (List.mem_cons_of_mem _ hy), h x List.mem_cons_self, List.length_cons]; omega
theorem cut_len (z : Str) (lo hi : Option Int) : (cutS z lo hi).length ≤ z.length := by
  rw [str_len, str_len z]
  unfold cutS
  simp only [List.length_take, List.length_drop]
  omega
theorem add_len (x y : Str) : (x ++ y).length = x.length + y.length := by rw [str_len, app_cps, List.length_append, ← str_len, ← str_len]
section
variable {K : PySem.W.Frag} {σ : L2.St} {H : Hp} {Q : VK} {R : Option Int → Hp → Prop}
theorem s_sl {r : V → Option Int → Option Int → Hp → VK → Prop} {te : TE} {tl th : TO} (h : te σ H fun x H1 => tl σ H1 fun l H2 => th σ H2 fun u H3 => r x l u H3 Q) : L2.tSl r te tl th σ H Q := h
theorem s_nopart (h : R none H) : tNoPart σ H R := h
def isI (x : V) (H : Hp) (R : Option Int → Hp → Prop) : Prop := ∃ i, x = .int i ∧ R (some i) H
theorem s_isI {i : Int} (h : R (some i) H) : isI (.int i) H R := ⟨i, rfl, h⟩
theorem s_part {t : TE} (h : t σ H fun x H1 => isI x H1 R) : tPart t σ H R := h
theorem o_slS {z : Str} {lo hi : Option Int} (hz : z.length ≤ sizeLine) (h : Q (.str (cutS z lo hi)) H) : rSlS (.str z) lo hi H Q := ⟨z, rfl, hz, h⟩
/-- an item of a written list -/
theorem atI_mem {xs : List V} {i : Int} (h0 : 0 ≤ i) (h1 : i < xs.length) : ∃ v, atI xs i = some v ∧ v ∈ xs := by
  obtain ⟨v, e1, e2⟩ := atI_of h0 h1
  exact ⟨v, e1, List.mem_of_getElem? e2⟩
end
end GL

/-! ### dict displays -/
namespace GL
open PySem PySem.Spec PyProof.Rows L2
section
variable {K : PySem.W.Frag} {σ : L2.St} {H : Hp} {Q : VK} {QP : List (V × V) → Hp → Prop}
def isDisp (p : Addr) (ps : List (V × V)) (H2 : Hp) (Q : VK) : Prop := H2 p = some (.dK []) ∧ ∃ kvs : List (Key × V), ps = kvs.map (fun kv => (kV kv.1, kv.2)) ∧ kvs.length ≤ 15 ∧ Q (.ref p) (upd H2 p (.dK (mergeK [] kvs)))
theorem s_disp {trs : List (TE × TE)} (h : ∀ p, H p = none → tPairs trs σ (upd H p (.dK [])) fun ps H2 => isDisp p ps H2 Q) : tDisp trs σ H Q := h
theorem s_pcons {tk tv : TE} {r : List (TE × TE)} (h : tk σ H fun x H1 => tv σ H1 fun y H2 => tPairs r σ H2 fun ps H3 => QP ((x, y) :: ps) H3) : tPairs ((tk, tv) :: r) σ H QP := h
theorem s_pnil (h : QP [] H) : tPairs [] σ H QP := h
theorem s_disp1 {p : Addr} {a : Str} {v : V} (hp : H p = some (.dK [])) (h : Q (.ref p) (upd H p (.dK [(.inr a, v)]))) : isDisp p [(.str a, v)] H Q := ⟨hp, [(.inr a, v)], rfl, (by decide : 1 ≤ 15), h⟩
theorem s_dnew (h : ∀ p, H p = none → Q (.ref p) (upd H p (.dK []))) : tDNewK σ H Q := h
end
end GL

/-! ### new objects, the heap behind them a letter -/
namespace GL
open PySem PySem.Spec PyProof.Rows L2
section
variable {K : PySem.W.Frag} {σ : L2.St} {H : Hp} {Q : VK}
theorem n_T {xs : List V} (hl : xs.length ≤ sizeLine) (h : ∀ p H1, H p = none → H1 p = some (.tup xs) → Same H H1 → Q (.ref p) H1) : mkT xs H Q := ⟨hl, fun p hp => h p _ hp upd_same (same_new hp)⟩
theorem n_L {xs : List V} (hl : xs.length ≤ sizeLine) (h : ∀ p H1, H p = none → H1 p = some (.lst xs) → Same H H1 → Q (.ref p) H1) : mkL xs H Q := ⟨hl, fun p hp => h p _ hp upd_same (same_new hp)⟩
theorem n_dnew (h : ∀ p H1, H p = none → H1 p = some (.dK []) → Same H H1 → Q (.ref p) H1) : tDNewK σ H Q := fun p hp => h p _ hp upd_same (same_new hp)
theorem n_disp {trs : List (TE × TE)} (h : ∀ p H1, H p = none → H1 p = some (.dK []) → Same H H1 → tPairs trs σ H1 fun ps H2 => isDisp p ps H2 Q) : tDisp trs σ H Q := fun p hp => h p _ hp upd_same (same_new hp)
theorem n_disp1 {p : Addr} {a : Str} {v : V} (hp : H p = some (.dK [])) (h : ∀ H3, H3 p = some (.dK [(.inr a, v)]) → Keep p H H3 → Q (.ref p) H3) : isDisp p [(.str a, v)] H Q := s_disp1 hp (h _ upd_same (Keep.upd _ _ _))
theorem n_addL {a b : Addr} {xs ys : List V} (ha : H a = some (.lst xs)) (hb : H b = some (.lst ys)) (hl : xs.length + ys.length ≤ sizeLine) (h : ∀ p H1, H p = none → H1 p = some (.lst (xs ++ ys)) → Same H H1 → Q (.ref p) H1) : gAdd K (.ref a) (.ref b) H Q :=
  o_addL ha hb hl fun p hp => h p _ hp upd_same (same_new hp)
end
end GL
namespace K01
open PySem PySem.Spec L2 GL
local macro_rules | `(tactic| walk_at "h") => `(tactic| first
  | assumption
  | exact upd_same
  | (refine' Eq.trans (upd_ne ?hh1) ?hh2; (case hh1 => walk_at "ne"); (case hh2 => walk_at "h"))
  | (refine' (by assumption : Same _ _) _ _ ?hh1; (case hh1 => walk_at "h"))
  | (refine' (by assumption : GL.Keep _ _ _) _ _ ?hh1 ?hh2; (case hh1 => walk_at "ne"); (case hh2 => walk_at "h")))
local macro_rules | `(tactic| walk_at "ne") => `(tactic| first
  | assumption
  | (refine Ne.symm ?_; assumption)
  | (refine' ne_of_none ?hh1 (by assumption); (case hh1 => walk_at "h"))
  | (refine' Ne.symm (ne_of_none ?hh1 (by assumption)); (case hh1 => walk_at "h")))
local macro_rules | `(tactic| walk_at "s") => `(tactic| first
  | with_reducible refine GL.s_op ?_ | with_reducible refine GL.s_C ?_ | with_reducible refine GL.s_cons ?_ | with_reducible refine GL.s_nil ?_
  | with_reducible refine GL.s_v0 ?_ | with_reducible refine GL.s_v1 ?_ | with_reducible refine GL.s_v2 ?_ | with_reducible refine GL.s_v3 ?_ | with_reducible refine GL.s_v4 ?_ | with_reducible refine GL.s_v5 ?_ | with_reducible refine GL.s_v6 ?_ | with_reducible refine GL.s_v7 ?_
  | with_reducible refine GL.s_v8 ?_ | with_reducible refine GL.s_v9 ?_ | with_reducible refine GL.s_v10 ?_ | with_reducible refine GL.s_v11 ?_ | with_reducible refine GL.s_v12 ?_ | with_reducible refine GL.s_v13 ?_ | with_reducible refine GL.s_v14 ?_ | with_reducible refine GL.s_v15 ?_
  | with_reducible refine GL.s_seq ?_ | with_reducible refine GL.s_asg ?_ | with_reducible refine GL.s_ret ?_ | with_reducible refine GL.s_ifS ?_ | with_reducible refine GL.s_drop ?_ | with_reducible refine GL.s_next ?_ | with_reducible refine GL.s_retN ?_ | with_reducible refine GL.s_cont ?_ | with_reducible refine GL.s_break ?_
  | with_reducible refine GL.s_g0 ?_ | with_reducible refine GL.s_g1 ?_ | with_reducible refine GL.s_g2 ?_ | with_reducible refine GL.s_g3 ?_ | with_reducible refine GL.s_g4 ?_ | with_reducible refine GL.s_g5 ?_ | with_reducible refine GL.s_g6 ?_ | with_reducible refine GL.s_g7 ?_
  | with_reducible refine GL.s_g8 ?_ | with_reducible refine GL.s_g9 ?_ | with_reducible refine GL.s_g10 ?_ | with_reducible refine GL.s_g11 ?_ | with_reducible refine GL.s_g12 ?_ | with_reducible refine GL.s_g13 ?_ | with_reducible refine GL.s_g14 ?_ | with_reducible refine GL.s_g15 ?_
  | with_reducible refine GL.s_test ?_ | with_reducible refine GL.s_isB ?_ | with_reducible refine GL.s_and ?_ | with_reducible refine GL.s_or ?_ | with_reducible refine GL.s_not ?_ | with_reducible refine GL.s_tru ?_ | with_reducible refine GL.s_chain ?_
  | with_reducible refine GL.s_andT ?_ | with_reducible refine GL.s_orT ?_ | with_reducible refine GL.s_notT ?_ | with_reducible refine GL.tr_bl ?_ | with_reducible refine GL.tr_int ?_ | with_reducible refine GL.tr_non ?_
  | with_reducible refine GL.s_cl ?_ | with_reducible refine GL.s_cb ?_ | with_reducible refine GL.s_un ?_ | with_reducible refine GL.s_if ?_ | with_reducible refine GL.s_tup ?_ | with_reducible refine GL.s_lst ?_ | with_reducible refine GL.s_sub ?_ | with_reducible refine GL.s_par ?_ | with_reducible refine GL.s_is2 ?_ | with_reducible refine GL.s_yes ?_
  | with_reducible refine GL.s_lc ?_ | with_reducible refine GL.s_for ?_ | with_reducible refine GL.s_rng1 ?_ | with_reducible refine GL.s_rng2 ?_ | with_reducible refine GL.s_iList ?_ | with_reducible refine GL.s_iTup ?_ | with_reducible refine GL.s_iStr ?_ | with_reducible refine GL.s_isSt ?_ | with_reducible refine GL.s_m1 ?_ | with_reducible refine GL.s_m0 ?_
  | with_reducible refine GL.s_pcons ?_ | with_reducible refine GL.s_pnil ?_ | with_reducible refine GL.s_sl ?_ | with_reducible refine GL.s_nopart ?_ | with_reducible refine GL.s_part ?_ | with_reducible refine GL.s_isI ?_ | with_reducible refine GL.s_gcons ?_ | with_reducible refine GL.s_gnil ?_ | with_reducible refine GL.c_intI ?_ | with_reducible refine GL.c_intB ?_
  | with_reducible refine GL.s_nT ?_ | with_reducible refine GL.s_nF ?_ | with_reducible refine iteT ?_ | with_reducible refine iteF ?_
  | with_reducible refine GL.o_addI ?_ | with_reducible refine GL.o_sub ?_ | with_reducible refine GL.o_eqI ?_ | with_reducible refine GL.o_neI ?_ | with_reducible refine GL.o_ltI ?_ | with_reducible refine GL.o_leI ?_ | with_reducible refine GL.o_gt ?_ | with_reducible refine GL.o_ge ?_
  | with_reducible refine GL.o_and ?_ | with_reducible refine GL.o_or ?_ | with_reducible refine GL.o_neg ?_ | with_reducible refine GL.o_eqS ?_ | with_reducible refine GL.o_neS ?_ | with_reducible refine GL.o_eqB ?_ | with_reducible refine GL.o_neB ?_ | with_reducible refine GL.o_ltS ?_ | with_reducible refine GL.o_leS ?_
  | with_reducible refine GL.o_isN ?_ | with_reducible refine GL.o_isB ?_ | with_reducible refine GL.o_isnN ?_ | with_reducible refine GL.o_inC ?_)
local macro_rules | `(tactic| walk_at "n") => `(tactic| first | decide | omega)
local macro_rules | `(tactic| walk_at "a") => `(tactic| first
  | ((with_reducible refine' GL.o_mod ?hh1 ?hh2); (case hh1 => walk_at "n"))
  | ((with_reducible refine' GL.o_fdiv (GL.cdiv ?hh1 ?hh2) ?hh3); (case hh1 => walk_at "n"); (case hh2 => walk_at "n"))
  | ((with_reducible refine' GL.o_mulI (GL.cmul ?hh1 ?hh2 ?hh3 ?hh4) ?hh5); (case hh1 => walk_at "n"); (case hh2 => walk_at "n"); (case hh3 => walk_at "n"); (case hh4 => walk_at "n"))
  | ((with_reducible refine' GL.o_pow (GL.cpow ?hh1 ?hh2 ?hh3) ?hh4); (case hh1 => walk_at "n"); (case hh2 => walk_at "n"); (case hh3 => walk_at "n"))
  | ((with_reducible refine' GL.o_shl (GL.cpow ?hh1 ?hh2 ?hh3) ?hh4); (case hh1 => walk_at "n"); (case hh2 => walk_at "n"); (case hh3 => walk_at "n"))
  | ((with_reducible refine' GL.o_shr ?hh1 ?hh2); (case hh1 => walk_at "n"))
  | ((with_reducible refine' GL.o_ixL ?hh1 ?hh2 ?hh3); (case hh1 => walk_at "h"); (case hh2 => rfl))
  | ((with_reducible refine' GL.o_ixT ?hh1 ?hh2 ?hh3); (case hh1 => walk_at "h"); (case hh2 => rfl))
  | ((with_reducible refine' GL.o_set3a ?hh1 ?hh2); (case hh1 => walk_at "h"))
  | ((with_reducible refine' GL.o_set3b ?hh1 ?hh2); (case hh1 => walk_at "h"))
  | ((with_reducible refine' GL.o_set3c ?hh1 ?hh2); (case hh1 => walk_at "h"))
  | ((with_reducible refine' GL.o_setL ?hh1 ?hh2 ?hh3); (case hh1 => walk_at "h"); (case hh2 => rfl))
  | ((with_reducible refine' GL.c_lenL ?hh1 ?hh2); (case hh1 => walk_at "h"))
  | ((with_reducible refine' GL.c_lenT ?hh1 ?hh2); (case hh1 => walk_at "h"))
  | ((with_reducible refine' GL.s_gtup ?hh1 ?hh2 ?hh3); (case hh1 => walk_at "h"); (case hh2 => rfl))
  | ((with_reducible refine' GL.s_isRng ?hh1 ?hh2 ?hh3); (case hh1 => walk_at "n"); (case hh2 => walk_at "n"))
  | ((with_reducible refine' GL.s_isRng2 ?hh1 ?hh2 ?hh3 ?hh4 ?hh5); (case hh1 => walk_at "n"); (case hh2 => walk_at "n"); (case hh3 => walk_at "n"); (case hh4 => walk_at "n"))
  | ((with_reducible refine' GL.s_isLst (SqL.of ?hh1) ?hh2); (case hh1 => walk_at "h"))
  | ((with_reducible refine' GL.s_isTp (SqT.of ?hh1) ?hh2); (case hh1 => walk_at "h")))
local macro_rules | `(tactic| walk_at "n1") => `(tactic| first
  | with_reducible refine GL.s_mkT (Nat.le_of_ble_eq_true rfl) ?_ | with_reducible refine GL.s_mkL (Nat.le_of_ble_eq_true rfl) ?_ | with_reducible refine GL.s_disp ?_ | with_reducible refine GL.s_dnew ?_
  | ((with_reducible refine' GL.s_disp1 ?hh1 ?hh2); (case hh1 => walk_at "h")))
local macro_rules | `(tactic| walk_at "n2") => `(tactic| first
  | with_reducible refine GL.n_T (Nat.le_of_ble_eq_true rfl) ?_ | with_reducible refine GL.n_L (Nat.le_of_ble_eq_true rfl) ?_ | with_reducible refine GL.n_disp ?_ | with_reducible refine GL.n_dnew ?_
  | ((with_reducible refine' GL.n_disp1 ?hh1 ?hh2); (case hh1 => walk_at "h")))
local macro_rules | `(tactic| walk_at "r") => `(tactic| repeat (first | walk_at "s" | walk_at "a" | walk_at "n1"))
local macro_rules | `(tactic| walk_at "q") => `(tactic| repeat (first | walk_at "s" | walk_at "a" | walk_at "n2"))
local macro_rules | `(tactic| walk_at "k") => `(tactic| first
  | exact Keep.refl _ _
  | assumption
  | (refine Keep.trans ?_ (Keep.upd _ _ _); walk_at "k")
  | (refine Keep.trans ?_ (Keep.new (by assumption)); walk_at "k")
  | (refine Keep.trans ?_ (by assumption : Keep _ _ _); walk_at "k")
  | (refine Keep.trans ?_ (Keep.same (by assumption)); walk_at "k"))
/-! k01: what each def is worth -/
/-- the box of draws: three whole numbers, the last one counts -/
def isBox (o : HO) (k : Nat) : Prop := ∃ x y z : Int, o = .lst [.int x, .int y, .int z] ∧ 0 ≤ x ∧ 0 ≤ y ∧ y < 2147483629 ∧ 0 ≤ z ∧ z ≤ k
def BoxAt (H : Hp) (b : Addr) (k : Nat) : Prop := ∃ o, H b = some o ∧ isBox o k
def sp_law_cell (K : PySem.W.Frag) : Sp := fun vs H Q _ => ∃ (a : Addr) (ns : List Int) (j : Int), vs = [.ref a, .int j] ∧ SqL K H a (ns.map V.int) ∧ 0 ≤ j ∧ j < 1000 ∧ ∀ n : Int, Q (.int n) H
def sp_law_box (_ : PySem.W.Frag) : Sp := fun vs H Q _ => ∃ c : Int, vs = [.int c] ∧ ∀ p o, H p = none → isBox o 0 → Q (.ref p) (upd H p o)
def sp_law_take (_ : PySem.W.Frag) : Sp := fun vs H Q _ => ∃ (b : Addr) (m : Int) (k : Nat), vs = [.ref b, .int m] ∧ BoxAt H b k ∧ 1 ≤ m ∧ m < 2 ^ 40 ∧ k < 2 ^ 40 ∧
  ∀ (n : Int) (o : HO), 0 ≤ n → n < m → isBox o (k + 1) → Q (.int n) (upd H b o)
/-- whole numbers -/
def wholeB : V → Bool
  | .int _ => true
  | _ => false
def withinB (lo hi : Int) : V → Bool
  | .int i => decide (lo ≤ i) && decide (i ≤ hi)
  | _ => false
def letters : Str := "abcdefghijklmnopqrstuvwxyz"
def nameS (z : Str) : Bool := decide (1 ≤ z.length) && (decide (z.length ≤ 6) && z.cps.toList.all fun c => decide (c ∈ letters.cps.toList))
def nameB : V → Bool
  | .str z => nameS z
  | _ => false
def shareT : List V → Bool
  | [.int x, .int y] => decide (0 ≤ x) && (decide (1 ≤ y) && decide (Int.gcd x y = 1))
  | _ => false
def shareB (H : Hp) : V → Bool
  | .ref a => (match H a with
    | some (.tup xs) => shareT xs
    | _ => false)
  | _ => false
def small : V → Prop
  | .str z => z.length ≤ 1000
  | .non => True
  | .bl _ => True
  | .int _ => True
  | _ => False
/-- a thing of the law: flat, or a list, a tuple, a dict of flat ones, not the box -/
def Thg (H : Hp) (b : Addr) (v : V) : Prop := small v ∨ ∃ a, v = .ref a ∧ a ≠ b ∧ ((∃ xs, H a = some (.lst xs)) ∨ (∃ xs, H a = some (.tup xs) ∧ ∀ x ∈ xs, small x) ∨ ∃ kvs, H a = some (.dK kvs))
def sp_is_whole (_ : PySem.W.Frag) : Sp := fun vs H Q _ => ∃ v t, vs = [v] ∧ GL.kindOf H v = some t ∧ Q (.bl (wholeB v)) H
def sp_law_whole (_ : PySem.W.Frag) : Sp := fun vs H Q _ => ∃ v t, vs = [v] ∧ GL.kindOf H v = some t ∧ Q (.bl (wholeB v)) H
def sp_is_within (_ : PySem.W.Frag) : Sp := fun vs H Q _ => ∃ v t lo hi, vs = [v, .int lo, .int hi] ∧ GL.kindOf H v = some t ∧ Q (.bl (withinB lo hi v)) H
def okName (v : V) : Prop := ∀ z, v = .str z → z.length ≤ 1000
def sp_is_name (_ : PySem.W.Frag) : Sp := fun vs H Q _ => ∃ v t, vs = [v] ∧ GL.kindOf H v = some t ∧ okName v ∧ ∀ H', Same H H' → Q (.bl (nameB v)) H'
def sp_law_is_name (_ : PySem.W.Frag) : Sp := fun vs H Q _ => ∃ v t, vs = [v] ∧ GL.kindOf H v = some t ∧ okName v ∧ ∀ H', Same H H' → Q (.bl (nameB v)) H'
def sp_common_of (_ : PySem.W.Frag) : Sp := fun vs H Q _ => ∃ a b : Int, vs = [.int a, .int b] ∧ 0 ≤ a ∧ 0 ≤ b ∧ Q (.int (Int.gcd a b)) H
def okShare (H : Hp) (v : V) : Prop := ∃ t, GL.kindOf H v = some t ∧ ∀ a xs, v = .ref a → H a = some (.tup xs) → ∀ x ∈ xs, small x
def sp_is_share (_ : PySem.W.Frag) : Sp := fun vs H Q _ => ∃ v, vs = [v] ∧ okShare H v ∧ Q (.bl (shareB H v)) H
def sp_law_is_share (_ : PySem.W.Frag) : Sp := fun vs H Q _ => ∃ v, vs = [v] ∧ okShare H v ∧ Q (.bl (shareB H v)) H
def sp_law_told (_ : PySem.W.Frag) : Sp := fun vs H Q _ => ∃ x y, vs = [.bl x, .bl y] ∧ Q (.bl (decide (x = y))) H
def sp_law_text (_ : PySem.W.Frag) : Sp := fun vs H Q _ => ∃ (b : Addr) (m k : Nat), vs = [.ref b, .int m] ∧ BoxAt H b k ∧ m ≤ 100 ∧ k < 2 ^ 30 ∧ ∀ (z : Str) H', GL.Keep b H H' → BoxAt H' b (k + m) → z.length = m → Q (.str z) H'
def sp_law_near (_ : PySem.W.Frag) : Sp := fun vs H Q _ => ∃ (b : Addr) (k : Nat), vs = [.ref b] ∧ BoxAt H b k ∧ k < 2 ^ 20 ∧ ∀ (z : Str) H', GL.Keep b H H' → BoxAt H' b (k + 20) → z.length ≤ 20 → Q (.str z) H'
def sp_law_number (_ : PySem.W.Frag) : Sp := fun vs H Q _ => ∃ (b : Addr) (k : Nat), vs = [.ref b] ∧ BoxAt H b k ∧ k < 2 ^ 20 ∧ ∀ (n : Int) H', GL.Keep b H H' → BoxAt H' b (k + 4) → Q (.int n) H'
def sp_law_two (_ : PySem.W.Frag) : Sp := fun vs H Q _ => ∃ (b : Addr) (k : Nat), vs = [.ref b] ∧ BoxAt H b k ∧ k < 2 ^ 20 ∧ ∀ (x y : Int) a H', GL.Keep b H H' → BoxAt H' b (k + 5) → a ≠ b → H' a = some (.tup [.int x, .int y]) → Q (.ref a) H'
def sp_law_thing (_ : PySem.W.Frag) : Sp := fun vs H Q _ => ∃ (b : Addr) (k : Nat), vs = [.ref b] ∧ BoxAt H b k ∧ k < 2 ^ 19 ∧ ∀ v H', GL.Keep b H H' → BoxAt H' b (k + 50) → Thg H' b v → Q v H'
def sp_law (K : PySem.W.Frag) : Sp := fun vs H Q _ => ∃ (a : Addr) (ns : List Int), vs = [.ref a] ∧ SqL K H a (ns.map V.int) ∧ ns.length ≤ 63 ∧ ∀ H', Q (.bl true) H'
/-! the text by places, scopes, readings: printed by gen.py -/
def top (i : Nat) : Stmt := PySem.Challenge.pw_anyonefall_k01_words_and_shares_told.main.body.getD i (.Pass ⟨0, 0, 0, 0⟩)
abbrev s_is_whole : Stmt := top 3
abbrev N_is_whole : List Str := ["thing"]
theorem sc_is_whole : FnScope N_is_whole ["thing"] (defScope s_is_whole) := ⟨rfl, rfl, rfl, by decide +kernel, rfl, by decide +kernel, by decide +kernel⟩
def t_is_whole (K : PySem.W.Frag) (E : XK) : TS := (tRet (tAndT K (tCB (gIsi K) (tCons (tVar 0) (tCons (tC (.ty "int")) tNil))) (tNotT K (tCB (gIsi K) (tCons (tVar 0) (tCons (tC (.ty "bool")) tNil))))))
abbrev s_is_within : Stmt := top 4
abbrev N_is_within : List Str := ["thing", "low", "high"]
theorem sc_is_within : FnScope N_is_within ["thing", "low", "high"] (defScope s_is_within) := ⟨rfl, rfl, rfl, by decide +kernel, rfl, by decide +kernel, by decide +kernel⟩
def t_is_within (K : PySem.W.Frag) (E : XK) : TS := (tRet (tAndT K (tCl (sp_is_whole K) E0 (tCons (tVar 0) tNil)) (tChain gLe gLe (tVar 1) (tVar 0) (tVar 2))))
abbrev s_is_name : Stmt := top 5
abbrev N_is_name : List Str := ["thing", "sign"]
theorem sc_is_name : FnScope N_is_name ["thing"] (defScope s_is_name) := ⟨rfl, rfl, rfl, by decide +kernel, rfl, by decide +kernel, by decide +kernel⟩
def t_is_name (K : PySem.W.Frag) (E : XK) : TS := (tSeq (tIfS (tOr (tNot (tTru K (tCB (gIsi K) (tCons (tVar 0) (tCons (tC (.ty "str")) tNil))))) (tNot (tTest (tChain gLe gLe (tC (.int 1)) (tCB (gLen K) (tCons (tVar 0) tNil)) (tC (.int 6)))))) (tRet (tC (.bl false))) tNext) (tRet (tCB (rAll K) (tCons (tLc (iStr (tVar 0)) (gName 1) tYes (tOp gInC (tVar 1) (tC (.str "abcdefghijklmnopqrstuvwxyz"))) [1]) tNil))))
abbrev s_common_of : Stmt := top 7
abbrev N_common_of : List Str := ["one", "other"]
theorem sc_common_of : FnScope N_common_of ["one", "other"] (defScope s_common_of) := ⟨rfl, rfl, rfl, by decide +kernel, rfl, by decide +kernel, by decide +kernel⟩
def t_common_of (K : PySem.W.Frag) (E : XK) : TS := (tSeq (tWhile (tTest (tOp (gNe K) (tVar 1) (tC (.int 0)))) (tPar 0 1 (tCons (tVar 1) (tCons (tOp gMod (tVar 0) (tVar 1)) tNil)))) (tRet (tVar 0)))
abbrev s_is_share : Stmt := top 8
abbrev N_is_share : List Str := ["thing"]
theorem sc_is_share : FnScope N_is_share ["thing"] (defScope s_is_share) := ⟨rfl, rfl, rfl, by decide +kernel, rfl, by decide +kernel, by decide +kernel⟩
def t_is_share (K : PySem.W.Frag) (E : XK) : TS := (tSeq (tIfS (tOr (tNot (tTru K (tCB (gIsi K) (tCons (tVar 0) (tCons (tC (.ty "tuple")) tNil))))) (tOr (tTest (tOp (gNe K) (tCB (gLen K) (tCons (tVar 0) tNil)) (tC (.int 2)))) (tOr (tNot (tTru K (tCl (sp_is_whole K) E0 (tCons (tOp (rIx K) (tVar 0) (tC (.int 0))) tNil)))) (tNot (tTru K (tCl (sp_is_whole K) E0 (tCons (tOp (rIx K) (tVar 0) (tC (.int 1))) tNil))))))) (tRet (tC (.bl false))) tNext) (tRet (tAndT K (tOp gGe (tOp (rIx K) (tVar 0) (tC (.int 0))) (tC (.int 0))) (tAndT K (tOp gGe (tOp (rIx K) (tVar 0) (tC (.int 1))) (tC (.int 1))) (tOp (gEq K) (tCl (sp_common_of K) E0 (tCons (tOp (rIx K) (tVar 0) (tC (.int 0))) (tCons (tOp (rIx K) (tVar 0) (tC (.int 1))) tNil))) (tC (.int 1)))))))
abbrev s_law_cell : Stmt := top 10
abbrev N_law_cell : List Str := ["_law_script", "_law_k"]
theorem sc_law_cell : FnScope N_law_cell ["_law_script", "_law_k"] (defScope s_law_cell) := ⟨rfl, rfl, rfl, by decide +kernel, rfl, by decide +kernel, by decide +kernel⟩
def t_law_cell (K : PySem.W.Frag) (E : XK) : TS := (tSeq (tIfS (tTest (tOp gLt (tVar 1) (tCB (gLen K) (tCons (tVar 0) tNil)))) (tRet (tOp (rIx K) (tVar 0) (tVar 1))) tNext) (tRet (tOp (gAdd K) (tOp gMul (tC (.int 7919)) (tVar 1)) (tC (.int 13)))))
abbrev s_law_box : Stmt := top 11
abbrev N_law_box : List Str := ["_law_cell_here"]
theorem sc_law_box : FnScope N_law_box ["_law_cell_here"] (defScope s_law_box) := ⟨rfl, rfl, rfl, by decide +kernel, rfl, by decide +kernel, by decide +kernel⟩
def t_law_box (K : PySem.W.Frag) (E : XK) : TS := (tSeq (tIfS (tTest (tOp gGe (tVar 0) (tOp gPow (tC (.int 10)) (tC (.int 18))))) (tRet (tLst (tCons (tVar 0) (tCons (tOp gMod (tVar 0) (tC (.int 2147483629))) (tCons (tC (.int 0)) tNil))))) tNext) (tRet (tLst (tCons (tC (.int 0)) (tCons (tOp gMod (tVar 0) (tC (.int 2147483629))) (tCons (tC (.int 0)) tNil))))))
abbrev s_law_take : Stmt := top 12
abbrev N_law_take : List Str := ["_law_box_here", "_law_many", "_law_number_here"]
theorem sc_law_take : FnScope N_law_take ["_law_box_here", "_law_many"] (defScope s_law_take) := ⟨rfl, rfl, rfl, by decide +kernel, rfl, by decide +kernel, by decide +kernel⟩
def t_law_take (K : PySem.W.Frag) (E : XK) : TS := (tSeq (tIfS (tTest (tOp gGt (tOp (rIx K) (tVar 0) (tC (.int 0))) (tC (.int 0)))) (tSeq (tAsg (tOp gMod (tOp (rIx K) (tVar 0) (tC (.int 0))) (tVar 1)) (gName 2)) (tSeq (tAsg (tOp gFdiv (tOp (rIx K) (tVar 0) (tC (.int 0))) (tVar 1)) (L2.gSub (tVar 0) (tC (.int 0)) rSetL)) (tRet (tVar 2)))) tNext) (tSeq (tAsg (tOp (gAdd K) (tOp (rIx K) (tVar 0) (tC (.int 2))) (tC (.int 1))) (L2.gSub (tVar 0) (tC (.int 2)) rSetL)) (tSeq (tAsg (tOp gMod (tOp (gAdd K) (tOp (gAdd K) (tOp gMul (tOp (rIx K) (tVar 0) (tC (.int 1))) (tC (.int 48271))) (tOp gMul (tC (.int 7919)) (tOp (rIx K) (tVar 0) (tC (.int 2))))) (tC (.int 101))) (tC (.int 2147483647))) (gName 2)) (tSeq (tAsg (tOp gMod (tOp (gAdd K) (tOp (gAdd K) (tOp gMul (tVar 2) (tVar 2)) (tOp gMul (tC (.int 104729)) (tOp (rIx K) (tVar 0) (tC (.int 2))))) (tC (.int 7))) (tC (.int 2147483629))) (gName 2)) (tRet (tOp gMod (tOp gMod (tOp gMul (tVar 2) (tOp (gAdd K) (tVar 2) (tC (.int 3)))) (tC (.int 2147483587))) (tVar 1)))))))
abbrev s_law_text : Stmt := top 13
abbrev N_law_text : List Str := ["_law_box_here", "_law_many", "_law_signs", "_law_k"]
theorem sc_law_text : FnScope N_law_text ["_law_box_here", "_law_many"] (defScope s_law_text) := ⟨rfl, rfl, rfl, by decide +kernel, rfl, by decide +kernel, by decide +kernel⟩
def t_law_text (K : PySem.W.Frag) (E : XK) : TS := (tSeq (tAsg (tC (.str " !\"#$&'()*+,-./0123456789:;<=>?@ABCDEFGHIJKLMNOPQRSTUVWXYZ[]^_`{|}~\n")) (gName 2)) (tSeq (tAsg (tOp (gAdd K) (tVar 2) (tOp gMul (tC (.str "abcdefghijklmnopqrstuvwxyz")) (tC (.int 8)))) (gName 2)) (tRet (tM1 (gJoin K) (tC (.str "")) (tLc (iRng1 (tCons (tVar 1) tNil)) (gName 3) tYes (tOp (rIx K) (tVar 2) (tCl (sp_law_take K) E0 (tCons (tVar 0) (tCons (tCB (gLen K) (tCons (tVar 2) tNil)) tNil)))) [3])))))
abbrev s_law_near : Stmt := top 14
abbrev N_law_near : List Str := ["_law_box_here", "_law_letters", "_law_name", "_law_k", "_law_at", "_law_way", "_law_sign"]
theorem sc_law_near : FnScope N_law_near ["_law_box_here"] (defScope s_law_near) := ⟨rfl, rfl, rfl, by decide +kernel, rfl, by decide +kernel, by decide +kernel⟩
def t_law_near (K : PySem.W.Frag) (E : XK) : TS := (tSeq (tAsg (tC (.str "abcdefghijklmnopqrstuvwxyz")) (gName 1)) (tSeq (tAsg (tM1 (gJoin K) (tC (.str "")) (tLc (iRng1 (tCons (tOp (gAdd K) (tC (.int 1)) (tCl (sp_law_take K) E0 (tCons (tVar 0) (tCons (tC (.int 6)) tNil)))) tNil)) (gName 3) tYes (tOp (rIx K) (tVar 1) (tCl (sp_law_take K) E0 (tCons (tVar 0) (tCons (tC (.int 26)) tNil)))) [3])) (gName 2)) (tSeq (tAsg (tCl (sp_law_take K) E0 (tCons (tVar 0) (tCons (tOp (gAdd K) (tCB (gLen K) (tCons (tVar 2) tNil)) (tC (.int 1))) tNil))) (gName 4)) (tSeq (tAsg (tCl (sp_law_take K) E0 (tCons (tVar 0) (tCons (tC (.int 5)) tNil))) (gName 5)) (tSeq (tAsg (tCl (sp_law_text K) E0 (tCons (tVar 0) (tCons (tC (.int 1)) tNil))) (gName 6)) (tSeq (tIfS (tTest (tOp (gEq K) (tVar 5) (tC (.int 0)))) (tRet (tOp (gAdd K) (tOp (gAdd K) (L2.tSl rSlS (tVar 2) tNoPart (tPart (tVar 4))) (tVar 6)) (L2.tSl rSlS (tVar 2) (tPart (tVar 4)) tNoPart))) tNext) (tSeq (tIfS (tTest (tOp (gEq K) (tVar 5) (tC (.int 1)))) (tRet (tOp (gAdd K) (L2.tSl rSlS (tVar 2) tNoPart (tPart (tVar 4))) (L2.tSl rSlS (tVar 2) (tPart (tOp (gAdd K) (tVar 4) (tC (.int 1)))) tNoPart))) tNext) (tSeq (tIfS (tTest (tOp (gEq K) (tVar 5) (tC (.int 2)))) (tRet (tOp (gAdd K) (tOp (gAdd K) (L2.tSl rSlS (tVar 2) tNoPart (tPart (tVar 4))) (tVar 6)) (L2.tSl rSlS (tVar 2) (tPart (tOp (gAdd K) (tVar 4) (tC (.int 1)))) tNoPart))) tNext) (tRet (tOp (rIx K) (tLst (tCons (tM0 gUpper (tVar 2)) (tCons (tVar 2) tNil))) (tOp gSubI (tVar 5) (tC (.int 3)))))))))))))
abbrev s_law_number : Stmt := top 15
abbrev N_law_number : List Str := ["_law_box_here", "_law_low", "_law_number_here"]
theorem sc_law_number : FnScope N_law_number ["_law_box_here"] (defScope s_law_number) := ⟨rfl, rfl, rfl, by decide +kernel, rfl, by decide +kernel, by decide +kernel⟩
def t_law_number (K : PySem.W.Frag) (E : XK) : TS := (tSeq (tAsg (tOp (rIx K) (tLst (tCons (tC (.int 0)) (tCons (tC (.int 1)) (tCons (tOp gPow (tC (.int 10)) (tC (.int 6))) (tCons (tOp gPow (tC (.int 10)) (tC (.int 29))) tNil))))) (tCl (sp_law_take K) E0 (tCons (tVar 0) (tCons (tC (.int 4)) tNil)))) (gName 1)) (tSeq (tAsg (tCl (sp_law_take K) E0 (tCons (tVar 0) (tCons (tOp (rIx K) (tLst (tCons (tC (.int 3)) (tCons (tC (.int 100)) (tCons (tOp gPow (tC (.int 10)) (tC (.int 9))) tNil)))) (tCl (sp_law_take K) E0 (tCons (tVar 0) (tCons (tC (.int 3)) tNil)))) tNil))) (gName 2)) (tRet (tOp (rIx K) (tLst (tCons (tVar 2) (tCons (tOp gSubI (tC (.int 0)) (tVar 2)) (tCons (tVar 1) (tCons (tOp gSubI (tC (.int 0)) (tVar 1)) (tCons (tOp gSubI (tVar 2) (tC (.int 1))) tNil)))))) (tCl (sp_law_take K) E0 (tCons (tVar 0) (tCons (tC (.int 5)) tNil)))))))
abbrev s_law_two : Stmt := top 16
abbrev N_law_two : List Str := ["_law_box_here", "_law_one", "_law_other", "_law_times"]
theorem sc_law_two : FnScope N_law_two ["_law_box_here"] (defScope s_law_two) := ⟨rfl, rfl, rfl, by decide +kernel, rfl, by decide +kernel, by decide +kernel⟩
def t_law_two (K : PySem.W.Frag) (E : XK) : TS := (tSeq (tAsg (tCl (sp_law_take K) E0 (tCons (tVar 0) (tCons (tOp (rIx K) (tLst (tCons (tC (.int 5)) (tCons (tC (.int 50)) (tCons (tOp gPow (tC (.int 10)) (tC (.int 6))) tNil)))) (tCl (sp_law_take K) E0 (tCons (tVar 0) (tCons (tC (.int 3)) tNil)))) tNil))) (gName 1)) (tSeq (tAsg (tOp (gAdd K) (tC (.int 1)) (tCl (sp_law_take K) E0 (tCons (tVar 0) (tCons (tOp (rIx K) (tLst (tCons (tC (.int 5)) (tCons (tC (.int 50)) (tCons (tOp gPow (tC (.int 10)) (tC (.int 6))) tNil)))) (tCl (sp_law_take K) E0 (tCons (tVar 0) (tCons (tC (.int 3)) tNil)))) tNil)))) (gName 2)) (tSeq (tAsg (tOp (rIx K) (tLst (tCons (tC (.int 1)) (tCons (tC (.int 1)) (tCons (tC (.int 2)) (tCons (tC (.int 7)) tNil))))) (tCl (sp_law_take K) E0 (tCons (tVar 0) (tCons (tC (.int 4)) tNil)))) (gName 3)) (tRet (tTup (tCons (tOp gMul (tVar 1) (tVar 3)) (tCons (tOp gMul (tVar 2) (tVar 3)) tNil)))))))
abbrev s_law_thing : Stmt := top 17
abbrev N_law_thing : List Str := ["_law_box_here", "_law_way", "_law_inner"]
theorem sc_law_thing : FnScope N_law_thing ["_law_box_here"] (defScope s_law_thing) := ⟨rfl, rfl, rfl, by decide +kernel, rfl, by decide +kernel, by decide +kernel⟩
def t_law_thing (K : PySem.W.Frag) (E : XK) : TS := (tSeq (tAsg (tCl (sp_law_take K) E0 (tCons (tVar 0) (tCons (tC (.int 12)) tNil))) (gName 1)) (tSeq (tIfS (tTest (tOp gLt (tVar 1) (tC (.int 3)))) (tRet (tCl (sp_law_number K) E0 (tCons (tVar 0) tNil))) tNext) (tSeq (tIfS (tTest (tOp gLt (tVar 1) (tC (.int 5)))) (tRet (tCl (sp_law_near K) E0 (tCons (tVar 0) tNil))) tNext) (tSeq (tIfS (tTest (tOp gLt (tVar 1) (tC (.int 8)))) (tRet (tCl (sp_law_two K) E0 (tCons (tVar 0) tNil))) tNext) (tSeq (tIfS (tTest (tOp (gEq K) (tVar 1) (tC (.int 8)))) (tRet (tCl (sp_law_text K) E0 (tCons (tVar 0) (tCons (tCl (sp_law_take K) E0 (tCons (tVar 0) (tCons (tC (.int 9)) tNil))) tNil)))) tNext) (tSeq (tIfS (tTest (tOp (gEq K) (tVar 1) (tC (.int 9)))) (tRet (tOp (rIx K) (tLst (tCons (tC (.bl true)) (tCons (tC (.bl false)) (tCons (tC .non) (tCons (tC (.str "")) (tCons (tDNewK) (tCons (tLst tNil) (tCons (tTup tNil) (tCons (tTup (tCons (tC (.int 0)) (tCons (tC (.int 1)) tNil))) (tCons (tTup (tCons (tC (.int 0)) (tCons (tC (.int 2)) tNil))) (tCons (tTup (tCons (tC (.int 1)) (tCons (tC (.int 0)) tNil))) (tCons (tTup (tCons (tC (.bl true)) (tCons (tC (.int 1)) tNil))) (tCons (tTup (tCons (tC (.int 1)) (tCons (tC (.bl true)) tNil))) tNil))))))))))))) (tCl (sp_law_take K) E0 (tCons (tVar 0) (tCons (tC (.int 12)) tNil))))) tNext) (tSeq (tAsg (tOp (rIx K) (tLst (tCons (tCl (sp_law_near K) E0 (tCons (tVar 0) tNil)) (tCons (tCl (sp_law_number K) E0 (tCons (tVar 0) tNil)) tNil))) (tCl (sp_law_take K) E0 (tCons (tVar 0) (tCons (tC (.int 2)) tNil)))) (gName 2)) (tRet (tOp (rIx K) (tLst (tCons (tLst (tCons (tVar 2) tNil)) (tCons (tTup (tCons (tVar 2) (tCons (tC (.int 1)) tNil))) (tCons (tTup (tCons (tC (.int 1)) (tCons (tVar 2) tNil))) (tCons (tDisp [((tC (.str "a")), (tVar 2))]) (tCons (tLst (tCons (tC (.int 1)) (tCons (tC (.int 2)) tNil))) (tCons (tTup (tCons (tC (.int 1)) (tCons (tC (.int 2)) (tCons (tC (.int 3)) tNil)))) tNil))))))) (tCl (sp_law_take K) E0 (tCons (tVar 0) (tCons (tC (.int 6)) tNil))))))))))))
abbrev s_law_whole : Stmt := top 18
abbrev N_law_whole : List Str := ["_law_thing_here"]
theorem sc_law_whole : FnScope N_law_whole ["_law_thing_here"] (defScope s_law_whole) := ⟨rfl, rfl, rfl, by decide +kernel, rfl, by decide +kernel, by decide +kernel⟩
def t_law_whole (K : PySem.W.Frag) (E : XK) : TS := (tRet (tAndT K (tCB (gIsi K) (tCons (tVar 0) (tCons (tC (.ty "int")) tNil))) (tNotT K (tCB (gIsi K) (tCons (tVar 0) (tCons (tC (.ty "bool")) tNil))))))
abbrev s_law_is_name : Stmt := top 19
abbrev N_law_is_name : List Str := ["_law_thing_here", "_law_good", "_law_sign"]
theorem sc_law_is_name : FnScope N_law_is_name ["_law_thing_here"] (defScope s_law_is_name) := ⟨rfl, rfl, rfl, by decide +kernel, rfl, by decide +kernel, by decide +kernel⟩
def t_law_is_name (K : PySem.W.Frag) (E : XK) : TS := (tSeq (tIfS (tNot (tTru K (tCB (gIsi K) (tCons (tVar 0) (tCons (tC (.ty "str")) tNil))))) (tRet (tC (.bl false))) tNext) (tSeq (tAsg (tLc (iStr (tVar 0)) (gName 2) (tTest (tChain gLe gLe (tC (.str "a")) (tVar 2) (tC (.str "z")))) (tVar 2) [2]) (gName 1)) (tRet (tAndT K (tOp (gEq K) (tCB (gLen K) (tCons (tVar 1) tNil)) (tCB (gLen K) (tCons (tVar 0) tNil))) (tChain gLt gLt (tC (.int 0)) (tCB (gLen K) (tCons (tVar 1) tNil)) (tC (.int 7)))))))
abbrev s_law_is_share : Stmt := top 20
abbrev N_law_is_share : List Str := ["_law_thing_here", "_law_one", "_law_other", "_law_rest"]
theorem sc_law_is_share : FnScope N_law_is_share ["_law_thing_here"] (defScope s_law_is_share) := ⟨rfl, rfl, rfl, by decide +kernel, rfl, by decide +kernel, by decide +kernel⟩
def t_law_is_share (K : PySem.W.Frag) (E : XK) : TS := (tSeq (tIfS (tOr (tNot (tTru K (tCB (gIsi K) (tCons (tVar 0) (tCons (tC (.ty "tuple")) tNil))))) (tOr (tTest (tOp (gNe K) (tCB (gLen K) (tCons (tVar 0) tNil)) (tC (.int 2)))) (tOr (tNot (tTru K (tCl (sp_law_whole K) E0 (tCons (tOp (rIx K) (tVar 0) (tC (.int 0))) tNil)))) (tNot (tTru K (tCl (sp_law_whole K) E0 (tCons (tOp (rIx K) (tVar 0) (tC (.int 1))) tNil))))))) (tRet (tC (.bl false))) tNext) (tSeq (tIfS (tOr (tTest (tOp gLt (tOp (rIx K) (tVar 0) (tC (.int 0))) (tC (.int 0)))) (tTest (tOp gLt (tOp (rIx K) (tVar 0) (tC (.int 1))) (tC (.int 1))))) (tRet (tC (.bl false))) tNext) (tSeq (tAsg (tVar 0) (gTup K 2 (gCons (gName 1) (gCons (gName 2) gNil)))) (tSeq (tWhile (tTest (tOp gGt (tVar 2) (tC (.int 0)))) (tSeq (tAsg (tOp gMod (tVar 1) (tVar 2)) (gName 3)) (tSeq (tAsg (tVar 2) (gName 1)) (tAsg (tVar 3) (gName 2))))) (tRet (tOp (gEq K) (tVar 1) (tC (.int 1))))))))
abbrev s_law_told : Stmt := top 21
abbrev N_law_told : List Str := ["_law_found", "_law_due"]
theorem sc_law_told : FnScope N_law_told ["_law_found", "_law_due"] (defScope s_law_told) := ⟨rfl, rfl, rfl, by decide +kernel, rfl, by decide +kernel, by decide +kernel⟩
def t_law_told (K : PySem.W.Frag) (E : XK) : TS := (tRet (tAndT K (tCB (gIsi K) (tCons (tVar 0) (tCons (tC (.ty "bool")) tNil))) (tOp (gEq K) (tVar 0) (tVar 1))))
abbrev s_law : Stmt := top 22
abbrev N_law : List Str := ["_law_script", "_law_k", "_law_box_here", "_law_thing_here", "_law_low", "_law_high", "_law_whole_here", "_law_pair"]
theorem sc_law : FnScope N_law ["_law_script"] (defScope s_law) := ⟨rfl, rfl, rfl, by decide +kernel, rfl, by decide +kernel, by decide +kernel⟩
def t_law (K : PySem.W.Frag) (E : XK) : TS := (tSeq (tFor (iRng1 (tCons (tCB gMax2 (tCons (tC (.int 6)) (tCons (tCB gMin2 (tCons (tC (.int 30)) (tCons (tCB (gLen K) (tCons (tVar 0) tNil)) tNil))) tNil))) tNil)) (gName 1) (tSeq (tAsg (tCl (sp_law_box K) E0 (tCons (tCl (sp_law_cell K) E0 (tCons (tVar 0) (tCons (tVar 1) tNil))) tNil)) (gName 2)) (tSeq (tAsg (tCl (sp_law_thing K) E0 (tCons (tVar 2) tNil)) (gName 3)) (tSeq (tAsg (tCl (sp_law_number K) E0 (tCons (tVar 2) tNil)) (gName 4)) (tSeq (tAsg (tCl (sp_law_number K) E0 (tCons (tVar 2) tNil)) (gName 5)) (tSeq (tAsg (tCl (sp_law_whole K) E0 (tCons (tVar 3) tNil)) (gName 6)) (tSeq (tIfS (tOr (tNot (tTru K (tCl (sp_law_told K) E0 (tCons (tCl (sp_is_name K) E0 (tCons (tVar 3) tNil)) (tCons (tCl (sp_law_is_name K) E0 (tCons (tVar 3) tNil)) tNil))))) (tNot (tTru K (tCl (sp_law_told K) E0 (tCons (tCl (sp_is_whole K) E0 (tCons (tVar 3) tNil)) (tCons (tVar 6) tNil)))))) (tRet (tC (.bl false))) tNext) (tSeq (tIfS (tOr (tNot (tTru K (tCl (sp_law_told K) E0 (tCons (tCl (sp_is_share K) E0 (tCons (tVar 3) tNil)) (tCons (tCl (sp_law_is_share K) E0 (tCons (tVar 3) tNil)) tNil))))) (tNot (tTru K (tCl (sp_law_told K) E0 (tCons (tCl (sp_is_share K) E0 (tCons (tVar 4) tNil)) (tCons (tC (.bl false)) tNil)))))) (tRet (tC (.bl false))) tNext) (tFor (iList K (tLst (tCons (tTup (tCons (tVar 4) (tCons (tVar 5) tNil))) (tCons (tTup (tCons (tVar 5) (tCons (tVar 4) tNil))) (tCons (tTup (tCons (tVar 4) (tCons (tVar 4) tNil))) tNil))))) (gName 7) (tIfS (tNot (tTru K (tCl (sp_law_told K) E0 (tCons (tCl (sp_is_within K) E0 (tCons (tVar 3) (tCons (tOp (rIx K) (tVar 7) (tC (.int 0))) (tCons (tOp (rIx K) (tVar 7) (tC (.int 1))) tNil)))) (tCons (tAndT K (tVar 6) (tChain gLe gLe (tOp (rIx K) (tVar 7) (tC (.int 0))) (tVar 3) (tOp (rIx K) (tVar 7) (tC (.int 1))))) tNil))))) (tRet (tC (.bl false))) tNext)))))))))) (tRet (tAndT K (tOp gIs (tCl (sp_is_name K) E0 (tCons (tC (.str "abcdef")) tNil)) (tC (.bl true))) (tAndT K (tOp gIs (tCl (sp_is_name K) E0 (tCons (tC (.str "abcdefg")) tNil)) (tC (.bl false))) (tOp gIs (tCl (sp_is_share K) E0 (tCons (tTup (tCons (tC (.int 0)) (tCons (tC (.int 1)) tNil))) tNil)) (tC (.bl true)))))))
section
variable {K : PySem.W.Frag}
theorem len_law_take : ∀ vs H Q E, sp_law_take K vs H Q E → vs.length = 2 := by rintro vs H Q E ⟨b, m, k, rfl, _⟩; rfl
theorem pure_law_take : ∀ vs H Q E, sp_law_take K vs H Q E → t_law_take K E { nx := fun _ H' => Q .non H', rt := Q } (start N_law_take vs) H := by
  rintro vs H Q E ⟨b, m, k, rfl, ⟨o, hb, x, y, z, rfl, hx, hy, hy2, hz, hzk⟩, hm, hm2, hk, q⟩
  show t_law_take K E _ [some (.ref b), some (.int m), none] H
  unfold t_law_take
  walk_at "r"
  refine s_dec (fun h0 => ?_) (fun h0 => ?_)
  · walk_at "r"
    exact q _ _ (Int.emod_nonneg _ (by omega)) (Int.emod_lt_of_pos _ (by omega)) ⟨x / m, y, z, rfl, Int.ediv_nonneg hx (by omega), hy, hy2, hz, by omega⟩
  · walk_at "r"
    exact q _ _ (Int.emod_nonneg _ (by omega)) (Int.emod_lt_of_pos _ (by omega)) ⟨x, y, z + 1, rfl, hx, hy, hy2, by omega, by omega⟩
theorem len_law_cell : ∀ vs H Q E, sp_law_cell K vs H Q E → vs.length = 2 := by rintro vs H Q E ⟨a, ns, j, rfl, _⟩; rfl
theorem pure_law_cell : ∀ vs H Q E, sp_law_cell K vs H Q E → t_law_cell K E { nx := fun _ H' => Q .non H', rt := Q } (start N_law_cell vs) H := by
  rintro vs H Q E ⟨a, ns, j, rfl, hS, hj, hj2, q⟩
  show t_law_cell K E _ [some (.ref a), some (.int j)] H
  unfold t_law_cell
  walk_at "r"
  refine c_lenQ hS ?_
  walk_at "r"
  refine s_dec (fun h0 => ?_) (fun h0 => ?_)
  · walk_at "r"
    obtain ⟨v, hv, hv2⟩ := atI_of hj h0
    obtain ⟨n, _, rfl⟩ := List.getElem?_map .. ▸ hv2 |> fun h => Option.map_eq_some_iff.mp h
    exact o_ixQ hS hv (q n)
  · walk_at "r"
    exact q _
theorem len_law_box : ∀ vs H Q E, sp_law_box K vs H Q E → vs.length = 1 := by rintro vs H Q E ⟨c, rfl, _⟩; rfl
theorem pure_law_box : ∀ vs H Q E, sp_law_box K vs H Q E → t_law_box K E { nx := fun _ H' => Q .non H', rt := Q } (start N_law_box vs) H := by
  rintro vs H Q E ⟨c, rfl, q⟩
  show t_law_box K E _ [some (.int c)] H
  unfold t_law_box
  walk_at "r"
  refine s_dec (fun h0 => ?_) (fun h0 => ?_)
  · walk_at "r"
    intro p hp
    have e : (10 : Int) ^ Int.toNat 18 = 1000000000000000000 := by decide
    rw [e] at h0
    exact q p _ hp ⟨c, c % 2147483629, 0, rfl, by omega, by omega, by omega, by omega, by omega⟩
  · walk_at "r"
    intro p hp
    exact q p _ hp ⟨0, c % 2147483629, 0, rfl, by omega, by omega, by omega, by omega, by omega⟩
theorem len_is_whole : ∀ vs H Q E, sp_is_whole K vs H Q E → vs.length = 1 := by rintro vs H Q E ⟨v, t, rfl, _⟩; rfl
theorem pure_is_whole : ∀ vs H Q E, sp_is_whole K vs H Q E → t_is_whole K E { nx := fun _ H' => Q .non H', rt := Q } (start N_is_whole vs) H := by
  rintro vs H Q E ⟨v, t, rfl, hk, q⟩
  show t_is_whole K E _ [some v] H
  unfold t_is_whole
  walk_at "r"
  refine i_int hk ?_
  walk_at "r"
  refine s_bool (fun h => ?_) (fun h => ?_)
  · walk_at "r"
    refine i_bool hk ?_
    walk_at "r"
    cases v <;> first | exact q | cases h
  · cases v <;> first | exact q | cases h
theorem len_law_whole : ∀ vs H Q E, sp_law_whole K vs H Q E → vs.length = 1 := by rintro vs H Q E ⟨v, t, rfl, _⟩; rfl
theorem pure_law_whole : ∀ vs H Q E, sp_law_whole K vs H Q E → t_law_whole K E { nx := fun _ H' => Q .non H', rt := Q } (start N_law_whole vs) H := by
  rintro vs H Q E ⟨v, t, rfl, hk, q⟩
  show t_law_whole K E _ [some v] H
  unfold t_law_whole
  walk_at "r"
  refine i_int hk ?_
  walk_at "r"
  refine s_bool (fun h => ?_) (fun h => ?_)
  · walk_at "r"
    refine i_bool hk ?_
    walk_at "r"
    cases v <;> first | exact q | cases h
  · cases v <;> first | exact q | cases h
theorem len_is_within : ∀ vs H Q E, sp_is_within K vs H Q E → vs.length = 3 := by rintro vs H Q E ⟨v, t, lo, hi, rfl, _⟩; rfl
theorem pure_is_within : ∀ vs H Q E, sp_is_within K vs H Q E → t_is_within K E { nx := fun _ H' => Q .non H', rt := Q } (start N_is_within vs) H := by
  rintro vs H Q E ⟨v, t, lo, hi, rfl, hk, q⟩
  show t_is_within K E _ [some v, some (.int lo), some (.int hi)] H
  unfold t_is_within
  walk_at "r"
  refine ⟨v, t, rfl, hk, ?_⟩
  walk_at "r"
  refine s_bool (fun h => ?_) (fun h => ?_)
  · cases v with
    | int i =>
      walk_at "r"
      have q' : Q (.bl (decide (lo ≤ i) && decide (i ≤ hi))) H := q
      refine s_dec (fun h1 => ?_) (fun h1 => ?_)
      · walk_at "r"
        rw [decide_eq_true h1] at q'
        exact q'
      · rw [decide_eq_false h1] at q'
        exact q'
    | _ => cases h
  · cases v <;> first | exact q | cases h
theorem len_law_told : ∀ vs H Q E, sp_law_told K vs H Q E → vs.length = 2 := by rintro vs H Q E ⟨x, y, rfl, _⟩; rfl
theorem pure_law_told : ∀ vs H Q E, sp_law_told K vs H Q E → t_law_told K E { nx := fun _ H' => Q .non H', rt := Q } (start N_law_told vs) H := by
  rintro vs H Q E ⟨x, y, rfl, q⟩
  show t_law_told K E _ [some (.bl x), some (.bl y)] H
  unfold t_law_told
  walk_at "r"
  refine i_bool (t := "bool") rfl ?_
  walk_at "r"
  show if true = true then _ else _
  walk_at "r"
  exact q
end
section
variable {K : PySem.W.Frag}
theorem gcd_turn {x y : Int} (hx : 0 ≤ x) (hy : 0 ≤ y) : Int.gcd y (x % y) = Int.gcd x y := by
  obtain ⟨n, rfl⟩ := Int.eq_ofNat_of_zero_le hx
  obtain ⟨m, rfl⟩ := Int.eq_ofNat_of_zero_le hy
  show Nat.gcd m (Int.natAbs ((n : Int) % (m : Int))) = Nat.gcd n m
  rw [← Int.natCast_emod, Int.natAbs_natCast, Nat.gcd_comm m, ← Nat.gcd_rec, Nat.gcd_comm]
theorem gcd_end {x : Int} (hx : 0 ≤ x) : (Int.gcd x 0 : Int) = x := by
  rw [Int.gcd_zero_right]; omega
theorem len_common_of : ∀ vs H Q E, sp_common_of K vs H Q E → vs.length = 2 := by rintro vs H Q E ⟨x, y, rfl, _⟩; rfl
theorem pure_common_of : ∀ vs H Q E, sp_common_of K vs H Q E → t_common_of K E { nx := fun _ H' => Q .non H', rt := Q } (start N_common_of vs) H := by
  rintro vs H Q E ⟨a, b, rfl, ha, hb, q⟩
  show t_common_of K E _ [some (.int a), some (.int b)] H
  unfold t_common_of
  walk_at "r"
  refine s_while (fun m σ H' => H' = H ∧ ∃ x y : Int, σ = [some (.int x), some (.int y)] ∧ 0 ≤ x ∧ 0 ≤ y ∧ m = y.toNat ∧ Int.gcd x y = Int.gcd a b) b.toNat ⟨rfl, a, b, rfl, ha, hb, rfl, rfl⟩ ?_
  rintro m σ H' ⟨rfl, x, y, rfl, hx, hy, rfl, e⟩
  walk_at "r"
  refine s_ndec (fun h => ?_) (fun h => ?_)
  · refine wh_ok ?_
    walk_at "r"
    have h1 := Int.emod_nonneg x h
    have h2 := Int.emod_lt_of_pos x (b := y) (by omega)
    exact ⟨_, (by omega : (x % y).toNat < y.toNat), rfl, y, x % y, rfl, hy, h1, rfl, by rw [gcd_turn hx hy]; exact e⟩
  · subst h
    walk_at "r"
    rw [← e, gcd_end hx] at q
    exact q
theorem small_kind {H : Hp} {v : V} (h : small v) : ∃ t, GL.kindOf H v = some t := by
  cases v <;> first | exact ⟨_, rfl⟩ | exact h.elim
theorem share_no {H : Hp} {v : V} (h : ∀ a xs, v = .ref a → H a = some (.tup xs) → False) : shareB H v = false := by
  unfold shareB
  split
  · split
    · rename_i e
      exact (h _ _ rfl e).elim
    · rfl
  · rfl
theorem len_is_share : ∀ vs H Q E, sp_is_share K vs H Q E → vs.length = 1 := by rintro vs H Q E ⟨x, rfl, _⟩; rfl
theorem pure_is_share : ∀ vs H Q E, sp_is_share K vs H Q E → t_is_share K E { nx := fun _ H' => Q .non H', rt := Q } (start N_is_share vs) H := by
  rintro vs H Q E ⟨v, rfl, ⟨t, hk, hs⟩, q⟩
  show t_is_share K E _ [some v] H
  unfold t_is_share
  walk_at "r"
  refine i_tuple hk ?_
  walk_at "r"
  refine s_nbool (fun h => ?_) (fun h => ?_)
  · walk_at "r"
    have e : shareB H v = false := share_no fun a xs e1 e2 => by subst e1; exact tupL_false h e2
    rw [e] at q
    exact q
  · obtain ⟨a, xs, rfl, ea⟩ := tupL_true h
    have hq : Q (.bl (shareT xs)) H := by
      simpa only [shareB, ea] using q
    have hx := hs a xs rfl ea
    walk_at "r"
    refine s_ndec (fun h2 => ?_) (fun h2 => ?_)
    · walk_at "r"
      have e : shareT xs = false := by
        unfold shareT
        split
        · exact absurd (show (([V.int _, V.int _] : List V).length : Int) = 2 from rfl) h2
        · rfl
      rw [e] at hq
      exact hq
    · obtain ⟨x, y, rfl⟩ : ∃ x y, xs = [x, y] := by
        match xs, h2 with
        | [x, y], _ => exact ⟨x, y, rfl⟩
      obtain ⟨t1, k1⟩ := small_kind (H := H) (hx x (by simp))
      obtain ⟨t2, k2⟩ := small_kind (H := H) (hx y (by simp))
      walk_at "r"
      refine ⟨x, t1, rfl, k1, ?_⟩
      walk_at "r"
      refine s_nbool (fun h3 => ?_) (fun h3 => ?_)
      · walk_at "r"
        have e : shareT [x, y] = false := by
          cases x <;> first | rfl | exact Bool.noConfusion h3
        rw [e] at hq
        exact hq
      · walk_at "r"
        refine ⟨y, t2, rfl, k2, ?_⟩
        walk_at "r"
        refine s_nbool (fun h4 => ?_) (fun h4 => ?_)
        · walk_at "r"
          have e : shareT [x, y] = false := by
            cases x <;> first | exact Bool.noConfusion h3 | (cases y <;> first | rfl | exact Bool.noConfusion h4)
          rw [e] at hq
          exact hq
        · obtain ⟨i, rfl⟩ : ∃ i, x = .int i := by cases x <;> first | exact ⟨_, rfl⟩ | cases h3
          obtain ⟨j, rfl⟩ : ∃ j, y = .int j := by cases y <;> first | exact ⟨_, rfl⟩ | cases h4
          have hq2 : Q (.bl (decide (0 ≤ i) && (decide (1 ≤ j) && decide (Int.gcd i j = 1)))) H := hq
          walk_at "r"
          refine s_dec (fun h5 => ?_) (fun h5 => ?_)
          · rw [decide_eq_true h5] at hq2
            walk_at "r"
            refine s_dec (fun h6 => ?_) (fun h6 => ?_)
            · rw [decide_eq_true h6] at hq2
              walk_at "r"
              refine ⟨i, j, rfl, h5, by omega, ?_⟩
              walk_at "r"
              have e : decide (((Int.gcd i j : Nat) : Int) = 1) = (true && (true && decide (Int.gcd i j = 1))) := by
                simp only [Bool.true_and, decide_eq_decide]; omega
              rw [e]
              exact hq2
            · rw [decide_eq_false h6] at hq2 ⊢
              exact hq2
          · rw [decide_eq_false h5] at hq2 ⊢
            exact hq2
end
section
variable {K : PySem.W.Frag}
theorem len_law_is_share : ∀ vs H Q E, sp_law_is_share K vs H Q E → vs.length = 1 := by rintro vs H Q E ⟨x, rfl, _⟩; rfl
theorem pure_law_is_share : ∀ vs H Q E, sp_law_is_share K vs H Q E → t_law_is_share K E { nx := fun _ H' => Q .non H', rt := Q } (start N_law_is_share vs) H := by
  rintro vs H Q E ⟨v, rfl, ⟨t, hk, hs⟩, q⟩
  show t_law_is_share K E _ [some v, none, none, none] H
  unfold t_law_is_share
  walk_at "r"
  refine i_tuple hk ?_
  walk_at "r"
  refine s_nbool (fun h => ?_) (fun h => ?_)
  · walk_at "r"
    have e : shareB H v = false := share_no fun a xs e1 e2 => by subst e1; exact tupL_false h e2
    rw [e] at q
    exact q
  · obtain ⟨a, xs, rfl, ea⟩ := tupL_true h
    have hq : Q (.bl (shareT xs)) H := by
      simpa only [shareB, ea] using q
    have hx := hs a xs rfl ea
    walk_at "r"
    refine s_ndec (fun h2 => ?_) (fun h2 => ?_)
    · walk_at "r"
      have e : shareT xs = false := by
        unfold shareT
        split
        · exact absurd (show (([V.int _, V.int _] : List V).length : Int) = 2 from rfl) h2
        · rfl
      rw [e] at hq
      exact hq
    · obtain ⟨x, y, rfl⟩ : ∃ x y, xs = [x, y] := by
        match xs, h2 with
        | [x, y], _ => exact ⟨x, y, rfl⟩
      obtain ⟨t1, k1⟩ := small_kind (H := H) (hx x (by simp))
      obtain ⟨t2, k2⟩ := small_kind (H := H) (hx y (by simp))
      walk_at "r"
      refine ⟨x, t1, rfl, k1, ?_⟩
      walk_at "r"
      refine s_nbool (fun h3 => ?_) (fun h3 => ?_)
      · walk_at "r"
        have e : shareT [x, y] = false := by
          cases x <;> first | rfl | exact Bool.noConfusion h3
        rw [e] at hq
        exact hq
      · walk_at "r"
        refine ⟨y, t2, rfl, k2, ?_⟩
        walk_at "r"
        refine s_nbool (fun h4 => ?_) (fun h4 => ?_)
        · walk_at "r"
          have e : shareT [x, y] = false := by
            cases x <;> first | exact Bool.noConfusion h3 | (cases y <;> first | rfl | exact Bool.noConfusion h4)
          rw [e] at hq
          exact hq
        · obtain ⟨i, rfl⟩ : ∃ i, x = .int i := by cases x <;> first | exact ⟨_, rfl⟩ | cases h3
          obtain ⟨j, rfl⟩ : ∃ j, y = .int j := by cases y <;> first | exact ⟨_, rfl⟩ | cases h4
          have hq2 : Q (.bl (decide (0 ≤ i) && (decide (1 ≤ j) && decide (Int.gcd i j = 1)))) H := hq
          walk_at "r"
          refine s_dec (fun h5 => ?_) (fun h5 => ?_)
          · walk_at "r"
            rw [decide_eq_false (by omega : ¬ 0 ≤ i)] at hq2
            exact hq2
          · rw [decide_eq_true (by omega : 0 ≤ i)] at hq2
            walk_at "r"
            refine s_dec (fun h6 => ?_) (fun h6 => ?_)
            · walk_at "r"
              rw [decide_eq_false (by omega : ¬ 1 ≤ j)] at hq2
              exact hq2
            · rw [decide_eq_true (by omega : 1 ≤ j)] at hq2
              walk_at "r"
              refine s_while (fun m σ H' => H' = H ∧ ∃ (x y : Int) (r : Option V), σ = [some (.ref a), some (.int x), some (.int y), r] ∧ 0 ≤ x ∧ 0 ≤ y ∧ m = y.toNat ∧ Int.gcd x y = Int.gcd i j) j.toNat ⟨rfl, i, j, none, rfl, by omega, by omega, rfl, rfl⟩ ?_
              rintro m σ H' ⟨rfl, x, y, r, rfl, hx, hy, rfl, e⟩
              walk_at "r"
              refine s_dec (fun h => ?_) (fun h => ?_)
              · refine wh_ok ?_
                walk_at "r"
                have h1 := Int.emod_nonneg x (b := y) (by omega)
                have h2 := Int.emod_lt_of_pos x (b := y) (by omega)
                exact ⟨_, (by omega : (x % y).toNat < y.toNat), rfl, y, x % y, _, rfl, hy, h1, rfl, by rw [gcd_turn hx hy]; exact e⟩
              · obtain rfl : y = 0 := by omega
                walk_at "r"
                have e2 : decide (x = 1) = (true && (true && decide (Int.gcd i j = 1))) := by
                  rw [← e]
                  have := gcd_end hx
                  simp only [Bool.true_and, decide_eq_decide]; omega
                rw [e2]
                exact hq2
theorem len_is_name : ∀ vs H Q E, sp_is_name K vs H Q E → vs.length = 1 := by rintro vs H Q E ⟨x, t, rfl, _⟩; rfl
theorem nameB_no {v : V} (h : strL v = false) : nameB v = false := by cases v <;> first | rfl | cases h
theorem pure_is_name : ∀ vs H Q E, sp_is_name K vs H Q E → t_is_name K E { nx := fun _ H' => Q .non H', rt := Q } (start N_is_name vs) H := by
  rintro vs H Q E ⟨v, t, rfl, hk, hn, q⟩
  show t_is_name K E _ [some v, none] H
  unfold t_is_name
  walk_at "r"
  refine i_str hk ?_
  walk_at "r"
  refine s_nbool (fun h => ?_) (fun h => ?_)
  · walk_at "r"
    have e := q H (Same.refl H)
    rw [nameB_no h] at e
    exact e
  · obtain ⟨z, rfl⟩ := strL_true h
    have hz := hn z rfl
    have hz2 : z.length ≤ sizeLine := Nat.le_trans hz (by decide)
    have q2 : ∀ H', Same H H' → Q (.bl (nameS z)) H' := q
    walk_at "r"
    refine c_lenS hz2 ?_
    walk_at "r"
    refine s_dec (fun h1 => ?_) (fun h1 => ?_)
    · walk_at "r"
      refine s_ndec (fun h2 => ?_) (fun h2 => ?_)
      · walk_at "r"
        have e := q2 H (Same.refl H)
        have e2 : nameS z = false := by
          unfold nameS
          rw [decide_eq_false (by omega : ¬ z.length ≤ 6)]; simp
        rw [e2] at e
        exact e
      · walk_at "r"
        refine lc_walk (walk_str z) [some (.str z), none] rfl (fun D i acc H' => acc = (z.cps.toList.take i).map (fun c => V.bl (decide (c ∈ letters.cps.toList))) ∧ Same H H') ?_ (fun _ _ _ _ _ _ _ => trivial) ?_ ?_
        · intro D hD
          exact ⟨by simp, same_new hD⟩
        · rintro D i acc H' hD hi ha hl ⟨rfl, hS⟩
          walk_at "r"
          refine ⟨rfl, ?_⟩
          walk_at "r"
          refine put_ok ha hl (by omega) ⟨?_, fun b o e => ?_⟩
          · have hi2 : i < z.cps.size := hi
            rw [take_snoc (l := z.cps.toList) (i := i) (x := z.cps.getD i 0) (by simp [hi2])]
            simp [letters]
          · rw [upd_ne (ne_of_none e hD)]
            exact hS b o e
        · rintro D acc H' hD ha hl ⟨rfl, hS⟩
          walk_at "r"
          have e3 : z.length = z.cps.toList.length := by simp [Str.length]
          rw [e3, List.take_length] at ha
          refine ⟨D, z.cps.toList.map (fun c => decide (c ∈ letters.cps.toList)), rfl, SqL.of (by rw [List.map_map]; exact ha), ?_⟩
          have e := q2 H' hS
          have e2 : nameS z = (z.cps.toList.map (fun c => decide (c ∈ letters.cps.toList))).all id := by
            unfold nameS
            rw [decide_eq_true (by omega : 1 ≤ z.length), decide_eq_true (by omega : z.length ≤ 6), List.all_map]; rfl
          rw [e2] at e
          exact e
    · walk_at "r"
      have e := q2 H (Same.refl H)
      have e2 : nameS z = false := by
        unfold nameS
        rw [decide_eq_false (by omega : ¬ 1 ≤ z.length)]; rfl
      rw [e2] at e
      exact e
end
section
variable {K : PySem.W.Frag}
def lowB (c : Nat) : Bool := decide (97 ≤ c) && decide (c ≤ 122)
theorem low_mem (c : Nat) : decide (c ∈ letters.cps.toList) = lowB c := by
  have e : letters.cps.toList = (List.range 26).map (· + 97) := by decide +kernel
  rw [e]
  unfold lowB
  rw [← Bool.decide_and, decide_eq_decide, List.mem_map]
  constructor
  · rintro ⟨a, h, rfl⟩
    have := List.mem_range.mp h
    omega
  · intro h
    exact ⟨c - 97, List.mem_range.mpr (by omega), by omega⟩
theorem nameS_eq (z : Str) : nameS z = (decide (1 ≤ z.length) && (decide (z.length ≤ 6) && z.cps.toList.all lowB)) := by
  unfold nameS
  simp only [low_mem]
theorem lt_one (a c : Nat) : ([a] < [c]) ↔ a < c := by
  rw [List.cons_lt_cons_iff]
  constructor
  · rintro (h | ⟨_, h⟩)
    · exact h
    · exact absurd h (List.not_lt_nil _)
  · exact .inl
theorem all_filter {p : Nat → Bool} (l : List Nat) : (l.filter p).length = l.length ↔ l.all p = true := by
  rw [List.length_filter_eq_length_iff, List.all_eq_true]
theorem len_law_is_name : ∀ vs H Q E, sp_law_is_name K vs H Q E → vs.length = 1 := by rintro vs H Q E ⟨x, t, rfl, _⟩; rfl
theorem pure_law_is_name : ∀ vs H Q E, sp_law_is_name K vs H Q E → t_law_is_name K E { nx := fun _ H' => Q .non H', rt := Q } (start N_law_is_name vs) H := by
  rintro vs H Q E ⟨v, t, rfl, hk, hn, q⟩
  show t_law_is_name K E _ [some v, none, none] H
  unfold t_law_is_name
  walk_at "r"
  refine i_str hk ?_
  walk_at "r"
  refine s_nbool (fun h => ?_) (fun h => ?_)
  · walk_at "r"
    have e := q H (Same.refl H)
    rw [nameB_no h] at e
    exact e
  · obtain ⟨z, rfl⟩ := strL_true h
    have hz := hn z rfl
    have hz2 : z.length ≤ sizeLine := Nat.le_trans hz (by decide)
    have q2 : ∀ H', Same H H' → Q (.bl (nameS z)) H' := q
    walk_at "r"
    refine lc_walk (walk_str z) [some (.str z), none, none] rfl (fun D i acc H' => acc = ((z.cps.toList.take i).filter lowB).map (fun c => V.str ⟨#[c]⟩) ∧ Same H H') ?_ (fun _ _ _ _ _ _ _ => trivial) ?_ ?_
    · intro D hD
      exact ⟨by simp, same_new hD⟩
    · rintro D i acc H' hD hi ha hl ⟨rfl, hS⟩
      have hi2 : i < z.cps.size := hi
      have et := take_snoc (l := z.cps.toList) (i := i) (x := z.cps.getD i 0) (by simp [hi2])
      generalize z.cps.getD i 0 = c at et
      walk_at "r"
      refine ⟨rfl, ?_⟩
      walk_at "r"
      have ea : (("a" : Str)).cps.toList = [97] := by decide +kernel
      have ez : (("z" : Str)).cps.toList = [122] := by decide +kernel
      have nx : ∀ b, lowB c = b → (if b = true then lcPut D (lcNx (fun D i acc H' => acc = ((z.cps.toList.take i).filter lowB).map (fun c => V.str ⟨#[c]⟩) ∧ Same H H') D (i + 1)) (.str ⟨#[c]⟩) H' else lcNx (fun D i acc H' => acc = ((z.cps.toList.take i).filter lowB).map (fun c => V.str ⟨#[c]⟩) ∧ Same H H') D (i + 1) H') := by
        intro b hb
        cases b with
        | true =>
          refine iteT (put_ok ha hl (by omega) ⟨?_, fun b o e => ?_⟩)
          · rw [et, List.filter_append, List.map_append]
            simp [hb]
          · rw [upd_ne (ne_of_none e hD)]
            exact hS b o e
        | false =>
          refine iteF (nx_ok ha hl ⟨?_, hS⟩)
          rw [et, List.filter_append, List.map_append]
          simp [hb]
      rw [ea]
      refine s_ndec (fun h1 => ?_) (fun h1 => ?_)
      · have h1' : 97 ≤ c := by
          have := mt (lt_one c 97).mpr h1
          omega
        walk_at "r"
        rw [ez]
        refine s_ndec (fun h2 => ?_) (fun h2 => ?_)
        · have h2' : c ≤ 122 := by
            have := mt (lt_one 122 c).mpr h2
            omega
          walk_at "r"
          have n1 := nx true (by unfold lowB; rw [decide_eq_true h1', decide_eq_true h2']; rfl)
          rw [if_pos rfl] at n1
          exact n1
        · have h2' := (lt_one 122 c).mp h2
          have n1 := nx false (by unfold lowB; rw [decide_eq_true h1', decide_eq_false (by omega)]; rfl)
          rw [if_neg Bool.false_ne_true] at n1
          exact n1
      · have h1' := (lt_one c 97).mp h1
        walk_at "r"
        have n1 := nx false (by unfold lowB; rw [decide_eq_false (by omega)]; rfl)
        rw [if_neg Bool.false_ne_true] at n1
        exact n1
    · rintro D acc H' hD ha hl ⟨rfl, hS⟩
      have e3 : z.length = z.cps.toList.length := str_len z
      rw [e3, List.take_length] at ha
      walk_at "r"
      refine c_lenS hz2 ?_
      walk_at "r"
      rw [List.length_map]
      have hq := q2 H' hS
      rw [nameS_eq] at hq
      have af := all_filter (p := lowB) z.cps.toList
      rw [← e3] at af
      refine s_dec (fun h1 => ?_) (fun h1 => ?_)
      · have h1' : (z.cps.toList.filter lowB).length = z.length := by omega
        rw [af.mp h1'] at hq
        walk_at "r"
        rw [List.length_map, h1']
        refine s_dec (fun h2 => ?_) (fun h2 => ?_)
        · walk_at "r"
          have e : decide ((z.length : Int) < 7) = (decide (1 ≤ z.length) && (decide (z.length ≤ 6) && true)) := by
            rw [Bool.and_true, ← Bool.decide_and, decide_eq_decide]; omega
          rw [e]
          exact hq
        · rw [decide_eq_false (by omega : ¬ 1 ≤ z.length)] at hq
          exact hq
      · have h1' : z.cps.toList.all lowB = false := by
          cases e : z.cps.toList.all lowB with
          | false => rfl
          | true => exact absurd (by have := af.mpr e; omega) h1
        rw [h1', Bool.and_false, Bool.and_false] at hq
        rw [decide_eq_false h1]
        exact hq
end
section
variable {K : PySem.W.Frag}
theorem BoxAt.mono {H : Hp} {b : Addr} {k j : Nat} (h : BoxAt H b k) (hj : k ≤ j) : BoxAt H b j := by
  obtain ⟨o, e, x, y, z, rfl, a1, a2, a3, a4, a5⟩ := h
  exact ⟨_, e, x, y, z, rfl, a1, a2, a3, a4, by omega⟩
theorem BoxAt.new {H : Hp} {b p : Addr} {k : Nat} {o : HO} (h : BoxAt H b k) (hp : H p = none) : BoxAt (L2.upd H p o) b k := by
  obtain ⟨u, e, i⟩ := h
  exact ⟨u, by rw [upd_ne (ne_of_none e hp)]; exact e, i⟩
theorem BoxAt.upd {H : Hp} {b : Addr} {k : Nat} {o : HO} (h : isBox o k) : BoxAt (L2.upd H b o) b k := ⟨o, upd_same, h⟩
theorem BoxAt.ne {H : Hp} {b p : Addr} {k : Nat} (h : BoxAt H b k) (hp : H p = none) : p ≠ b := by
  obtain ⟨u, e, _⟩ := h
  exact (ne_of_none e hp).symm
theorem BoxAt.other {H : Hp} {b p : Addr} {k : Nat} {o : HO} (h : BoxAt H b k) (hp : p ≠ b) : BoxAt (L2.upd H p o) b k := by
  obtain ⟨u, e, i⟩ := h
  exact ⟨u, by rw [upd_ne hp.symm]; exact e, i⟩
theorem BoxAt.same {H H' : Hp} {b : Addr} {k : Nat} (h : BoxAt H b k) (s : Same H H') : BoxAt H' b k := by
  obtain ⟨u, e, i⟩ := h
  exact ⟨u, s _ _ e, i⟩
/-- signs drawn one by one -/
theorem drawn_text {b : Addr} {k : Nat} {σ : L2.St} {J : It} {n : Nat} {item : Nat → V} {H : Hp} {Q : VK} {te : TE} {j : Nat} (W : Walk J n item fun _ => True) (σw : L2.St) (hw : wipe σ [j] = σw) (hb : BoxAt H b k) (hn : n ≤ 1000) (hk : k < 2 ^ 30)
    (hσ : ∀ v, wipe (σw.set j (some v)) [j] = σw)
    (hte : ∀ v H' k' (R : VK), BoxAt H' b k' → k' < 2 ^ 31 → (∀ (o : HO) (c : Nat), isBox o (k' + 1) → R (.str ⟨#[c]⟩) (upd H' b o)) → te (σw.set j (some v)) H' R)
    (hd : ∀ D (ys : List Str) H', H D = none → H' D = some (.lst (ys.map V.str)) → Keep b H H' → BoxAt H' b (k + n) → ys.length = n → (∀ y ∈ ys, y.length = 1) → Q (.ref D) H') : lcOf J (gName j) tYes te [j] σ H Q := by
  refine lc_walk W σw hw (fun D i acc H' => Keep b H H' ∧ BoxAt H' b (k + i) ∧ ∃ ys : List Str, acc = ys.map V.str ∧ ys.length = i ∧ ∀ y ∈ ys, y.length = 1) ?_ (fun _ _ _ _ _ _ _ => trivial) ?_ ?_
  · intro D hD
    exact ⟨Keep.new hD, hb.new hD, [], rfl, rfl, by simp⟩
  · rintro D i acc H' hD hi ha hl ⟨hK, hB, ys, rfl, rfl, h1⟩
    show wipe _ [j] = σw ∧ _
    refine ⟨hσ _, ?_⟩
    walk_at "r"
    refine hte _ _ _ _ hB (by omega) fun o c ho => ?_
    have hDb : D ≠ b := hb.ne hD
    refine put_ok (by rw [upd_ne hDb]; exact ha) hl (by have : (1000 : Nat) < sizeLine := by decide
                                                        omega) ⟨fun a u hab e => ?_, ?_, ys ++ [⟨#[c]⟩], by simp, by simp, fun y hy => ?_⟩
    · rw [upd_ne (ne_of_none e hD), upd_ne hab]
      exact hK a u hab e
    · exact (BoxAt.upd ho).other hDb
    · rcases List.mem_append.mp hy with h | h
      · exact h1 y h
      · rw [List.mem_singleton.mp h]; rfl
  · rintro D acc H' hD ha hl ⟨hK, hB, ys, rfl, e, h1⟩
    exact hd D ys H' hD ha hK hB e h1
theorem len_law_text : ∀ vs H Q E, sp_law_text K vs H Q E → vs.length = 2 := by rintro vs H Q E ⟨b, m, k, rfl, _⟩; rfl
theorem pure_law_text : ∀ vs H Q E, sp_law_text K vs H Q E → t_law_text K E { nx := fun _ H' => Q .non H', rt := Q } (start N_law_text vs) H := by
  rintro vs H Q E ⟨b, m, k, rfl, hb, hm, hk, q⟩
  show t_law_text K E _ [some (.ref b), some (.int m), none, none] H
  unfold t_law_text
  walk_at "r"
  refine o_mulS (by decide) (by decide +kernel) (by decide +kernel) ?_
  refine o_addS (by decide +kernel) ?_
  walk_at "r"
  generalize hS : (_ ++ _ : Str) = S
  have hS1 : 0 < S.length ∧ S.length < 1000 := by rw [← hS]; decide +kernel
  have hS2 : S.length ≤ sizeLine := Nat.le_trans (Nat.le_of_lt hS1.2) (by decide)
  refine ⟨⟨_, rfl⟩, ?_⟩
  walk_at "r"
  refine drawn_text (walk_rng _ _) [some (.ref b), some (.int m), some (.str S), none] rfl hb (by omega) hk (fun v => rfl) ?_ ?_
  · intro v H' k' R hB hk' hR
    show tOp _ _ _ [some (.ref b), some (.int m), some (.str S), some v] H' R
    walk_at "r"
    refine c_lenS hS2 ?_
    walk_at "r"
    refine ⟨b, S.length, k', rfl, hB, by omega, by omega, by omega, fun n o h0 h1 ho => ?_⟩
    obtain ⟨c, hc, _⟩ := atI_of (xs := S.cps.toList) h0 (by rw [← str_len]; exact h1)
    exact o_ixS hS2 hc (hR o c ho)
  · intro D ys H' hD ha hK hB hl h1
    have e0 : (("" : Str)).length = 0 := rfl
    have hl2 : ys.length ≤ 100 := by omega
    refine m_join ha (by rw [sum_ones ys h1, e0]; omega) ?_
    refine q _ _ hK (hB.mono (by omega)) ?_
    rw [join_len ys h1]; omega
end
section
variable {K : PySem.W.Frag}
theorem len_law_near : ∀ vs H Q E, sp_law_near K vs H Q E → vs.length = 1 := by rintro vs H Q E ⟨b, k, rfl, _⟩; rfl
theorem pure_law_near : ∀ vs H Q E, sp_law_near K vs H Q E → t_law_near K E { nx := fun _ H' => Q .non H', rt := Q } (start N_law_near vs) H := by
  rintro vs H Q E ⟨b, k, rfl, hb, hk, q⟩
  show t_law_near K E _ [some (.ref b), none, none, none, none, none, none] H
  unfold t_law_near
  walk_at "r"
  refine ⟨⟨_, rfl⟩, ?_⟩
  walk_at "r"
  refine ⟨b, 6, k, rfl, hb, by omega, by omega, by omega, fun n o h0 h1 ho => ?_⟩
  walk_at "r"
  refine drawn_text (b := b) (k := k + 1) (walk_rng _ _) [some (.ref b), some (.str "abcdefghijklmnopqrstuvwxyz"), none, none, none, none, none] rfl (BoxAt.upd ho) (by omega) (by omega) (fun v => rfl) ?_ ?_
  · intro v H' k' R hB hk' hR
    show tOp _ _ _ [some (.ref b), some (.str "abcdefghijklmnopqrstuvwxyz"), none, some v, none, none, none] H' R
    walk_at "r"
    refine ⟨b, 26, k', rfl, hB, by omega, by omega, by omega, fun n o h0 h1 ho => ?_⟩
    obtain ⟨c, hc, _⟩ := atI_of (xs := (("abcdefghijklmnopqrstuvwxyz" : Str)).cps.toList) h0 h1
    exact o_ixS (by decide +kernel) hc (hR o c ho)
  · intro D ys H1 hD ha hK hB hl hy
    have e0 : (("" : Str)).length = 0 := rfl
    refine m_join ha (by rw [sum_ones ys hy, e0]; omega) ?_
    have hz := join_len ys hy
    generalize Txt.join (("" : Str)) ys = z at hz
    have hz2 : z.length ≤ sizeLine := by
      have : (1000 : Nat) < sizeLine := by decide
      omega
    walk_at "r"
    refine c_lenS hz2 ?_
    walk_at "r"
    refine ⟨b, _, k + 7, rfl, hB.mono (by omega), by omega, by omega, by omega, fun a o2 a0 a1 ho2 => ?_⟩
    walk_at "r"
    refine ⟨b, _, k + 8, rfl, BoxAt.upd ho2, by omega, by omega, by omega, fun w o3 w0 w1 ho3 => ?_⟩
    walk_at "r"
    refine ⟨b, 1, k + 9, rfl, BoxAt.upd ho3, by omega, by omega, fun g H2 hK2 hB2 hg => ?_⟩
    have KK : Keep b H H2 := by walk_at "k"
    have fin : ∀ y : Str, y.length ≤ 20 → Q (.str y) H2 := fun y hy => q y H2 KK (hB2.mono (by omega)) hy
    have cl := cut_len z
    have c1000 : (1000 : Nat) < sizeLine := by decide
    walk_at "r"
    refine s_dec (fun e => ?_) (fun e => ?_)
    · walk_at "r"
      refine o_slS hz2 ?_
      have c1 := cl none (some a)
      have c2 := cl (some a) none
      walk_at "r"
      refine o_addS (by omega) ?_
      walk_at "r"
      refine o_slS hz2 (o_addS (by rw [add_len]; omega) (fin _ ?_))
      rw [add_len, add_len]; omega
    · walk_at "r"
      refine s_dec (fun e => ?_) (fun e => ?_)
      · walk_at "r"
        refine o_slS hz2 ?_
        have c1 := cl none (some a)
        have c2 := cl (some (a + 1)) none
        walk_at "r"
        refine o_slS hz2 (o_addS (by omega) (fin _ ?_))
        rw [add_len]; omega
      · walk_at "r"
        refine s_dec (fun e => ?_) (fun e => ?_)
        · walk_at "r"
          refine o_slS hz2 ?_
          have c1 := cl none (some a)
          have c2 := cl (some (a + 1)) none
          walk_at "r"
          refine o_addS (by omega) ?_
          walk_at "r"
          refine o_slS hz2 (o_addS (by rw [add_len]; omega) (fin _ ?_))
          rw [add_len, add_len]; omega
        · walk_at "r"
          refine ⟨⟨_, rfl⟩, m_upper (by omega) ?_⟩
          have lu := PyProof.Rows.len_upper z
          walk_at "r"
          intro p hp
          walk_at "r"
          obtain ⟨v, hv, hm⟩ := atI_mem (xs := [V.str (Txt.upper z), V.str z]) (i := w - 3) (by omega) (by simp only [List.length_cons, List.length_nil]; omega)
          refine o_ixL upd_same hv ?_
          have fin2 : ∀ y : Str, y.length ≤ 20 → Q (.str y) (upd H2 p (.lst [V.str (Txt.upper z), V.str z])) := fun y hy => q y _ (by walk_at "k") ((hB2.mono (by omega)).new hp) hy
          simp only [List.mem_cons, List.not_mem_nil, or_false] at hm
          rcases hm with rfl | rfl
          · exact fin2 _ (by omega)
          · exact fin2 _ (by omega)
theorem len_law_number : ∀ vs H Q E, sp_law_number K vs H Q E → vs.length = 1 := by rintro vs H Q E ⟨b, k, rfl, _⟩; rfl
theorem pure_law_number : ∀ vs H Q E, sp_law_number K vs H Q E → t_law_number K E { nx := fun _ H' => Q .non H', rt := Q } (start N_law_number vs) H := by
  rintro vs H Q E ⟨b, k, rfl, hb, hk, q⟩
  show t_law_number K E _ [some (.ref b), none, none] H
  unfold t_law_number
  walk_at "r"
  intro p1 hp1
  walk_at "r"
  refine ⟨b, 4, k, rfl, hb.new hp1, by omega, by omega, by omega, fun n1 o1 a1 b1 ho1 => ?_⟩
  obtain ⟨v1, hv1, hm1⟩ := atI_mem (xs := [V.int 0, V.int 1, V.int (10 ^ Int.toNat 6), V.int (10 ^ Int.toNat 29)]) (i := n1) a1 b1
  have n1 : p1 ≠ b := hb.ne hp1
  refine o_ixL (by walk_at "h") hv1 ?_
  obtain ⟨low, rfl⟩ : ∃ low, v1 = .int low := by
    simp only [List.mem_cons, List.not_mem_nil, or_false] at hm1
    rcases hm1 with rfl | rfl | rfl | rfl <;> exact ⟨_, rfl⟩
  walk_at "r"
  intro p2 hp2
  walk_at "r"
  refine ⟨b, 3, k + 1, rfl, (BoxAt.upd ho1).new hp2, by omega, by omega, by omega, fun n2 o2 a2 b2 ho2 => ?_⟩
  obtain ⟨v2, hv2, hm2⟩ := atI_mem (xs := [V.int 3, V.int 100, V.int (10 ^ Int.toNat 9)]) (i := n2) a2 b2
  have n2 : p2 ≠ b := (BoxAt.upd (H := (upd H p1 _)) (b := b) ho1).ne hp2
  refine o_ixL (by walk_at "h") hv2 ?_
  obtain ⟨m, rfl, m0, m1⟩ : ∃ m, v2 = .int m ∧ 1 ≤ m ∧ m < 2 ^ 40 := by
    simp only [List.mem_cons, List.not_mem_nil, or_false] at hm2
    rcases hm2 with rfl | rfl | rfl
    · exact ⟨_, rfl, by decide, by decide⟩
    · exact ⟨_, rfl, by decide, by decide⟩
    · exact ⟨_, rfl, by decide, by decide⟩
  walk_at "r"
  refine ⟨b, m, k + 2, rfl, BoxAt.upd ho2, m0, m1, by omega, fun n3 o3 a3 b3 ho3 => ?_⟩
  walk_at "r"
  intro p3 hp3
  walk_at "r"
  refine ⟨b, 5, k + 3, rfl, (BoxAt.upd ho3).new hp3, by omega, by omega, by omega, fun n4 o4 a4 b4 ho4 => ?_⟩
  obtain ⟨v4, hv4, hm4⟩ := atI_mem (xs := [V.int n3, V.int (0 - n3), V.int low, V.int (0 - low), V.int (n3 - 1)]) (i := n4) a4 b4
  have n3' : p3 ≠ b := (BoxAt.upd (H := upd (upd (upd (upd H p1 _) b o1) p2 _) b o2) (b := b) ho3).ne hp3
  refine o_ixL (by walk_at "h") hv4 ?_
  obtain ⟨r, rfl⟩ : ∃ r, v4 = .int r := by
    simp only [List.mem_cons, List.not_mem_nil, or_false] at hm4
    rcases hm4 with rfl | rfl | rfl | rfl | rfl <;> exact ⟨_, rfl⟩
  exact q r _ (by walk_at "k") (BoxAt.upd ho4)
theorem len_law_two : ∀ vs H Q E, sp_law_two K vs H Q E → vs.length = 1 := by rintro vs H Q E ⟨b, k, rfl, _⟩; rfl
theorem pick3 {i : Int} (h0 : 0 ≤ i) (h1 : i < 3) : ∃ m, atI [V.int 5, V.int 50, V.int (10 ^ Int.toNat 6)] i = some (.int m) ∧ 1 ≤ m ∧ m ≤ 1000000 := by
  obtain ⟨v2, hv2, hm2⟩ := atI_mem (xs := [V.int 5, V.int 50, V.int (10 ^ Int.toNat 6)]) (i := i) h0 h1
  simp only [List.mem_cons, List.not_mem_nil, or_false] at hm2
  rcases hm2 with rfl | rfl | rfl
  · exact ⟨_, hv2, by decide, by decide⟩
  · exact ⟨_, hv2, by decide, by decide⟩
  · exact ⟨_, hv2, by decide, by decide⟩
theorem pure_law_two : ∀ vs H Q E, sp_law_two K vs H Q E → t_law_two K E { nx := fun _ H' => Q .non H', rt := Q } (start N_law_two vs) H := by
  rintro vs H Q E ⟨b, k, rfl, hb, hk, q⟩
  show t_law_two K E _ [some (.ref b), none, none, none] H
  unfold t_law_two
  walk_at "r"
  intro p1 hp1
  walk_at "r"
  refine ⟨b, 3, k, rfl, hb.new hp1, by omega, by omega, by omega, fun n1 o1 a1 b1 ho1 => ?_⟩
  obtain ⟨m1, hm1, c1, d1⟩ := pick3 a1 b1
  have e1 : p1 ≠ b := hb.ne hp1
  refine o_ixL (by walk_at "h") hm1 ?_
  walk_at "r"
  refine ⟨b, m1, k + 1, rfl, BoxAt.upd ho1, by omega, by omega, by omega, fun n2 o2 a2 b2 ho2 => ?_⟩
  walk_at "r"
  intro p2 hp2
  walk_at "r"
  refine ⟨b, 3, k + 2, rfl, (BoxAt.upd ho2).new hp2, by omega, by omega, by omega, fun n3 o3 a3 b3 ho3 => ?_⟩
  obtain ⟨m3, hm3, c3, d3⟩ := pick3 a3 b3
  have e2 : p2 ≠ b := (BoxAt.upd (H := upd (upd H p1 _) b o1) (b := b) ho2).ne hp2
  refine o_ixL (by walk_at "h") hm3 ?_
  walk_at "r"
  refine ⟨b, m3, k + 3, rfl, BoxAt.upd ho3, by omega, by omega, by omega, fun n4 o4 a4 b4 ho4 => ?_⟩
  walk_at "r"
  intro p3 hp3
  walk_at "r"
  refine ⟨b, 4, k + 4, rfl, (BoxAt.upd ho4).new hp3, by omega, by omega, by omega, fun n5 o5 a5 b5 ho5 => ?_⟩
  obtain ⟨v5, hv5, hm5⟩ := atI_mem (xs := [V.int 1, V.int 1, V.int 2, V.int 7]) (i := n5) a5 b5
  have e3 : p3 ≠ b := (BoxAt.upd (b := b) ho4).ne hp3
  refine o_ixL (by walk_at "h") hv5 ?_
  obtain ⟨t, rfl, t0, t1⟩ : ∃ t, v5 = .int t ∧ 1 ≤ t ∧ t ≤ 7 := by
    simp only [List.mem_cons, List.not_mem_nil, or_false] at hm5
    rcases hm5 with rfl | rfl | rfl | rfl <;> exact ⟨_, rfl, by decide, by decide⟩
  walk_at "r"
  intro p4 hp4
  have e4 : p4 ≠ b := (BoxAt.upd (b := b) ho5).ne hp4
  exact q _ _ p4 _ (by walk_at "k") ((BoxAt.upd ho5).new hp4) e4 upd_same
end
local macro_rules | `(tactic| walk_at "bx") => `(tactic| first
  | assumption
  | (refine BoxAt.same ?_ (by assumption); walk_at "bx")
  | (refine BoxAt.keep ?_ (by walk_at "ne") (by assumption); walk_at "bx"))
section
variable {K : PySem.W.Frag}
theorem BoxAt.keep {H H' : Hp} {b p : Addr} {k : Nat} (h : BoxAt H b k) (n : b ≠ p) (s : Keep p H H') : BoxAt H' b k := by
  obtain ⟨u, e, i⟩ := h
  exact ⟨u, s _ _ n e, i⟩
/-- a draw, the heap behind it a letter -/
theorem take_q {b : Addr} {m : Int} {k : Nat} {H : Hp} {Q : VK} {E : XK} (hb : BoxAt H b k) (h1 : 1 ≤ m) (h2 : m < 2 ^ 40) (h3 : k < 2 ^ 40) (h : ∀ (n : Int) H', 0 ≤ n → n < m → BoxAt H' b (k + 1) → Keep b H H' → Q (.int n) H') : sp_law_take K [.ref b, .int m] H Q E :=
  ⟨b, m, k, rfl, hb, h1, h2, h3, fun n _ a1 a2 ho => h n _ a1 a2 (BoxAt.upd ho) (Keep.upd _ _ _)⟩
theorem len_law_thing : ∀ vs H Q E, sp_law_thing K vs H Q E → vs.length = 1 := by rintro vs H Q E ⟨b, k, rfl, _⟩; rfl
theorem Thg.str {H : Hp} {b : Addr} {z : Str} (h : z.length ≤ 1000) : Thg H b (.str z) := .inl h
theorem Thg.lst {H : Hp} {b a : Addr} {xs : List V} (n : a ≠ b) (h : H a = some (.lst xs)) : Thg H b (.ref a) := .inr ⟨a, rfl, n, .inl ⟨xs, h⟩⟩
theorem Thg.dct {H : Hp} {b a : Addr} {xs : List (Key × V)} (n : a ≠ b) (h : H a = some (.dK xs)) : Thg H b (.ref a) := .inr ⟨a, rfl, n, .inr (.inr ⟨xs, h⟩)⟩
theorem Thg.tup {H : Hp} {b a : Addr} {xs : List V} (n : a ≠ b) (h : H a = some (.tup xs)) (hs : ∀ x ∈ xs, small x) : Thg H b (.ref a) := .inr ⟨a, rfl, n, .inr (.inl ⟨xs, h, hs⟩)⟩
theorem small2 {x y : V} (hx : small x) (hy : small y) : ∀ z ∈ [x, y], small z := by
  intro z hz
  simp only [List.mem_cons, List.not_mem_nil, or_false] at hz
  rcases hz with rfl | rfl
  · exact hx
  · exact hy
set_option maxHeartbeats 8000000 in
theorem pure_law_thing : ∀ vs H Q E, sp_law_thing K vs H Q E → t_law_thing K E { nx := fun _ H' => Q .non H', rt := Q } (start N_law_thing vs) H := by
  rintro vs H Q E ⟨b, k, rfl, hb, hk, q⟩
  show t_law_thing K E _ [some (.ref b), none, none] H
  unfold t_law_thing
  walk_at "q"
  refine take_q hb (by omega) (by omega) (by omega) fun w H0 a0 a1 B0 K0 => ?_
  walk_at "q"
  refine s_dec (fun e => ?_) (fun e => ?_)
  · walk_at "q"
    refine ⟨b, k + 1, rfl, B0, by omega, fun n H' hK hB => ?_⟩
    exact q _ _ (by walk_at "k") (hB.mono (by omega)) (.inl trivial)
  walk_at "q"
  refine s_dec (fun e => ?_) (fun e => ?_)
  · walk_at "q"
    refine ⟨b, k + 1, rfl, B0, by omega, fun n H' hK hB hl => ?_⟩
    exact q _ _ (by walk_at "k") (hB.mono (by omega)) (.str (by omega))
  walk_at "q"
  refine s_dec (fun e => ?_) (fun e => ?_)
  · walk_at "q"
    refine ⟨b, k + 1, rfl, B0, by omega, fun x y a H' hK hB hab ha => ?_⟩
    exact q _ _ (by walk_at "k") (hB.mono (by omega)) (.tup hab ha (by simp [small]))
  walk_at "q"
  refine s_dec (fun e => ?_) (fun e => ?_)
  · walk_at "q"
    refine take_q B0 (by omega) (by omega) (by omega) fun m H1 m0 m1 B1 K1 => ?_
    obtain ⟨m', rfl⟩ := Int.eq_ofNat_of_zero_le m0
    walk_at "q"
    refine ⟨b, m', k + 2, rfl, B1, by omega, by omega, fun z H' hK hB hl => ?_⟩
    exact q _ _ (by walk_at "k") (hB.mono (by omega)) (.str (by omega))
  walk_at "q"
  refine s_dec (fun e => ?_) (fun e => ?_)
  · walk_at "q"
    intro p1 H1 n1 f1 s1
    have B1 := B0.same s1; have d1 := B0.ne n1
    walk_at "q"
    intro p2 H2 n2 f2 s2
    have B2 := B1.same s2; have d2 := B1.ne n2
    walk_at "q"
    intro p3 H3 n3 f3 s3
    have B3 := B2.same s3; have d3 := B2.ne n3
    walk_at "q"
    intro p4 H4 n4 f4 s4
    have B4 := B3.same s4; have d4 := B3.ne n4
    walk_at "q"
    intro p5 H5 n5 f5 s5
    have B5 := B4.same s5; have d5 := B4.ne n5
    walk_at "q"
    intro p6 H6 n6 f6 s6
    have B6 := B5.same s6; have d6 := B5.ne n6
    walk_at "q"
    intro p7 H7 n7 f7 s7
    have B7 := B6.same s7; have d7 := B6.ne n7
    walk_at "q"
    intro p8 H8 n8 f8 s8
    have B8 := B7.same s8; have d8 := B7.ne n8
    walk_at "q"
    intro p9 H9 n9 f9 s9
    have B9 := B8.same s9; have d9 := B8.ne n9
    walk_at "q"
    refine take_q B9 (by omega) (by omega) (by omega) fun m HA m0 m1 BA KA => ?_
    obtain ⟨v, hv, hm⟩ := atI_mem (xs := [.bl true, .bl false, .non, .str "", .ref p1, .ref p2, .ref p3, .ref p4, .ref p5, .ref p6, .ref p7, .ref p8]) (i := m) m0 m1
    refine o_ixL (by walk_at "h") hv ?_
    refine q _ _ (by walk_at "k") (BA.mono (by omega)) ?_
    simp only [List.mem_cons, List.not_mem_nil, or_false] at hm
    rcases hm with rfl | rfl | rfl | rfl | rfl | rfl | rfl | rfl | rfl | rfl | rfl | rfl
    · exact .inl trivial
    · exact .inl trivial
    · exact .inl trivial
    · exact .str (by decide)
    · exact .dct d1 (by walk_at "h")
    · exact .lst d2 (by walk_at "h")
    · exact .tup d3 (by walk_at "h") (by simp)
    · exact .tup d4 (by walk_at "h") (by simp [small])
    · exact .tup d5 (by walk_at "h") (by simp [small])
    · exact .tup d6 (by walk_at "h") (by simp [small])
    · exact .tup d7 (by walk_at "h") (by simp [small])
    · exact .tup d8 (by walk_at "h") (by simp [small])
  · walk_at "q"
    refine ⟨b, k + 1, rfl, B0, by omega, fun z H1 K1 B1 hl => ?_⟩
    walk_at "q"
    refine ⟨b, k + 21, rfl, B1.mono (by omega), by omega, fun n H2 K2 B2 => ?_⟩
    walk_at "q"
    intro p3 H3 n3 f3 s3
    have B3 := B2.same s3; have d3 := B2.ne n3
    walk_at "q"
    refine take_q B3 (by omega) (by omega) (by omega) fun m HA m0 m1 BA KA => ?_
    obtain ⟨v, hv, hm⟩ := atI_mem (xs := [V.str z, V.int n]) (i := m) m0 m1
    refine o_ixL (by walk_at "h") hv ?_
    have hv2 : small v := by
      simp only [List.mem_cons, List.not_mem_nil, or_false] at hm
      rcases hm with rfl | rfl
      · show z.length ≤ 1000
        omega
      · trivial
    walk_at "q"
    intro q1 G1 u1 g1 t1
    have C1 := BA.same t1; have c1 := BA.ne u1
    walk_at "q"
    intro q2 G2 u2 g2 t2
    have C2 := C1.same t2; have c2 := C1.ne u2
    walk_at "q"
    intro q3 G3 u3 g3 t3
    have C3 := C2.same t3; have c3 := C2.ne u3
    walk_at "q"
    intro q4 G4 u4 g4 t4
    have C4 := C3.same t4; have c4 := C3.ne u4
    walk_at "q"
    intro G5 g5 t5
    have C5 := C4.keep c4.symm t5
    have g1' := t4 _ _ (t3 _ _ (t2 _ _ g1))
    have g2' := t4 _ _ (t3 _ _ g2)
    have g3' := t4 _ _ g3
    have m1 : q1 ≠ q4 := by walk_at "ne"
    have m2 : q2 ≠ q4 := by walk_at "ne"
    have m3 : q3 ≠ q4 := by walk_at "ne"
    have g1'' := t5 _ _ m1 g1'
    have g2'' := t5 _ _ m2 g2'
    have g3'' := t5 _ _ m3 g3'
    have KK : Keep b H G5 := by
      have k1 : Keep b H G3 := by walk_at "k"
      intro a o hab e
      have e3 := k1 a o hab e
      exact t5 a o (ne_of_none e3 u4) (t4 a o e3)
    walk_at "q"
    intro q6 G6 u6 g6 t6
    have C6 := C5.same t6; have c6 := C5.ne u6
    walk_at "q"
    intro q7 G7 u7 g7 t7
    have C7 := C6.same t7; have c7 := C6.ne u7
    walk_at "q"
    intro q8 G8 u8 g8 t8
    have C8 := C7.same t8; have c8 := C7.ne u8
    walk_at "q"
    refine take_q C8 (by omega) (by omega) (by omega) fun m HB m0 m1 BB KB => ?_
    obtain ⟨v2, hv2', hm2⟩ := atI_mem (xs := [.ref q1, .ref q2, .ref q3, .ref q4, .ref q6, .ref q7]) (i := m) m0 m1
    refine o_ixL (by walk_at "h") hv2' ?_
    refine q _ _ (by walk_at "k") (BB.mono (by omega)) ?_
    simp only [List.mem_cons, List.not_mem_nil, or_false] at hm2
    rcases hm2 with rfl | rfl | rfl | rfl | rfl | rfl
    · exact .lst c1 (by walk_at "h")
    · exact .tup c2 (by walk_at "h") (small2 hv2 (show small (.int 1) from trivial))
    · exact .tup c3 (by walk_at "h") (small2 (show small (.int 1) from trivial) hv2)
    · exact .dct c4 (by walk_at "h")
    · exact .lst c6 (by walk_at "h")
    · exact .tup c7 (by walk_at "h") (by simp [small])
end
section
variable {K : PySem.W.Frag}
theorem Thg.kind {H : Hp} {b : Addr} {v : V} (h : Thg H b v) : ∃ t, GL.kindOf H v = some t := by
  rcases h with h | ⟨a, rfl, _, ⟨xs, h⟩ | ⟨xs, h, _⟩ | ⟨xs, h⟩⟩
  · exact small_kind h
  · exact ⟨"list", by simp only [GL.kindOf, h]⟩
  · exact ⟨"tuple", by simp only [GL.kindOf, h]⟩
  · exact ⟨"dict", by simp only [GL.kindOf, h]⟩
theorem Thg.keep {H H' : Hp} {b : Addr} {v : V} (h : Thg H b v) (k : Keep b H H') : Thg H' b v := by
  rcases h with h | ⟨a, rfl, n, ⟨xs, h⟩ | ⟨xs, h, g⟩ | ⟨xs, h⟩⟩
  · exact .inl h
  · exact .inr ⟨a, rfl, n, .inl ⟨xs, k _ _ n h⟩⟩
  · exact .inr ⟨a, rfl, n, .inr (.inl ⟨xs, k _ _ n h, g⟩)⟩
  · exact .inr ⟨a, rfl, n, .inr (.inr ⟨xs, k _ _ n h⟩)⟩
theorem Thg.name {H : Hp} {b : Addr} {v : V} (h : Thg H b v) : okName v := by
  rintro z rfl
  rcases h with h | ⟨a, e, _⟩
  · exact h
  · cases e
theorem Thg.share {H : Hp} {b : Addr} {v : V} (h : Thg H b v) : okShare H v := by
  obtain ⟨t, k⟩ := h.kind
  refine ⟨t, k, ?_⟩
  rintro a xs rfl e
  rcases h with h | ⟨a', e', _, ⟨ys, h⟩ | ⟨ys, h, g⟩ | ⟨ys, h⟩⟩
  · exact h.elim
  · cases e'; rw [e] at h; cases h
  · cases e'; rw [e] at h; cases h; exact g
  · cases e'; rw [e] at h; cases h
theorem shareB_same {H H' : Hp} {b : Addr} {v : V} (h : Thg H b v) (k : Same H H') : shareB H' v = shareB H v := by
  rcases h with h | ⟨a, rfl, n, ⟨xs, h⟩ | ⟨xs, h, g⟩ | ⟨xs, h⟩⟩
  · cases v <;> first | rfl | exact h.elim
  · have h2 := k _ _ h
    simp only [shareB, h, h2]
  · have h2 := k _ _ h
    simp only [shareB, h, h2]
  · have h2 := k _ _ h
    simp only [shareB, h, h2]
theorem len_law : ∀ vs H Q E, sp_law K vs H Q E → vs.length = 1 := by rintro vs H Q E ⟨b, k, rfl, _⟩; rfl
theorem pure_law : ∀ vs H Q E, sp_law K vs H Q E → t_law K E { nx := fun _ H' => Q .non H', rt := Q } (start N_law vs) H := by
  rintro vs H Q E ⟨a, ns, rfl, hS, hl, q⟩
  show t_law K E _ [some (.ref a), none, none, none, none, none, none, none] H
  unfold t_law
  walk_at "q"
  refine c_lenQ hS ?_
  walk_at "q"
  refine n_min2 fun m m1 m2 m3 => ?_
  walk_at "q"
  refine n_max2 fun n n1 n2 n3 => ?_
  walk_at "q"
  refine for_walk (walk_rng _ _) (fun i σ H' => ∃ r1 r2 r3 r4 r5 r6 r7, σ = [some (.ref a), r1, r2, r3, r4, r5, r6, r7] ∧ Same H H') ⟨_, _, _, _, _, _, _, rfl, Same.refl H⟩ (fun _ _ _ _ => trivial) ?_ ?_
  · rintro i σ H1 hi ⟨r1, r2, r3, r4, r5, r6, r7, rfl, s1⟩
    walk_at "q"
    refine ⟨a, ns, _, rfl, s1.seq hS, by omega, by omega, fun c => ?_⟩
    walk_at "q"
    refine ⟨c, rfl, fun b o hb ho => ?_⟩
    have B2 : BoxAt (upd H1 b o) b 0 := BoxAt.upd ho
    have S2 : Same H (upd H1 b o) := s1.trans (same_new hb)
    have nb : ∀ a' u, H a' = some u → a' ≠ b := fun a' u e => ne_of_none (s1 _ _ e) hb
    generalize upd H1 b o = H2 at B2 S2
    walk_at "q"
    refine ⟨b, 0, rfl, B2, by omega, fun v H3 K3 B3 T3 => ?_⟩
    walk_at "q"
    refine ⟨b, 50, rfl, B3.mono (by omega), by omega, fun lo H4 K4 B4 => ?_⟩
    walk_at "q"
    refine ⟨b, 54, rfl, B4.mono (by omega), by omega, fun hi' H5 K5 B5 => ?_⟩
    have T5 : Thg H5 b v := (T3.keep K4).keep K5
    have S5 : Same H H5 := fun a' u e => K5 _ _ (nb _ _ e) (K4 _ _ (nb _ _ e) (K3 _ _ (nb _ _ e) (S2 _ _ e)))
    obtain ⟨t, hk⟩ := T5.kind
    walk_at "q"
    refine ⟨v, t, rfl, hk, ?_⟩
    walk_at "q"
    refine ⟨v, t, rfl, hk, T5.name, fun H6 S6 => ?_⟩
    have T6 : Thg H6 b v := T5.keep (Keep.same S6)
    obtain ⟨t6, k6⟩ := T6.kind
    walk_at "q"
    refine ⟨v, t6, rfl, k6, T6.name, fun H7 S7 => ?_⟩
    have T7 : Thg H7 b v := T6.keep (Keep.same S7)
    obtain ⟨t7, k7⟩ := T7.kind
    walk_at "q"
    refine ⟨_, _, rfl, ?_⟩
    rw [decide_eq_true rfl]
    walk_at "q"
    refine ⟨v, t7, rfl, k7, ?_⟩
    walk_at "q"
    refine ⟨_, _, rfl, ?_⟩
    rw [decide_eq_true rfl]
    walk_at "q"
    refine ⟨v, rfl, T7.share, ?_⟩
    walk_at "q"
    refine ⟨v, rfl, T7.share, ?_⟩
    walk_at "q"
    refine ⟨_, _, rfl, ?_⟩
    rw [decide_eq_true rfl]
    walk_at "q"
    refine ⟨.int lo, rfl, ⟨"int", rfl, fun a xs e => by cases e⟩, ?_⟩
    walk_at "q"
    refine ⟨_, false, rfl, ?_⟩
    rw [show (decide (shareB H7 (V.int lo) = false)) = true from decide_eq_true rfl]
    walk_at "q"
    intro p1 H8 u1 f1 t1
    walk_at "q"
    intro p2 H9 u2 f2 t2
    walk_at "q"
    intro p3 HA u3 f3 t3
    walk_at "q"
    intro p4 HB u4 f4 t4
    have SB : Same H HB := fun a' u e => t4 _ _ (t3 _ _ (t2 _ _ (t1 _ _ (S7 _ _ (S6 _ _ (S5 _ _ e))))))
    have g1 : HB p1 = _ := t4 _ _ (t3 _ _ (t2 _ _ f1))
    have g2 : HB p2 = _ := t4 _ _ (t3 _ _ f2)
    have g3 : HB p3 = _ := t4 _ _ f3
    have TB : Thg HB b v := T7.keep (Keep.same (fun a' u e => t4 _ _ (t3 _ _ (t2 _ _ (t1 _ _ e)))))
    obtain ⟨tB, kB⟩ := TB.kind
    walk_at "q"
    refine for_walk (walk_list K p4 [.ref p1, .ref p2, .ref p3]) (fun i' σ H' => H' = HB ∧ ∃ r, σ = [some (.ref a), some (.int (0 + (i : Int))), some (.ref b), some v, some (.int lo), some (.int hi'), some (.bl (wholeB v)), r]) ⟨rfl, _, rfl⟩ (fun _ _ _ h => by rw [h.1]; exact SqL.of f4) ?_ ?_
    · rintro j σ H' hj ⟨eH, r, rfl⟩
      have eH := eH.symm
      subst eH
      obtain ⟨p, x, y, ep, hp⟩ : ∃ p x y, ([V.ref p1, V.ref p2, V.ref p3] : List V).getD j .non = .ref p ∧ HB p = some (.tup [.int x, .int y]) := by
        have hj3 : j = 0 ∨ j = 1 ∨ j = 2 := by
          have : ([V.ref p1, V.ref p2, V.ref p3] : List V).length = 3 := rfl
          omega
        rcases hj3 with rfl | rfl | rfl
        · exact ⟨p1, _, _, rfl, g1⟩
        · exact ⟨p2, _, _, rfl, g2⟩
        · exact ⟨p3, _, _, rfl, g3⟩
      rw [ep]
      walk_at "q"
      refine ⟨v, tB, x, y, rfl, kB, ?_⟩
      walk_at "q"
      refine s_bool (fun h => ?_) (fun h => ?_)
      · obtain ⟨i', rfl⟩ : ∃ i', v = .int i' := by cases v <;> first | exact ⟨_, rfl⟩ | cases h
        walk_at "q"
        refine s_dec (fun h1 => ?_) (fun h1 => ?_)
        · walk_at "q"
          refine ⟨_, _, rfl, ?_⟩
          rw [decide_eq_true (show withinB x y (.int i') = decide (i' ≤ y) by unfold withinB; simp [h1])]
          walk_at "q"
          exact ⟨rfl, _, rfl⟩
        · walk_at "q"
          refine ⟨_, _, rfl, ?_⟩
          rw [decide_eq_true (show withinB x y (.int i') = false by unfold withinB; simp [h1])]
          walk_at "q"
          exact ⟨rfl, _, rfl⟩
      · walk_at "q"
        refine ⟨_, _, rfl, ?_⟩
        rw [decide_eq_true (show withinB x y v = wholeB v by cases v <;> first | rfl | cases h)]
        walk_at "q"
        exact ⟨rfl, _, rfl⟩
    · rintro σ H' ⟨eH, r, rfl⟩
      have eH := eH.symm
      subst eH
      exact ⟨_, _, _, _, _, _, _, rfl, SB⟩
  · rintro σ H1 ⟨r1, r2, r3, r4, r5, r6, r7, rfl, s1⟩
    walk_at "q"
    refine ⟨_, "str", rfl, rfl, by rintro z ⟨⟩; decide, fun H2 S2 => ?_⟩
    rw [show nameB (V.str "abcdef") = true by decide +kernel]
    walk_at "q"
    rw [decide_eq_true rfl]
    walk_at "q"
    refine ⟨_, "str", rfl, rfl, by rintro z ⟨⟩; decide, fun H3 S3 => ?_⟩
    rw [show nameB (V.str "abcdefg") = false by decide +kernel]
    walk_at "q"
    rw [decide_eq_true rfl]
    walk_at "q"
    intro p1 H4 u1 f1 t1
    refine ⟨_, rfl, ⟨"tuple", by simp only [GL.kindOf, f1], ?_⟩, ?_⟩
    · rintro a' xs ⟨⟩ e
      rw [f1] at e
      cases e
      exact small2 (show small (.int 0) from trivial) (show small (.int 1) from trivial)
    · have e : shareB H4 (V.ref p1) = true := by
        simp only [shareB, f1]
        decide
      rw [e]
      walk_at "q"
      rw [decide_eq_true rfl]
      exact q _
end
/-! derivations, the head, the end: printed by gen.py -/
def d_is_whole : He.DefD := ⟨("is_whole", none), "is_whole", "is_whole", defArgs s_is_whole, defBody s_is_whole, defScope s_is_whole, [], []⟩
def d_is_within : He.DefD := ⟨("is_within", none), "is_within", "is_within", defArgs s_is_within, defBody s_is_within, defScope s_is_within, [], []⟩
def d_is_name : He.DefD := ⟨("is_name", none), "is_name", "is_name", defArgs s_is_name, defBody s_is_name, defScope s_is_name, [], []⟩
def d_common_of : He.DefD := ⟨("common_of", none), "common_of", "common_of", defArgs s_common_of, defBody s_common_of, defScope s_common_of, [], []⟩
def d_is_share : He.DefD := ⟨("is_share", none), "is_share", "is_share", defArgs s_is_share, defBody s_is_share, defScope s_is_share, [], []⟩
def d_law_cell : He.DefD := ⟨("_law_cell", none), "_law_cell", "_law_cell", defArgs s_law_cell, defBody s_law_cell, defScope s_law_cell, [], []⟩
def d_law_box : He.DefD := ⟨("_law_box", none), "_law_box", "_law_box", defArgs s_law_box, defBody s_law_box, defScope s_law_box, [], []⟩
def d_law_take : He.DefD := ⟨("_law_take", none), "_law_take", "_law_take", defArgs s_law_take, defBody s_law_take, defScope s_law_take, [], []⟩
def d_law_text : He.DefD := ⟨("_law_text", none), "_law_text", "_law_text", defArgs s_law_text, defBody s_law_text, defScope s_law_text, [], []⟩
def d_law_near : He.DefD := ⟨("_law_near", none), "_law_near", "_law_near", defArgs s_law_near, defBody s_law_near, defScope s_law_near, [], []⟩
def d_law_number : He.DefD := ⟨("_law_number", none), "_law_number", "_law_number", defArgs s_law_number, defBody s_law_number, defScope s_law_number, [], []⟩
def d_law_two : He.DefD := ⟨("_law_two", none), "_law_two", "_law_two", defArgs s_law_two, defBody s_law_two, defScope s_law_two, [], []⟩
def d_law_thing : He.DefD := ⟨("_law_thing", none), "_law_thing", "_law_thing", defArgs s_law_thing, defBody s_law_thing, defScope s_law_thing, [], []⟩
def d_law_whole : He.DefD := ⟨("_law_whole", none), "_law_whole", "_law_whole", defArgs s_law_whole, defBody s_law_whole, defScope s_law_whole, [], []⟩
def d_law_is_name : He.DefD := ⟨("_law_is_name", none), "_law_is_name", "_law_is_name", defArgs s_law_is_name, defBody s_law_is_name, defScope s_law_is_name, [], []⟩
def d_law_is_share : He.DefD := ⟨("_law_is_share", none), "_law_is_share", "_law_is_share", defArgs s_law_is_share, defBody s_law_is_share, defScope s_law_is_share, [], []⟩
def d_law_told : He.DefD := ⟨("_law_told", none), "_law_told", "_law_told", defArgs s_law_told, defBody s_law_told, defScope s_law_told, [], []⟩
def d_law : He.DefD := ⟨("law", none), "law", "law", defArgs s_law, defBody s_law, defScope s_law, [], []⟩
def fn : List He.DefD := [d_is_whole, d_is_within, d_is_name, d_common_of, d_is_share, d_law_cell, d_law_box, d_law_take, d_law_text, d_law_near, d_law_number, d_law_two, d_law_thing, d_law_whole, d_law_is_name, d_law_is_share, d_law_told, d_law]
def fa : List He.Fa := [.free "int", .free "isinstance", .free "bool", .str "LETTERS" "abcdefghijklmnopqrstuvwxyz", .free "all", .free "str", .free "len", .int "LONGEST" 6, .free "tuple", .free "range", .free "min", .free "max", .glo "is_whole", .glo "is_within", .glo "is_name", .glo "common_of", .glo "is_share", .glo "_law_cell", .glo "_law_box", .glo "_law_take", .glo "_law_text", .glo "_law_near", .glo "_law_number", .glo "_law_two", .glo "_law_thing", .glo "_law_whole", .glo "_law_is_name", .glo "_law_is_share", .glo "_law_told", .glo "law"]
structure Gm (K : PySem.W.Frag) (mg : Str → Option Value) : Prop where
  says : He.SaysD fa fn K
  hp : ∃ h : Heap, K.In h ∧ h.Ns mainGlobals mg
section
variable {K : PySem.W.Frag} {mg : Str → Option Value}
theorem Gm.fr (g : Gm K mg) (i : Nat) {x : Str} (h : fa[i]? = some (.free x) := by rfl) : mg x = none := by
  obtain ⟨hh, X, G⟩ := g.hp
  exact He.free_ok X G (g.says.fact i h)
theorem Gm.gl (g : Gm K mg) (i : Nat) {x : Str} (h : fa[i]? = some (.glo x) := by rfl) : mg x = some (.ref (He.ga K x)) := by
  obtain ⟨hh, X, G⟩ := g.hp
  exact He.glo_ok X G (g.says.fact i h)
theorem Gm.gi (g : Gm K mg) (i : Nat) {x : Str} {n : Int} (h : fa[i]? = some (.int x n) := by rfl) : ∃ t, mg x = some (.int n t) := by
  obtain ⟨hh, X, G⟩ := g.hp
  exact He.int_ok X G (g.says.fact i h)
theorem Gm.gs (g : Gm K mg) (i : Nat) {x z : Str} (h : fa[i]? = some (.str x z) := by rfl) : ∃ t, mg x = some (.str z t) := by
  obtain ⟨hh, X, G⟩ := g.hp
  exact He.str_ok X G (g.says.fact i h)
end
section
variable {P : Program} {w : World} {K : PySem.W.Frag} {mg : Str → Option Value} {base : Heap}
theorem ok_is_whole (g : Gm K mg) : FnG P w K mg base 1 "is_whole" ["thing"] (sp_is_whole K) := by
  obtain ⟨fd, F⟩ := g.says.def_ 0 (d := d_is_whole) rfl
  refine ⟨⟨fd, F.ok sc_is_whole (fun vs H Q E h => len_is_whole vs H Q E h) (fun cdv A outer s H vs Q E hr h => ⟨t_is_whole K E, ?_, pure_is_whole vs H Q E h⟩), F.bindsN fun _ _ _ _ _ _ us hl => match us, hl with | [_], _ => rfl⟩, g.gl 12, F.kp⟩
  exact (pss_one (ps_ret (pe_andT (pe_callB cg_isi (by rfl) (g.fr 1) b_isinstance (pa_cons (pv 0) (pa_cons (pe_ty b_int (g.fr 0)) pa_nil))) (pe_one (pe_notT (pe_callB cg_isi (by rfl) (g.fr 1) b_isinstance (pa_cons (pv 0) (pa_cons (pe_ty b_bool (g.fr 2)) pa_nil))))))))
theorem ok_is_within (g : Gm K mg) : FnG P w K mg base 2 "is_within" ["thing", "low", "high"] (sp_is_within K) := by
  have F_is_whole := ok_is_whole (P := P) (w := w) (base := base) g
  obtain ⟨fd, F⟩ := g.says.def_ 1 (d := d_is_within) rfl
  refine ⟨⟨fd, F.ok sc_is_within (fun vs H Q E h => len_is_within vs H Q E h) (fun cdv A outer s H vs Q E hr h => ⟨t_is_within K E, ?_, pure_is_within vs H Q E h⟩), F.bindsN fun _ _ _ _ _ _ us hl => match us, hl with | [_, _, _], _ => rfl⟩, g.gl 13, F.kp⟩
  exact (pss_one (ps_ret (pe_andT (pe_g0 F_is_whole (hr.mono (by decide)) (pa_cons (pv 0) pa_nil)) (pe_one (pe_chain og_le og_le (pv 1) (pv 0) (pv 2))))))
theorem ok_is_name (g : Gm K mg) : FnG P w K mg base 1 "is_name" ["thing"] (sp_is_name K) := by
  obtain ⟨fd, F⟩ := g.says.def_ 2 (d := d_is_name) rfl
  refine ⟨⟨fd, F.ok sc_is_name (fun vs H Q E h => len_is_name vs H Q E h) (fun cdv A outer s H vs Q E hr h => ⟨t_is_name K E, ?_, pure_is_name vs H Q E h⟩), F.bindsN fun _ _ _ _ _ _ us hl => match us, hl with | [_], _ => rfl⟩, g.gl 14, F.kp⟩
  exact (pss_cons (ps_if (PW.pt (pw_or (pt_not (pt_tru (pe_callB cg_isi (by rfl) (g.fr 1) b_isinstance (pa_cons (pv 0) (pa_cons (pe_ty b_str (g.fr 5)) pa_nil))))) (pw_or1 (pt_not (pt_chain og_le og_le (pe_int) (pe_callB cg_len (by rfl) (g.fr 6) b_len (pa_cons (pv 0) pa_nil)) (pe_gi (g.gi 7))))))) (pss_one (ps_ret (pe_bl))) pss_nil)
      (pss_one (ps_ret (pe_callB (cr_all rfl) (by rfl) (g.fr 4) b_all (pa_cons (pe_lc (own := [(("sign" : Str), 1)]) (g := (gName 1)) (tt := tYes) (te := (tOp gInC (tVar 1) (tC (.str "abcdefghijklmnopqrstuvwxyz")))) (by rfl) sc_is_name.nd (pi_str (pv 0)) (blkOk_by (own := [(("sign" : Str), 1)]) (N := N_is_name) (sc := defScope s_is_name) (by decide +kernel)) (fun _ _ _ _ _ => (pg_name (i := 1) sc_is_name.nd rfl (by first | exact Or.inl rfl | exact Or.inr rfl))) (fun _ _ _ _ _ => pts_nil) (fun _ _ _ _ _ => (pe_cmpR og_inC (pv 1) (pe_gs (g.gs 3)) (by rfl)))) pa_nil)))))
theorem ok_common_of (g : Gm K mg) : FnG P w K mg base 1 "common_of" ["one", "other"] (sp_common_of K) := by
  obtain ⟨fd, F⟩ := g.says.def_ 3 (d := d_common_of) rfl
  refine ⟨⟨fd, F.ok sc_common_of (fun vs H Q E h => len_common_of vs H Q E h) (fun cdv A outer s H vs Q E hr h => ⟨t_common_of K E, ?_, pure_common_of vs H Q E h⟩), F.bindsN fun _ _ _ _ _ _ us hl => match us, hl with | [_, _], _ => rfl⟩, g.gl 15, F.kp⟩
  exact (pss_cons (ps_while (passes_of rfl) (pt_cmpR (og_ne hr.units) (pv 1) (pe_int) (nomark _)) (pss_one (ps_par (i := 0) (j := 1) rfl sc_common_of.nd rfl rfl (by decide) rfl rfl (pa_cons (pv 1) (pa_cons (pe_op og_mod (pv 0) (pv 1)) pa_nil)) (by rfl))))
      (pss_one (ps_ret (pv 0))))
theorem ok_is_share (g : Gm K mg) : FnG P w K mg base 2 "is_share" ["thing"] (sp_is_share K) := by
  have F_common_of := ok_common_of (P := P) (w := w) (base := base) g
  have F_is_whole := ok_is_whole (P := P) (w := w) (base := base) g
  obtain ⟨fd, F⟩ := g.says.def_ 4 (d := d_is_share) rfl
  refine ⟨⟨fd, F.ok sc_is_share (fun vs H Q E h => len_is_share vs H Q E h) (fun cdv A outer s H vs Q E hr h => ⟨t_is_share K E, ?_, pure_is_share vs H Q E h⟩), F.bindsN fun _ _ _ _ _ _ us hl => match us, hl with | [_], _ => rfl⟩, g.gl 16, F.kp⟩
  exact (pss_cons (ps_if (PW.pt (pw_or (pt_not (pt_tru (pe_callB cg_isi (by rfl) (g.fr 1) b_isinstance (pa_cons (pv 0) (pa_cons (pe_ty b_tuple (g.fr 8)) pa_nil))))) (pw_or (pt_cmpR (og_ne hr.units) (pe_callB cg_len (by rfl) (g.fr 6) b_len (pa_cons (pv 0) pa_nil)) (pe_int) (nomark _)) (pw_or (pt_not (pt_tru (pe_g0 F_is_whole (hr.mono (by decide)) (pa_cons (pe_ix ix_seq (pv 0) (pe_int) (fun _ _ => rfl)) pa_nil)))) (pw_or1 (pt_not (pt_tru (pe_g0 F_is_whole (hr.mono (by decide)) (pa_cons (pe_ix ix_seq (pv 0) (pe_int) (fun _ _ => rfl)) pa_nil))))))))) (pss_one (ps_ret (pe_bl))) pss_nil)
      (pss_one (ps_ret (pe_andT (pe_cmpR og_ge (pe_ix ix_seq (pv 0) (pe_int) (fun _ _ => rfl)) (pe_int) (nomark _)) (pe_andT (pe_cmpR og_ge (pe_ix ix_seq (pv 0) (pe_int) (fun _ _ => rfl)) (pe_int) (nomark _)) (pe_one (pe_cmpR (og_eq hr.units) (pe_g0 F_common_of (hr.mono (by decide)) (pa_cons (pe_ix ix_seq (pv 0) (pe_int) (fun _ _ => rfl)) (pa_cons (pe_ix ix_seq (pv 0) (pe_int) (fun _ _ => rfl)) pa_nil))) (pe_int) (nomark _))))))))
theorem ok_law_cell (g : Gm K mg) : FnG P w K mg base 1 "_law_cell" ["_law_script", "_law_k"] (sp_law_cell K) := by
  obtain ⟨fd, F⟩ := g.says.def_ 5 (d := d_law_cell) rfl
  refine ⟨⟨fd, F.ok sc_law_cell (fun vs H Q E h => len_law_cell vs H Q E h) (fun cdv A outer s H vs Q E hr h => ⟨t_law_cell K E, ?_, pure_law_cell vs H Q E h⟩), F.bindsN fun _ _ _ _ _ _ us hl => match us, hl with | [_, _], _ => rfl⟩, g.gl 17, F.kp⟩
  exact (pss_cons (ps_if (pt_cmpR og_lt (pv 1) (pe_callB cg_len (by rfl) (g.fr 6) b_len (pa_cons (pv 0) pa_nil)) (nomark _)) (pss_one (ps_ret (pe_ix ix_seq (pv 0) (pv 1) (fun _ _ => rfl)))) pss_nil)
      (pss_one (ps_ret (pe_op og_add (pe_op og_mul (pe_int) (pv 1)) (pe_int)))))
theorem ok_law_box (g : Gm K mg) : FnG P w K mg base 1 "_law_box" ["_law_cell_here"] (sp_law_box K) := by
  obtain ⟨fd, F⟩ := g.says.def_ 6 (d := d_law_box) rfl
  refine ⟨⟨fd, F.ok sc_law_box (fun vs H Q E h => len_law_box vs H Q E h) (fun cdv A outer s H vs Q E hr h => ⟨t_law_box K E, ?_, pure_law_box vs H Q E h⟩), F.bindsN fun _ _ _ _ _ _ us hl => match us, hl with | [_], _ => rfl⟩, g.gl 18, F.kp⟩
  exact (pss_cons (ps_if (pt_cmpR og_ge (pv 0) (pe_op og_pow (pe_int) (pe_int)) (nomark _)) (pss_one (ps_ret (pe_lst (pa_cons (pv 0) (pa_cons (pe_op og_mod (pv 0) (pe_int)) (pa_cons (pe_int) pa_nil)))))) pss_nil)
      (pss_one (ps_ret (pe_lst (pa_cons (pe_int) (pa_cons (pe_op og_mod (pv 0) (pe_int)) (pa_cons (pe_int) pa_nil)))))))
theorem ok_law_take (g : Gm K mg) : FnG P w K mg base 1 "_law_take" ["_law_box_here", "_law_many"] (sp_law_take K) := by
  obtain ⟨fd, F⟩ := g.says.def_ 7 (d := d_law_take) rfl
  refine ⟨⟨fd, F.ok sc_law_take (fun vs H Q E h => len_law_take vs H Q E h) (fun cdv A outer s H vs Q E hr h => ⟨t_law_take K E, ?_, pure_law_take vs H Q E h⟩), F.bindsN fun _ _ _ _ _ _ us hl => match us, hl with | [_, _], _ => rfl⟩, g.gl 19, F.kp⟩
  exact (pss_cons (ps_if (pt_cmpR og_gt (pe_ix ix_seq (pv 0) (pe_int) (fun _ _ => rfl)) (pe_int) (nomark _)) (pss_cons (ps_set (i := 2) sc_law_take.nd rfl (by first | exact Or.inl rfl | exact Or.inr rfl) (pe_op og_mod (pe_ix ix_seq (pv 0) (pe_int) (fun _ _ => rfl)) (pv 1)))
      (pss_cons (ps_asg (pe_op og_fdiv (pe_ix ix_seq (pv 0) (pe_int) (fun _ _ => rfl)) (pv 1)) (pg_sub (pv 0) (pe_int) set_list))
      (pss_one (ps_ret (pv 2))))) pss_nil)
      (pss_cons (ps_asg (pe_op og_add (pe_ix ix_seq (pv 0) (pe_int) (fun _ _ => rfl)) (pe_int)) (pg_sub (pv 0) (pe_int) set_list))
      (pss_cons (ps_set (i := 2) sc_law_take.nd rfl (by first | exact Or.inl rfl | exact Or.inr rfl) (pe_op og_mod (pe_op og_add (pe_op og_add (pe_op og_mul (pe_ix ix_seq (pv 0) (pe_int) (fun _ _ => rfl)) (pe_int)) (pe_op og_mul (pe_int) (pe_ix ix_seq (pv 0) (pe_int) (fun _ _ => rfl)))) (pe_int)) (pe_int)))
      (pss_cons (ps_set (i := 2) sc_law_take.nd rfl (by first | exact Or.inl rfl | exact Or.inr rfl) (pe_op og_mod (pe_op og_add (pe_op og_add (pe_op og_mul (pv 2) (pv 2)) (pe_op og_mul (pe_int) (pe_ix ix_seq (pv 0) (pe_int) (fun _ _ => rfl)))) (pe_int)) (pe_int)))
      (pss_one (ps_ret (pe_op og_mod (pe_op og_mod (pe_op og_mul (pv 2) (pe_op og_add (pv 2) (pe_int))) (pe_int)) (pv 1))))))))
theorem ok_law_text (g : Gm K mg) : FnG P w K mg base 2 "_law_text" ["_law_box_here", "_law_many"] (sp_law_text K) := by
  have F_law_take := ok_law_take (P := P) (w := w) (base := base) g
  obtain ⟨fd, F⟩ := g.says.def_ 8 (d := d_law_text) rfl
  refine ⟨⟨fd, F.ok sc_law_text (fun vs H Q E h => len_law_text vs H Q E h) (fun cdv A outer s H vs Q E hr h => ⟨t_law_text K E, ?_, pure_law_text vs H Q E h⟩), F.bindsN fun _ _ _ _ _ _ us hl => match us, hl with | [_, _], _ => rfl⟩, g.gl 20, F.kp⟩
  exact (pss_cons (ps_set (i := 2) sc_law_text.nd rfl (by first | exact Or.inl rfl | exact Or.inr rfl) (pe_str))
      (pss_cons (ps_set (i := 2) sc_law_text.nd rfl (by first | exact Or.inl rfl | exact Or.inr rfl) (pe_op og_add (pv 2) (pe_op og_mul (pe_str) (pe_int))))
      (pss_one (ps_ret (pe_join (pe_str) (pe_lc (own := [(("_law_k" : Str), 3)]) (g := (gName 3)) (tt := tYes) (te := (tOp (rIx K) (tVar 2) (tCl (sp_law_take K) E0 (tCons (tVar 0) (tCons (tCB (gLen K) (tCons (tVar 2) tNil)) tNil))))) (by rfl) sc_law_text.nd (pi_range1 rfl (g.fr 9) (pa_cons (pv 1) pa_nil)) (blkOk_by (own := [(("_law_k" : Str), 3)]) (N := N_law_text) (sc := defScope s_law_text) (by decide +kernel)) (fun _ _ _ _ _ => (pg_name (i := 3) sc_law_text.nd rfl (by first | exact Or.inl rfl | exact Or.inr rfl))) (fun _ _ _ _ _ => pts_nil) (fun _ _ _ _ _ => (pe_ix ix_seq (pv 2) (pe_g0 F_law_take (hr.mono (by decide)) (pa_cons (pv 0) (pa_cons (pe_callB cg_len (by rfl) (g.fr 6) b_len (pa_cons (pv 2) pa_nil)) pa_nil))) (fun _ _ => rfl)))))))))
theorem ok_law_near (g : Gm K mg) : FnG P w K mg base 3 "_law_near" ["_law_box_here"] (sp_law_near K) := by
  have F_law_take := ok_law_take (P := P) (w := w) (base := base) g
  have F_law_text := ok_law_text (P := P) (w := w) (base := base) g
  obtain ⟨fd, F⟩ := g.says.def_ 9 (d := d_law_near) rfl
  refine ⟨⟨fd, F.ok sc_law_near (fun vs H Q E h => len_law_near vs H Q E h) (fun cdv A outer s H vs Q E hr h => ⟨t_law_near K E, ?_, pure_law_near vs H Q E h⟩), F.bindsN fun _ _ _ _ _ _ us hl => match us, hl with | [_], _ => rfl⟩, g.gl 21, F.kp⟩
  exact (pss_cons (ps_set (i := 1) sc_law_near.nd rfl (by first | exact Or.inl rfl | exact Or.inr rfl) (pe_str))
      (pss_cons (ps_set (i := 2) sc_law_near.nd rfl (by first | exact Or.inl rfl | exact Or.inr rfl) (pe_join (pe_str) (pe_lc (own := [(("_law_k" : Str), 3)]) (g := (gName 3)) (tt := tYes) (te := (tOp (rIx K) (tVar 1) (tCl (sp_law_take K) E0 (tCons (tVar 0) (tCons (tC (.int 26)) tNil))))) (by rfl) sc_law_near.nd (pi_range1 rfl (g.fr 9) (pa_cons (pe_op og_add (pe_int) (pe_g0 F_law_take (hr.mono (by decide)) (pa_cons (pv 0) (pa_cons (pe_int) pa_nil)))) pa_nil)) (blkOk_by (own := [(("_law_k" : Str), 3)]) (N := N_law_near) (sc := defScope s_law_near) (by decide +kernel)) (fun _ _ _ _ _ => (pg_name (i := 3) sc_law_near.nd rfl (by first | exact Or.inl rfl | exact Or.inr rfl))) (fun _ _ _ _ _ => pts_nil) (fun _ _ _ _ _ => (pe_ix ix_seq (pv 1) (pe_g0 F_law_take (hr.mono (by decide)) (pa_cons (pv 0) (pa_cons (pe_int) pa_nil))) (fun _ _ => rfl))))))
      (pss_cons (ps_set (i := 4) sc_law_near.nd rfl (by first | exact Or.inl rfl | exact Or.inr rfl) (pe_g0 F_law_take (hr.mono (by decide)) (pa_cons (pv 0) (pa_cons (pe_op og_add (pe_callB cg_len (by rfl) (g.fr 6) b_len (pa_cons (pv 2) pa_nil)) (pe_int)) pa_nil))))
      (pss_cons (ps_set (i := 5) sc_law_near.nd rfl (by first | exact Or.inl rfl | exact Or.inr rfl) (pe_g0 F_law_take (hr.mono (by decide)) (pa_cons (pv 0) (pa_cons (pe_int) pa_nil))))
      (pss_cons (ps_set (i := 6) sc_law_near.nd rfl (by first | exact Or.inl rfl | exact Or.inr rfl) (pe_g0 F_law_text (hr.mono (by decide)) (pa_cons (pv 0) (pa_cons (pe_int) pa_nil))))
      (pss_cons (ps_if (pt_cmpR (og_eq hr.units) (pv 5) (pe_int) (nomark _)) (pss_one (ps_ret (pe_op og_add (pe_op og_add (pe_slice sl_str (pv 2) po_none (po_some (pv 4))) (pv 6)) (pe_slice sl_str (pv 2) (po_some (pv 4)) po_none)))) pss_nil)
      (pss_cons (ps_if (pt_cmpR (og_eq hr.units) (pv 5) (pe_int) (nomark _)) (pss_one (ps_ret (pe_op og_add (pe_slice sl_str (pv 2) po_none (po_some (pv 4))) (pe_slice sl_str (pv 2) (po_some (pe_op og_add (pv 4) (pe_int))) po_none)))) pss_nil)
      (pss_cons (ps_if (pt_cmpR (og_eq hr.units) (pv 5) (pe_int) (nomark _)) (pss_one (ps_ret (pe_op og_add (pe_op og_add (pe_slice sl_str (pv 2) po_none (po_some (pv 4))) (pv 6)) (pe_slice sl_str (pv 2) (po_some (pe_op og_add (pv 4) (pe_int))) po_none)))) pss_nil)
      (pss_one (ps_ret (pe_ix ix_seq (pe_lst (pa_cons (pe_upper (pv 2)) (pa_cons (pv 2) pa_nil))) (pe_op og_sub (pv 5) (pe_int)) (fun _ _ => rfl))))))))))))
theorem ok_law_number (g : Gm K mg) : FnG P w K mg base 2 "_law_number" ["_law_box_here"] (sp_law_number K) := by
  have F_law_take := ok_law_take (P := P) (w := w) (base := base) g
  obtain ⟨fd, F⟩ := g.says.def_ 10 (d := d_law_number) rfl
  refine ⟨⟨fd, F.ok sc_law_number (fun vs H Q E h => len_law_number vs H Q E h) (fun cdv A outer s H vs Q E hr h => ⟨t_law_number K E, ?_, pure_law_number vs H Q E h⟩), F.bindsN fun _ _ _ _ _ _ us hl => match us, hl with | [_], _ => rfl⟩, g.gl 22, F.kp⟩
  exact (pss_cons (ps_set (i := 1) sc_law_number.nd rfl (by first | exact Or.inl rfl | exact Or.inr rfl) (pe_ix ix_seq (pe_lst (pa_cons (pe_int) (pa_cons (pe_int) (pa_cons (pe_op og_pow (pe_int) (pe_int)) (pa_cons (pe_op og_pow (pe_int) (pe_int)) pa_nil))))) (pe_g0 F_law_take (hr.mono (by decide)) (pa_cons (pv 0) (pa_cons (pe_int) pa_nil))) (fun _ _ => rfl)))
      (pss_cons (ps_set (i := 2) sc_law_number.nd rfl (by first | exact Or.inl rfl | exact Or.inr rfl) (pe_g0 F_law_take (hr.mono (by decide)) (pa_cons (pv 0) (pa_cons (pe_ix ix_seq (pe_lst (pa_cons (pe_int) (pa_cons (pe_int) (pa_cons (pe_op og_pow (pe_int) (pe_int)) pa_nil)))) (pe_g0 F_law_take (hr.mono (by decide)) (pa_cons (pv 0) (pa_cons (pe_int) pa_nil))) (fun _ _ => rfl)) pa_nil))))
      (pss_one (ps_ret (pe_ix ix_seq (pe_lst (pa_cons (pv 2) (pa_cons (pe_op og_sub (pe_int) (pv 2)) (pa_cons (pv 1) (pa_cons (pe_op og_sub (pe_int) (pv 1)) (pa_cons (pe_op og_sub (pv 2) (pe_int)) pa_nil)))))) (pe_g0 F_law_take (hr.mono (by decide)) (pa_cons (pv 0) (pa_cons (pe_int) pa_nil))) (fun _ _ => rfl))))))
theorem ok_law_two (g : Gm K mg) : FnG P w K mg base 2 "_law_two" ["_law_box_here"] (sp_law_two K) := by
  have F_law_take := ok_law_take (P := P) (w := w) (base := base) g
  obtain ⟨fd, F⟩ := g.says.def_ 11 (d := d_law_two) rfl
  refine ⟨⟨fd, F.ok sc_law_two (fun vs H Q E h => len_law_two vs H Q E h) (fun cdv A outer s H vs Q E hr h => ⟨t_law_two K E, ?_, pure_law_two vs H Q E h⟩), F.bindsN fun _ _ _ _ _ _ us hl => match us, hl with | [_], _ => rfl⟩, g.gl 23, F.kp⟩
  exact (pss_cons (ps_set (i := 1) sc_law_two.nd rfl (by first | exact Or.inl rfl | exact Or.inr rfl) (pe_g0 F_law_take (hr.mono (by decide)) (pa_cons (pv 0) (pa_cons (pe_ix ix_seq (pe_lst (pa_cons (pe_int) (pa_cons (pe_int) (pa_cons (pe_op og_pow (pe_int) (pe_int)) pa_nil)))) (pe_g0 F_law_take (hr.mono (by decide)) (pa_cons (pv 0) (pa_cons (pe_int) pa_nil))) (fun _ _ => rfl)) pa_nil))))
      (pss_cons (ps_set (i := 2) sc_law_two.nd rfl (by first | exact Or.inl rfl | exact Or.inr rfl) (pe_op og_add (pe_int) (pe_g0 F_law_take (hr.mono (by decide)) (pa_cons (pv 0) (pa_cons (pe_ix ix_seq (pe_lst (pa_cons (pe_int) (pa_cons (pe_int) (pa_cons (pe_op og_pow (pe_int) (pe_int)) pa_nil)))) (pe_g0 F_law_take (hr.mono (by decide)) (pa_cons (pv 0) (pa_cons (pe_int) pa_nil))) (fun _ _ => rfl)) pa_nil)))))
      (pss_cons (ps_set (i := 3) sc_law_two.nd rfl (by first | exact Or.inl rfl | exact Or.inr rfl) (pe_ix ix_seq (pe_lst (pa_cons (pe_int) (pa_cons (pe_int) (pa_cons (pe_int) (pa_cons (pe_int) pa_nil))))) (pe_g0 F_law_take (hr.mono (by decide)) (pa_cons (pv 0) (pa_cons (pe_int) pa_nil))) (fun _ _ => rfl)))
      (pss_one (ps_ret (pe_tup (pa_cons (pe_op og_mul (pv 1) (pv 3)) (pa_cons (pe_op og_mul (pv 2) (pv 3)) pa_nil))))))))
theorem ok_law_thing (g : Gm K mg) : FnG P w K mg base 4 "_law_thing" ["_law_box_here"] (sp_law_thing K) := by
  have F_law_near := ok_law_near (P := P) (w := w) (base := base) g
  have F_law_number := ok_law_number (P := P) (w := w) (base := base) g
  have F_law_take := ok_law_take (P := P) (w := w) (base := base) g
  have F_law_text := ok_law_text (P := P) (w := w) (base := base) g
  have F_law_two := ok_law_two (P := P) (w := w) (base := base) g
  obtain ⟨fd, F⟩ := g.says.def_ 12 (d := d_law_thing) rfl
  refine ⟨⟨fd, F.ok sc_law_thing (fun vs H Q E h => len_law_thing vs H Q E h) (fun cdv A outer s H vs Q E hr h => ⟨t_law_thing K E, ?_, pure_law_thing vs H Q E h⟩), F.bindsN fun _ _ _ _ _ _ us hl => match us, hl with | [_], _ => rfl⟩, g.gl 24, F.kp⟩
  exact (pss_cons (ps_set (i := 1) sc_law_thing.nd rfl (by first | exact Or.inl rfl | exact Or.inr rfl) (pe_g0 F_law_take (hr.mono (by decide)) (pa_cons (pv 0) (pa_cons (pe_int) pa_nil))))
      (pss_cons (ps_if (pt_cmpR og_lt (pv 1) (pe_int) (nomark _)) (pss_one (ps_ret (pe_g0 F_law_number (hr.mono (by decide)) (pa_cons (pv 0) pa_nil)))) pss_nil)
      (pss_cons (ps_if (pt_cmpR og_lt (pv 1) (pe_int) (nomark _)) (pss_one (ps_ret (pe_g0 F_law_near (hr.mono (by decide)) (pa_cons (pv 0) pa_nil)))) pss_nil)
      (pss_cons (ps_if (pt_cmpR og_lt (pv 1) (pe_int) (nomark _)) (pss_one (ps_ret (pe_g0 F_law_two (hr.mono (by decide)) (pa_cons (pv 0) pa_nil)))) pss_nil)
      (pss_cons (ps_if (pt_cmpR (og_eq hr.units) (pv 1) (pe_int) (nomark _)) (pss_one (ps_ret (pe_g0 F_law_text (hr.mono (by decide)) (pa_cons (pv 0) (pa_cons (pe_g0 F_law_take (hr.mono (by decide)) (pa_cons (pv 0) (pa_cons (pe_int) pa_nil))) pa_nil))))) pss_nil)
      (pss_cons (ps_if (pt_cmpR (og_eq hr.units) (pv 1) (pe_int) (nomark _)) (pss_one (ps_ret (pe_ix ix_seq (pe_lst (pa_cons (pe_bl) (pa_cons (pe_bl) (pa_cons (pe_non) (pa_cons (pe_str) (pa_cons (pe_dnewK) (pa_cons (pe_lst pa_nil) (pa_cons (pe_tup pa_nil) (pa_cons (pe_tup (pa_cons (pe_int) (pa_cons (pe_int) pa_nil))) (pa_cons (pe_tup (pa_cons (pe_int) (pa_cons (pe_int) pa_nil))) (pa_cons (pe_tup (pa_cons (pe_int) (pa_cons (pe_int) pa_nil))) (pa_cons (pe_tup (pa_cons (pe_bl) (pa_cons (pe_int) pa_nil))) (pa_cons (pe_tup (pa_cons (pe_int) (pa_cons (pe_bl) pa_nil))) pa_nil))))))))))))) (pe_g0 F_law_take (hr.mono (by decide)) (pa_cons (pv 0) (pa_cons (pe_int) pa_nil))) (fun _ _ => rfl)))) pss_nil)
      (pss_cons (ps_set (i := 2) sc_law_thing.nd rfl (by first | exact Or.inl rfl | exact Or.inr rfl) (pe_ix ix_seq (pe_lst (pa_cons (pe_g0 F_law_near (hr.mono (by decide)) (pa_cons (pv 0) pa_nil)) (pa_cons (pe_g0 F_law_number (hr.mono (by decide)) (pa_cons (pv 0) pa_nil)) pa_nil))) (pe_g0 F_law_take (hr.mono (by decide)) (pa_cons (pv 0) (pa_cons (pe_int) pa_nil))) (fun _ _ => rfl)))
      (pss_one (ps_ret (pe_ix ix_seq (pe_lst (pa_cons (pe_lst (pa_cons (pv 2) pa_nil)) (pa_cons (pe_tup (pa_cons (pv 2) (pa_cons (pe_int) pa_nil))) (pa_cons (pe_tup (pa_cons (pe_int) (pa_cons (pv 2) pa_nil))) (pa_cons (pe_disp (pps_cons (pe_str) (pv 2) pps_nil) (by rfl) (by rfl) (fun z => by cases z) (by decide)) (pa_cons (pe_lst (pa_cons (pe_int) (pa_cons (pe_int) pa_nil))) (pa_cons (pe_tup (pa_cons (pe_int) (pa_cons (pe_int) (pa_cons (pe_int) pa_nil)))) pa_nil))))))) (pe_g0 F_law_take (hr.mono (by decide)) (pa_cons (pv 0) (pa_cons (pe_int) pa_nil))) (fun _ _ => rfl)))))))))))
theorem ok_law_whole (g : Gm K mg) : FnG P w K mg base 1 "_law_whole" ["_law_thing_here"] (sp_law_whole K) := by
  obtain ⟨fd, F⟩ := g.says.def_ 13 (d := d_law_whole) rfl
  refine ⟨⟨fd, F.ok sc_law_whole (fun vs H Q E h => len_law_whole vs H Q E h) (fun cdv A outer s H vs Q E hr h => ⟨t_law_whole K E, ?_, pure_law_whole vs H Q E h⟩), F.bindsN fun _ _ _ _ _ _ us hl => match us, hl with | [_], _ => rfl⟩, g.gl 25, F.kp⟩
  exact (pss_one (ps_ret (pe_andT (pe_callB cg_isi (by rfl) (g.fr 1) b_isinstance (pa_cons (pv 0) (pa_cons (pe_ty b_int (g.fr 0)) pa_nil))) (pe_one (pe_notT (pe_callB cg_isi (by rfl) (g.fr 1) b_isinstance (pa_cons (pv 0) (pa_cons (pe_ty b_bool (g.fr 2)) pa_nil))))))))
theorem ok_law_is_name (g : Gm K mg) : FnG P w K mg base 1 "_law_is_name" ["_law_thing_here"] (sp_law_is_name K) := by
  obtain ⟨fd, F⟩ := g.says.def_ 14 (d := d_law_is_name) rfl
  refine ⟨⟨fd, F.ok sc_law_is_name (fun vs H Q E h => len_law_is_name vs H Q E h) (fun cdv A outer s H vs Q E hr h => ⟨t_law_is_name K E, ?_, pure_law_is_name vs H Q E h⟩), F.bindsN fun _ _ _ _ _ _ us hl => match us, hl with | [_], _ => rfl⟩, g.gl 26, F.kp⟩
  exact (pss_cons (ps_if (pt_not (pt_tru (pe_callB cg_isi (by rfl) (g.fr 1) b_isinstance (pa_cons (pv 0) (pa_cons (pe_ty b_str (g.fr 5)) pa_nil))))) (pss_one (ps_ret (pe_bl))) pss_nil)
      (pss_cons (by first | exact ps_setLc (i := 1) (own := [(("_law_sign" : Str), 2)]) (g := (gName 2)) (tt := (tTest (tChain gLe gLe (tC (.str "a")) (tVar 2) (tC (.str "z"))))) (te := (tVar 2)) (by rfl) sc_law_is_name.nd rfl rfl (sw_true rfl rfl rfl (by decide +kernel)) (pi_str (pv 0)) (blkOk_by (own := [(("_law_sign" : Str), 2)]) (N := N_law_is_name) (sc := defScope s_law_is_name) (by decide +kernel)) (fun _ _ _ _ _ => (pg_name (i := 2) sc_law_is_name.nd rfl (by first | exact Or.inl rfl | exact Or.inr rfl))) (fun _ _ _ _ _ => (pts_one (pt_chain og_le og_le (pe_str) (pv 2) (pe_str)))) (fun _ _ _ _ _ => (pv 2)) | exact ps_set (i := 1) sc_law_is_name.nd rfl (by first | exact Or.inl rfl | exact Or.inr rfl) (pe_lc (own := [(("_law_sign" : Str), 2)]) (g := (gName 2)) (tt := (tTest (tChain gLe gLe (tC (.str "a")) (tVar 2) (tC (.str "z"))))) (te := (tVar 2)) (by rfl) sc_law_is_name.nd (pi_str (pv 0)) (blkOk_by (own := [(("_law_sign" : Str), 2)]) (N := N_law_is_name) (sc := defScope s_law_is_name) (by decide +kernel)) (fun _ _ _ _ _ => (pg_name (i := 2) sc_law_is_name.nd rfl (by first | exact Or.inl rfl | exact Or.inr rfl))) (fun _ _ _ _ _ => (pts_one (pt_chain og_le og_le (pe_str) (pv 2) (pe_str)))) (fun _ _ _ _ _ => (pv 2))))
      (pss_one (ps_ret (pe_andT (pe_cmpR (og_eq hr.units) (pe_callB cg_len (by rfl) (g.fr 6) b_len (pa_cons (pv 1) pa_nil)) (pe_callB cg_len (by rfl) (g.fr 6) b_len (pa_cons (pv 0) pa_nil)) (nomark _)) (pe_one (pe_chain og_lt og_lt (pe_int) (pe_callB cg_len (by rfl) (g.fr 6) b_len (pa_cons (pv 1) pa_nil)) (pe_int))))))))
theorem ok_law_is_share (g : Gm K mg) : FnG P w K mg base 2 "_law_is_share" ["_law_thing_here"] (sp_law_is_share K) := by
  have F_law_whole := ok_law_whole (P := P) (w := w) (base := base) g
  obtain ⟨fd, F⟩ := g.says.def_ 15 (d := d_law_is_share) rfl
  refine ⟨⟨fd, F.ok sc_law_is_share (fun vs H Q E h => len_law_is_share vs H Q E h) (fun cdv A outer s H vs Q E hr h => ⟨t_law_is_share K E, ?_, pure_law_is_share vs H Q E h⟩), F.bindsN fun _ _ _ _ _ _ us hl => match us, hl with | [_], _ => rfl⟩, g.gl 27, F.kp⟩
  exact (pss_cons (ps_if (PW.pt (pw_or (pt_not (pt_tru (pe_callB cg_isi (by rfl) (g.fr 1) b_isinstance (pa_cons (pv 0) (pa_cons (pe_ty b_tuple (g.fr 8)) pa_nil))))) (pw_or (pt_cmpR (og_ne hr.units) (pe_callB cg_len (by rfl) (g.fr 6) b_len (pa_cons (pv 0) pa_nil)) (pe_int) (nomark _)) (pw_or (pt_not (pt_tru (pe_g0 F_law_whole (hr.mono (by decide)) (pa_cons (pe_ix ix_seq (pv 0) (pe_int) (fun _ _ => rfl)) pa_nil)))) (pw_or1 (pt_not (pt_tru (pe_g0 F_law_whole (hr.mono (by decide)) (pa_cons (pe_ix ix_seq (pv 0) (pe_int) (fun _ _ => rfl)) pa_nil))))))))) (pss_one (ps_ret (pe_bl))) pss_nil)
      (pss_cons (ps_if (PW.pt (pw_or (pt_cmpR og_lt (pe_ix ix_seq (pv 0) (pe_int) (fun _ _ => rfl)) (pe_int) (nomark _)) (pw_or1 (pt_cmpR og_lt (pe_ix ix_seq (pv 0) (pe_int) (fun _ _ => rfl)) (pe_int) (nomark _))))) (pss_one (ps_ret (pe_bl))) pss_nil)
      (pss_cons (ps_asg (pv 0) (pg_tup rfl (pgs_cons (pg_name (i := 1) sc_law_is_share.nd rfl (by first | exact Or.inl rfl | exact Or.inr rfl)) (pgs_cons (pg_name (i := 2) sc_law_is_share.nd rfl (by first | exact Or.inl rfl | exact Or.inr rfl)) pgs_nil))))
      (pss_cons (ps_while (passes_of rfl) (pt_cmpR og_gt (pv 2) (pe_int) (nomark _)) (pss_cons (ps_set (i := 3) sc_law_is_share.nd rfl (by first | exact Or.inl rfl | exact Or.inr rfl) (pe_op og_mod (pv 1) (pv 2)))
      (pss_cons (ps_set (i := 1) sc_law_is_share.nd rfl (by first | exact Or.inl rfl | exact Or.inr rfl) (pv 2))
      (pss_one (ps_set (i := 2) sc_law_is_share.nd rfl (by first | exact Or.inl rfl | exact Or.inr rfl) (pv 3))))))
      (pss_one (ps_ret (pe_cmpR (og_eq hr.units) (pv 1) (pe_int) (nomark _))))))))
theorem ok_law_told (g : Gm K mg) : FnG P w K mg base 1 "_law_told" ["_law_found", "_law_due"] (sp_law_told K) := by
  obtain ⟨fd, F⟩ := g.says.def_ 16 (d := d_law_told) rfl
  refine ⟨⟨fd, F.ok sc_law_told (fun vs H Q E h => len_law_told vs H Q E h) (fun cdv A outer s H vs Q E hr h => ⟨t_law_told K E, ?_, pure_law_told vs H Q E h⟩), F.bindsN fun _ _ _ _ _ _ us hl => match us, hl with | [_, _], _ => rfl⟩, g.gl 28, F.kp⟩
  exact (pss_one (ps_ret (pe_andT (pe_callB cg_isi (by rfl) (g.fr 1) b_isinstance (pa_cons (pv 0) (pa_cons (pe_ty b_bool (g.fr 2)) pa_nil))) (pe_one (pe_cmpR (og_eq hr.units) (pv 0) (pv 1) (nomark _))))))
theorem ok_law (g : Gm K mg) {fd : FuncData} (F : FunD K d_law.name d_law.qual d_law.params d_law.body d_law.scope (d_law.dvs K) (d_law.kws K) (He.fAd K d_law.at_) fd) : FnOk P w K mg base (L2.CX P w) 5 (He.ga K "law") fd ["_law_script"] (sp_law K) := by
  have F_law_box := ok_law_box (P := P) (w := w) (base := base) g
  have F_law_cell := ok_law_cell (P := P) (w := w) (base := base) g
  have F_law_is_name := ok_law_is_name (P := P) (w := w) (base := base) g
  have F_law_is_share := ok_law_is_share (P := P) (w := w) (base := base) g
  have F_law_number := ok_law_number (P := P) (w := w) (base := base) g
  have F_law_thing := ok_law_thing (P := P) (w := w) (base := base) g
  have F_law_told := ok_law_told (P := P) (w := w) (base := base) g
  have F_law_whole := ok_law_whole (P := P) (w := w) (base := base) g
  have F_is_name := ok_is_name (P := P) (w := w) (base := base) g
  have F_is_share := ok_is_share (P := P) (w := w) (base := base) g
  have F_is_whole := ok_is_whole (P := P) (w := w) (base := base) g
  have F_is_within := ok_is_within (P := P) (w := w) (base := base) g
  refine F.ok sc_law (fun vs H Q E h => len_law vs H Q E h) (fun cdv A outer s H vs Q E hr h => ⟨t_law K E, ?_, pure_law vs H Q E h⟩)
  exact (pss_cons (ps_for (passes_of rfl) rfl (pi_range1 rfl (g.fr 9) (pa_cons (pe_callB (cg_max2 rfl) (by rfl) (g.fr 11) b_max (pa_cons (pe_int) (pa_cons (pe_callB (cg_min2 rfl) (by rfl) (g.fr 10) b_min (pa_cons (pe_int) (pa_cons (pe_callB cg_len (by rfl) (g.fr 6) b_len (pa_cons (pv 0) pa_nil)) pa_nil))) pa_nil))) pa_nil)) (pg_name (i := 1) sc_law.nd rfl (by first | exact Or.inl rfl | exact Or.inr rfl)) (pss_cons (ps_set (i := 2) sc_law.nd rfl (by first | exact Or.inl rfl | exact Or.inr rfl) (pe_g0 F_law_box (hr.mono (by decide)) (pa_cons (pe_g0 F_law_cell (hr.mono (by decide)) (pa_cons (pv 0) (pa_cons (pv 1) pa_nil))) pa_nil)))
      (pss_cons (ps_set (i := 3) sc_law.nd rfl (by first | exact Or.inl rfl | exact Or.inr rfl) (pe_g0 F_law_thing (hr.mono (by decide)) (pa_cons (pv 2) pa_nil)))
      (pss_cons (ps_set (i := 4) sc_law.nd rfl (by first | exact Or.inl rfl | exact Or.inr rfl) (pe_g0 F_law_number (hr.mono (by decide)) (pa_cons (pv 2) pa_nil)))
      (pss_cons (ps_set (i := 5) sc_law.nd rfl (by first | exact Or.inl rfl | exact Or.inr rfl) (pe_g0 F_law_number (hr.mono (by decide)) (pa_cons (pv 2) pa_nil)))
      (pss_cons (ps_set (i := 6) sc_law.nd rfl (by first | exact Or.inl rfl | exact Or.inr rfl) (pe_g0 F_law_whole (hr.mono (by decide)) (pa_cons (pv 3) pa_nil)))
      (pss_cons (ps_if (PW.pt (pw_or (pt_not (pt_tru (pe_g0 F_law_told (hr.mono (by decide)) (pa_cons (pe_g0 F_is_name (hr.mono (by decide)) (pa_cons (pv 3) pa_nil)) (pa_cons (pe_g0 F_law_is_name (hr.mono (by decide)) (pa_cons (pv 3) pa_nil)) pa_nil))))) (pw_or1 (pt_not (pt_tru (pe_g0 F_law_told (hr.mono (by decide)) (pa_cons (pe_g0 F_is_whole (hr.mono (by decide)) (pa_cons (pv 3) pa_nil)) (pa_cons (pv 6) pa_nil)))))))) (pss_one (ps_ret (pe_bl))) pss_nil)
      (pss_cons (ps_if (PW.pt (pw_or (pt_not (pt_tru (pe_g0 F_law_told (hr.mono (by decide)) (pa_cons (pe_g0 F_is_share (hr.mono (by decide)) (pa_cons (pv 3) pa_nil)) (pa_cons (pe_g0 F_law_is_share (hr.mono (by decide)) (pa_cons (pv 3) pa_nil)) pa_nil))))) (pw_or1 (pt_not (pt_tru (pe_g0 F_law_told (hr.mono (by decide)) (pa_cons (pe_g0 F_is_share (hr.mono (by decide)) (pa_cons (pv 4) pa_nil)) (pa_cons (pe_bl) pa_nil)))))))) (pss_one (ps_ret (pe_bl))) pss_nil)
      (pss_one (ps_for (passes_of rfl) rfl (pi_list (pe_lst (pa_cons (pe_tup (pa_cons (pv 4) (pa_cons (pv 5) pa_nil))) (pa_cons (pe_tup (pa_cons (pv 5) (pa_cons (pv 4) pa_nil))) (pa_cons (pe_tup (pa_cons (pv 4) (pa_cons (pv 4) pa_nil))) pa_nil))))) (pg_name (i := 7) sc_law.nd rfl (by first | exact Or.inl rfl | exact Or.inr rfl)) (pss_one (ps_if (pt_not (pt_tru (pe_g0 F_law_told (hr.mono (by decide)) (pa_cons (pe_g0 F_is_within (hr.mono (by decide)) (pa_cons (pv 3) (pa_cons (pe_ix ix_seq (pv 7) (pe_int) (fun _ _ => rfl)) (pa_cons (pe_ix ix_seq (pv 7) (pe_int) (fun _ _ => rfl)) pa_nil)))) (pa_cons (pe_andT (pv 6) (pe_one (pe_chain og_le og_le (pe_ix ix_seq (pv 7) (pe_int) (fun _ _ => rfl)) (pv 3) (pe_ix ix_seq (pv 7) (pe_int) (fun _ _ => rfl))))) pa_nil))))) (pss_one (ps_ret (pe_bl))) pss_nil))))))))))))
      (pss_one (ps_ret (pe_andT (pe_cmpR og_is (pe_g0 F_is_name (hr.mono (by decide)) (pa_cons (pe_str) pa_nil)) (pe_bl) (nomark _)) (pe_andT (pe_cmpR og_is (pe_g0 F_is_name (hr.mono (by decide)) (pa_cons (pe_str) pa_nil)) (pe_bl) (nomark _)) (pe_one (pe_cmpR og_is (pe_g0 F_is_share (hr.mono (by decide)) (pa_cons (pe_tup (pa_cons (pe_int) (pa_cons (pe_int) pa_nil))) pa_nil)) (pe_bl) (nomark _))))))))
end
def loose : List Str := (["__name__", "LETTERS", "LONGEST", "is_whole", "is_within", "is_name", "common_of", "is_share", "_law_cell", "_law_box", "_law_take", "_law_text", "_law_near", "_law_number", "_law_two", "_law_thing", "_law_whole", "_law_is_name", "_law_is_share", "_law_told"] : List Str)
abbrev R : PySem.W.OpenRow := PySem.W.OpenLaw.row PySem.Challenge.rw_anyonefall_k01_words_and_shares_told
abbrev hk : PySem.W.Hook := He.hookD 5 fa fn
def ob (s : PySem.W.SharedT) : He.AlD := He.obsDG 5 fa fn (HandSHeadRun.getT s)
theorem ob_eq (s : PySem.W.SharedT) : ob s = hk.obs s.abs := He.obsDG_eq (HandSHeadRun.getT_eq s)
theorem run (w : World) : HandSHeadRun.RunEq R (PySem.W.view R.prog [22]) hk ob 4000 loose w := by
  intro os
  kernel_rfl
theorem facts {P : Program} {w : World} {K : PySem.W.Frag} {h : Heap} {mg : Str → Option Value} {f : Addr} (X : K.In h) (G : h.Ns mainGlobals mg) (hfa : mg ("law" : Str) = some (.ref f)) (c : He.SaysD fa fn K) :
    ∃ fd : FuncData, (∀ (s : Shared) (v : Value), BindsTo s fd ⟨[v], []⟩ [("_law_script", v)]) ∧ ∀ base : Heap, K.In base → base.Ns mainGlobals mg → FnOk P w K mg base L2.CX0 5 f fd ["_law_script"] (nr (sp_law K)) := by
  have g : Gm K mg := ⟨c, h, X, G⟩
  obtain ⟨fd, F⟩ := c.def_ 17 (d := d_law) rfl
  have e := hfa.symm.trans (g.gl 29)
  cases e
  have b := FunD.bindsA (ps := ["_law_script"]) F fun _ _ _ _ _ _ us hl => match us, hl with | [_], _ => rfl
  exact ⟨fd, fun s v => b s [v] rfl, fun base _ _ => GL.FnOk.nr (ok_law g F)⟩
end K01
open PySem PySem.W PySem.Calls PyProof.Rows
set_option maxHeartbeats 0
theorem PySem.Challenge.cw_anyonefall_k01_words_and_shares_told_holds : PySem.Challenge.rw_anyonefall_k01_words_and_shares_told.Holds := by
  w_on; o_law
  refine HandSHeadRun.head_any (r := OpenLaw.row PySem.Challenge.rw_anyonefall_k01_words_and_shares_told) (q := view (OpenLaw.row PySem.Challenge.rw_anyonefall_k01_words_and_shares_told).prog [22]) (H := K01.hk) (ob := K01.ob) (M := 4000) (loose := K01.loose) (d := HandSHeadRun.topDef (OpenLaw.row PySem.Challenge.rw_anyonefall_k01_words_and_shares_told).prog 22) (kwd := []) K01.ob_eq
    (by kernel_rfl) (fun s => by kernel_rfl) K01.run (by kernel_rfl) (by kernel_rfl) (by kernel_rfl) (by rfl) (by first | assumption | decide +kernel) (by decide +kernel) ⟨rfl, rfl, rfl, rfl, rfl, by decide +kernel⟩ ?hw ?hc
  case hw => w_witness2
  case hc =>
    refine L2.walk_ofE (l := PySem.Challenge.rw_anyonefall_k01_words_and_shares_told) (n := 63) (k := 5) (x := "_law_script") (CX := L2.CX0) rfl (by decide) (by kernel_rfl) ⟨rfl, by decide, by decide⟩ ?F (fun _ _ _ _ z => z)
    intro w mg fa h Y G hmg0
    obtain ⟨K, KX, c⟩ := Y
    have hmg : mg ("law" : PySem.Str) = some (.ref fa) := by
      have e : (HandSHeadRun.topDef (OpenLaw.row PySem.Challenge.rw_anyonefall_k01_words_and_shares_told).prog 22).name = ("law" : PySem.Str) := by kernel_rfl
      rw [← e]
      exact hmg0
    obtain ⟨fd, hb, hF⟩ := K01.facts (P := (PySem.Challenge.rw_anyonefall_k01_words_and_shares_told).prog) (w := w) KX G hmg c
    exact ⟨K, fd, GL.nr (K01.sp_law K), KX, hb, fun H a ns hl _ hS => ⟨a, ns, rfl, hS, hl, fun _ => rfl⟩, hF⟩
