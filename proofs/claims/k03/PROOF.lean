import PyProof.Rows.All
import Wide.All
import OpenK.AllK
import Wide.FinOn
import KE.KStateDown
import KE.KExcSuper
import Lean
import HandS.ForMost
import HandS.More
import HandS.Exc
import HandS.ExcInit
import HandS.ExcField
import HandS.ExcIs
import HandS.ExcValue
import KE.KExcIs
import HandS.ExcOwn
import HandS.WordsExc
import HandS.Defaults
import HandS.Wide
import HandS.IsInst
import HandS.Conv
import HandS.Codes
import HandS.ClsMeth
import HandS.Property
import HandS.MakeKw
import HandS.MakeKwOnly
import HandS.OwnEq
import HandS.StrMore
import HandS.Steps
import HandS.Head0
import HandS.Head1
import HandS.Head2
import HandS.HeadEnd
import HandS.HeadHook1
import HandS.HeadHook2
import PySem.Challenge.RW_barbreaks_k03_first_bar
set_option Elab.async false
set_option linter.all false
set_option maxRecDepth 100000
set_option maxHeartbeats 4000000
/-! Rd: every reading has a named head, so that a proof goes by the head. -/
namespace Rd
open PySem PySem.Spec PyProof.Rows L2

/-! ### operators that choose by the values -/
def rAddI : R2 := rI0 fun i j => .int (i + j)
def rAddS : R2 := fun x y H Q => match x, y with
  | .str a, .str b => a.length + b.length ≤ sizeLine ∧ Q (.str (a ++ b)) H
  | _, _ => False
def uAdd : R2 := fun x y H Q => rAddI x y H Q ∨ rAddS x y H Q ∨ rCat x y H Q
def uSub : R2 := rI0 fun i j => .int (i - j)
def CMulU (i j : Int) : Prop := CMul i j ∨ CMulW i j
def uMul : R2 := fun x y H Q => rI CMulU (fun i j => .int (i * j)) x y H Q ∨ rRep x y H Q
def uDiv : R2 := rI CDivW fun i j => .int (i / j)
def uMod : R2 := rI (fun _ j => 0 < j) fun i j => .int (i % j)
def uPow : R2 := rI CPow fun i j => .int (i ^ j.toNat)
def uLt : R2 := rI0 fun i j => .bl (decide (i < j))
def uLe : R2 := rI0 fun i j => .bl (decide (i ≤ j))
def uGt : R2 := rI0 fun i j => .bl (decide (j < i))
def uGe : R2 := rI0 fun i j => .bl (decide (j ≤ i))
def uNeg : V → Hp → VK → Prop := rU fun i => .int (-i)
section
variable {X : Cx}
theorem oAddS : OpR X (binaryOp .Add) rAddS := by
  intro pins s σ H x y u v Q I rx ry h
  cases x <;> cases y <;> first | exact h.elim | skip
  exact op_add_str pins s σ H _ _ u v Q I rx ry ⟨_, _, rfl, rfl, h.1, h.2⟩
theorem oAdd : OpR X (binaryOp .Add) uAdd := op_add.or (oAddS.or op_cat)
theorem oSub : OpR X (binaryOp .Sub) uSub := op_sub
theorem oMul : OpR X (binaryOp .Mult) uMul := OpR.or (opI fun _ _ _ _ _ _ _ hc q => mul_int q (hc.elim CMul.ok CMulW.ok)) op_rep
theorem oDiv : OpR X (binaryOp .FloorDiv) uDiv := op_fdivW
theorem oMod : OpR X (binaryOp .Mod) uMod := op_mod
theorem oPow : OpR X (binaryOp .Pow) uPow := op_pow
theorem oLt : OpR X (compareOp .Lt) uLt := op_lt
theorem oLe : OpR X (compareOp .LtE) uLe := op_le
theorem oGt : OpR X (compareOp .Gt) uGt := op_gt
theorem oGe : OpR X (compareOp .GtE) uGe := op_ge
theorem oNeg : UnR X (unaryOp .USub) uNeg := un_neg
end
theorem oIs {X : Cx} : OpR X (compareOp .Is) rIsN := op_isN1
theorem oIsNot {X : Cx} : OpR X (compareOp .IsNot) rNotN := op_notN1

/-! ### what follows, named: the layer's own reading with the part that is done put in as a constant -/
abbrev tBc (b : Bool) : TT := fun _ H Q => Q b H
abbrev tAc (vs : List V) : TA := fun _ H Q => Q vs H
def kOp1 (r : R2) (tb : TE) (σ : L2.St) (Q : VK) : VK := fun x H => tOp r (tC x) tb σ H Q
def kOp2 (r : R2) (x : V) (Q : VK) : VK := fun y H => r x y H Q
def kUn (r : V → Hp → VK → Prop) (Q : VK) : VK := fun x H => r x H Q
def kTest (Q : Bool → Hp → Prop) : VK := fun x H => tTest (tC x) [] H Q
def kAnd (u : TT) (σ : L2.St) (Q : Bool → Hp → Prop) : Bool → Hp → Prop := fun b H => tAnd (tBc b) u σ H Q
def kOr (u : TT) (σ : L2.St) (Q : Bool → Hp → Prop) : Bool → Hp → Prop := fun b H => tOr (tBc b) u σ H Q
def kNot (Q : Bool → Hp → Prop) : Bool → Hp → Prop := fun b H => Q (!b) H
def kIf (t u : TS) (D : Ends) (σ : L2.St) : Bool → Hp → Prop := fun b H => tIfS (tBc b) t u D σ H
def kIfE (ta tb : TE) (σ : L2.St) (Q : VK) : Bool → Hp → Prop := fun b H => tIf (tBc b) ta tb σ H Q
def kAndV (tb : TE) (σ : L2.St) (Q : VK) : VK := fun x H => tAndV (tC x) tb σ H Q
def kOrV (tb : TE) (σ : L2.St) (Q : VK) : VK := fun x H => tOrV (tC x) tb σ H Q
def kNotV (Q : VK) : VK := fun x H => tNotV (tC x) [] H Q
def kCh1 (r r' : R2) (tb tc : TE) (σ : L2.St) (Q : VK) : VK := fun x H => tChain r r' (tC x) tb tc σ H Q
def kCh2 (r r' : R2) (tc : TE) (σ : L2.St) (x : V) (Q : VK) : VK := fun y H => tChain r r' (tC x) (tC y) tc σ H Q
def kCh3 (r' : R2) (tc : TE) (σ : L2.St) (y : V) (Q : VK) : VK := fun z H => tChain (fun _ _ H Q => Q z H) r' (tC y) (tC y) tc σ H Q
def kAsg (g : TG) (σ : L2.St) (nx : L2.St → Hp → Prop) : VK := fun x H => g x σ H nx
def kDrop (σ : L2.St) (nx : L2.St → Hp → Prop) : VK := fun _ H => nx σ H
def kSub1 (ti : TE) (t : TSet) (v : V) (σ : L2.St) (Q : L2.St → Hp → Prop) : VK := fun o H => gSub (tC o) ti t v σ H Q
def kSub2 (t : TSet) (o v : V) (σ : L2.St) (Q : L2.St → Hp → Prop) : VK := fun i H => gSub (tC o) (tC i) t v σ H Q
def kCons1 (tr : TA) (σ : L2.St) (Q : List V → Hp → Prop) : VK := fun x H => tCons (tC x) tr σ H Q
def kCons2 (x : V) (Q : List V → Hp → Prop) : List V → Hp → Prop := fun xs H => Q (x :: xs) H
def kCB (r : List V → Hp → VK → Prop) (Q : VK) : List V → Hp → Prop := fun vs H => r vs H Q
def kCall (sp : Sp) (dvs : List V) (E : XK) (Q : VK) : List V → Hp → Prop := fun vs H => tCall sp dvs E (tAc vs) [] H Q
def kLst (Q : VK) : List V → Hp → Prop := fun xs H => tLst (tAc xs) [] H Q
def kTup (Q : VK) : List V → Hp → Prop := fun xs H => tTup (tAc xs) [] H Q
def kFld (K : PySem.W.Frag) (f : Str) (Q : VK) : VK := fun x H => tFld K (tC x) f [] H Q
def kSF1 (K : PySem.W.Frag) (ta : TE) (f : Str) (σ : L2.St) (nx : L2.St → Hp → Prop) : VK := fun y H => sFld K ta (tC y) f ⟨nx, fun _ _ => False, fun _ _ => False, fun _ _ => False⟩ σ H
def kSF2 (K : PySem.W.Frag) (f : Str) (y : V) (σ : L2.St) (nx : L2.St → Hp → Prop) : VK := fun x H => sFld K (tC x) (tC y) f ⟨nx, fun _ _ => False, fun _ _ => False, fun _ _ => False⟩ σ H
def kMeth (C : Addr) (m : Str) (sp : Sp) (dvs : List V) (E : XK) (t : TA) (σ : L2.St) (Q : VK) : VK := fun x H => tMeth C m sp dvs E (tC x) t σ H Q
def kMeth2 (sp : Sp) (dvs : List V) (E : XK) (x : V) (Q : VK) : List V → Hp → Prop := fun vs H => sp (x :: (vs ++ dvs)) H Q E
def kMake (C : Addr) (sp : Sp) (dvs : List V) (E : XK) (Q : VK) : List V → Hp → Prop := fun vs H => tMake C sp dvs E (tAc vs) [] H Q
def kTru (K : PySem.W.Frag) (Q : Bool → Hp → Prop) : VK := fun x H => tTru K (tC x) [] H Q
def kBM (K : PySem.W.Frag) (T : String) (r : V → List V → Hp → VK → Prop) (t : TA) (σ : L2.St) (Q : VK) : VK := fun x H => tBM K T r (tC x) t σ H Q
def kBM2 (r : V → List V → Hp → VK → Prop) (x : V) (Q : VK) : List V → Hp → Prop := fun xs H => r x xs H Q
def kPar (i j : Nat) (σ : L2.St) (nx : L2.St → Hp → Prop) : List V → Hp → Prop := fun vs H => tPar i j (tAc vs) ⟨nx, fun _ _ => False, fun _ _ => False, fun _ _ => False⟩ σ H

section
variable {K : PySem.W.Frag} {σ : L2.St} {H : Hp} {ta tb tc te : TE} {t u : TT} {ts us : TS} {x y z v w : V} {r r' : R2} {Q : VK} {QB : Bool → Hp → Prop} {QA : List V → Hp → Prop} {nx bk ct : L2.St → Hp → Prop} {rt : VK} {i j : Int} {n m : Nat} {tl tr : TA} {g : TG} {D : Ends}
  {a p C dx : Addr} {xs vs : List V} {sp : Sp} {dvs : List V} {E : XK} {f : Str} {fs : List (Str × V)} {b : Bool}
theorem w_seq (h : ts ⟨us ⟨nx, rt, bk, ct⟩, rt, bk, ct⟩ σ H) : tSeq ts us ⟨nx, rt, bk, ct⟩ σ H := h
theorem w_next (h : nx σ H) : tNext ⟨nx, rt, bk, ct⟩ σ H := h
theorem w_brk (h : bk σ H) : tBreak ⟨nx, rt, bk, ct⟩ σ H := h
theorem w_cont (h : ct σ H) : tCont ⟨nx, rt, bk, ct⟩ σ H := h
theorem w_ret (h : te σ H rt) : tRet te ⟨nx, rt, bk, ct⟩ σ H := h
theorem w_retN (h : rt .non H) : tRetN ⟨nx, rt, bk, ct⟩ σ H := h
theorem w_drop (h : te σ H (kDrop σ nx)) : tDrop te ⟨nx, rt, bk, ct⟩ σ H := h
theorem w_kdrop (h : nx σ H) : kDrop σ nx v H := h
theorem w_asg (h : te σ H (kAsg g σ nx)) : tAsg te g ⟨nx, rt, bk, ct⟩ σ H := h
theorem w_kname (h : nx (σ.set n (some v)) H) : kAsg (gName n) σ nx v H := h
theorem w_gname (h : nx (σ.set n (some v)) H) : gName n v σ H nx := h
theorem w_ksub {to ti : TE} {s : TSet} (h : to σ H (kSub1 ti s v σ nx)) : kAsg (gSub to ti s) σ nx v H := h
theorem w_ksub1 {ti : TE} {s : TSet} {o : V} (h : ti σ H (kSub2 s o v σ nx)) : kSub1 ti s v σ nx o H := h
theorem w_ksubL {k : Int} {q : Nat} (hp : H p = some (.lst xs)) (hi : ixN xs.length k = some q) (h : nx σ (upd H p (.lst (xs.set q v)))) : kSub2 rSetL (.ref p) v σ nx (.int k) H := ⟨p, xs, k, q, rfl, rfl, hp, hi, h⟩
theorem w_ifS (h : t σ H (kIf ts us D σ)) : tIfS t ts us D σ H := h
theorem w_ifE (h : t σ H (kIfE ta tb σ Q)) : tIf t ta tb σ H Q := h
theorem w_var (hv : σ[n]? = some (some v)) (h : Q v H) : tVar n σ H Q := ⟨v, hv, h⟩
theorem w_c (h : Q v H) : tC v σ H Q := h
theorem w_op (h : ta σ H (kOp1 r tb σ Q)) : tOp r ta tb σ H Q := h
theorem w_op1 (h : tb σ H (kOp2 r x Q)) : kOp1 r tb σ Q x H := h
theorem w_op2 (h : r x y H Q) : kOp2 r x Q y H := h
theorem w_un {s : V → Hp → VK → Prop} (h : ta σ H (kUn s Q)) : tUn s ta σ H Q := h
theorem w_kun {s : V → Hp → VK → Prop} (h : s x H Q) : kUn s Q x H := h
theorem w_test (h : te σ H (kTest QB)) : tTest te σ H QB := h
theorem w_tB (h : te σ H (kTest QB)) : tB te σ H QB := h
theorem w_ktest (h : QB b H) : kTest QB (.bl b) H := ⟨b, rfl, h⟩
theorem w_and (h : t σ H (kAnd u σ QB)) : tAnd t u σ H QB := h
theorem w_or (h : t σ H (kOr u σ QB)) : tOr t u σ H QB := h
theorem w_not (h : t σ H (kNot QB)) : tNot t σ H QB := h
theorem w_knot (h : QB (!b) H) : kNot QB b H := h
theorem w_andV (h : ta σ H (kAndV tb σ Q)) : tAndV ta tb σ H Q := h
theorem w_orV (h : ta σ H (kOrV tb σ Q)) : tOrV ta tb σ H Q := h
theorem w_notV (h : ta σ H (kNotV Q)) : tNotV ta σ H Q := h
theorem w_knotV (h : Q (.bl (!b)) H) : kNotV Q (.bl b) H := ⟨b, rfl, h⟩
theorem w_ch (h : ta σ H (kCh1 r r' tb tc σ Q)) : tChain r r' ta tb tc σ H Q := h
theorem w_ch1 (h : tb σ H (kCh2 r r' tc σ x Q)) : kCh1 r r' tb tc σ Q x H := h
theorem w_ch2 (h : r x y H (kCh3 r' tc σ y Q)) : kCh2 r r' tc σ x Q y H := h
/-! tests: a literal, a bool, a decided statement -/
theorem w_kif_t (h : ts D σ H) : kIf ts us D σ true H := h
theorem w_kif_f (h : us D σ H) : kIf ts us D σ false H := h
theorem w_kif_b (h1 : b = true → ts D σ H) (h2 : b = false → us D σ H) : kIf ts us D σ b H := match b, h1, h2 with
  | true, h1, _ => w_kif_t (h1 rfl)
  | false, _, h2 => w_kif_f (h2 rfl)
theorem w_kif {c : Prop} [Decidable c] (h1 : c → ts D σ H) (h2 : ¬ c → us D σ H) : kIf ts us D σ (decide c) H := w_kif_b (fun e => h1 (of_decide_eq_true e)) fun e => h2 (of_decide_eq_false e)
theorem w_kand_t (h : t σ H QB) : kAnd t σ QB true H := h
theorem w_kand_f (h : QB false H) : kAnd t σ QB false H := h
theorem w_kand_b (h1 : b = true → t σ H QB) (h2 : b = false → QB false H) : kAnd t σ QB b H := match b, h1, h2 with
  | true, h1, _ => w_kand_t (h1 rfl)
  | false, _, h2 => w_kand_f (h2 rfl)
theorem w_kand {c : Prop} [Decidable c] (h1 : c → t σ H QB) (h2 : ¬ c → QB false H) : kAnd t σ QB (decide c) H := w_kand_b (fun e => h1 (of_decide_eq_true e)) fun e => h2 (of_decide_eq_false e)
theorem w_kor_t (h : QB true H) : kOr t σ QB true H := h
theorem w_kor_f (h : t σ H QB) : kOr t σ QB false H := h
theorem w_kor_b (h1 : b = true → QB true H) (h2 : b = false → t σ H QB) : kOr t σ QB b H := match b, h1, h2 with
  | true, h1, _ => w_kor_t (h1 rfl)
  | false, _, h2 => w_kor_f (h2 rfl)
theorem w_kor {c : Prop} [Decidable c] (h1 : c → QB true H) (h2 : ¬ c → t σ H QB) : kOr t σ QB (decide c) H := w_kor_b (fun e => h1 (of_decide_eq_true e)) fun e => h2 (of_decide_eq_false e)
theorem w_kifE_t (h : ta σ H Q) : kIfE ta tb σ Q true H := h
theorem w_kifE_f (h : tb σ H Q) : kIfE ta tb σ Q false H := h
theorem w_kifE_b (h1 : b = true → ta σ H Q) (h2 : b = false → tb σ H Q) : kIfE ta tb σ Q b H := match b, h1, h2 with
  | true, h1, _ => w_kifE_t (h1 rfl)
  | false, _, h2 => w_kifE_f (h2 rfl)
theorem w_kifE {c : Prop} [Decidable c] (h1 : c → ta σ H Q) (h2 : ¬ c → tb σ H Q) : kIfE ta tb σ Q (decide c) H := w_kifE_b (fun e => h1 (of_decide_eq_true e)) fun e => h2 (of_decide_eq_false e)
theorem w_kandV_t (h : tb σ H Q) : kAndV tb σ Q (.bl true) H := ⟨_, rfl, h⟩
theorem w_kandV_f (h : Q (.bl false) H) : kAndV tb σ Q (.bl false) H := ⟨_, rfl, h⟩
theorem w_kandV_b (h1 : b = true → tb σ H Q) (h2 : b = false → Q (.bl false) H) : kAndV tb σ Q (.bl b) H := match b, h1, h2 with
  | true, h1, _ => w_kandV_t (h1 rfl)
  | false, _, h2 => w_kandV_f (h2 rfl)
theorem w_kandV {c : Prop} [Decidable c] (h1 : c → tb σ H Q) (h2 : ¬ c → Q (.bl false) H) : kAndV tb σ Q (.bl (decide c)) H := w_kandV_b (fun e => h1 (of_decide_eq_true e)) fun e => h2 (of_decide_eq_false e)
theorem w_korV_t (h : Q (.bl true) H) : kOrV tb σ Q (.bl true) H := ⟨_, rfl, h⟩
theorem w_korV_f (h : tb σ H Q) : kOrV tb σ Q (.bl false) H := ⟨_, rfl, h⟩
theorem w_korV_b (h1 : b = true → Q (.bl true) H) (h2 : b = false → tb σ H Q) : kOrV tb σ Q (.bl b) H := match b, h1, h2 with
  | true, h1, _ => w_korV_t (h1 rfl)
  | false, _, h2 => w_korV_f (h2 rfl)
theorem w_korV {c : Prop} [Decidable c] (h1 : c → Q (.bl true) H) (h2 : ¬ c → tb σ H Q) : kOrV tb σ Q (.bl (decide c)) H := w_korV_b (fun e => h1 (of_decide_eq_true e)) fun e => h2 (of_decide_eq_false e)
theorem w_ch3_t (h : tc σ H (kOp2 r' y Q)) : kCh3 r' tc σ y Q (.bl true) H := ⟨_, rfl, h⟩
theorem w_ch3_f (h : Q (.bl false) H) : kCh3 r' tc σ y Q (.bl false) H := ⟨_, rfl, h⟩
theorem w_ch3_b (h1 : b = true → tc σ H (kOp2 r' y Q)) (h2 : b = false → Q (.bl false) H) : kCh3 r' tc σ y Q (.bl b) H := match b, h1, h2 with
  | true, h1, _ => w_ch3_t (h1 rfl)
  | false, _, h2 => w_ch3_f (h2 rfl)
theorem w_ch3 {c : Prop} [Decidable c] (h1 : c → tc σ H (kOp2 r' y Q)) (h2 : ¬ c → Q (.bl false) H) : kCh3 r' tc σ y Q (.bl (decide c)) H := w_ch3_b (fun e => h1 (of_decide_eq_true e)) fun e => h2 (of_decide_eq_false e)
theorem w_knot_t (h : QB false H) : kNot QB true H := h
theorem w_knot_f (h : QB true H) : kNot QB false H := h
theorem w_knotV_t (h : Q (.bl false) H) : kNotV Q (.bl true) H := ⟨_, rfl, h⟩
theorem w_knotV_f (h : Q (.bl true) H) : kNotV Q (.bl false) H := ⟨_, rfl, h⟩
theorem w_kor_n {c : Prop} [Decidable c] (h1 : c → t σ H QB) (h2 : ¬ c → QB true H) : kOr t σ QB (!decide c) H := w_kor_b (fun e => h2 fun hc => by rw [decide_eq_true hc] at e; cases e) fun e => h1 (of_decide_eq_true (by simpa using e))
theorem w_kand_n {c : Prop} [Decidable c] (h1 : c → QB false H) (h2 : ¬ c → t σ H QB) : kAnd t σ QB (!decide c) H := w_kand_b (fun e => h2 fun hc => by rw [decide_eq_true hc] at e; cases e) fun e => h1 (of_decide_eq_true (by simpa using e))
theorem w_kif_n (h : kIf us ts D σ b H) : kIf ts us D σ (!b) H := by cases b <;> exact h
/-! ints -/
theorem w_addI (h : Q (.int (i + j)) H) : uAdd (.int i) (.int j) H Q := .inl ⟨i, j, rfl, rfl, h⟩
theorem w_addS {s s' : Str} (hl : s.length + s'.length ≤ sizeLine) (h : Q (.str (s ++ s')) H) : uAdd (.str s) (.str s') H Q := .inr (.inl ⟨hl, h⟩)
theorem w_addL {q : Addr} {ys : List V} (h1 : H p = some (.lst xs)) (h2 : H q = some (.lst ys)) (hl : xs.length + ys.length ≤ sizeLine) (h : ∀ l, H l = none → Q (.ref l) (upd H l (.lst (xs ++ ys)))) : uAdd (.ref p) (.ref q) H Q := .inr (.inr ⟨p, q, xs, ys, rfl, rfl, h1, h2, hl, h⟩)
theorem w_sub (h : Q (.int (i - j)) H) : uSub (.int i) (.int j) H Q := ⟨i, j, rfl, rfl, h⟩
theorem w_mul (hc : CMulU i j) (h : Q (.int (i * j)) H) : uMul (.int i) (.int j) H Q := .inl ⟨i, j, rfl, rfl, hc, h⟩
theorem w_div (hc : CDivW i j) (h : Q (.int (i / j)) H) : uDiv (.int i) (.int j) H Q := ⟨i, j, rfl, rfl, hc, h⟩
theorem w_mod (hc : 0 < j) (h : Q (.int (i % j)) H) : uMod (.int i) (.int j) H Q := ⟨i, j, rfl, rfl, hc, h⟩
theorem w_pow {k : Int} (hc : CPow i j) (hk : i ^ j.toNat = k) (h : Q (.int k) H) : uPow (.int i) (.int j) H Q := ⟨i, j, rfl, rfl, hc, by subst hk; exact h⟩
theorem w_lt (h : Q (.bl (decide (i < j))) H) : uLt (.int i) (.int j) H Q := ⟨i, j, rfl, rfl, h⟩
theorem w_le (h : Q (.bl (decide (i ≤ j))) H) : uLe (.int i) (.int j) H Q := ⟨i, j, rfl, rfl, h⟩
theorem w_gt (h : Q (.bl (decide (j < i))) H) : uGt (.int i) (.int j) H Q := ⟨i, j, rfl, rfl, h⟩
theorem w_ge (h : Q (.bl (decide (j ≤ i))) H) : uGe (.int i) (.int j) H Q := ⟨i, j, rfl, rfl, h⟩
theorem w_neg (h : Q (.int (-i)) H) : uNeg (.int i) H Q := ⟨i, rfl, h⟩
theorem w_eqI (h : Q (.bl (decide (i = j))) H) : rEq (.int i) (.int j) H Q := ⟨rfl, by
  have e : decide (V.int i = V.int j) = decide (i = j) := by rw [dec_int, Bool.beq_eq_decide_eq]
  rw [e]; exact h⟩
theorem w_neI (h : Q (.bl (!decide (i = j))) H) : rNe (.int i) (.int j) H Q := ⟨rfl, by
  have e : decide (V.int i = V.int j) = decide (i = j) := by rw [dec_int, Bool.beq_eq_decide_eq]
  rw [e]; exact h⟩
theorem w_eqS {s s' : Str} (h : Q (.bl (decide (s = s'))) H) : rEq (.str s) (.str s') H Q := ⟨rfl, by
  have e : decide (V.str s = V.str s') = decide (s = s') := by rw [dec_str, Bool.beq_eq_decide_eq]
  rw [e]; exact h⟩
theorem w_neS {s s' : Str} (h : Q (.bl (!decide (s = s'))) H) : rNe (.str s) (.str s') H Q := ⟨rfl, by
  have e : decide (V.str s = V.str s') = decide (s = s') := by rw [dec_str, Bool.beq_eq_decide_eq]
  rw [e]; exact h⟩
theorem w_eqB {b' : Bool} (h : Q (.bl (decide (b = b'))) H) : rEq (.bl b) (.bl b') H Q := ⟨rfl, by
  have e : decide (V.bl b = V.bl b') = decide (b = b') := by rw [dec_bl, Bool.beq_eq_decide_eq]
  rw [e]; exact h⟩
theorem w_isN_n (h : Q (.bl true) H) : rIsN .non .non H Q := ⟨rfl, h⟩
theorem w_isN_i (h : Q (.bl false) H) : rIsN (.int i) .non H Q := ⟨rfl, h⟩
theorem w_isN_r (h : Q (.bl false) H) : rIsN (.ref a) .non H Q := ⟨rfl, h⟩
theorem w_isN_b (h : Q (.bl false) H) : rIsN (.bl b) .non H Q := ⟨rfl, h⟩
theorem w_isN_s {s : Str} (h : Q (.bl false) H) : rIsN (.str s) .non H Q := ⟨rfl, h⟩
theorem w_notN_n (h : Q (.bl false) H) : rNotN .non .non H Q := ⟨rfl, h⟩
theorem w_notN_i (h : Q (.bl true) H) : rNotN (.int i) .non H Q := ⟨rfl, h⟩
theorem w_notN_r (h : Q (.bl true) H) : rNotN (.ref a) .non H Q := ⟨rfl, h⟩
/-! arguments, displays, calls -/
theorem w_nil (h : QA [] H) : tNil σ H QA := h
theorem w_cons (h : te σ H (kCons1 tr σ QA)) : tCons te tr σ H QA := h
theorem w_kcons1 (h : tr σ H (kCons2 x QA)) : kCons1 tr σ QA x H := h
theorem w_kcons2 (h : QA (x :: xs) H) : kCons2 x QA xs H := h
theorem w_cb {s : List V → Hp → VK → Prop} (h : tl σ H (kCB s Q)) : tCB s tl σ H Q := h
theorem w_kcb {s : List V → Hp → VK → Prop} (h : s vs H Q) : kCB s Q vs H := h
theorem w_call (h : tl σ H (kCall sp dvs E Q)) : tCall sp dvs E tl σ H Q := h
theorem w_kcall (h : sp vs H Q E) : kCall sp [] E Q vs H := by
  show sp (vs ++ []) H Q E
  rw [List.append_nil]; exact h
theorem w_kcallD (h : sp (vs ++ dvs) H Q E) : kCall sp dvs E Q vs H := h
theorem w_lst (h : tl σ H (kLst Q)) : tLst tl σ H Q := h
theorem w_klst (hl : xs.length ≤ sizeLine) (h : ∀ p, H p = none → Q (.ref p) (upd H p (.lst xs))) : kLst Q xs H := ⟨hl, h⟩
theorem w_tup (h : tl σ H (kTup Q)) : tTup tl σ H Q := h
theorem w_ktup (hl : xs.length ≤ sizeLine) (h : ∀ p, H p = none → Q (.ref p) (upd H p (.tup xs))) : kTup Q xs H := ⟨hl, h⟩
theorem w_fld (h : ta σ H (kFld K f Q)) : tFld K ta f σ H Q := h
theorem w_kfld (ho : H a = some (.ins C dx fs)) (hc : Cls K C) (hn : NoAttr K C f) (hl : fs.lookup f = some v) (h : Q v H) : kFld K f Q (.ref a) H := ⟨a, C, dx, fs, v, rfl, ho, hc, hn, hl, h⟩
theorem w_sfld {tv : TE} (h : tv σ H (kSF1 K ta f σ nx)) : sFld K ta tv f ⟨nx, rt, bk, ct⟩ σ H := h
theorem w_ksf1 (h : ta σ H (kSF2 K f y σ nx)) : kSF1 K ta f σ nx y H := h
theorem w_ksf2 (ho : H a = some (.ins C dx fs)) (hc : Cls K C) (hn : NoAttr K C f) (hl : fs.length < 1000) (h : nx σ (upd H a (.ins C dx (putF f y fs)))) : kSF2 K f y σ nx (.ref a) H := ⟨a, C, dx, fs, rfl, ho, hc, hn, hl, h⟩
theorem w_meth {q : Str} (h : ta σ H (kMeth C q sp dvs E tl σ Q)) : tMeth C q sp dvs E ta tl σ H Q := h
theorem w_kmeth {q : Str} (ho : H a = some (.ins C dx fs)) (hn : fs.lookup q = none) (h : tl σ H (kMeth2 sp dvs E (.ref a) Q)) : kMeth C q sp dvs E tl σ Q (.ref a) H := ⟨a, dx, fs, rfl, ho, hn, h⟩
theorem w_kmeth2 (h : sp (x :: vs) H Q E) : kMeth2 sp [] E x Q vs H := by
  show sp (x :: (vs ++ [])) H Q E
  rw [List.append_nil]; exact h
theorem w_kmeth2D (h : sp (x :: (vs ++ dvs)) H Q E) : kMeth2 sp dvs E x Q vs H := h
theorem w_make (h : tl σ H (kMake C sp dvs E Q)) : tMake C sp dvs E tl σ H Q := h
theorem w_kmake (h : ∀ x dx, H x = none → H dx = none → dx ≠ x → sp (.ref x :: (vs ++ dvs)) (upd (upd H dx (.own x)) x (.ins C dx [])) (fun v H2 => v = .non ∧ Q (.ref x) H2) E) : kMake C sp dvs E Q vs H := h
theorem w_tru (h : ta σ H (kTru K QB)) : tTru K ta σ H QB := h
theorem w_ktru_b (h : QB b H) : kTru K QB (.bl b) H := ⟨b, rfl, h⟩
theorem w_bm {T : String} {s : V → List V → Hp → VK → Prop} (h : ta σ H (kBM K T s tl σ Q)) : tBM K T s ta tl σ H Q := h
theorem w_kbm {T : String} {s : V → List V → Hp → VK → Prop} (hty : tyV K T x H) (h : tl σ H (kBM2 s x Q)) : kBM K T s tl σ Q x H := ⟨hty, h⟩
theorem w_kbm2 {s : V → List V → Hp → VK → Prop} (h : s x vs H Q) : kBM2 s x Q vs H := h
theorem w_par {q q' : Nat} (h : tl σ H (kPar q q' σ nx)) : tPar q q' tl ⟨nx, rt, bk, ct⟩ σ H := h
theorem w_kpar {q q' : Nat} (h : nx ((σ.set q (some x)).set q' (some y)) H) : kPar q q' σ nx [x, y] H := ⟨x, y, rfl, h⟩
end
end Rd
/-! Own: a def whose frame holds the cell __class__, by the layer's own start at the scope without that name. -/
namespace Rd
open PySem PySem.Spec PyProof.Rows PySem.W L2
theorem bindL_all {kd : Str → Option NameKind} : ∀ (l : List (Str × Value)) (m : Str → Option Value), (∀ y ∈ l, kd y.1 = some .local) → ∀ x, bindL kd l m x = (l.reverse.lookup x).or (m x)
  | [], _, _, _ => by simp [bindL]
  | (k, v) :: r, m, hl, x => by
    have hk := hl (k, v) List.mem_cons_self
    show bindL kd r (if kd k = some .local then fun y => if y = k then some v else m y else m) x = _
    rw [if_pos hk, bindL_all r _ (fun y hy => hl y (List.mem_cons_of_mem _ hy)) x, List.reverse_cons, List.lookup_append, Option.or_assoc]
    congr 1
    by_cases e : x = k
    · subst e; simp
    · have hb : (x == k) = false := beq_eq_false_iff_ne.mpr e
      simp [List.lookup, hb, e]
/-- sc0 is sc without the one free name -/
structure ClsScope (N P : List Str) (sc sc0 : Scope) : Prop where
  base : FnScope N P sc0
  kind : sc.kind = .function
  co : sc.isCoroutine = false
  gen : sc.isGenerator = false
  nocell : ∀ y ∈ sc.names, y.2 ≠ .cell
  nocell0 : ∀ y ∈ sc0.names, y.2 ≠ .cell
  cells0 : ∀ n : Nat, cellsFrom n sc0.names [] = []
  same : ∀ x : Str, x ≠ "__class__" → sc.names.lookup x = sc0.names.lookup x
  free : sc.names.lookup ("__class__" : Str) = some NameKind.free
  out : ("__class__" : Str) ∉ N
  par : ∀ x ∈ P, x ∈ N
/-- the context of such a body -/
def cxC (X0 : Cx) (A : Around) (env : Env) (xe : Value → Shared → Prop) : Cx := { X0 with A := A.deeper env, env := env, stack := env :: X0.outer, fn := fun x => !decide (x = "__class__"), xe := xe }
abbrev cenv (qual : Str) (sc : Scope) (L f : Addr) (cd : Value) (cc : Addr) : Env := ksEnv qual sc L f cd cc
abbrev leaves (P : Program) (w : World) (CX : CXT) (A : Around) (env : Env) (outer : List Env) (H : Hp) (s : Shared) (E : XK) : Value → Shared → Prop :=
  fun e s' => wpAny (model P w) (A.deeper env) (leaving env e) (fun _ s2 => CX outer H s E e s2) (fun e2 s2 => CX outer H s E e2 s2) s'
section
variable {CX : CXT} {P : Program} {w : World} {K : PySem.W.Frag} {mg : Str → Option Value} {base : Heap} {N ps : List Str} {qual : Str} {sc sc0 : Scope} {f cc D : Addr} {cd : Value} {A : Around} {outer : List Env} {s : Shared} {H : Hp} {E : XK} {us : List Value} {vs : List V}
  {cl : Value} {cld : Option Addr} {csl : Array (Option Value)}
abbrev cxD (CX : CXT) (P : Program) (w : World) (K : PySem.W.Frag) (mg : Str → Option Value) (base : Heap) (N : List Str) (qual : Str) (sc sc0 : Scope) (f : Addr) (cd : Value) (cc : Addr) (A : Around) (outer : List Env) (s : Shared) (H : Hp) (E : XK) : Cx :=
  cxC (cxOf CX P w K mg base N qual sc0 f cd A outer s H E) A (cenv qual sc s.heap.objs.size f cd cc) (leaves P w CX A (cenv qual sc s.heap.objs.size f cd cc) outer H s E)
theorem one_cell {x : Str} {c : Addr} (h : ([(("__class__" : Str), cc)] : List (Str × Addr)).lookup x = some c) : x = "__class__" ∧ c = cc := by
  have m := PySem.mem_of_lookup h
  simp only [List.mem_singleton, Prod.mk.injEq] at m
  exact m
/-- from the start at sc0 to the frame with the cell -/
theorem start_cell {σ : L2.St} {s1 : Shared} (S : ClsScope N ps sc sc0) (hA : A.frames = some outer) (lc : K.lookup cc = some ⟨cl, cld, .cell (some (.ref D)), csl⟩) (I : Inv (cxOf CX P w K mg base N qual sc0 f cd A outer s H E) [] σ H s1) :
    Inv (cxD CX P w K mg base N qual sc sc0 f cd cc A outer s H E) [] σ H s1 := by
  have kc := I.kIn _ _ lc
  have bc := I.bs cc _ (I.mod.kin _ _ lc)
  have o := I.ok
  have nil : ∀ b : Addr, b ∉ ([] : List Addr) := fun b hb => by cases hb
  have ok : (cxD CX P w K mg base N qual sc sc0 f cd cc A outer s H E).Ok := {
    mod := o.mod, kind := S.kind, glob := rfl, blt := rfl, above := o.above,
    inj := fun x y c h1 h2 => (one_cell h1).1.trans (one_cell h2).1.symm,
    has := fun x hx => by
      by_cases e : x = "__class__"
      · subst e; exact ⟨cc, rfl⟩
      · rcases hx with hx | hx
        · exact absurd rfl (S.nocell _ (PySem.mem_of_lookup (show sc.names.lookup x = some .cell from hx)))
        · have q : sc0.names.lookup x = some .free := (S.same x e).symm.trans hx
          exact absurd rfl (S.base.nofree _ (PySem.mem_of_lookup q)),
    cab := fun x c hx h => by
      have e := (one_cell h).1
      have hx' : (!decide (x = "__class__")) = true := hx
      rw [decide_eq_true e] at hx'; exact Bool.noConfusion hx',
    hd := o.hd, frames := Around.frames_deeper hA, stk := .inr ⟨rfl, rfl⟩, exf := fun b hb => absurd hb (nil b), bs := o.bs, bsz := o.bsz, noex := o.noex, exfs := o.exfs, funs := o.funs, frf := o.frf }
  obtain ⟨m, hn, hm⟩ := I.loc
  refine { ok := ok, os := I.os, bare := I.bare, base := I.base, loc := ⟨m, hn, fun i x v e1 e2 e3 => ?_⟩, cell := fun x c h => ?_, free := I.free, freeC := fun x c h => ?_, pin := I.pin, hok := I.hok, len := I.len }
  · have nx : x ≠ "__class__" := fun e => S.out (e ▸ List.mem_of_getElem? e1)
    have v0 : Vis sc0 x := by
      have e3' : Vis sc x := e3
      unfold Vis at e3' ⊢
      rw [← S.same x nx]; exact e3'
    obtain ⟨u, ru, lk⟩ := hm i x v e1 e2 v0
    refine ⟨u, ru, ?_⟩
    rcases lk with ⟨a, b⟩ | ⟨_, c, a, _⟩
    · exact .inl ⟨(S.same x nx).trans a, b⟩
    · have a' : (cellsFrom (s.heap.objs.size + 1) sc0.names []).lookup x = some c := a
      rw [S.cells0] at a'; cases a'
  · rw [(one_cell h).2]; exact ⟨_, _, kc, rfl⟩
  · rw [(one_cell h).2]; exact bc.2
def flowV : Flow → Value
  | .ret v => v
  | _ => .none
/-- what a body's end is to its caller -/
theorem end_of {X : Cx} {Q : VK} {fl : Flow} {s2 : Shared} (hex : X.ex = []) (h : SP X [] { nx := fun _ H' => Q .non H', rt := Q } fl s2) : CE X.outer X.prog X.w X.H_0 X.s_0 Q (flowV fl) s2 := by
  have out : ∀ {σ : L2.St} {H : Hp} {v : V} {u : Value}, Inv X [] σ H s2 → RelV v u → Q v H → CE X.outer X.prog X.w X.H_0 X.s_0 Q u s2 := fun J r q => by
    have un := J.base
    rw [hex] at un
    exact ⟨_, _, J.os, J.bare, un, J.hok, r, q⟩
  cases fl <;> simp only [SP] at h
  all_goals first
    | (obtain ⟨v, σ, H, J, r, q⟩ := h; exact out J r q)
    | (obtain ⟨σ, H, J, q⟩ := h; first | exact q.elim | exact out (v := .non) J rfl q)
theorem fn_cell {k : Nat} {name : Str} {params : Arguments} {body : List Stmt} {dV kV doc pm ct oc : Value} {an od : Option Addr} {osl : Array (Option Value)} {sp : Sp} (lk : K.lookup f = some ⟨oc, od, .func (ksFn name qual params body sc dV kV doc pm an cd ct cc), osl⟩)
    (hcd : PySem.W.codeIn K cd qual = true) (lc : K.lookup cc = some ⟨cl, cld, .cell (some (.ref D)), csl⟩) (S : ClsScope N ps sc sc0) (len : ∀ vs H Q E, sp vs H Q E → vs.length = ps.length) (hloc : ∀ x ∈ ps, sc.names.lookup x = some .local ∧ sc0.names.lookup x = some .local)
    (hbody : ∀ (A : Around) (outer : List Env) (s : Shared) (H : Hp) (vs : List V) (Q : VK) (E : XK) (s1 : Shared), Room k (A.deeper (cenv qual sc s.heap.objs.size f cd cc)) → sp vs H Q E → Inv (cxD CX P w K mg base N qual sc sc0 f cd cc A outer s H E) [] (start N vs) H s1 →
      _root_.PySem.wpAt (model P w) (A.deeper (cenv qual sc s.heap.objs.size f cd cc)) (.func body (cenv qual sc s.heap.objs.size f cd cc)) (execs body (cenv qual sc s.heap.objs.size f cd cc))
        (SP (cxD CX P w K mg base N qual sc sc0 f cd cc A outer s H E) [] { nx := fun _ H' => Q .non H', rt := Q }) (cxD CX P w K mg base N qual sc sc0 f cd cc A outer s H E).xe s1) :
    FnOk P w K mg base CX (k + 1) f (ksFn name qual params body sc dV kV doc pm an cd ct cc) ps sp where
  len := len
  run := fun A outer s H args us vs Q E hr e0 hb r hsp => by
    have up : ∀ b o, base.get? b = some o → s.heap.get? b = some o := fun b o e => (e0.bs b o e).1
    have kin := e0.mod.kin.keeps up
    refine ks_codeAny_call_defAt (fd := ksFn name qual params body sc dV kV doc pm an cd ct cc) (binds := ps.zip us) hr.depth (kin _ _ lk) rfl (e0.mod.nolimit.keeps up) (PySem.W.codeRec_of kin hcd) rfl hb S.nocell (fun y hy => (hloc y.1 (List.of_mem_zip hy).1).1) (fun h1 hns hk => ?_) S.co S.gen S.kind
    have key : (fun x => (ps.zip us).reverse.lookup x) = bindL (envOfC qual sc0 s.heap.objs.size f cd).kindOf (ps.zip us) (fun _ => none) := by
      funext x
      rw [bindL_all _ _ (fun y hy => (hloc y.1 (List.of_mem_zip hy).1).2) x, Option.or_none]
    rw [key] at hns
    have x0 : InCallC s s.heap.objs.size (bindL (envOfC qual sc0 s.heap.objs.size f cd).kindOf (ps.zip us) fun _ => none) (cellsFrom (s.heap.objs.size + 1) sc0.names []) (bindC (envOfC qual sc0 s.heap.objs.size f cd).kindOf (ps.zip us) fun _ => none) { s with heap := h1, toks := s.toks + (ps.zip us).length } := by
      rw [S.cells0]
      exact ⟨⟨⟨h1, _, rfl⟩, hns, hk, Nat.le_refl _⟩, fun n c e => (by cases e), List.Pairwise.nil, fun n c e => (by cases e)⟩
    have I0 := inv_start (CX := CX) (cd := cd) (E := E) S.base hr.hd e0 (len _ _ _ _ hsp) r x0
    refine ks_wpAt_mono (hbody A outer s H vs Q E _ (hr.deeper _) hsp (start_cell S e0.frames lc I0)) (fun fl s2 q => ?_) fun _ _ q => q
    have z := end_of (X := cxD CX P w K mg base N qual sc sc0 f cd cc A outer s H E) rfl q
    cases fl <;> exact z
end
end Rd
/-! OwnE: super().__init__(text) at the head of an own exception's __init__. -/
namespace Rd
open PySem PySem.Spec PyProof.Rows PySem.W PySem.Calls L2
section
variable {X : Cx} {pins : List (Addr × Obj)} {σ : L2.St} {H : Hp} {s : Shared} {a C : Addr}
/-- one tracked object is laid anew by a rule that tells of the ledger: all else stands -/
theorem Inv.relaid {m : Str → Option Value} {h' : Heap} {o : HO} (I : L2.Inv X pins σ H s) (mu : Mut (H a)) (fr0 : Fr X.base X.env.locals s.heap m) (fr : Fr X.base X.env.locals h' m) (nw : News X.base X.env.locals h' (rest X.base s.heap X.env.locals a))
    (new : ∃ u, h'.get? a = some u) (ok : ObjOk X.prog X.w (upd H a o) h' a o) : L2.Inv X pins σ (upd H a o) { s with heap := h' } := by
  have kept : ∀ b u, b ≠ X.env.locals → b ≠ a → s.heap.get? b = some u → h'.get? b = some u := kept_of_news I.bk fr nw
  have free : ∀ b, H b = none → b ≠ a := fun b n e => by rw [e] at n; rw [n] at mu; exact mu
  have loc : ∀ b u, H b = some u → b ≠ X.env.locals := fun b u q e => by rw [e, I.free] at q; cases q
  have rigid : ∀ b u, H b = some u → ¬ Mut (some u) → b ≠ a := fun b u q n e => by rw [e] at q; rw [q] at mu; exact n mu
  refine I.step (g' := s.gens) (t' := s.toks) (d' := s.drawn) (ch := []) (fun b hb => (by cases hb)) (fun b u n _ _ q z => kept b u n (free b z) q) (fun b u n _ _ q z => ⟨u.slots, kept b u n (free b z) q⟩) (fun b u _ q z => ?_) (fun b u _ q => ?_) (fun b xs q => ?_) (fun b u v q => ?_) (fun b vs q => ?_) (fun m2 hm2 => ?_) (fun b u q => ?_) I.bare
  · rw [upd_ne (free b z)]; exact z
  · by_cases e : b = X.env.locals
    · obtain ⟨ob, _, _, hb, _⟩ := fr.ns
      exact ⟨ob, by rw [e]; exact hb⟩
    · by_cases e2 : b = a
      · rw [e2]; exact new
      · exact ⟨u, kept b u e e2 q⟩
  · rw [upd_ne (rigid b _ q fun z => z)]; exact q
  · rw [upd_ne (rigid b _ q fun z => z)]; exact q
  · exact ⟨#[], by rw [upd_ne (rigid b _ q fun z => z), q]; simp⟩
  · rw [hm2.eq_nsMap, ← fr0.ns.eq_nsMap]; exact fr.ns
  · by_cases e : b = a
    · subst e; rw [upd_same] at q; cases q; exact ok
    · rw [upd_ne e] at q
      refine (I.hok b u q).stay (fun c v hc r => ?_) (fun c r => ?_) fun c xs r => ?_
      · rcases hc with rfl | hc
        · exact kept c v (loc c u q) e r
        · exact kept c v (loc c _ hc) (rigid c _ hc fun z => z) r
      · rw [upd_ne (rigid c _ r fun z => z)]; exact r
      · rw [upd_ne (rigid c _ r fun z => z)]; exact r
/-- what the written part says of such a class -/
structure SupC (K : PySem.W.Frag) (C : Addr) : Prop where
  op : PySem.W.nsIn K cStatics "thirdparty.any" = some none
  ini : ks_superIn K C C "__init__" = some (some (.builtin "ValueError.__init__"))
  ve : PySem.W.subIn K (.ref C) (.type "ValueError") = some true
  slf : PySem.W.mroIn K C (.ref C) = some true
  made : excInitIn K C [.type "ValueError", .type "Exception", .type "BaseException", .type "object"] "ValueError.__new__" = true
theorem upd_self {o : HO} (e : H a = some o) : upd H a o = H := by
  funext b
  by_cases z : b = a
  · rw [z, upd_same, e]
  · exact upd_ne z
/-- the bound __init__ is called: nothing of it is told -/
theorem call_wrapped {A : Around} {E : Value → Shared → Prop} {u : Addr} {us : List Value} {Q : Value → Shared → Prop} (T : SupC X.K C) (I : L2.Inv X pins σ H s) (e : H a = some (exo a C none)) (hu : s.heap.get? u = some (kxs_mw "ValueError.__init__" a)) (nb : X.base.get? u = none) (nl : u ≠ X.env.locals)
    (hl : us.length ≤ sizeLine) (h : ∀ s', L2.Inv X pins σ H s' → Q .none s') : wpAny (model X.prog X.w) A (call (.ref u) us) Q E s := by
  obtain ⟨t, ho⟩ := exo_at I.hok e
  obtain ⟨m, fr⟩ := I.fr
  have al : a ≠ X.env.locals := fun z => by rw [z, I.free] at e; cases e
  have ab : X.base.get? a = none := by
    cases q : X.base.get? a with
    | none => rfl
    | some o => have z := (I.bs a o q).2; rw [e] at z; cases z
  have ua : u ≠ a := fun z => by rw [z, ho] at hu; cases hu
  refine kxs_call (L := X.env.locals) (h₀ := X.base) (t := t) (dv := none) (c2 := .none) fr I.mod.kin (news_at al ab ho) F.excBase_ValueError T.made (List.mem_cons_of_mem _ (mem_rest nl nb hu ua)) (.head rest_ne) hl fun t' h' fr' nw' _ => ?_
  have new : h'.get? a = some _ := (nw' (a, excObj C t' none .none) (by simp)).1
  have J := Inv.relaid (o := exo a C none) I (by rw [e]; exact trivial) fr fr' (fun p hp => nw' p (List.mem_cons_of_mem _ (List.mem_cons_of_mem _ hp))) ⟨_, new⟩ (exo_ok new)
  rw [upd_self e] at J
  exact h _ J
end
section
variable {CX : CXT} {P : Program} {w : World} {K : PySem.W.Frag} {mg : Str → Option Value} {base : Heap} {N ps : List Str} {qual : Str} {sc sc0 : Scope} {f cc C cda a : Addr} {A : Around} {outer : List Env} {s0 s : Shared} {H0 H : Hp} {E : XK} {σ : L2.St}
  {cl oc ccl : Value} {cld od cdd : Option Addr} {csl osl ccs : Array (Option Value)} {fd : FuncData} {ar : Arg} {body : List Stmt} {vs : Array Value} {file : Str} {tf : Tok}
/-- the file of the text, the def and its first name, as super() asks them -/
structure SupAt (P : Program) (K : PySem.W.Frag) (mg : Str → Option Value) (sc : Scope) (f cda : Addr) (x : Str) : Prop where
  fn : ∃ oc od fd osl ar, K.lookup f = some ⟨oc, od, .func fd, osl⟩ ∧ (fd.params.posonlyargs ++ fd.params.args).head? = some ar ∧ ar.arg = x
  code : ∃ cl cd vs sl file tf, K.lookup cda = some ⟨cl, cd, .fields vs, sl⟩ ∧ vs[2]? = some (.str file tf) ∧ ((P.main.file : Str) == file) = true
  top : (P.main.scope.names.lookup ("super" : Str)).isSome = false
  glo : mg "super" = none
  here : sc.names.lookup ("super" : Str) = some .globalImplicit
/-- super() at the head of a body: a new object of the kind super, all else stands -/
theorem sup_here {x : Str} {whole : Sem Value} {attr : Str} {p0 p1 : Pos} {D : Addr} {cdD : ClassData} {ox : Obj} {Q : Value → Shared → Prop} (I : L2.Inv (cxD CX P w K mg base N qual sc sc0 f (.ref cda) cc A outer s0 H0 E) [] σ H s) (S : ClsScope N ps sc sc0) (U : SupAt P K mg sc f cda x)
    (h0 : N[0]? = some x) (hx : sc.names.lookup x = some .local) (hσ : σ[0]? = some (some (.ref a))) (lc : K.lookup cc = some ⟨cl, cld, .cell (some (.ref D)), csl⟩) (hD : clsIn K D = some cdD) (ha : s.heap.get? a = some ox) (hcls : ox.cls = .ref C) (hnc : ∀ c, ox.data ≠ .cls c)
    (hsub : mroIn K C (.ref D) = some true) (hat : (attr == ("__class__" : Str)) = false)
    (h : ∀ so h', h'.get? so = some (ks_superObj D a C) → (∀ b o, s.heap.get? b = some o → h'.get? b = some o) → Q (.ref so) { s with heap := h' }) :
    _root_.PySem.wpAt (model P w) (A.deeper (cenv qual sc s0.heap.objs.size f (.ref cda) cc)) (.func body (cenv qual sc s0.heap.objs.size f (.ref cda) cc)) (attributeBase (.Call (.Name "super" p0) [] [] p1) attr (cenv qual sc s0.heap.objs.size f (.ref cda) cc) whole) Q
      (cxD CX P w K mg base N qual sc sc0 f (.ref cda) cc A outer s0 H0 E).xe s := by
  obtain ⟨_, _, _, _, ar, lf, hp, rfl⟩ := U.fn
  obtain ⟨_, _, _, _, _, _, lcd, hv, hfile⟩ := U.code
  obtain ⟨mb, nsb, hb⟩ := I.mod.blt
  have kin : K.In s.heap := I.kIn
  obtain ⟨m, ns, lk⟩ := I.loc
  obtain ⟨u, ru, hu⟩ := lk 0 ar.arg (.ref a) h0 hσ (.inl hx)
  have um : m ar.arg = some (.ref a) := by
    cases ru
    rcases hu with ⟨_, q⟩ | ⟨q, _⟩
    · exact q
    · have q' : sc.names.lookup ar.arg = some .cell ∨ sc.names.lookup ar.arg = some .free := q
      rw [hx] at q'
      rcases q' with z | z <;> cases z
  obtain ⟨oD, gD, eD⟩ : ∃ oD, s.heap.get? D = some oD ∧ oD.data = .cls cdD := by
    unfold clsIn at hD
    split at hD
    · rename_i q
      cases hD
      exact ⟨_, kin _ _ q, rfl⟩
    · cases hD
  have boot : bootBuiltins ("super" : Str) = some (.type "super") := by first | boot_by_name | rfl | kernel_rfl
  have last : wpAny (model P w) (A.deeper (cenv qual sc s0.heap.objs.size f (.ref cda) cc)) (call (.type "super") [.ref D, .ref a]) Q (cxD CX P w K mg base N qual sc sc0 f (.ref cda) cc A outer s0 H0 E).xe s :=
    ks_wpAny_call_super gD eD ha hcls hnc (looks_mroIn kin hsub) fun h' e k => h _ h' e k
  refine ks_wpAt_super_base (env := cenv qual sc s0.heap.objs.size f (.ref cda) cc) U.here S.free hat rfl (kin _ _ lf) rfl hp rfl (kin _ _ lcd) rfl hv hfile U.top ?_
  exact ks_loadName_global S.kind U.here (loadGlobal_builtin (env := cenv qual sc s0.heap.objs.size f (.ref cda) cc) (I.mod.glob.keeps I.bk) U.glo (nsb.keeps I.bk) ((hb _ (by decide)).trans boot)
    ⟨rfl, wpAny_loadName_free S.kind S.free rfl ⟨_, kin _ _ lc, rfl⟩ (wpAny_loadName_local S.kind hx ns um (ks_wpAny_isType_cls gD eD ⟨rfl, last⟩))⟩)
end
end Rd
/-! OwnI: an own exception's __init__ keeps its promise. -/
namespace Rd
open PySem PySem.Spec PyProof.Rows PySem.W PySem.Calls L2
section
variable {CX : CXT} {P : Program} {w : World} {K : PySem.W.Frag} {mg : Str → Option Value} {base : Heap} {N ps : List Str} {qual : Str} {sc sc0 : Scope} {f cc C cda a : Addr} {A : Around} {outer : List Env} {s0 s : Shared} {H0 H : Hp} {E : XK} {σ : L2.St}
  {cl : Value} {cld : Option Addr} {csl : Array (Option Value)} {body : List Stmt}
abbrev supCall (txt : Str) (j : Nat) (p0 p1 apos cp pos : Pos) : Expr := .Call (.Attribute (.Call (.Name "super" p0) [] [] p1) "__init__" apos) [.Constant (.str txt) j cp] [] pos
/-- how such a call is gone through -/
def GoesSup (env : Env) (txt : Str) (j : Nat) (p0 p1 apos cp pos : Pos) : Prop := ∃ pl : Sem Bool, eval (supCall txt j p0 p1 apos cp pos) env = (do
  let ov ← attributeBase (.Call (.Name "super" p0) [] [] p1) "__init__" env (eval (.Call (.Name "super" p0) [] [] p1) env)
  standAt apos.atName
  let (fx, first) ← holding [ov] (getMethod ov "__init__" pl)
  callWith pos fx first (backTo pos (starEach [.Constant (.str txt) j cp] env)) [])
theorem sup_init {x : Str} {txt : Str} {j : Nat} {p0 p1 apos cp pos pos' : Pos} (I : L2.Inv (cxD CX P w K mg base N qual sc sc0 f (.ref cda) cc A outer s0 H0 E) [] σ H s) (S : ClsScope N ps sc sc0) (U : SupAt P K mg sc f cda x) (T2 : SupC K C)
    (h0 : N[0]? = some x) (hx : sc.names.lookup x = some .local) (hσ : σ[0]? = some (some (.ref a))) (lc : K.lookup cc = some ⟨cl, cld, .cell (some (.ref C)), csl⟩) (e : H a = some (exo a C none))
    (go : GoesSup (cenv qual sc s0.heap.objs.size f (.ref cda) cc) txt j p0 p1 apos cp pos) (hsw : swapsWith (supCall txt j p0 p1 apos cp pos) none pos'.line (cenv qual sc s0.heap.objs.size f (.ref cda) cc) = pure false) :
    _root_.PySem.wpAt (model P w) (A.deeper (cenv qual sc s0.heap.objs.size f (.ref cda) cc)) (.func body (cenv qual sc s0.heap.objs.size f (.ref cda) cc)) (exec (.Expr (supCall txt j p0 p1 apos cp pos) pos') (cenv qual sc s0.heap.objs.size f (.ref cda) cc))
      (fun fl s' => fl = .next ∧ L2.Inv (cxD CX P w K mg base N qual sc sc0 f (.ref cda) cc A outer s0 H0 E) [] σ H s') (cxD CX P w K mg base N qual sc sc0 f (.ref cda) cc A outer s0 H0 E).xe s := by
  obtain ⟨pl, hev⟩ := go
  obtain ⟨t, ho⟩ := exo_at I.hok e
  obtain ⟨cdC, hcd, hal⟩ : ∃ cdC, clsIn K C = some cdC ∧ alongIn K "__init__" ((cdC.mro.dropWhile (· != .ref C)).drop 1) = some (some (.builtin "ValueError.__init__")) := by
    have q := T2.ini
    unfold ks_superIn at q
    cases z : clsIn K C with
    | none => rw [z] at q; cases q
    | some c => rw [z] at q; exact ⟨c, rfl, q⟩
  refine ks_wpAt_Expr_any (ks_wpAt_MethodCall (sup_here I S U h0 hx hσ lc hcd ho rfl (fun c z => by cases z) T2.slf (by decide) fun so h1 gso k1 => ?_) hev) I.quiet hsw
  have I1 := I.kept (t' := s.toks) k1
  have kin : K.In h1 := I1.kIn
  have inst : InstAt h1 a _ C none := ⟨k1 _ _ ho, rfl, rfl, trivial⟩
  obtain ⟨hs, g, d, tk, os⟩ := s
  have mro : Looks (model P w) h1 (mroOf (.ref C)) cdC.mro := (looks_clsIn kin hcd).andThen .now
  refine kxs_getMethod (d := d) kxs_ValueError gso (looks_opaque kin T2.op) mro rfl kin hal (inst.type.andThen (looks_subIn kin T2.ve)) (ks_ne kin inst hcd) (by decide) ?_
  have I2 := I1.kept (t' := tk + 1) (h' := h1.push (kxs_mw "ValueError.__init__" a)) fun b o q => Heap.get?_push_of_some _ q
  have gu : (h1.push (kxs_mw "ValueError.__init__" a)).get? h1.objs.size = some (kxs_mw "ValueError.__init__" a) := Heap.get?_push_size _ rfl
  have ul : h1.objs.size ≠ s0.heap.objs.size := fun z => by
    have q : s0.heap.objs.size < h1.objs.size := I1.lt
    omega
  have ub : base.get? h1.objs.size = none := by
    cases q : base.get? h1.objs.size with
    | none => rfl
    | some o => exact absurd (Heap.lt_size (I1.bk _ o q)) (Nat.lt_irrefl _)
  have I3 : L2.Inv (cxD CX P w K mg base N qual sc sc0 f (.ref cda) cc A outer s0 H0 E) [(h1.objs.size, kxs_mw "ValueError.__init__" a)] σ H ⟨h1.push (kxs_mw "ValueError.__init__" a), g, d, tk + 1, os⟩ := I2.pins_of fun p hp => by
    cases List.mem_singleton.mp hp
    exact ⟨gu, I1.hok.fresh (Nat.le_refl _), ul, I1.nofs (Nat.le_refl _), fun v z => by cases z⟩
  have PAc : PA (cxD CX P w K mg base N qual sc sc0 f (.ref cda) cc A outer s0 H0 E) [.Constant (.str txt) j cp] (tCons (tC (.str txt)) tNil) := pa_cons pe_str pa_nil (by rfl)
  refine kxs_callWith1 (h₀ := base) (L := s0.heap.objs.size) (i := "ValueError.__init__") (x := a) (news := [(h1.objs.size, kxs_mw "ValueError.__init__" a)]) (fun p hp => by cases List.mem_singleton.mp hp; exact ⟨gu, ul, ub⟩) (by simp)
    (wpAny_mono (PAc.run pos _ _ σ H (fun us H' => us.length = 1 ∧ H' = H) I3 ⟨rfl, rfl⟩) (fun us s2 q => ?_) fun _ _ z => z) (by rfl) (by rfl)
  obtain ⟨ws, H2, J, rv, hl, rfl⟩ := q
  have gu2 := (J.pin _ (List.mem_append_right _ (List.mem_singleton.mpr rfl))).1
  have hus : us.length ≤ sizeLine := by rw [← rv.length, hl]; decide
  exact ⟨gu2, call_wrapped (X := cxD CX P w K mg base N qual sc sc0 f (.ref cda) cc A outer s0 H0 E) T2 J e gu2 ub ul hus fun s' J' => ⟨rfl, J'.pins_of fun p hp => by cases hp⟩⟩
/-- an __init__ whose first row is super().__init__(text) -/
theorem fn_exc {k : Nat} {name x : Str} {params : Arguments} {rest : List Stmt} {dV kV doc pm ct oc : Value} {an od : Option Addr} {osl : Array (Option Value)} {sp : Sp} {txt : Str} {j : Nat} {p0 p1 apos cp pos pos' : Pos}
    (lk : K.lookup f = some ⟨oc, od, .func (ksFn name qual params (.Expr (supCall txt j p0 p1 apos cp pos) pos' :: rest) sc dV kV doc pm an (.ref cda) ct cc), osl⟩)
    (hcd : PySem.W.codeIn K (.ref cda) qual = true) (lc : K.lookup cc = some ⟨cl, cld, .cell (some (.ref C)), csl⟩) (S : ClsScope N ps sc sc0) (len : ∀ vs H Q E, sp vs H Q E → vs.length = ps.length) (hloc : ∀ x ∈ ps, sc.names.lookup x = some .local ∧ sc0.names.lookup x = some .local)
    (U : SupAt P K mg sc f cda x) (T2 : SupC K C) (h0 : N[0]? = some x) (hx : sc.names.lookup x = some .local)
    (go : ∀ L, GoesSup (cenv qual sc L f (.ref cda) cc) txt j p0 p1 apos cp pos) (hsw : ∀ L, swapsWith (supCall txt j p0 p1 apos cp pos) none pos'.line (cenv qual sc L f (.ref cda) cc) = pure false)
    (hs : ∀ vs H Q E, sp vs H Q E → ∃ a r, vs = .ref a :: r ∧ H a = some (exo a C none))
    (hrest : ∀ (A : Around) (outer : List Env) (s : Shared) (H : Hp) (vs : List V) (Q : VK) (E : XK), Room k (A.deeper (cenv qual sc s.heap.objs.size f (.ref cda) cc)) → sp vs H Q E →
      ∃ t, PSs (cxD CX P w K mg base N qual sc sc0 f (.ref cda) cc A outer s H E) rest t ∧ t { nx := fun _ H' => Q .non H', rt := Q } (start N vs) H) :
    FnOk P w K mg base CX (k + 1) f (ksFn name qual params (.Expr (supCall txt j p0 p1 apos cp pos) pos' :: rest) sc dV kV doc pm an (.ref cda) ct cc) ps sp := by
  refine fn_cell lk hcd lc S len hloc fun A outer s H vs Q E s1 hr hsp I => ?_
  obtain ⟨a, r, rfl, e⟩ := hs _ _ _ _ hsp
  obtain ⟨t, ht, hq⟩ := hrest A outer s H _ Q E hr hsp
  refine ks_wpAt_execs_cons (ks_wpAt_mono (sup_init I S U T2 h0 hx rfl lc e (go _) (hsw _)) (fun fl s2 q => ?_) fun _ _ z => z)
  obtain ⟨rfl, J⟩ := q
  exact wpAt_of_wpAny (ht.run [] s2 _ H _ J hq)
end
end Rd
/-! Catch: try .. except C as e, where e is kept behind the suite: the caught object becomes a tracked one. Only what C names is raised. -/
namespace Rd
open PySem PySem.Spec PyProof.Rows L2
/-- at a stands an exception of the class cls, its own dict at d -/
def XcO (cls : Value) (d : Option Addr) (a : Addr) : HO := .ext fun h => ∃ (o : Obj) (fs : Array Value), h.get? a = some o ∧ Zc cls d o ∧ o.data = .fields fs
/-- a is nobody's record here -/
structure Alone (X : Cx) (pins : List (Addr × Obj)) (a : Addr) : Prop where
  loc : a ≠ X.env.locals
  old : X.s_0.heap.get? a = none
  pin : ∀ p ∈ X.pn ++ pins, p.1 ≠ a
section
variable {X : Cx} {pins : List (Addr × Obj)} {σ : L2.St} {H : Hp} {s : Shared} {a : Addr} {cls : Value} {d : Option Addr}
theorem xcO_is {P : Program} {w : World} {h : Heap} {o : Obj} {fs : Array Value} (e : h.get? a = some o) (z : Zc cls d o) (q : o.data = .fields fs) : ObjOk P w H h a (XcO cls d a) :=
  ⟨⟨o, fs, e, z, q⟩, ⟨o, e⟩, fun _ _ ⟨o, fs, e, z, q⟩ k => ⟨o, fs, k o e, z, q⟩⟩
theorem Inv.hold {o : Obj} {fs : Array Value} (I : L2.Inv X pins σ H s) (al : Alone X pins a) (na : H a = none) (e : s.heap.get? a = some o) (z : Zc cls d o) (q : o.data = .fields fs) : L2.Inv X pins σ (upd H a (XcO cls d a)) s :=
  have up : ∀ {b : Addr} {u : HO}, H b = some u → upd H a (XcO cls d a) b = some u := fun {b u} hb => (upd_ne (ne_of_none hb na)).trans hb
  { ok := I.ok, os := I.os, bare := I.bare, loc := I.loc, cell := I.cell, len := I.len
    base := { keep := I.base.keep, slot := I.base.slot, there := I.base.there
              free := fun b u hb n hx => (upd_ne fun z => by rw [z, al.old] at hb; cases hb).trans (I.base.free b u hb n hx)
              tups := fun b xs hb => up (I.base.tups b xs hb)
              frzs := fun b u v hb => up (I.base.frzs b u v hb)
              tbls := fun b ps hb => let ⟨m, w⟩ := I.base.tbls b ps hb; ⟨m, up w⟩ }
    free := (upd_ne (Ne.symm al.loc)).trans I.free
    freeC := fun x c hc => (upd_ne fun z => by
      obtain ⟨v, u, hu, hv⟩ := I.cell x c hc
      rw [z, e] at hu; cases hu; rw [q] at hv; cases hv).trans (I.freeC x c hc)
    pin := fun p hp => let ⟨h1, h2, h3⟩ := I.pin p hp; ⟨h1, (upd_ne (al.pin p hp)).trans h2, h3⟩
    hok := HOk.laidN I.hok (fun _ _ hb => hb) na (xcO_is e z q) }
/-- the same ends over another context -/
theorem sp_map {Y : Cx} {p1 : List (Addr × Obj)} {D : Ends} {f : Flow} (m : ∀ σ H, L2.Inv Y p1 σ H s → L2.Inv X pins σ H s) (h : SP Y p1 D f s) : SP X pins D f s := by
  cases f with
  | ret u => exact let ⟨v, σ, H, J, r⟩ := h; ⟨v, σ, H, m σ H J, r⟩
  | next => exact let ⟨σ, H, J, r⟩ := h; ⟨σ, H, m σ H J, r⟩
  | brk => exact let ⟨σ, H, J, r⟩ := h; ⟨σ, H, m σ H J, r⟩
  | cont => exact let ⟨σ, H, J, r⟩ := h; ⟨σ, H, m σ H J, r⟩
/-- into the suite, and back -/
theorem Inv.intoSuite (I : L2.Inv X pins σ H s) : L2.Inv (X.suite a (X.pn ++ pins)) [] σ H s :=
  { ok := I.ok.suite _ _, os := I.os, bare := I.bare, base := I.base, loc := I.loc, cell := I.cell, free := I.free, freeC := I.freeC, hok := I.hok, len := I.len, pin := fun p hp => I.pin p (by simpa using hp) }
theorem Inv.outOfSuite {pn : List (Addr × Obj)} (ok : X.Ok) (I : L2.Inv (X.suite a (X.pn ++ pins)) pn σ H s) : L2.Inv X pins σ H s :=
  { ok := ok, os := I.os, bare := I.bare, base := I.base, loc := I.loc, cell := I.cell, free := I.free, freeC := I.freeC, hok := I.hok, len := I.len, pin := fun p hp => I.pin p (List.mem_append_left _ hp) }
/-- what flew in is nobody's record -/
theorem alone_of {B h : Heap} {o : Obj} {fs : Array Value} {sI : Shared} (hs : X.stack = X.env :: X.outer) (hf : X.env.frame = some X.env.locals) (hex : X.ex = []) (J : L2.Inv X pins σ H sI) (nb : ∀ b o, sI.heap.get? b = some o → b ∉ frs X.stack → B.get? b = some o)
    (hB : B.get? a = none) (ff : h.FunFrames B (X.env :: X.outer)) (e : h.get? a = some o) (q : o.data = .fields fs) : Alone X pins a := by
  have nst : a ∉ frs X.stack := by
    rw [hs]
    intro m
    obtain ⟨_, u, hu, nf⟩ := ff.mem m
    rw [e] at hu; cases hu
    exact nf fs q
  have nI : sI.heap.get? a = none := Option.eq_none_iff_forall_ne_some.mpr fun u hu => by
    have z := nb a u hu nst
    rw [hB] at z; cases z
  refine ⟨fun z => nst ?_, Option.eq_none_iff_forall_ne_some.mpr fun u hu => ?_, fun p hp z => ?_⟩
  · rw [hs, z]
    exact List.mem_filterMap.mpr ⟨X.env, List.mem_cons_self, hf⟩
  · obtain ⟨v, hv⟩ := J.base.there a u hu (by rw [hex]; exact List.not_mem_nil)
    rw [nI] at hv; cases hv
  · have hv := (J.pin p hp).1
    rw [z, nI] at hv; cases hv
end
/-- behind the suite the clause's name is unbound -/
def unbound (D : Ends) (i : Nat) : Ends := ⟨fun σ H => D.nx (σ.set i none) H, D.rt, fun σ H => D.bk (σ.set i none) H, fun σ H => D.ct (σ.set i none) H⟩
theorem w_unb {nx : L2.St → Hp → Prop} {rt : VK} {bk ct : L2.St → Hp → Prop} {i : Nat} {σ : L2.St} {H : Hp} (h : nx (σ.set i none) H) : (unbound ⟨nx, rt, bk, ct⟩ i).nx σ H := h
/-- the wish of such a clause -/
def wCatch (K : PySem.W.Frag) (c : Value) (i : Nat) (ts : TS) (D : Ends) : WX := fun cls d σ H => PySem.W.exmOne K cls c = some true ∧ ∀ a, H a = none → ts (unbound D i) (σ.set i (some (.ref a))) (upd H a (XcO cls d a))
section
variable {X : Cx} {x n : Str} {c : Value} {i : Nat} {body suite : List Stmt} {b0 : Stmt} {np pos pos' : Pos} {tb : WX → TS} {ts : TS}
/-- the clause takes what flew in -/
theorem clause_takes {pins : List (Addr × Obj)} {σ : L2.St} {H : Hp} {D : Ends} {s' : Shared} {h3 B : Heap} {a : Addr} {cls : Value} {d : Option Addr} (ok : X.Ok) (hN : X.N.Nodup) (hi : X.N[i]? = some n) (hln : X.env.kindOf n = some .local) (hc : Names X x c)
    (hm : PySem.W.exmOne X.K cls c = some true) (hsu : ∀ (a : Addr) (pn : List (Addr × Obj)), PSs (X.suite a pn) (b0 :: suite) ts) (fl : HandSPX.FlyingZ B (X.env :: X.outer) a (Zc cls d) h3) (al : Alone X pins a) (na : H a = none)
    (on : ∀ h, HandSPX.FlyingZ B (X.env :: X.outer) a (Zc cls d) h → h3.UpToSlots h → L2.Inv X pins σ H { s' with heap := h }) (q : ts (unbound D i) (σ.set i (some (.ref a))) (upd H a (XcO cls d a))) :
    wpAny (model X.prog X.w) X.A (handleBy (.ref a) X.env [.ExceptHandler (some (.Name x np)) (some n) (b0 :: suite) pos']) (SP X pins D) X.xe { s' with heap := h3 } := by
  have J := on h3 fl (Heap.UpToSlots.refl _)
  obtain ⟨o, fs, e, z, _⟩ := fl.there
  have look : PySem.W.Looks (model X.prog X.w) h3 (typeOf (.ref a)) cls := fun _ _ _ _ k w => wpAny_typeOf_ref (k _ _ e) (z.1 ▸ w)
  have back : ∀ {f : Flow} {s6 : Shared}, SP (X.suite a (X.pn ++ pins)) [] (unbound D i) f s6 → wpAny (model X.prog X.w) X.A (do bindName X.env n .none; unbindBehindTheSuite X.env n pos') (fun _ s7 => SP X pins D f s7) X.xe s6 := fun {f s6} h => by
    cases f with
    | ret u => exact let ⟨v, σ, H, S, r, w⟩ := h; gone_ok (Inv.outOfSuite ok S) hN hi hln fun s7 J7 => ⟨v, _, H, J7, r, w⟩
    | next => exact let ⟨σ, H, S, w⟩ := h; gone_ok (Inv.outOfSuite ok S) hN hi hln fun s7 J7 => ⟨_, H, J7, w⟩
    | brk => exact let ⟨σ, H, S, w⟩ := h; gone_ok (Inv.outOfSuite ok S) hN hi hln fun s7 J7 => ⟨_, H, J7, w⟩
    | cont => exact let ⟨σ, H, S, w⟩ := h; gone_ok (Inv.outOfSuite ok S) hN hi hln fun s7 J7 => ⟨_, H, J7, w⟩
  have name : ∀ {R : Value → Shared → Prop} {E : Value → Shared → Prop}, R c { s' with heap := h3 } → wpAny (model X.prog X.w) (X.A.mark (some (.ref a))) (eval (.Name x np) X.env) R E { s' with heap := h3 } := fun {R E} r => by
    have S := Inv.intoSuite (a := a) J
    obtain ⟨g1, g2, g3⟩ := hc
    rcases g3 with g3 | ⟨g3, g4, g5⟩
    · exact ld_glob S g1 g3 r g2
    · exact ld_blt S g1 g3 g4 r g5 g2
  refine wpAny_handleBy_cons (codeAny_handlers_test (name ((PySem.W.exm_one J.kIn look hm).here (codeAny_handlers_suite_as (HandSPX.lands_againZ fl fun h4 fl4 up4 => ?_))))) (fun w => by cases w)
  obtain ⟨o4, fs4, e4, z4, q4⟩ := fl4.there
  have S4 := Inv.intoSuite (a := a) (Inv.hold (on h4 fl4 up4) al na e4 z4 q4)
  refine store_ok (X := X.suite a (X.pn ++ pins)) (v := .ref a) S4 hN hi (.inl hln) rfl (fun s5 S5 => wpAny_mono ((hsu a (X.pn ++ pins)).run [] s5 _ _ _ S5 q) (fun f s6 w => ?_) fun _ _ w => w.elim) (.inr hln)
  exact back w
theorem ps_catch (hs : X.stack = X.env :: X.outer) (hf : X.env.frame = some X.env.locals) (hex : X.ex = []) (hN : X.N.Nodup) (hi : X.N[i]? = some n) (hln : X.env.kindOf n = some .local) (hc : Names X x c)
    (hb : ∀ (W : WX) (pn : List (Addr × Obj)) (xe : Value → Shared → Prop), Takes (X.tr pn xe) W → PassesOwn (model X.prog X.w) X.A X.env xe → PSs (X.tr pn xe) body (tb W)) (hsu : ∀ (a : Addr) (pn : List (Addr × Obj)), PSs (X.suite a pn) (b0 :: suite) ts) :
    PS X (.Try body [.ExceptHandler (some (.Name x np)) (some n) (b0 :: suite) pos'] [] [] pos) (fun D σ H => tb (wCatch X.K c i ts D) D σ H) where
  run := fun pins s σ H D I h => by
    have ok := I.ok
    have fr : X.A.frames = some (X.env :: X.outer) := ok.frames.trans (congrArg some hs)
    refine wpAny_Try_except (wpAny_mono ((hb (wCatch X.K c i ts D) (X.pn ++ pins) _ (fun u s' xx => ?_) PassesOwn.looking).run [] s σ H D (I.toTry _) h) (fun f s1 w => ?_) fun _ _ w => w)
    · obtain ⟨a, B, sI, p1, σ1, H1, cls, d, rfl, J1, nb, up, sky, na, os, ag, hm, q⟩ := xx
      have J : L2.Inv X pins σ1 H1 sI := J1.ofTry ok
      refine Sky.land Zc.steady fr hf (hs ▸ sky) fun h3 fl up3 => ?_
      obtain ⟨o, fs, e, _, qd⟩ := fl.there
      exact clause_takes ok hN hi hln hc hm hsu fl (alone_of hs hf hex J nb fl.2.1 fl.2.2.1 e qd) na (fun h4 fl4 up4 => J.landed nb fl4.1 ((up.trans up3).trans up4) os ag) (q a na)
    · have w' : SP X pins D f s1 := sp_map (fun σ H J => J.ofTry ok) w
      cases f with
      | next => exact wpAny_execs_nil w'
      | ret u => exact w'
      | brk => exact w'
      | cont => exact w'
end
end Rd
/-! Ask: isinstance of a kept exception, its fields; raise of an own exception with fields. -/
namespace Rd
open PySem PySem.Spec PyProof.Rows PySem.W PySem.Calls L2
/-- a kept exception of the class at D with the fields fs (none: it has no dict) -/
def XcAt (H : Hp) (a D : Addr) (fs : Option (List (Str × V))) : Prop := match fs with
  | none => H a = some (XcO (.ref D) none a)
  | some l => ∃ dd, H a = some (XcO (.ref D) (some dd) a) ∧ H dd = some (.xd l)
theorem XcAt.keep {H H' : Hp} {a D : Addr} {fs : Option (List (Str × V))} (h : XcAt H a D fs) (k : ∀ b o, H b = some o → H' b = some o) : XcAt H' a D fs := match fs, h with
  | none, e => k _ _ e
  | some _, ⟨dd, e1, e2⟩ => ⟨dd, k _ _ e1, k _ _ e2⟩
section
variable {X : Cx} {pins : List (Addr × Obj)} {σ : L2.St} {H : Hp} {s : Shared} {a D : Addr} {fs : Option (List (Str × V))}
theorem kept_inst (I : L2.Inv X pins σ H s) (h : XcAt H a D fs) : ∃ o od, InstAt s.heap a o D od ∧ ∀ l f v, fs = some l → l.lookup f = some v → ∃ ob u, od = some ob ∧ lookIn f ob = some (some u) ∧ RelV v u := by
  cases fs with
  | none =>
    obtain ⟨o, vs, e, ⟨z1, z2⟩, q⟩ := (I.hok a _ h).1
    exact ⟨o, none, ⟨e, z1, by unfold notCls; rw [q], by rw [z2]; trivial⟩, fun l f v z => nomatch z⟩
  | some l =>
    obtain ⟨dd, h1, h2⟩ := h
    obtain ⟨o, vs, e, ⟨z1, z2⟩, q⟩ := (I.hok a _ h1).1
    obtain ⟨mA, ns, rel⟩ := (show ObjOk X.prog X.w H s.heap dd (.xd l) from I.hok dd _ h2)
    obtain ⟨ob, ho, hl⟩ := lookIn_ns ns
    refine ⟨o, some ob, ⟨e, z1, by unfold notCls; rw [q], by rw [z2]; exact ho⟩, fun l' f v z w => ?_⟩
    cases z
    have r := rel f
    rw [w] at r
    obtain ⟨u, hu, ru⟩ := RelO.some_of r
    exact ⟨ob, u, rfl, (hl f).trans (congrArg some hu), ru⟩
theorem exc_kit {o : Obj} {od : Option Obj} (C : ExcC X.K D) : KitX X.K (.ref a) (.ref D) (fun h => InstAt h a o D od) := by
  have some_cls : (clsIn X.K D).isSome = true := by
    obtain ⟨cd, e, _⟩ := any_some C.hd
    rw [e]; rfl
  exact kitx_exc some_cls C.hg C.hk C.hs C.ha C.hn C.ht C.hm
def rIsX (K : PySem.W.Frag) : List V → Hp → VK → Prop := fun xs H Q => match xs with
  | [.ref a, c] => ∃ D fs u b, XcAt H a D fs ∧ ExcC K D ∧ ClsV c u ∧ kitOne K (.ref D) u = some b ∧ Q (.bl b) H
  | _ => False
def rIsXT (K : PySem.W.Frag) : List V → Hp → VK → Prop := fun xs H Q => match xs with
  | [.ref a, .ref tp] => ∃ D fs cs us b, XcAt H a D fs ∧ ExcC K D ∧ H tp = some (.tup cs) ∧ Paired ClsV cs us ∧ kitAny K (.ref D) us = some b ∧ Q (.bl b) H
  | _ => False
theorem cIsX : CallR X (.builtin "isinstance") (rIsX X.K) := by
  intro pins s σ H xs us Q I r h
  unfold rIsX at h
  split at h
  · obtain ⟨D, fs, u, b, hx, C, hc, e, q⟩ := h
    obtain ⟨v1, v2, rfl, r1, r2⟩ := vals2 r
    cases r1
    cases hc.eq r2
    obtain ⟨o, od, i, _⟩ := kept_inst I hx
    exact kia_one (exc_kit C) I.kIn i e (fun z => nomatch z) fun tk => ⟨.bl b, _, I.tok tk, rfl, q⟩
  · exact h.elim
theorem cIsXT : CallR X (.builtin "isinstance") (rIsXT X.K) := by
  intro pins s σ H xs us Q I r h
  unfold rIsXT at h
  split at h
  · obtain ⟨D, fs, cs, ws, b, hx, C, ht, hc, e, q⟩ := h
    obtain ⟨v1, v2, rfl, r1, r2⟩ := vals2 r
    cases r1
    cases r2
    obtain ⟨o, od, i, _⟩ := kept_inst I hx
    obtain ⟨its, rv, ⟨⟨c1, c2, c3, c4⟩, g1, g2, n, g3⟩, _⟩ := I.tuple (SqT.of ht)
    cases g2
    cases g3
    cases ClsV.all hc rv
    exact kia_tup (exc_kit C) I.kIn i g1 e (fun z => nomatch z) fun tk => ⟨.bl b, _, I.tok tk, rfl, q⟩
  · exact h.elim
theorem CallR.or {f : Value} {r r' : List V → Hp → VK → Prop} (h : CallR X f r) (h' : CallR X f r') : CallR X f (fun xs H Q => r xs H Q ∨ r' xs H Q) :=
  fun pins s σ H xs us Q I rv z => z.elim (h pins s σ H xs us Q I rv) (h' pins s σ H xs us Q I rv)
def uIsi (K : PySem.W.Frag) : List V → Hp → VK → Prop := fun xs H Q => rIsi K xs H Q ∨ rIsX K xs H Q
def uIsiT (K : PySem.W.Frag) : List V → Hp → VK → Prop := fun xs H Q => rIsiT K xs H Q ∨ rIsXT K xs H Q
theorem cIsi : CallR X (.builtin "isinstance") (uIsi X.K) := CallR.or call_isi cIsX
theorem cIsiT : CallR X (.builtin "isinstance") (uIsiT X.K) := CallR.or call_isiT cIsXT
/-- e.f of a kept exception -/
def tXk (K : PySem.W.Frag) (f : Str) (te : TE) : TE := fun σ H Q => te σ H fun x H1 => match x with
  | .ref a => ∃ C l v, XcAt H1 a C (some l) ∧ XfC K C ∧ findIn K (.ref C) f = some none ∧ l.lookup f = some v ∧ Q v H1
  | _ => False
theorem pe_xk {e : Expr} {te : TE} {f : Str} {pos : Pos} (he : PE X e te) (hb : attributeBase e f X.env (eval e X.env) = eval e X.env := by rfl) : PE X (.Attribute e f pos) (tXk X.K f te) where
  run := fun pins s σ H Q I h => attr_of hb (thn (he.run pins s σ H _ I h) fun u s1 w => by
    obtain ⟨x, H1, I1, rx, w⟩ := w
    split at w
    · obtain ⟨C, l, v, hx, T, hno, hl, q⟩ := w
      cases rx
      obtain ⟨o, od, i, hf⟩ := kept_inst I1 hx
      obtain ⟨ob, u, rfl, hu, ru⟩ := hf l f v rfl hl
      exact HandSPX.exc_get I1.kIn i T.ga T.gg T.exC (findObj_own T.hdC hno rfl hu) (handed_of ru) ⟨v, H1, I1.tok _, ru, q⟩
    · exact w.elim)
end
theorem w_xk {K : PySem.W.Frag} {f : Str} {i : Nat} {σ : L2.St} {H : Hp} {Q : VK} {a C : Addr} {l : List (Str × V)} {v : V} (hv : σ[i]? = some (some (.ref a))) (hx : XcAt H a C (some l)) (hc : XfC K C) (hn : findIn K (.ref C) f = some none) (hl : l.lookup f = some v) (h : Q v H) : tXk K f (tVar i) σ H Q := w_var hv ⟨C, l, v, hx, hc, hn, hl, h⟩
/-! ### an own exception with fields is made -/
def spX0 (C : Addr) : Sp := fun vs H Q _ => ∃ a, vs = [.ref a] ∧ H a = some (exo a C none) ∧ Q .non H
def spX1 (C : Addr) (f : Str) : Sp := fun vs H Q _ => ∃ a y, vs = [.ref a, y] ∧ H a = some (exo a C none) ∧ ∀ d, H d = none → d ≠ a → Q .non (upd (upd H d (exd d [(f, y)])) a (exo a C (some d)))
def spX2 (C : Addr) (f g : Str) : Sp := fun vs H Q _ => ∃ a y z, vs = [.ref a, y, z] ∧ H a = some (exo a C none) ∧ ∀ d, H d = none → d ≠ a → Q .non (upd (upd (upd H d (exd d [(f, y)])) a (exo a C (some d))) d (exd d [(g, z), (f, y)]))
section
variable {H : Hp} {σ : L2.St} {C : Addr} {W : XK}
theorem new_heap {H2 : Hp} {a d : Addr} {o : HO} (na : H a = none) (nd : d ≠ a) (h : ∀ b, b ≠ a → b ≠ d → H2 b = H b) : upd (del H2 a) d o = upd H d o := by
  funext b
  by_cases e : b = d
  · rw [e, upd_same, upd_same]
  · rw [upd_ne e, upd_ne e]
    by_cases z : b = a
    · rw [z, del_same, na]
    · rw [del_ne z, h b z e]
/-- the arguments of an exception are done -/
def kMkO (C : Addr) (sp : Sp) (dvs : List V) (W : XK) : List V → Hp → Prop := fun vs H => tMkO C sp dvs (tAc vs) [] H W
theorem w_mko {sp : Sp} {dvs : List V} {ta : TA} (h : ta σ H (kMkO C sp dvs W)) : tMkO C sp dvs ta σ H W := h
theorem use_raise1 {f : Str} {y : V} (h : ∀ d, H d = none → W (.ref C) (some d) (upd H d (.xd [(f, y)]))) : kMkO C (spX1 C f) [] W [y] H := by
  refine ⟨by show 1 ≤ 1000; decide, fun a na => ⟨a, y, rfl, upd_same, fun d nd hne => ⟨rfl, d, [(f, y)], upd_same, ?_, ?_, ?_⟩⟩⟩
  · rw [upd_ne hne, upd_same]
  · rw [upd_ne hne] at nd; exact nd
  · rw [upd_ne hne] at nd
    rw [new_heap na hne fun b hb hd => by rw [upd_ne hb, upd_ne hd, upd_ne hb]]
    exact h d nd
theorem use_raise2 {f g : Str} {y z : V} (h : ∀ d, H d = none → W (.ref C) (some d) (upd H d (.xd [(g, z), (f, y)]))) : kMkO C (spX2 C f g) [] W [y, z] H := by
  refine ⟨by show 2 ≤ 1000; decide, fun a na => ⟨a, y, z, rfl, upd_same, fun d nd hne => ⟨rfl, d, [(g, z), (f, y)], ?_, upd_same, ?_, ?_⟩⟩⟩
  · rw [upd_ne (Ne.symm hne), upd_same]
  · rw [upd_ne hne] at nd; exact nd
  · rw [upd_ne hne] at nd
    rw [new_heap na hne fun b hb hd => by rw [upd_ne hd, upd_ne hb, upd_ne hd, upd_ne hb]]
    exact h d nd
end
end Rd
/-! Hk: a Hook that also tells of own exceptions, of classes beside each other, and of defs with the cell __class__. -/
namespace Rd
open PySem PySem.Spec PyProof.Rows PySem.W L2
/-- facts of our own -/
inductive Xa where
  /-- an own exception whose __init__ begins with super().__init__ -/
  | exc (x : Str)
  /-- isinstance of an instance of x: an own class y, a built-in one -/
  | kit (x y : Str) (b : Bool) | kitT (x : Str) (t : String) (b : Bool)
  /-- isinstance of a thing of a built-in type -/
  | tkit (t : String) (y : Str) (b : Bool)
  /-- an except clause of y beside an exception of x -/
  | exm (x y : Str) (b : Bool)
  /-- instances of x may be asked for their class -/
  | inst (x : Str)
def veT : List Value := [.type "ValueError", .type "Exception", .type "BaseException", .type "object"]
/-- the class object of an own exception over ValueError -/
def xclsB (K : PySem.W.Frag) (C : Addr) : Bool := match K.lookup C with
  | some ⟨.type k, _, .cls cd, sl⟩ => decide (k = "type") && (match cd.mro, sl.toList with
    | .ref C' :: bm, [_, _, _, _, some (.builtin n), _] => decide (C' = C) && (decide (n = "ValueError.__new__") && (!cd.hasDel && (cd.hasDict && HandSPX.refsVE bm)))
    | _, _ => false)
  | _ => false
abbrev iAd (K : PySem.W.Frag) (x : Str) : Addr := He.ma K (He.ga K x) "__init__"
def excB (K : PySem.W.Frag) (x : Str) : Bool :=
  xclsB K (He.ga K x) && (He.eqO (findIn K (.ref (He.ga K x)) "__setattr__") (some (some (.builtin "object.__setattr__"))) && (decide (subIn K (.ref (He.ga K x)) (.type "BaseException") = some true) && (decide (typeIn K (.ref (He.ga K x)) = some (.type "type")) && (keepIn K (.ref (He.ga K x)) &&
  (He.eqO (nsIn K cStatics "thirdparty.any") (some none) && (He.eqO (ks_superIn K (He.ga K x) (He.ga K x) "__init__") (some (some (.builtin "ValueError.__init__"))) && (decide (subIn K (.ref (He.ga K x)) (.type "ValueError") = some true) && (decide (mroIn K (He.ga K x) (.ref (He.ga K x)) = some true) && (excInitIn K (He.ga K x) veT "ValueError.__new__" &&
  (He.eqO (findIn K (.ref (He.ga K x)) "__getattribute__") (some (some (.builtin "BaseException.__getattribute__"))) && (He.eqO (findIn K (.ref (He.ga K x)) "__getattr__") (some none) && (hasDictIn K (He.ga K x) && (He.eqO (findIn K (.ref (He.ga K x)) "__class__") (some (some (.builtin "object.__class__"))) &&
  (He.eqO (specialIn K (.builtin "object.__class__") "__get__") (some (some (.builtin "getset_descriptor.__get__"))) && (decide (takesIn K (.builtin "object.__class__") = some true) && (decide (mroIn K (He.ga K x) (.type "object") = some true) &&
  (He.eqO (findIn K (.ref (He.ga K x)) "__init__") (some (some (.ref (iAd K x)))) && decide (typeIn K (.ref (iAd K x)) = some (.type "function")))))))))))))))))))
def Xa.ok (K : PySem.W.Frag) : Xa → Bool
  | .exc x => excB K x
  | .kit x y b => decide (kitOne K (.ref (He.ga K x)) (.ref (He.ga K y)) = some b)
  | .kitT x t b => decide (kitOne K (.ref (He.ga K x)) (.type t) = some b)
  | .tkit t y b => decide (kitOne K (.type t) (.ref (He.ga K y)) = some b)
  | .exm x y b => decide (exmOne K (.ref (He.ga K x)) (.ref (He.ga K y)) = some b)
  | .inst x => He.eqO (findIn K (.ref (He.ga K x)) "__class__") (some (some (.builtin "object.__class__"))) && (He.eqO (specialIn K (.builtin "object.__class__") "__get__") (some (some (.builtin "getset_descriptor.__get__"))) && (decide (takesIn K (.builtin "object.__class__") = some true) && decide (mroIn K (He.ga K x) (.type "object") = some true)))
structure ExcT (K : PySem.W.Frag) (x : Str) : Prop where
  oex : OexC K (He.ga K x)
  sup : SupC K (He.ga K x)
  is : ExcC K (He.ga K x)
  fld : XfC K (He.ga K x)
  ini : findIn K (.ref (He.ga K x)) "__init__" = some (some (.ref (iAd K x)))
  fn : typeIn K (.ref (iAd K x)) = some (.type "function")
theorem xcls_ok {K : PySem.W.Frag} {C : Addr} (h : xclsB K C = true) : ∃ nm q N bs bm sn sub ab col dd k0 k1 k2 k3 k5, K.lookup C = some (excClassObj nm q C N bs bm true sn sub ab col dd k0 k1 k2 k3 k5 "ValueError.__new__") ∧ HandSPX.refsVE bm = true := by
  unfold xclsB at h
  split at h
  · rename_i k dd cd sl hl
    have hk := (He.ba h).1
    have hr := (He.ba h).2
    have ek := of_decide_eq_true hk
    subst ek
    split at hr
    · rename_i C' bm k0 k1 k2 k3 n k5 hm hs
      simp only [Bool.and_eq_true, decide_eq_true_eq, Bool.not_eq_true'] at hr
      obtain ⟨e1, e2, e3, e4, e5⟩ := hr
      obtain ⟨nm, bs, mro, ns, qn, hd, sn, sub, ab, col, dl⟩ := cd
      simp only at hm e3 e4
      have es : sl = #[k0, k1, k2, k3, some (.builtin n), k5] := by
        obtain ⟨l⟩ := sl
        exact congrArg Array.mk hs
      subst hm es e1 e2 e3 e4
      exact ⟨nm, qn, ns, bs, bm, sn, sub, ab, col, dd, k0, k1, k2, k3, k5, hl, e5⟩
    · exact Bool.noConfusion hr
  · exact Bool.noConfusion h
theorem exc_ok {K : PySem.W.Frag} {x : Str} (h : excB K x = true) : ExcT K x := by
  unfold excB at h
  simp only [Bool.and_eq_true, decide_eq_true_eq] at h
  obtain ⟨a1, a2, a3, a4, a5, a6, a7, a8, a9, a10, a11, a12, a13, a14, a15, a16, a17, a18, a19⟩ := h
  exact { oex := ⟨xcls_ok a1, He.eqO_ok a2, a3, a4, a5⟩, sup := ⟨He.eqO_ok a6, He.eqO_ok a7, a8, a9, a10⟩, is := ⟨He.eqO_ok a11, He.eqO_ok a12, a3, a13, He.eqO_ok a14, He.eqO_ok a15, a16, a17⟩, fld := ⟨He.eqO_ok a11, He.eqO_ok a12, a3, a13⟩, ini := He.eqO_ok a18, fn := a19 }
/-! ### a def that closes over __class__ -/
abbrev FnV : Type := Option (Str × Str × Arguments × FuncBody × Scope × Addr × List Str × Addr)
def fnV (K : PySem.W.Frag) (p : Str × Option Str) : FnV := match K.lookup (He.fAd K p) with
  | some ⟨_, _, .func fd, _⟩ => some (fd.name, fd.qualname, fd.params, fd.body, fd.scope, fd.globals, fd.closure.map (·.1), fd.builtins)
  | _ => none
structure DefS where
  cls : Str
  name : Str
  qual : Str
  st : Stmt
  dfl : List He.Dv := []
  kwd : List (Str × He.Dv) := []
def DefS.val (d : DefS) : FnV := some (d.name, d.qual, defArgs d.st, .stmts (defBody d.st), defScope d.st, mainGlobals, ["__class__"], builtinsNs)
def DefS.dvs (K : PySem.W.Frag) (d : DefS) : List V := d.dfl.map (He.Dv.v K)
def DefS.kws (K : PySem.W.Frag) (d : DefS) : List (Str × V) := d.kwd.map fun q => (q.1, q.2.v K)
def cellB (K : PySem.W.Frag) (cc C : Addr) : Bool := match K.lookup cc with
  | some ⟨_, _, .cell (some (.ref D)), _⟩ => decide (D = C)
  | _ => false
def fileB (K : PySem.W.Frag) (cd : Value) : Bool := match cd with
  | .ref c => (match K.lookup c with
    | some ⟨_, _, .fields vs, _⟩ => (match (vs[2]? : Option Value) with
      | some (.str z _) => decide (z = "/claim/cut.py")
      | _ => false)
    | _ => false)
  | _ => false
def DefS.ok (K : PySem.W.Frag) (d : DefS) : Bool := keepIn K (.ref (He.fAd K (d.cls, some d.name))) && (match K.lookup (He.fAd K (d.cls, some d.name)) with
  | some ⟨_, _, .func fd, _⟩ => codeIn K fd.code d.qual && (He.dflB K fd.defaults (d.dvs K) && (He.kwdB K fd.kwdefaults (d.kws K) && (fileB K fd.code && (match fd.closure with
    | [(_, cc)] => cellB K cc (He.ga K d.cls)
    | _ => false))))
  | _ => false)
/-- such a def as it stands behind the top -/
structure FunS (K : PySem.W.Frag) (name qual : Str) (st : Stmt) (dvs : List V) (kws : List (Str × V)) (C f : Addr) (fd : FuncData) : Prop where
  ex : ∃ oc od dV kV doc pm an cda ct osl cc cl cld csl, fd = ksFn name qual (defArgs st) (defBody st) (defScope st) dV kV doc pm an (.ref cda) ct cc ∧ K.lookup f = some ⟨oc, od, .func fd, osl⟩ ∧ codeIn K (.ref cda) qual = true ∧ DflV K dV dvs ∧ KwdV K kV kws ∧
    K.lookup cc = some ⟨cl, cld, .cell (some (.ref C)), csl⟩ ∧ ∃ ccl cdd vs sl tf, K.lookup cda = some ⟨ccl, cdd, .fields vs, sl⟩ ∧ vs[2]? = some (.str "/claim/cut.py" tf)
  kp : keepIn K (.ref f) = true
theorem cell_ok {K : PySem.W.Frag} {cc C : Addr} (h : cellB K cc C = true) : ∃ cl cld csl, K.lookup cc = some ⟨cl, cld, .cell (some (.ref C)), csl⟩ := by
  unfold cellB at h
  split at h
  · rename_i q
    cases of_decide_eq_true h
    exact ⟨_, _, _, q⟩
  · cases h
theorem file_ok {K : PySem.W.Frag} {cd : Value} (h : fileB K cd = true) : ∃ c ccl cdd vs sl tf, cd = .ref c ∧ K.lookup c = some ⟨ccl, cdd, .fields vs, sl⟩ ∧ vs[2]? = some (.str "/claim/cut.py" tf) := by
  unfold fileB at h
  split at h
  · split at h
    · rename_i q
      split at h
      · rename_i z
        cases of_decide_eq_true h
        exact ⟨_, _, _, _, _, _, rfl, q, z⟩
      · cases h
    · cases h
  · cases h
theorem DefS.funS {K : PySem.W.Frag} {d : DefS} (e : fnV K (d.cls, some d.name) = d.val) (c : d.ok K = true) : ∃ fd, FunS K d.name d.qual d.st (d.dvs K) (d.kws K) (He.ga K d.cls) (He.fAd K (d.cls, some d.name)) fd := by
  obtain ⟨kp, c⟩ := He.ba c
  unfold fnV at e
  split at c
  · rename_i oc od fd osl q
    rw [q] at e
    obtain ⟨c1, c⟩ := He.ba c
    obtain ⟨c2, c⟩ := He.ba c
    obtain ⟨c3, c⟩ := He.ba c
    obtain ⟨c4, c5⟩ := He.ba c
    obtain ⟨cda, ccl, cdd, vs, sl, tf, e1, e2, e3⟩ := file_ok c4
    split at c5
    · rename_i y cc hcl
      obtain ⟨cl, cld, csl, hc⟩ := cell_ok c5
      obtain ⟨n1, n2, n3, n4, n5, n6, n7, n8, n9, n10, n11, n12, n13, n14, n15⟩ := fd
      simp only at e hcl e1 c1 c2 c3
      subst hcl e1
      simp only [DefS.val, List.map_cons, List.map_nil, Option.some.injEq, Prod.mk.injEq, List.cons.injEq, and_true] at e
      obtain ⟨f1, f2, f3, f4, f5, f6, f7, f8⟩ := e
      subst f1 f2 f3 f4 f5 f6 f7 f8
      exact ⟨_, ⟨oc, od, n8, n9, n10, n11, n12, cda, n14, osl, cc, cl, cld, csl, rfl, q, c1, He.dflB_ok c2, He.kwdB_ok c3, hc, ccl, cdd, vs, sl, tf, e2, e3⟩, kp⟩
    · cases c5
  · cases c
/-! ### the Hook -/
def asE (g : Addr → Option Obj) : Nat → List Addr
  | 0 => [mainGlobals, cStatics]
  | n + 1 => He.growD g (asE g n)
abbrev AlE : Type := He.AlD × (Bool × List FnV)
def obsE (fa : List He.Fa) (fn : List He.DefD) (xa : List Xa) (fs : List DefS) (K : PySem.W.Frag) : AlE := (He.obsD fa fn K, ((xa.all fun a => a.ok K) && fs.all fun d => d.ok K, fs.map fun d => fnV K (d.cls, some d.name)))
def valE (fn : List He.DefD) (fs : List DefS) : AlE := (He.valD fn, (true, fs.map DefS.val))
def SaysE (fa : List He.Fa) (fn : List He.DefD) (xa : List Xa) (fs : List DefS) (K : PySem.W.Frag) : Prop := obsE fa fn xa fs K = valE fn fs
def obsEG (n : Nat) (fa : List He.Fa) (fn : List He.DefD) (xa : List Xa) (fs : List DefS) (g : Addr → Option Obj) : AlE := obsE fa fn xa fs (He.frG g (asE g n))
def hookE (n : Nat) (fa : List He.Fa) (fn : List He.DefD) (xa : List Xa) (fs : List DefS) : PySem.W.Hook where
  α := AlE
  obs := fun s => obsEG n fa fn xa fs s.heap.get?
  val := fun _ => valE fn fs
  says := fun _ h => ∃ K : PySem.W.Frag, K.In h ∧ SaysE fa fn xa fs K
  of := fun _ _ e => ⟨_, He.frG_in, e⟩
  keeps := fun _ _ _ ⟨K, hK, c⟩ k => ⟨K, PySem.W.Frag.In.keeps hK k, c⟩
theorem obsEG_eq {n : Nat} {fa : List He.Fa} {fn : List He.DefD} {xa : List Xa} {fs : List DefS} {g : Addr → Option Obj} {s : Shared} (h : ∀ a, g a = s.heap.get? a) : obsEG n fa fn xa fs g = (hookE n fa fn xa fs).obs s := by
  cases (funext h : g = s.heap.get?)
  rfl
section
variable {fa : List He.Fa} {fn : List He.DefD} {xa : List Xa} {fs : List DefS} {K : PySem.W.Frag}
theorem SaysE.base (c : SaysE fa fn xa fs K) : He.SaysD fa fn K := congrArg Prod.fst c
theorem SaysE.own (c : SaysE fa fn xa fs K) (i : Nat) {a : Xa} (h : xa[i]? = some a := by rfl) : a.ok K = true :=
  List.all_eq_true.mp (He.ba (show ((xa.all fun a => a.ok K) && fs.all fun d => d.ok K) = true from congrArg (fun z : AlE => z.2.1) c)).1 a (List.mem_of_getElem? h)
theorem SaysE.sdef (c : SaysE fa fn xa fs K) (i : Nat) {d : DefS} (h : fs[i]? = some d := by rfl) : ∃ fd, FunS K d.name d.qual d.st (d.dvs K) (d.kws K) (He.ga K d.cls) (He.fAd K (d.cls, some d.name)) fd := by
  have ok := List.all_eq_true.mp (He.ba (show ((xa.all fun a => a.ok K) && fs.all fun d => d.ok K) = true from congrArg (fun z : AlE => z.2.1) c)).2 d (List.mem_of_getElem? h)
  have e : (fs.map fun d => fnV K (d.cls, some d.name))[i]? = (fs.map DefS.val)[i]? := congrArg (fun z : AlE => z.2.2[i]?) c
  rw [List.getElem?_map, List.getElem?_map, h] at e
  exact DefS.funS (Option.some.inj e) ok
end
end Rd
/-! Fx: what the head tells, defs and own exceptions by name. -/
namespace Rd
open PySem PySem.Spec PyProof.Rows L2
structure Tx (fa : List He.Fa) (fn : List He.DefD) (xa : List Xa) (fs : List DefS) (P : Program) (K : PySem.W.Frag) (mg : Str → Option Value) : Prop where
  all : SaysE fa fn xa fs K
  hh : ∃ h : Heap, K.In h ∧ h.Ns mainGlobals mg
  file : ((P.main.file : Str) == ("/claim/cut.py" : Str)) = true
  nosup : (P.main.scope.names.lookup ("super" : Str)).isSome = false
section
variable {fa : List He.Fa} {fn : List He.DefD} {xa : List Xa} {fs : List DefS} {P : Program} {K : PySem.W.Frag} {mg : Str → Option Value}
theorem Tx.says (T : Tx fa fn xa fs P K mg) : He.SaysD fa fn K := T.all.base
theorem Tx.glo (T : Tx fa fn xa fs P K mg) (i : Nat) {x : Str} (h : fa[i]? = some (.glo x) := by rfl) : mg x = some (.ref (He.ga K x)) := by
  obtain ⟨_, X, G⟩ := T.hh
  exact He.glo_ok X G (T.says.fact i h)
theorem Tx.free (T : Tx fa fn xa fs P K mg) (i : Nat) {x : Str} (h : fa[i]? = some (.free x) := by rfl) : mg x = none := by
  obtain ⟨_, X, G⟩ := T.hh
  exact He.free_ok X G (T.says.fact i h)
theorem Tx.int (T : Tx fa fn xa fs P K mg) (i : Nat) {x : Str} {n : Int} (h : fa[i]? = some (.int x n) := by rfl) : ∃ t, mg x = some (.int n t) := by
  obtain ⟨_, X, G⟩ := T.hh
  exact He.int_ok X G (T.says.fact i h)
theorem Tx.str (T : Tx fa fn xa fs P K mg) (i : Nat) {x z : Str} (h : fa[i]? = some (.str x z) := by rfl) : ∃ t, mg x = some (.str z t) := by
  obtain ⟨_, X, G⟩ := T.hh
  exact He.str_ok X G (T.says.fact i h)
theorem Tx.noat (T : Tx fa fn xa fs P K mg) (i : Nat) {x f : Str} (h : fa[i]? = some (.noat x f) := by rfl) : NoAttr K (He.ga K x) f := He.eqO_ok (T.says.fact i h)
theorem Tx.cls (T : Tx fa fn xa fs P K mg) (i : Nat) {x : Str} (h : fa[i]? = some (.cls x) := by rfl) : Cls K (He.ga K x) := by
  obtain ⟨a, r⟩ := He.ba (T.says.fact i h)
  obtain ⟨b, r⟩ := He.ba r
  obtain ⟨c, d⟩ := He.ba r
  exact ⟨a, b, c, He.eqO_ok d⟩
theorem Tx.meth (T : Tx fa fn xa fs P K mg) (i : Nat) {x m : Str} (h : fa[i]? = some (.meth x m) := by rfl) : Meth K (He.ga K x) m (He.ma K (He.ga K x) m) := by
  obtain ⟨a, r⟩ := He.ba (T.says.fact i h)
  obtain ⟨b, c⟩ := He.ba r
  exact ⟨He.eqO_ok a, b, c⟩
theorem Tx.mkr (T : Tx fa fn xa fs P K mg) (i : Nat) {x : Str} (h : fa[i]? = some (.mkr x) := by rfl) : Mk K (He.ga K x) (He.ma K (He.ga K x) "__init__") := by
  obtain ⟨a, r⟩ := He.ba (T.says.fact i h)
  obtain ⟨b, r⟩ := He.ba r
  obtain ⟨c, d⟩ := He.ba r
  exact ⟨a, He.eqO_ok b, c, d⟩
theorem Tx.exc (T : Tx fa fn xa fs P K mg) (i : Nat) {x : Str} (h : xa[i]? = some (.exc x) := by rfl) : ExcT K x := exc_ok (T.all.own i h)
theorem Tx.kit (T : Tx fa fn xa fs P K mg) (i : Nat) {x y : Str} {b : Bool} (h : xa[i]? = some (.kit x y b) := by rfl) : PySem.W.kitOne K (.ref (He.ga K x)) (.ref (He.ga K y)) = some b := of_decide_eq_true (T.all.own i h)
theorem Tx.kitT (T : Tx fa fn xa fs P K mg) (i : Nat) {x : Str} {t : String} {b : Bool} (h : xa[i]? = some (.kitT x t b) := by rfl) : PySem.W.kitOne K (.ref (He.ga K x)) (.type t) = some b := of_decide_eq_true (T.all.own i h)
theorem Tx.tkit (T : Tx fa fn xa fs P K mg) (i : Nat) {y : Str} {t : String} {b : Bool} (h : xa[i]? = some (.tkit t y b) := by rfl) : PySem.W.kitOne K (.type t) (.ref (He.ga K y)) = some b := of_decide_eq_true (T.all.own i h)
theorem Tx.exm (T : Tx fa fn xa fs P K mg) (i : Nat) {x y : Str} {b : Bool} (h : xa[i]? = some (.exm x y b) := by rfl) : PySem.W.exmOne K (.ref (He.ga K x)) (.ref (He.ga K y)) = some b := of_decide_eq_true (T.all.own i h)
theorem Tx.inst (T : Tx fa fn xa fs P K mg) (i : Nat) {x : Str} (h : xa[i]? = some (.inst x) := by rfl) (c : Cls K (He.ga K x)) {H : Hp} {a dx : Addr} {l : List (Str × V)} (e : H a = some (.ins (He.ga K x) dx l)) : TyX K H (.ref a) (.ref (He.ga K x)) := by
  obtain ⟨a1, r⟩ := He.ba (T.all.own i h)
  obtain ⟨a2, r⟩ := He.ba r
  obtain ⟨a3, a4⟩ := He.ba r
  exact .base (.ins e c (He.eqO_ok a1) (He.eqO_ok a2) (of_decide_eq_true a3) (of_decide_eq_true a4))
end
/-- a def of the module by its name -/
structure FnG (P : Program) (w : World) (K : PySem.W.Frag) (mg : Str → Option Value) (base : Heap) (CX : CXT) (k : Nat) (x : Str) (ps : List Str) (sp : Sp) : Prop where
  ex : ∃ f fd, mg x = some (.ref f) ∧ PySem.W.keepIn K (.ref f) = true ∧ FnOk P w K mg base CX k f fd ps sp ∧ Binds K fd ps []
/-- a method of a class -/
structure MtG (P : Program) (w : World) (K : PySem.W.Frag) (mg : Str → Option Value) (base : Heap) (CX : CXT) (k : Nat) (C : Addr) (m : Str) (ps : List Str) (sp : Sp) : Prop where
  ex : ∃ f fd, Meth K C m f ∧ FnOk P w K mg base CX k f fd ps sp ∧ Binds K fd ps []
  cls : Cls K C
/-- a class that is made by its __init__, the defaults dvs filling up -/
structure MkG (P : Program) (w : World) (K : PySem.W.Frag) (mg : Str → Option Value) (base : Heap) (CX : CXT) (k : Nat) (x : Str) (ps : List Str) (dvs : List V) (sp : Sp) : Prop where
  ex : ∃ f fd ds, mg x = some (.ref (He.ga K x)) ∧ Mk K (He.ga K x) f ∧ FnOk P w K mg base CX k f fd ps sp ∧ Binds K fd ps ds ∧ Vals dvs ds
/-- an own exception that may be raised -/
structure ExcG (P : Program) (w : World) (K : PySem.W.Frag) (mg : Str → Option Value) (base : Heap) (k : Nat) (x : Str) (ps : List Str) (sp : Sp) : Prop where
  ex : ∃ fd, mg x = some (.ref (He.ga K x)) ∧ ExcT K x ∧ FnOk P w K mg base CX0 k (iAd K x) fd ps sp ∧ Binds K fd ps []
section
variable {X : Cx} {x : Str} {p pos apos : Pos} {k : Nat} {ps : List Str} {sp : Sp} {e o : Expr} {es : List Expr} {t : TA} {ta : TE} {CX : CXT} {E : XK} {dvs : List V} {C : Addr} {m : Str}
theorem pe_gint {i : Int} (h : ∃ t, X.mg x = some (.int i t)) (hg : Gl X x) (hd : (x == ("__debug__" : Str)) = false := by decide) : PE X (.Name x pos) (tC (.int i)) := by
  obtain ⟨t, h⟩ := h
  exact pe_glob hg h ⟨t, rfl⟩ hd
theorem pe_gstr {z : Str} (h : ∃ t, X.mg x = some (.str z t)) (hg : Gl X x) (hd : (x == ("__debug__" : Str)) = false := by decide) : PE X (.Name x pos) (tC (.str z)) := by
  obtain ⟨t, h⟩ := h
  exact pe_glob hg h ⟨t, rfl⟩ hd
theorem pe_cgE (F : FnG X.prog X.w X.K X.mg X.base CX k x ps sp) (hr : Room k X.A) (hg : Gl X x) (hx : Passes CX X E) (ha : PA X (e :: es) t) (h1 : (x == ("__debug__" : Str)) = false := by decide) (h2 : starEach (e :: es) X.env = (false, eval e X.env) :: starEach es X.env := by rfl) (h3 : (backTo pos (starEach es X.env)).any (·.1) = false := by rfl) : PE X (.Call (.Name x p) (e :: es) [] pos) (tCall sp [] E t) := by
  obtain ⟨f, fd, a, b, c, d⟩ := F.ex
  exact pe_call c hr hg a b d .nil hx ha h1 h2 h3
theorem pe_cg (F : FnG X.prog X.w X.K X.mg X.base CX0 k x ps sp) (hr : Room k X.A) (hg : Gl X x) (ha : PA X (e :: es) t) (h1 : (x == ("__debug__" : Str)) = false := by decide) (h2 : starEach (e :: es) X.env = (false, eval e X.env) :: starEach es X.env := by rfl) (h3 : (backTo pos (starEach es X.env)).any (·.1) = false := by rfl) : PE X (.Call (.Name x p) (e :: es) [] pos) (tCall sp [] E0 t) := pe_cgE F hr hg pass0 ha h1 h2 h3
theorem pe_mkE (F : MkG X.prog X.w X.K X.mg X.base CX k x ps dvs sp) (hr : Room (k + 1) X.A) (hg : Gl X x) (hx : Passes CX X E) (ha : PA X (e :: es) t) (h1 : (x == ("__debug__" : Str)) = false := by decide) (h2 : starEach (e :: es) X.env = (false, eval e X.env) :: starEach es X.env := by rfl) (h3 : (backTo pos (starEach es X.env)).any (·.1) = false := by rfl) : PE X (.Call (.Name x p) (e :: es) [] pos) (tMake (He.ga X.K x) sp dvs E t) := by
  obtain ⟨f, fd, ds, a, b, c, d, v⟩ := F.ex
  exact pe_make b c hr hg a d v hx ha h1 h2 h3
theorem pmk_g (G : ExcG X.prog X.w X.K X.mg X.base k x ps sp) (hr : Room (k + 1) X.A) (hg : Gl X x) (ha : PA X (e :: es) t) (h1 : (x == ("__debug__" : Str)) = false := by decide) (h2 : starEach (e :: es) X.env = (false, eval e X.env) :: starEach es X.env := by rfl) (h3 : (backTo pos (starEach es X.env)).any (·.1) = false := by rfl) : PMk X (.Call (.Name x p) (e :: es) [] pos) (tMkO (He.ga X.K x) sp [] t) := by
  obtain ⟨fd, a, T, F, b⟩ := G.ex
  exact pmk_oex T.oex T.ini T.fn F hr b .nil (fun _ _ _ _ _ _ _ z => z.elim) hg a ha h1 h2 h3
end
/-! ### the scope without __class__ -/
def notCn (y : Str × NameKind) : Bool := !decide (y.1 = ("__class__" : Str))
def noCls (sc : Scope) : Scope := { sc with names := sc.names.filter notCn }
theorem lookup_rest {x : Str} (h : x ≠ "__class__") : ∀ l : List (Str × NameKind), l.lookup x = (l.filter notCn).lookup x
  | [] => rfl
  | (a, b) :: r => by
    by_cases e : a = "__class__"
    · have hx : (x == a) = false := beq_eq_false_iff_ne.mpr (e ▸ h)
      rw [List.filter_cons_of_neg (by simp [notCn, e]), List.lookup_cons, hx]
      exact lookup_rest h r
    · rw [List.filter_cons_of_pos (by simp [notCn, e]), List.lookup_cons, List.lookup_cons, lookup_rest h r]
theorem cls_scope {N P : List Str} {sc : Scope} (b : FnScope N P (noCls sc)) (c : ∀ y ∈ sc.names, y.2 ≠ .cell) (z : ∀ n : Nat, cellsFrom n (noCls sc).names [] = []) (f : sc.names.lookup ("__class__" : Str) = some NameKind.free) (o : ("__class__" : Str) ∉ N) (p : ∀ x ∈ P, x ∈ N) : ClsScope N P sc (noCls sc) :=
  ⟨b, b.kind, b.co, b.gen, c, fun y hy => c y (List.mem_filter.mp hy).1, z, fun x hx => lookup_rest hx _, f, o, p⟩
/-! ### the own exceptions of one and of two fields -/
section
variable {fa : List He.Fa} {fn : List He.DefD} {xa : List Xa} {fs : List DefS} {P : Program} {w : World} {K : PySem.W.Frag} {mg : Str → Option Value} {base : Heap} {x qual self y z f g : Str} {st : Stmt} {fd : FuncData} {txt : Str} {j : Nat} {p0 p1 p2 p3 p4 p5 q1 q2 q3 q4 q5 q6 q7 q8 : Pos}
theorem sup_at {cda : Addr} {oc : Value} {od : Option Addr} {osl : Array (Option Value)} {F : Addr} {ar : Arg} {ccl : Value} {cdd : Option Addr} {vs : Array Value} {sl : Array (Option Value)} {tf : Tok} (T : Tx fa fn xa fs P K mg) (hs : mg "super" = none) (lk : K.lookup F = some ⟨oc, od, .func fd, osl⟩) (hp : (fd.params.posonlyargs ++ fd.params.args).head? = some ar)
    (lc : K.lookup cda = some ⟨ccl, cdd, .fields vs, sl⟩) (hv : vs[2]? = some (.str "/claim/cut.py" tf)) (hh : (defScope st).names.lookup ("super" : Str) = some NameKind.globalImplicit) : SupAt P K mg (defScope st) F cda ar.arg :=
  ⟨⟨oc, od, fd, osl, ar, lk, hp, rfl⟩, ⟨ccl, cdd, vs, sl, _, tf, lc, hv, T.file⟩, T.nosup, hs, hh⟩
theorem exc_one {ar : Arg} (T : Tx fa fn xa fs P K mg) (hs : mg "super" = none) (hm : mg x = some (.ref (He.ga K x))) (X : ExcT K x) (F : FunS K "__init__" qual st [] [] (He.ga K x) (iAd K x) fd) (na : NoAttr K (He.ga K x) f)
    (hb : defBody st = [.Expr (supCall txt j p0 p1 p2 p3 p4) p5, .Assign [.Attribute (.Name self q1) f q2] (.Name y q3) q4]) (ha : ((defArgs st).posonlyargs ++ (defArgs st).args).head? = some ar) (har : ar.arg = self)
    (S : ClsScope [self, y] [self, y] (defScope st) (noCls (defScope st))) (hl : ∀ v ∈ [self, y], (defScope st).names.lookup v = some .local) (hh : (defScope st).names.lookup ("super" : Str) = some NameKind.globalImplicit) (nd : (self == ("__debug__" : Str)) = false ∧ (y == ("__debug__" : Str)) = false) (ndc : self ≠ "__classdict__" ∧ y ≠ "__classdict__") (nc : self ≠ "__class__" ∧ y ≠ "__class__")
    (go : ∀ L ff cda cc, GoesSup (cenv qual (defScope st) L ff (.ref cda) cc) txt j p0 p1 p2 p3 p4) (hsw : ∀ L ff cda cc, swapsWith (supCall txt j p0 p1 p2 p3 p4) none p5.line (cenv qual (defScope st) L ff (.ref cda) cc) = pure false)
    (hsy : ∀ L ff cda cc, swapsWith (.Name y q3) (some (.Attribute (.Name self q1) f q2)) q4.line (cenv qual (defScope st) L ff (.ref cda) cc) = pure false)
    (hbind : ∀ (kV doc pm : Value) (an : Option Addr) (cda : Addr) (ct : Value) (cc : Addr) (us : List Value), us.length = 2 → bindArgs (PySem.W.ksFn "__init__" qual (defArgs st) (defBody st) (defScope st) .none kV doc pm an (.ref cda) ct cc) ⟨us, []⟩ = pure ([self, y].zip us)) :
    ExcG P w K mg base 1 x [self, y] (spX1 (He.ga K x) f) := by
  obtain ⟨oc, od, dV, kV, doc, pm, an, cda, ct, osl, cc, cl, cld, csl, rfl, lk, hcd, hd, _, lc, ccl, cdd, vs, sl, tf, e2, e3⟩ := F.ex
  have U : SupAt P K mg (defScope st) (iAd K x) cda ar.arg := sup_at T hs lk ha e2 e3 hh
  rw [har] at U
  have edV : dV = .none := by rcases hd with ⟨_, e⟩ | ⟨e, _⟩; exact e; exact absurd rfl e
  subst edV
  have B := Binds.all (K := K) (fun us hu => hbind kV doc pm an cda ct cc us hu)
  have hl0 : ∀ v ∈ [self, y], (noCls (defScope st)).names.lookup v = some .local := fun v hv => by
    have hne : v ≠ "__class__" := by
      rcases List.mem_cons.mp hv with rfl | hv
      · exact nc.1
      · cases List.mem_singleton.mp hv; exact nc.2
    exact (S.same v hne).symm.trans (hl v hv)
  refine ⟨_, hm, X, ?_, B⟩
  rw [hb] at lk ⊢
  refine fn_exc (k := 0) lk hcd lc S (fun vs H Q E h => ?_) (fun v hv => ⟨hl v hv, hl0 v hv⟩) U X.sup rfl (hl self List.mem_cons_self) (fun L => go L _ _ _) (fun L => hsw L _ _ _) (fun vs H Q E h => ?_) (fun A outer s H vs Q E hr h => ?_)
  · obtain ⟨a, v, rfl, _⟩ := h; rfl
  · obtain ⟨a, v, rfl, e, _⟩ := h; exact ⟨a, _, rfl, e⟩
  · obtain ⟨a, v, rfl, e, hQ⟩ := h
    have v0 : Vis (defScope st) self := .inl (hl self List.mem_cons_self)
    have v1 : Vis (defScope st) y := .inl (hl y (by simp))
    refine ⟨_, pss_one (ps_ost (pe_var (i := 0) rfl v0 nd.1 (beq_eq_false_iff_ne.mpr ndc.1)) (pe_var (i := 1) rfl v1 nd.2 (beq_eq_false_iff_ne.mpr ndc.2)) (hsy _ _ _ _)), ?_⟩
    exact ⟨v, rfl, .ref a, rfl, a, He.ga K x, rfl, X.oex, na, .inl ⟨e, fun d h1 h2 => hQ d h1 h2⟩⟩
end
end Rd
/-! Bi: built-ins by named readings. -/
namespace Rd
open PySem PySem.Spec PyProof.Rows L2
/-! readings of our own shape, by the form of the arguments -/
def rInt1 : List V → Hp → VK → Prop := fun xs H Q => match xs with
  | [.int n] => Q (.int n) H
  | _ => False
def rLen (K : PySem.W.Frag) : List V → Hp → VK → Prop := fun xs H Q => match xs with
  | [v] => ∃ n, LenV K v H n ∧ Q (.int n) H
  | _ => False
/-- at p a list or a tuple of ys is to be read -/
def SqA (K : PySem.W.Frag) (H : Hp) (p : Addr) (ys : List V) : Prop := SqL K H p ys ∨ SqT K H p ys
def rList (K : PySem.W.Frag) : List V → Hp → VK → Prop := fun xs H Q => match xs with
  | [.ref p] => ∃ ys, SqA K H p ys ∧ ∀ l, H l = none → Q (.ref l) (upd H l (.lst ys))
  | _ => False
def rTuple (K : PySem.W.Frag) : List V → Hp → VK → Prop := fun xs H Q => match xs with
  | [.ref p] => (∃ ys, SqL K H p ys ∧ ∀ l, H l = none → Q (.ref l) (upd H l (.tup ys))) ∨ ((∃ ys, SqT K H p ys) ∧ Q (.ref p) H)
  | _ => False
def rTwo (g : Int → Int → Int) : List V → Hp → VK → Prop := fun xs H Q => match xs with
  | [.int a, .int b] => Q (.int (g a b)) H
  | _ => False
def rOne (g : Int → Int) : List V → Hp → VK → Prop := fun xs H Q => match xs with
  | [.int a] => Q (.int (g a)) H
  | _ => False
section
variable {X : Cx}
theorem cInt : CallR X (.type "int") rInt1 := by
  intro pins s σ H xs us Q I r h
  unfold rInt1 at h
  split at h
  · exact call_int1 pins s σ H _ us Q I r (.inl ⟨_, rfl, h⟩)
  · exact h.elim
theorem cLen : CallR X (.builtin "len") (rLen X.K) := by
  intro pins s σ H xs us Q I r h
  unfold rLen at h
  split at h
  · obtain ⟨n, hl, hq⟩ := h
    exact call_len pins s σ H _ us Q I r ⟨_, n, rfl, hl, hq⟩
  · exact h.elim
theorem cList : CallR X (.type "list") (rList X.K) := by
  intro pins s σ H xs us Q I r h
  unfold rList at h
  split at h
  · obtain ⟨ys, hl, hq⟩ := h
    exact call_list_of pins s σ H _ us Q I r ⟨_, ys, rfl, hl, hq⟩
  · exact h.elim
theorem cTuple : CallR X (.type "tuple") (rTuple X.K) := by
  intro pins s σ H xs us Q I r h
  unfold rTuple at h
  split at h
  · rcases h with ⟨ys, hl, hq⟩ | ⟨⟨ys, hl⟩, hq⟩
    · exact call_tuple_of pins s σ H _ us Q I r ⟨_, ys, rfl, .inl ⟨hl, hq⟩⟩
    · exact call_tuple_of pins s σ H _ us Q I r ⟨_, ys, rfl, .inr ⟨hl, hq⟩⟩
  · exact h.elim
theorem cMax2 (hc : X.calm = true) : CallR X (.builtin "max") (rTwo max) := by
  intro pins s σ H xs us Q I r h
  unfold rTwo at h
  split at h
  · rename_i a b
    refine call_max2 hc pins s σ H _ us Q I r ⟨a, b, rfl, ?_⟩
    rw [show (if b > a then b else a) = max a b by split <;> omega]
    exact h
  · exact h.elim
theorem cMin2 (hc : X.calm = true) : CallR X (.builtin "min") (rTwo min) := by
  intro pins s σ H xs us Q I r h
  unfold rTwo at h
  split at h
  · rename_i a b
    refine call_min2 hc pins s σ H _ us Q I r ⟨a, b, rfl, ?_⟩
    rw [show (if b < a then b else a) = min a b by split <;> omega]
    exact h
  · exact h.elim
def absI (a : Int) : Int := if a < 0 then -a else a
theorem cAbs : CallR X (.builtin "abs") (rOne absI) := by
  intro pins s σ H xs us Q I r h
  unfold rOne at h
  split at h
  · exact call_abs pins s σ H _ us Q I r ⟨_, rfl, h⟩
  · exact h.elim
end
section
variable {K : PySem.W.Frag} {H : Hp} {Q : VK} {i j : Int} {xs ys : List V} {p : Addr} {x v : V} {b : Bool}
theorem w_int (h : Q (.int i) H) : rInt1 [.int i] H Q := h
theorem w_lenL (hs : SqL K H p xs) (h : Q (.int xs.length) H) : rLen K [.ref p] H Q := ⟨xs.length, .inl ⟨xs, hs, rfl⟩, h⟩
theorem w_lenT (hs : SqT K H p xs) (h : Q (.int xs.length) H) : rLen K [.ref p] H Q := ⟨xs.length, .inr ⟨xs, hs, rfl⟩, h⟩
theorem w_lenS {s : Str} (hl : s.length ≤ sizeLine) (h : Q (.int s.length) H) : rLen K [.str s] H Q := ⟨s.length, ⟨hl, rfl⟩, h⟩
theorem w_listL (hs : SqL K H p ys) (h : ∀ l, H l = none → Q (.ref l) (upd H l (.lst ys))) : rList K [.ref p] H Q := ⟨ys, .inl hs, h⟩
theorem w_listT (hs : SqT K H p ys) (h : ∀ l, H l = none → Q (.ref l) (upd H l (.lst ys))) : rList K [.ref p] H Q := ⟨ys, .inr hs, h⟩
theorem w_tupL (hs : SqL K H p ys) (h : ∀ l, H l = none → Q (.ref l) (upd H l (.tup ys))) : rTuple K [.ref p] H Q := .inl ⟨ys, hs, h⟩
theorem w_tupT (hs : SqT K H p ys) (h : Q (.ref p) H) : rTuple K [.ref p] H Q := .inr ⟨⟨ys, hs⟩, h⟩
theorem w_two {g : Int → Int → Int} (h : Q (.int (g i j)) H) : rTwo g [.int i, .int j] H Q := h
theorem w_one {g : Int → Int} (h : Q (.int (g i)) H) : rOne g [.int i] H Q := h
theorem w_ixL (hs : SqL K H p xs) (ha : atI xs i = some v) (h : Q v H) : rIx K (.ref p) (.int i) H Q := .inl ⟨p, xs, i, v, rfl, rfl, hs, ha, h⟩
theorem w_ixT (hs : SqT K H p xs) (ha : atI xs i = some v) (h : Q v H) : rIx K (.ref p) (.int i) H Q := .inr (.inl ⟨p, xs, i, v, rfl, rfl, hs, ha, h⟩)
theorem w_ixS {s : Str} {c : Nat} (hl : s.length ≤ sizeLine) (ha : atI s.cps.toList i = some c) (h : Q (.str ⟨#[c]⟩) H) : rIx K (.str s) (.int i) H Q := .inr (.inr ⟨s, i, c, rfl, rfl, hl, ha, h⟩)
theorem atI_of {α : Type} {l : List α} {k : Int} {x : α} (h0 : 0 ≤ k) (h : l[k.toNat]? = some x) : atI l k = some x := by
  have hk : k < l.length := by
    have := List.getElem?_eq_some_iff.mp h
    obtain ⟨q, _⟩ := this
    omega
  unfold atI ixN
  rw [if_pos h0, if_pos hk]
  exact h
theorem atI_ints {ns : List Int} {k : Int} (h0 : 0 ≤ k) (h1 : k < ns.length) : atI (ns.map V.int) k = some (.int (ns.getD k.toNat 0)) := by
  refine atI_of h0 ?_
  have hk : k.toNat < ns.length := by omega
  rw [List.getElem?_map, List.getElem?_eq_getElem hk, List.getD_eq_getElem?_getD, List.getElem?_eq_getElem hk]
  rfl
theorem w_lenM {ns : List Int} (hs : SqL K H p (ns.map V.int)) (h : Q (.int ns.length) H) : rLen K [.ref p] H Q := w_lenL hs (by rw [List.length_map]; exact h)
theorem w_lenMT {ns : List Int} (hs : SqT K H p (ns.map V.int)) (h : Q (.int ns.length) H) : rLen K [.ref p] H Q := w_lenT hs (by rw [List.length_map]; exact h)
theorem w_ixM {ns : List Int} (hs : SqL K H p (ns.map V.int)) (h0 : 0 ≤ i) (h1 : i < ns.length) (h : Q (.int (ns.getD i.toNat 0)) H) : rIx K (.ref p) (.int i) H Q := w_ixL hs (atI_ints h0 h1) h
theorem w_ixMT {ns : List Int} (hs : SqT K H p (ns.map V.int)) (h0 : 0 ≤ i) (h1 : i < ns.length) (h : Q (.int (ns.getD i.toNat 0)) H) : rIx K (.ref p) (.int i) H Q := w_ixT hs (atI_ints h0 h1) h
theorem w_isi_int (h : Q (.bl true) H) : uIsi K [.int i, .ty "int"] H Q := .inl ⟨_, _, _, _, true, rfl, .ty _, .base (.int i), kit_ty (by decide +kernel), h⟩
theorem w_isi_bool (h : Q (.bl false) H) : uIsi K [.int i, .ty "bool"] H Q := .inl ⟨_, _, _, _, false, rfl, .ty _, .base (.int i), kit_ty (by decide +kernel), h⟩
theorem w_isi_own {a C D : Addr} {b : Bool} (hc : TyX K H (.ref a) (.ref C)) (e : PySem.W.kitOne K (.ref C) (.ref D) = some b) (h : Q (.bl b) H) : uIsi K [.ref a, .ref D] H Q := .inl ⟨_, _, _, _, b, rfl, .own _, hc, e, h⟩
theorem w_isi_none {D : Addr} {b : Bool} (e : PySem.W.kitOne K (.type "NoneType") (.ref D) = some b) (h : Q (.bl b) H) : uIsi K [.non, .ref D] H Q := .inl ⟨_, _, _, _, b, rfl, .own _, .base .non, e, h⟩
theorem w_isx {a D C : Addr} {fs : Option (List (Str × V))} {b : Bool} (hx : XcAt H a D fs) (c : ExcC K D) (e : PySem.W.kitOne K (.ref D) (.ref C) = some b) (h : Q (.bl b) H) : uIsi K [.ref a, .ref C] H Q := .inr ⟨D, fs, _, b, hx, c, .own _, e, h⟩
theorem w_isxT {a D : Addr} {t : String} {fs : Option (List (Str × V))} {b : Bool} (hx : XcAt H a D fs) (c : ExcC K D) (e : PySem.W.kitOne K (.ref D) (.type t) = some b) (h : Q (.bl b) H) : uIsi K [.ref a, .ty t] H Q := .inr ⟨D, fs, _, b, hx, c, .ty _, e, h⟩
/-- none of the classes -/
def NoneOf (K : PySem.W.Frag) (D : Addr) : List Addr → Prop
  | [] => True
  | C :: r => PySem.W.kitOne K (.ref D) (.ref C) = some false ∧ NoneOf K D r
theorem NoneOf.any {D : Addr} : ∀ {Cs : List Addr}, NoneOf K D Cs → PySem.W.kitAny K (.ref D) (Cs.map Value.ref) = some false
  | [], _ => rfl
  | _ :: _, h => kitAny_cons h.1 (fun _ => NoneOf.any h.2) (fun z => nomatch z)
theorem pairedR : ∀ Cs : List Addr, Paired ClsV (Cs.map V.ref) (Cs.map Value.ref)
  | [] => .nil
  | _ :: r => .cons (.own _) (pairedR r)
theorem w_isxs {a D tp : Addr} {fs : Option (List (Str × V))} (Cs : List Addr) (hx : XcAt H a D fs) (c : ExcC K D) (ht : H tp = some (.tup (Cs.map V.ref))) (e : NoneOf K D Cs) (h : Q (.bl false) H) : uIsiT K [.ref a, .ref tp] H Q := .inr ⟨D, fs, _, _, false, hx, c, ht, pairedR Cs, e.any, h⟩
end
end Rd
/-! Pool: the law's own drawing, by what it promises. -/
namespace Rd
open PySem PySem.Spec PyProof.Rows L2
/-- all but p stands -/
def Grow (p : Addr) (H H' : Hp) : Prop := ∀ a o, a ≠ p → H a = some o → H' a = some o
theorem Grow.refl {p : Addr} {H : Hp} : Grow p H H := fun _ _ _ h => h
theorem Grow.trans {p : Addr} {H H1 H2 : Hp} (a : Grow p H H1) (b : Grow p H1 H2) : Grow p H H2 := fun x o n h => b x o n (a x o n h)
theorem Grow.put {p : Addr} {H : Hp} {o : HO} : Grow p H (upd H p o) := fun a u n h => by rw [upd_ne n]; exact h
theorem Grow.new {p q : Addr} {H : Hp} {o : HO} (hq : H q = none) : Grow p H (upd H q o) := fun a u _ h => by rw [upd_ne (ne_of_none h hq)]; exact h
def PoolL (q : Addr) (l : List V) : Prop := ∃ a b c s : Int, l = [.int a, .int b, .int c, .int s, .ref q] ∧ 0 ≤ a ∧ 0 ≤ b ∧ 0 ≤ s ∧ s < 2147483647
def PoolAt (H : Hp) (p : Addr) : Prop := ∃ (q : Addr) (l : List V) (ns : List Int), H p = some (.lst l) ∧ PoolL q l ∧ H q = some (.lst (ns.map V.int)) ∧ q ≠ p
theorem PoolAt.keep {H H' : Hp} {p : Addr} (h : PoolAt H p) (g : ∀ a o, H a = some o → H' a = some o) : PoolAt H' p := by
  obtain ⟨q, l, ns, h1, h2, h3, h4⟩ := h
  exact ⟨q, l, ns, g _ _ h1, h2, g _ _ h3, h4⟩
theorem PoolAt.new {H : Hp} {p x : Addr} {o : HO} (h : PoolAt H p) (hx : H x = none) : PoolAt (upd H x o) p := h.keep fun a u e => by rw [upd_ne (ne_of_none e hx)]; exact e
theorem PoolAt.lst {H : Hp} {p : Addr} (h : PoolAt H p) : ∃ l, H p = some (.lst l) := by
  obtain ⟨q, l, ns, h1, _⟩ := h
  exact ⟨l, h1⟩
/-- p is the pool, H' is H but for the pool and what is new -/
structure Drawn (p : Addr) (H H' : Hp) : Prop where
  grow : Grow p H H'
  pool : PoolAt H' p
def Small (n : Int) : Prop := n ≤ 10 ^ 70
theorem small_of {n : Int} (h : n ≤ 10 ^ 60) : Small n := Int.le_trans h (by decide)
theorem Small.div {i n : Int} (h : Small n) (h0 : 0 < n) : CDivW i n := by
  refine wide_div h0 (b := 250) ?_ (by decide) (by decide)
  have h1 : n ≤ 10 ^ 70 := h
  have h2 : ((10 : Int) ^ 70).toNat < 2 ^ 250 := by decide
  have h3 : n.natAbs ≤ ((10 : Int) ^ 70).toNat := by omega
  exact Nat.lt_of_le_of_lt h3 h2
theorem drawn_put {H : Hp} {p q : Addr} {ns : List Int} {a b c s : Int} (h3 : H q = some (.lst (ns.map V.int))) (h4 : q ≠ p) (ha : 0 ≤ a) (hb : 0 ≤ b) (hs : 0 ≤ s) (hs1 : s < 2147483647) : Drawn p H (upd H p (.lst [.int a, .int b, .int c, .int s, .ref q])) :=
  ⟨Grow.put, ⟨q, _, ns, upd_same, ⟨a, b, c, s, rfl, ha, hb, hs, hs1⟩, by rw [upd_ne h4]; exact h3, h4⟩⟩
theorem Drawn.refl {p : Addr} {H : Hp} (h : PoolAt H p) : Drawn p H H := ⟨Grow.refl, h⟩
theorem Drawn.trans {p : Addr} {H H1 H2 : Hp} (a : Drawn p H H1) (b : Drawn p H1 H2) : Drawn p H H2 := ⟨a.grow.trans b.grow, b.pool⟩
theorem Drawn.new {p x : Addr} {H H1 : Hp} {o : HO} (a : Drawn p H H1) (hx : H1 x = none) : Drawn p H (upd H1 x o) := ⟨a.grow.trans (Grow.new hx), a.pool.new hx⟩
/-- a drawing def: the pool and further ints in, an int with P out -/
def spDraw (n : Nat) (pre : List Int → Prop) (post : List Int → Int → Prop) : Sp := fun vs H Q _ => ∃ (p : Addr) (is : List Int), vs = .ref p :: is.map V.int ∧ is.length = n ∧ pre is ∧ PoolAt H p ∧ ∀ d H', post is d → Drawn p H H' → Q (.int d) H'
def spPool (K : PySem.W.Frag) : Sp := fun vs H Q _ => ∃ (a : Addr) (ns : List Int), vs = [.ref a] ∧ SqL K H a (ns.map V.int) ∧ ∀ p H', H p = none → (∀ b o, H b = some o → H' b = some o) → PoolAt H' p → Q (.ref p) H'
def spTake : Sp := fun vs H Q _ => ∃ (p : Addr) (n : Int), vs = [.ref p, .int n] ∧ 0 < n ∧ Small n ∧ PoolAt H p ∧ ∀ d H', 0 ≤ d → d < n → Drawn p H H' → Q (.int d) H'
theorem use_take {p : Addr} {n : Int} {H : Hp} {Q : VK} {E : XK} (hp : PoolAt H p) (h0 : 0 < n) (hs : Small n) (h : ∀ d H', 0 ≤ d → d < n → Drawn p H H' → Q (.int d) H') : spTake [.ref p, .int n] H Q E := ⟨p, n, rfl, h0, hs, hp, h⟩
theorem len2 {α : Type} : ∀ {l : List α}, l.length = 2 → ∃ a b, l = [a, b]
  | [a, b], _ => ⟨a, b, rfl⟩
theorem spDraw_len {n : Nat} {pre : List Int → Prop} {post : List Int → Int → Prop} {vs : List V} {H : Hp} {Q : VK} {E : XK} (h : spDraw n pre post vs H Q E) : vs.length = n + 1 := by
  obtain ⟨p, is, rfl, hl, _⟩ := h
  rw [List.length_cons, List.length_map, hl]
theorem use_draw0 {pre : List Int → Prop} {post : List Int → Int → Prop} {p : Addr} {H : Hp} {Q : VK} {E : XK} (hp : PoolAt H p) (hpre : pre []) (h : ∀ d H', post [] d → Drawn p H H' → Q (.int d) H') : spDraw 0 pre post [.ref p] H Q E := ⟨p, [], rfl, rfl, hpre, hp, h⟩
theorem use_draw1 {pre : List Int → Prop} {post : List Int → Int → Prop} {p : Addr} {a : Int} {H : Hp} {Q : VK} {E : XK} (hp : PoolAt H p) (hpre : pre [a]) (h : ∀ d H', post [a] d → Drawn p H H' → Q (.int d) H') : spDraw 1 pre post [.ref p, .int a] H Q E := ⟨p, [a], rfl, rfl, hpre, hp, h⟩
theorem use_draw2 {pre : List Int → Prop} {post : List Int → Int → Prop} {p : Addr} {a b : Int} {H : Hp} {Q : VK} {E : XK} (hp : PoolAt H p) (hpre : pre [a, b]) (h : ∀ d H', post [a, b] d → Drawn p H H' → Q (.int d) H') : spDraw 2 pre post [.ref p, .int a, .int b] H Q E := ⟨p, [a, b], rfl, rfl, hpre, hp, h⟩
theorem PoolAt.ints {H : Hp} {p D : Addr} (h : PoolAt H p) (n : D ≠ p) (is : List Int) : PoolAt (upd H D (.lst (is.map V.int))) p := by
  obtain ⟨q, l, ns, h1, h2, h3, h4⟩ := h
  by_cases e : q = D
  · exact ⟨q, l, is, by rw [upd_ne (Ne.symm n)]; exact h1, h2, by rw [e, upd_same], h4⟩
  · exact ⟨q, l, ns, by rw [upd_ne (Ne.symm n)]; exact h1, h2, by rw [upd_ne e]; exact h3, h4⟩
theorem Drawn.ints {H H1 : Hp} {p D : Addr} (h : Drawn p H H1) (hD : H D = none) (n : D ≠ p) (is : List Int) : Drawn p H (upd H1 D (.lst (is.map V.int))) :=
  ⟨fun a o na ha => by rw [upd_ne (ne_of_none ha hD)]; exact h.grow a o na ha, h.pool.ints n is⟩
theorem Drawn.ne {H H1 : Hp} {p D : Addr} (h : Drawn p H H1) (hD : H1 D = none) : D ≠ p := fun e => by
  obtain ⟨l, z⟩ := h.pool.lst
  rw [e, z] at hD; cases hD
/-- a new thing that then gets its fields -/
theorem same_made {H : Hp} {x dx : Addr} {o1 o2 o3 : HO} (hx : H x = none) (hd : H dx = none) : L2.Same H (upd (upd (upd H dx o1) x o2) x o3) := fun b o hb => by
  rw [upd_ne (ne_of_none hb hx), upd_ne (ne_of_none hb hx), upd_ne (ne_of_none hb hd)]; exact hb
theorem same_new {H : Hp} {x : Addr} {o : HO} (hx : H x = none) : L2.Same H (upd H x o) := fun b u hb => by rw [upd_ne (ne_of_none hb hx)]; exact hb
theorem len5 {α : Type} : ∀ {l : List α}, l.length = 5 → ∃ a b c d e, l = [a, b, c, d, e]
  | [a, b, c, d, e], _ => ⟨a, b, c, d, e, rfl⟩
theorem len3 {α : Type} : ∀ {l : List α}, l.length = 3 → ∃ a b c, l = [a, b, c]
  | [a, b, c], _ => ⟨a, b, c, rfl⟩
/-- the items of a list of ints -/
theorem int_at {ns : List Int} {i : Nat} {x : V} (h : (ns.map V.int)[i]? = some x) : ∃ c, x = .int c ∧ c ∈ ns := by
  obtain ⟨c, hc, e⟩ := List.mem_map.mp (List.mem_of_getElem? h)
  exact ⟨c, e.symm, hc⟩
theorem w_yes {σ : L2.St} {H : Hp} {A B : Hp → Prop} (h : A H) : tYes σ H (fun b H3 => if b = true then A H3 else B H3) := by
  show (if true = true then A H else B H)
  rw [if_pos rfl]; exact h
end Rd
/-! Ops: x in o by an own __contains__. -/
namespace Rd
open PySem PySem.Spec PyProof.Rows PySem.W L2
def rInG (C : Addr) (sp : Sp) : R2 := fun x y H Q => match y with
  | .ref a => ∃ dx fs, H a = some (.ins C dx fs) ∧ sp [.ref a, x] H (fun v H2 => ∃ b, v = .bl b ∧ Q (.bl b) H2) E0
  | _ => False
section
variable {X : Cx} {k : Nat} {C : Addr} {ps : List Str} {sp : Sp}
theorem inst_of {pins : List (Addr × Obj)} {σ : L2.St} {H : Hp} {s : Shared} {a dx : Addr} {fs : List (Str × V)} (I : L2.Inv X pins σ H s) (e : H a = some (.ins C dx fs)) : ∃ od, InstAt s.heap a (instObj C dx) C (some od) := by
  obtain ⟨mA, om, _⟩ := ins_get I.hok e
  obtain ⟨od, i, _⟩ := om.look
  exact ⟨od, i⟩
theorem oInG (G : MtG X.prog X.w X.K X.mg X.base CX0 k C "__contains__" ps sp) (hr : Room k X.A) : OpR X (compareOp .In) (rInG C sp) := by
  intro pins s σ H x y u v Q I rx ry h
  unfold rInG at h
  split at h
  · rename_i a
    obtain ⟨dx, fs, e, h⟩ := h
    obtain ⟨f, fd, m, F, b⟩ := G.ex
    obtain ⟨od, i⟩ := inst_of I e
    obtain ⟨_, fr⟩ := I.fr
    cases ry
    refine in_K fr I.mod.kin i m.at_ m.fn (thn (run_fn (vs := [V.ref a, x]) (dvs := []) F hr b .nil pass0 I (.cons (show RelV (V.ref a) (Value.ref a) from rfl) (.cons rx .nil)) h) fun r s1 w => ?_)
    obtain ⟨z, H1, I1, rz, c, rfl, q⟩ := w
    cases rz
    exact thn (tru_ok pins s1 σ H1 (.bl c) _ (fun b H' => Q (.bl b) H') I1 rfl ⟨c, rfl, q⟩) fun b2 s2 w2 => let ⟨H2, I2, q2⟩ := w2; ⟨.bl b2, H2, I2, rfl, q2⟩
  · exact h.elim
theorem pe_mg {o e : Expr} {es : List Expr} {m : Str} {t : TA} {ta : TE} {pos apos : Pos} {pl : Sem Bool} (G : MtG X.prog X.w X.K X.mg X.base CX0 k C m ps sp) (hr : Room k X.A) (ho : PE X o ta) (ha : PA X (e :: es) t) (h1 : starEach (e :: es) X.env = (false, eval e X.env) :: starEach es X.env := by rfl) (h2 : (backTo pos (starEach es X.env)).any (·.1) = false := by rfl)
    (h3 : eval (.Call (.Attribute o m apos) (e :: es) [] pos) X.env = (eval o X.env >>= fun ov => standAt apos.atName >>= fun _ => holding [ov] (getMethod ov m pl) >>= fun fx => callWith pos fx.1 fx.2 (backTo pos (starEach (e :: es) X.env)) (backToKw pos (keywordEach [] X.env))) := by rfl) : PE X (.Call (.Attribute o m apos) (e :: es) [] pos) (tMeth C m sp [] E0 ta t) := by
  obtain ⟨f, fd, mt, F, b⟩ := G.ex
  exact pe_meth ho G.cls mt F hr b .nil pass0 ha h1 h2 h3
end
section
variable {K : PySem.W.Frag} {H : Hp} {Q : VK} {C a dx : Addr} {fs : List (Str × V)} {sp : Sp} {x : V}
theorem w_inG (e : H a = some (.ins C dx fs)) (h : sp [.ref a, x] H (fun v H2 => ∃ b, v = .bl b ∧ Q (.bl b) H2) E0) : rInG C sp x (.ref a) H Q := ⟨dx, fs, e, h⟩
end
end Rd
/-! Rng: range(a, b) over ints of any size. -/
namespace Rd
open PySem PySem.Spec PyProof.Rows L2
/-- what is asked of an iterator that is one record and gives lo, lo + 1, .. -/
structure IntsIt (P : Program) (w : World) (it : Addr) (lo : Int) (n : Nat) (cn : String) (St : Nat → Heap → Prop) : Prop where
  name : ["enumerate", "zip", "dict_itemiterator", "dict_reverseitemiterator", "odict_iterator", "itertools.zip_longest", "itertools.pairwise"].contains cn = false
  one : ∀ i h, St i h → ∃ vs, h.get? it = some { cls := .type cn, data := .fields vs }
  keep : ∀ i h h', St i h → (∀ o, h.get? it = some o → h'.get? it = some o) → St i h'
  walks : ∀ A : Around, A.handled = none → Walks P w A it [it] [it] n (fun i v => ∃ t, v = .int (lo + i * 1) t) St
  ends : ∀ (A : Around), A.handled = none → ∀ (i : Nat) (s : Shared) (Q : Option Value → Shared → Prop) (E : Value → Shared → Prop), n ≤ i → St i s.heap → (∀ h', Heap.ExtBut it s.heap h' → Q none { s with heap := h' }) → wpAny (model P w) A (pyNext (.ref it)) Q E s
  again : ∀ (A : Around) (i : Nat) (s : Shared) (Q E : Value → Shared → Prop), St i s.heap → Q (.ref it) s → wpAny (model P w) A (pyIter (.ref it)) Q E s
theorem turn_ints {P : Program} {w : World} {K : PySem.W.Frag} {tg : Expr} {it : Addr} {lo : Int} {n : Nat} {St : Nat → Heap → Prop} {cn : String} (R : IntsIt P w it lo n cn St) : Turn P w K tg (Itr lo n) [it] it St where
  mem := List.mem_singleton.mpr rfl
  obj := fun i h st b hb => by
    cases List.mem_singleton.mp hb
    obtain ⟨vs, e⟩ := R.one i h st
    exact ⟨_, e, fun v z => by cases z⟩
  keep := fun i h h' st k => R.keep i h h' st (k it (List.mem_singleton.mpr rfl))
  item := fun X hP hw hK hc i pins s σ H E I hf st hg => by
    subst hP hw hK
    obtain ⟨f0, f1, f2, f3, f4, f5⟩ := hf it (List.mem_singleton.mpr rfl)
    refine (R.walks X.A (I.ok.hd hc)).item i s _ _ hg st fun v h' tk hv st' k => ?_
    obtain ⟨t, rfl⟩ := hv
    have J := I.turned (t' := tk) (fun b o hb e => k b o (fun z => hb (List.mem_singleton.mp z)) e) f0 f1 f3 f4 f5
    obtain ⟨vs, e⟩ := R.one _ _ st'
    exact ⟨_, rfl, go_of (s := { s with heap := h', toks := tk }) (n := cn) e rfl rfl R.name ⟨.int (lo + i), H, J, ⟨t, by rw [Int.mul_one]⟩, ⟨rfl, rfl⟩, st', fun b hb => (hf b hb).1⟩⟩
  done := fun X hP hw hK hc i pins s σ H E I hf st hg => by
    subst hP hw hK
    obtain ⟨f0, f1, f2, f3, f4, f5⟩ := hf it (List.mem_singleton.mpr rfl)
    exact R.ends X.A (I.ok.hd hc) i s _ _ hg st fun h' eb => ⟨rfl, I.turned (t' := s.toks) (fun b o hb e => eb b o hb e) f0 f1 f3 f4 f5⟩
  self := fun A i s Q E st h => R.again A i s Q E st h
def iRngZ (ta : TA) : TI := fun σ H R => ta σ H fun vs H1 => match vs with
  | [.int a, .int b] => R (Itr a (b - a).toNat) H1
  | _ => False
section
variable {X : Cx} {tg : Expr}
theorem small_it {it : Addr} {lo : Int} {n : Nat} : IntsIt X.prog X.w it lo n "range_iterator" (fun i h => IsRangeIter h it (lo + (i : Nat) * 1) ((n : Int) - (i : Nat)) 1) where
  name := by decide
  one := fun i h st => ⟨_, st⟩
  keep := fun i h h' st k => k _ st
  walks := fun A hA => Walks.range hA it lo 1 n
  ends := fun A hA i s Q E hi st hQ => wpAny_pyNext_range_end hA st (by omega) hQ
  again := fun A i s Q E st h => wpAny_pyIter_rangeiter st h
theorem long_it {it : Addr} {lo : Int} {n : Nat} : IntsIt X.prog X.w it lo n "longrange_iterator" (fun i h => IsLongIter h it (lo + (i : Nat) * 1) ((n : Int) - (i : Nat)) 1) where
  name := by decide
  one := fun i h st => ⟨_, st⟩
  keep := fun i h h' st k => k _ st
  walks := fun A hA => Walks.longrange hA it lo 1 n
  ends := fun A hA i s Q E hi st hQ => wpAny_pyNext_long_end hA st (by omega) hQ
  again := fun A i s Q E st h => wpAny_pyIter_longiter st h
/-- the walk of a range just made, whatever its ends -/
theorem range_any {pins : List (Addr × Obj)} {σ : L2.St} {H : Hp} {s : Shared} {R : It → Hp → Prop} {E : Value → Shared → Prop} {lo hi : Int} {t u v : Tok} {r : Addr} (I : L2.Inv X pins σ H s) (hr : IsRange s.heap r lo hi 1 t u v) (q : R (Itr lo (hi - lo).toNat) H) :
    wpAny (model X.prog X.w) X.A (pyIter (.ref r)) (PIE X pins σ tg R) E s := by
  have e1 : lo + ((0 : Nat) : Int) * 1 = lo := by simp
  have e2 : (((hi - lo).toNat : Nat) : Int) - ((0 : Nat) : Int) = Builtin.Range.rangeSize lo hi 1 := by rw [rangeSize_one]; split <;> omega
  have fresh : ∀ {b : Addr}, b ∈ [s.heap.objs.size] → FpOk X pins H b := fun hb => by
    cases List.mem_singleton.mp hb
    exact I.fpOk (Nat.le_refl _) (I.hok.fresh (Nat.le_refl _))
  cases hs : Builtin.Range.small lo hi 1 with
  | true =>
    refine wpAny_pyIter_range hr hs ⟨s.heap.objs.size, [s.heap.objs.size], _, _, H, rfl, I.kept (t' := s.toks) fun b o e => Heap.get?_push_of_some _ e, turn_ints small_it, ?_, fun b hb => fresh hb, q⟩
    show IsRangeIter _ _ (lo + ((0 : Nat) : Int) * 1) ((((hi - lo).toNat : Nat) : Int) - ((0 : Nat) : Int)) 1
    rw [e1, e2]
    exact Heap.get?_push_size _ rfl
  | false =>
    refine wpAny_pyIter_longrange hr hs ⟨s.heap.objs.size, [s.heap.objs.size], _, _, H, rfl, I.kept (t' := s.toks) fun b o e => Heap.get?_push_of_some _ e, turn_ints long_it, ?_, fun b hb => fresh hb, q⟩
    show IsLongIter _ _ (lo + ((0 : Nat) : Int) * 1) ((((hi - lo).toNat : Nat) : Int) - ((0 : Nat) : Int)) 1
    rw [e1, e2]
    exact Heap.get?_push_size _ rfl
theorem pi_rangeZ {a b : Expr} {ta : TA} {p pos : Pos} (hg : Gl X "range") (hm : X.mg "range" = none) (ha : PA X [a, b] ta) (hs : starEach [a, b] X.env = [(false, eval a X.env), (false, eval b X.env)] := by rfl) (hs2 : starEach [b] X.env = [(false, eval b X.env)] := by rfl) :
    PI X tg (.Call (.Name "range" p) [a, b] [] pos) (iRngZ ta) where
  run := fun pins s σ H R I h => by
    refine Call_ (ld_blt I hg hm boot_range (PyProof.Rows.callWith_type1 (thn (ha.run pos pins s σ H _ I h) fun us s1 w => ?_) (hs.trans (by rw [hs2])) (by rw [hs2]; rfl)))
    obtain ⟨vs, H1, I1, rv, w⟩ := w
    split at w
    · obtain ⟨v1, v2, rfl, ⟨t1, rfl⟩, ⟨t2, rfl⟩⟩ := vals2 rv
      exact call_range_2 (range_any (I1.kept (t' := s1.toks + 1) fun b o e => Heap.get?_push_of_some _ e) (Heap.get?_push_size _ rfl) w)
    · exact w.elim
end
end Rd
/-! MkS: C(e, ..) where what is raised is wished for at the caller's slots. -/
namespace Rd
open PySem PySem.Spec PyProof.Rows L2
/-- a call's end, seen from the body that called -/
def Came (X : Cx) (pins : List (Addr × Obj)) (σ : L2.St) (Q : VK) (r : Result) (s' : Shared) : Prop := match r with
  | .ok (.ret u) => EP X pins σ Q u s'
  | .ok _ => False
  | .error e => X.xe e s'
theorem came_of {X : Cx} {CX : CXT} {pins : List (Addr × Obj)} {σ : L2.St} {H : Hp} {s s' : Shared} {Q : VK} {E : XK} (I : L2.Inv X pins σ H s) (hx : PassesAt CX X σ E) : ∀ {r : Result}, CR CX X.stack X.prog X.w H s Q E r s' → Came X pins σ Q r s'
  | .error e, c => hx pins H s e s' I c
  | .ok (.ret _), c => I.after c
  | .ok .next, c => c
  | .ok .brk, c => c
  | .ok .cont, c => c
/-- the reading: the layer's own for a new instance, its wish at the slots -/
def tMkS (C : Addr) (sp : Sp) (dvs : List V) (E : L2.St → XK) (t : TA) : TE := fun σ H Q => tMake C sp dvs (E σ) t σ H Q
section
variable {X : Cx} {CX : CXT} {k : Nat} {x : Str} {ps : List Str} {dvs : List V} {sp : Sp} {E : L2.St → XK} {e : Expr} {es : List Expr} {t : TA} {p pos : Pos}
theorem pe_mkS (G : MkG X.prog X.w X.K X.mg X.base CX k x ps dvs sp) (hr : Room (k + 1) X.A) (hg : Gl X x) (hx : ∀ σ, PassesAt CX X σ (E σ)) (ha : PA X (e :: es) t) (h1 : (x == ("__debug__" : Str)) = false := by decide) (h2 : starEach (e :: es) X.env = (false, eval e X.env) :: starEach es X.env := by rfl) (h3 : (backTo pos (starEach es X.env)).any (·.1) = false := by rfl) :
    PE X (.Call (.Name x p) (e :: es) [] pos) (tMkS (He.ga X.K x) sp dvs E t) where
  run := fun pins s σ H Q I h => by
    obtain ⟨f, fd, ds, hm, M, F, hb, hd⟩ := G.ex
    refine wpAny_Call_Name_kw (ld_glob I hg hm (PySem.W.callWith_K (h₀ := X.base) I.ok.mod.kin M.kp (thn (ha.run pos pins s σ H _ I h) fun us s1 w => ⟨?_, ?_⟩) h2 h3) h1)
    · obtain ⟨vs, H1, I1, _⟩ := w; exact I1.kIn
    · obtain ⟨vs, H1, I1, rv, w⟩ := w
      have new := Inv.made (C := He.ga X.K x) I1
      have say := w (s1.heap.objs.size + 1) s1.heap.objs.size (I1.hok.fresh (Nat.le_succ _)) (I1.hok.fresh (Nat.le_refl _)) (Nat.ne_of_lt (Nat.lt_succ_self _))
      have rel : Vals (.ref (s1.heap.objs.size + 1) :: (vs ++ dvs)) (.ref (s1.heap.objs.size + 1) :: (us ++ ds)) := .cons rfl (rv.append hd)
      have len := rel.length.symm.trans (F.len _ _ _ _ say)
      refine wpAny_call (make_map (f := f) I1.kIn M.makes M.init (beq_iff_eq.mp M.fn) (codeAny_mono (F.run _ X.stack _ _ ⟨.ref (s1.heap.objs.size + 1) :: us, []⟩ _ _ _ (E σ) (hr.make _ us []) (new.env0.make _ us []) (hb _ (.ref (s1.heap.objs.size + 1) :: us) new.kIn len) rel say) fun r s2 c => ?_))
      have z := came_of new (hx σ) c
      cases r with
      | error e2 => exact z
      | ok fl => cases fl with
        | ret u =>
          obtain ⟨v, H2, I2, ru, ev, q⟩ := z
          cases ev
          exact ⟨ru, V.ref (s1.heap.objs.size + 1), H2, I2, rfl, q⟩
        | _ => exact (show False from z).elim
/-- the same, the class's place given ahead -/
theorem pe_mkC (C : Addr) (hC : He.ga X.K x = C) (G : MkG X.prog X.w X.K X.mg X.base CX k x ps dvs sp) (hr : Room (k + 1) X.A) (hg : Gl X x) (hx : ∀ σ, PassesAt CX X σ (E σ)) (ha : PA X (e :: es) t) (h1 : (x == ("__debug__" : Str)) = false := by decide) (h2 : starEach (e :: es) X.env = (false, eval e X.env) :: starEach es X.env := by rfl) (h3 : (backTo pos (starEach es X.env)).any (·.1) = false := by rfl) :
    PE X (.Call (.Name x p) (e :: es) [] pos) (tMkS C sp dvs E t) := hC ▸ pe_mkS G hr hg hx ha h1 h2 h3
end
section
variable {C : Addr} {sp : Sp} {dvs : List V} {E : L2.St → XK} {tl : TA} {σ : L2.St} {H : Hp} {Q : VK}
theorem w_mkS (h : tl σ H (kMake C sp dvs (E σ) Q)) : tMkS C sp dvs E tl σ H Q := h
end
end Rd
/-! GridM: bars, in plain numbers. -/
namespace GridM
theorem div_uniq {s q r x : Int} (hs : 0 < s) (h : x = s * q + r) (h0 : 0 ≤ r) (h1 : r < s) : x / s = q ∧ x % s = r := by
  have h2 : r / s = 0 := Int.ediv_eq_zero_of_lt h0 h1
  have h3 : r % s = r := Int.emod_eq_of_lt h0 h1
  subst h
  constructor
  · rw [Int.add_comm, Int.add_mul_ediv_left r q (by omega), h2]; omega
  · rw [Int.add_comm, Int.add_mul_emod_self_left, h3]
theorem split (s x : Int) : x = s * (x / s) + x % s := (Int.mul_ediv_add_emod x s).symm
def fb (s o t : Int) : Int := t + (o - t) % s
def lb (s o t : Int) : Int := t - (t - o) % s
theorem fb_eq {s o t : Int} : fb s o t = o - s * ((o - t) / s) := by
  have h := split s (o - t)
  unfold fb; omega
theorem lb_eq {s o t : Int} : lb s o t = o + s * ((t - o) / s) := by
  have h := split s (t - o)
  unfold lb; omega
/-- o and its rest differ by a multiple -/
theorem rest_eq (s o : Int) : o % s = o - s * (o / s) := by have h := split s o; omega
theorem fb_bar {s o t : Int} : (fb s (o % s) t - o) % s = 0 := by
  rw [fb_eq, rest_eq s o]
  have e : o - s * (o / s) - s * ((o - s * (o / s) - t) / s) - o = s * (-(o / s) - (o - s * (o / s) - t) / s) := by
    rw [Int.mul_sub, Int.mul_neg]; omega
  rw [e, Int.mul_emod_right]
theorem lb_bar {s o t : Int} : (lb s (o % s) t - o) % s = 0 := by
  rw [lb_eq, rest_eq s o]
  have e : o - s * (o / s) + s * ((t - (o - s * (o / s))) / s) - o = s * (-(o / s) + (t - (o - s * (o / s))) / s) := by
    rw [Int.mul_add, Int.mul_neg]; omega
  rw [e, Int.mul_emod_right]
theorem in_iff {s o t : Int} : (t - o % s) % s = (t - o) % s := by
  rw [rest_eq s o]
  have e : t - (o - s * (o / s)) = t - o + s * (o / s) := by omega
  rw [e, Int.add_mul_emod_self_left]
theorem fb_ge {s o t : Int} (hs : 0 < s) : 0 ≤ fb s o t - t ∧ fb s o t - t < s := by
  have h1 := Int.emod_nonneg (o - t) (show s ≠ 0 by omega)
  have h2 := Int.emod_lt_of_pos (o - t) hs
  unfold fb; omega
theorem lb_le {s o t : Int} (hs : 0 < s) : 0 ≤ t - lb s o t ∧ t - lb s o t < s := by
  have h1 := Int.emod_nonneg (t - o) (show s ≠ 0 by omega)
  have h2 := Int.emod_lt_of_pos (t - o) hs
  unfold lb; omega
/-- how many bars from low on, before high, by two floors -/
def cnt (s o lo hi : Int) : Int := (hi - 1 - o) / s - (lo - 1 - o) / s
theorem neg_div {s x : Int} (hs : 0 < s) : (-x) / s = -((x - 1) / s) - 1 := by
  have h := split s (x - 1)
  have h1 := Int.emod_nonneg (x - 1) (show s ≠ 0 by omega)
  have h2 := Int.emod_lt_of_pos (x - 1) hs
  refine (div_uniq (r := s - 1 - (x - 1) % s) hs ?_ (by omega) (by omega)).1
  have e : s * (-((x - 1) / s) - 1) = -(s * ((x - 1) / s)) - s := by rw [Int.mul_sub, Int.mul_neg, Int.mul_one]
  rw [e]; omega
theorem fb_cnt {s o lo hi : Int} (hs : 0 < s) : (fb s (o % s) hi - fb s (o % s) lo) / s = cnt s o lo hi := by
  have sh : ∀ t, (o % s - t) / s = (o - t) / s - o / s := fun t => by
    rw [rest_eq s o]
    have e : o - s * (o / s) - t = (o - t) + s * (-(o / s)) := by rw [Int.mul_neg]; omega
    rw [e, Int.add_mul_ediv_left _ _ (by omega)]; omega
  rw [fb_eq, fb_eq, sh, sh]
  have e : o % s - s * ((o - hi) / s - o / s) - (o % s - s * ((o - lo) / s - o / s)) = s * ((o - lo) / s - (o - hi) / s) := by
    rw [Int.mul_sub, Int.mul_sub, Int.mul_sub]; omega
  rw [e, Int.mul_ediv_cancel_left _ (by omega)]
  have h1 := neg_div (x := hi - o) hs
  have h2 := neg_div (x := lo - o) hs
  have e1 : -(hi - o) = o - hi := by omega
  have e2 : -(lo - o) = o - lo := by omega
  have e3 : hi - o - 1 = hi - 1 - o := by omega
  have e4 : lo - o - 1 = lo - 1 - o := by omega
  rw [e1, e3] at h1
  rw [e2, e4] at h2
  unfold cnt; omega
theorem step_div {s x : Int} (hs : 0 < s) : x / s - (x - 1) / s = if x % s = 0 then 1 else 0 := by
  have h := split s x
  have h1 := Int.emod_nonneg x (show s ≠ 0 by omega)
  have h2 := Int.emod_lt_of_pos x hs
  split
  · rename_i e
    have q := (div_uniq (s := s) (x := x - 1) (q := x / s - 1) (r := s - 1) hs (by rw [Int.mul_sub, Int.mul_one]; omega) (by omega) (by omega)).1
    omega
  · rename_i e
    have q := (div_uniq (s := s) (x := x - 1) (q := x / s) (r := x % s - 1) hs (by omega) (by omega) (by omega)).1
    omega
/-- the same, counted one by one -/
theorem cnt_count {s o lo : Int} (hs : 0 < s) : ∀ n : Nat, (((List.range n).filter fun i : Nat => decide ((lo + (i : Int) - o) % s = 0)).length : Int) = cnt s o lo (lo + n)
  | 0 => by unfold cnt; simp
  | n + 1 => by
    rw [List.range_succ, List.filter_append, List.length_append, Int.natCast_add, cnt_count hs n]
    have h := step_div (x := lo + (n : Int) - o) hs
    have e1 : lo + ((n + 1 : Nat) : Int) - 1 - o = lo + (n : Int) - o := by omega
    have e2 : lo + (n : Int) - 1 - o = lo + (n : Int) - o - 1 := by omega
    unfold cnt
    rw [e1, e2]
    by_cases z : (lo + (n : Int) - o) % s = 0
    · rw [if_pos z] at h
      simp [z]; omega
    · rw [if_neg z] at h
      simp [z]; omega
end GridM
namespace My
open PySem PySem.Spec PyProof.Rows L2 Rd
def top (i : Nat) : Stmt := PySem.Challenge.pw_barbreaks_k03_first_bar.main.body.getD i (.Pass ⟨0, 0, 0, 0⟩)
abbrev R : PySem.W.OpenRow := PySem.W.OpenLaw.row PySem.Challenge.rw_barbreaks_k03_first_bar
def d__law_is_int : He.DefD := ⟨("_law_is_int", none), "_law_is_int", "_law_is_int", defArgs (top 18), defBody (top 18), defScope (top 18), [], []⟩
def d__law_pool : He.DefD := ⟨("_law_pool", none), "_law_pool", "_law_pool", defArgs (top 19), defBody (top 19), defScope (top 19), [], []⟩
def d__law_take : He.DefD := ⟨("_law_take", none), "_law_take", "_law_take", defArgs (top 20), defBody (top 20), defScope (top 20), [], []⟩
def d__law_big : He.DefD := ⟨("_law_big", none), "_law_big", "_law_big", defArgs (top 21), defBody (top 21), defScope (top 21), [], []⟩
def d__law_free : He.DefD := ⟨("_law_free", none), "_law_free", "_law_free", defArgs (top 22), defBody (top 22), defScope (top 22), [], []⟩
def d__law_step : He.DefD := ⟨("_law_step", none), "_law_step", "_law_step", defArgs (top 23), defBody (top 23), defScope (top 23), [], []⟩
def d__law_shift : He.DefD := ⟨("_law_shift", none), "_law_shift", "_law_shift", defArgs (top 24), defBody (top 24), defScope (top 24), [], []⟩
def d__law_tick : He.DefD := ⟨("_law_tick", none), "_law_tick", "_law_tick", defArgs (top 25), defBody (top 25), defScope (top 25), [], []⟩
def d_Grid___init__ : He.DefD := ⟨("Grid", some "__init__"), "__init__", "Grid.__init__", defArgs (inClass (top 16) 0), defBody (inClass (top 16) 0), defScope (inClass (top 16) 0), [.int 0], []⟩
def d_Grid_first_bar : He.DefD := ⟨("Grid", some "first_bar"), "first_bar", "Grid.first_bar", defArgs (inClass (top 16) 2), defBody (inClass (top 16) 2), defScope (inClass (top 16) 2), [], []⟩
def d_Grid_last_bar : He.DefD := ⟨("Grid", some "last_bar"), "last_bar", "Grid.last_bar", defArgs (inClass (top 16) 3), defBody (inClass (top 16) 3), defScope (inClass (top 16) 3), [], []⟩
def d_Grid___contains__ : He.DefD := ⟨("Grid", some "__contains__"), "__contains__", "Grid.__contains__", defArgs (inClass (top 16) 6), defBody (inClass (top 16) 6), defScope (inClass (top 16) 6), [], []⟩
def d_Grid_bars_between : He.DefD := ⟨("Grid", some "bars_between"), "bars_between", "Grid.bars_between", defArgs (inClass (top 16) 4), defBody (inClass (top 16) 4), defScope (inClass (top 16) 4), [], []⟩
def d__law_made : He.DefD := ⟨("_law_made", none), "_law_made", "_law_made", defArgs (top 26), defBody (top 26), defScope (top 26), [], []⟩
def d__law_asked : He.DefD := ⟨("_law_asked", none), "_law_asked", "_law_asked", defArgs (top 27), defBody (top 27), defScope (top 27), [], []⟩
def d__law_count : He.DefD := ⟨("_law_count", none), "_law_count", "_law_count", defArgs (top 28), defBody (top 28), defScope (top 28), [], []⟩
def d__law_counted : He.DefD := ⟨("_law_counted", none), "_law_counted", "_law_counted", defArgs (top 29), defBody (top 29), defScope (top 29), [], []⟩
def d__law_refused : He.DefD := ⟨("_law_refused", none), "_law_refused", "_law_refused", defArgs (top 30), defBody (top 30), defScope (top 30), [], []⟩
def d_law : He.DefD := ⟨("law", none), "law", "law", defArgs (top 31), defBody (top 31), defScope (top 31), [], []⟩
def fn : List He.DefD := [d__law_is_int, d__law_pool, d__law_take, d__law_big, d__law_free, d__law_step, d__law_shift, d__law_tick, d_Grid___init__, d_Grid_first_bar, d_Grid_last_bar, d_Grid___contains__, d_Grid_bars_between, d__law_made, d__law_asked, d__law_count, d__law_counted, d__law_refused, d_law]
def fa : List He.Fa := [.free "isinstance", .free "bool", .free "int", .glo "_law_is_int", .free "list", .glo "_law_pool", .free "len", .glo "_law_take", .free "range", .glo "_law_big", .glo "_law_free", .glo "_law_step", .glo "_law_shift", .glo "_law_tick", .free "super", .glo "BadNumber", .noat "BadNumber" "number", .cls "Grid", .noat "Grid" "step", .noat "Grid" "offset", .glo "Grid", .mkr "Grid", .meth "Grid" "first_bar", .meth "Grid" "last_bar", .meth "Grid" "__contains__", .meth "Grid" "bars_between", .glo "_law_made", .glo "_law_asked", .glo "_law_count", .glo "_law_counted", .glo "Refused", .glo "BadText", .glo "BadSpan", .glo "BadName", .glo "Apart", .free "ValueError", .glo "BarbreaksError", .glo "_law_refused", .glo "law"]
def xa : List Xa := [.exc "BadNumber", .inst "Grid", .kit "Grid" "Grid" true, .kit "BadNumber" "BarbreaksError" true, .kit "BadNumber" "Apart" false, .kit "BadNumber" "BadName" false, .kit "BadNumber" "BadSpan" false, .kit "BadNumber" "BadText" false, .kit "BadNumber" "Refused" false, .kitT "BadNumber" "ValueError" true, .exm "BadNumber" "BadNumber" true]
def s_BadNumber : DefS := ⟨"BadNumber", "__init__", "BadNumber.__init__", (inClass (top 4) 0), [], []⟩
def fs : List DefS := [s_BadNumber]
def names0 : List PySem.Str := ["_wall", "BarbreaksError", "BadName", "BadNumber", "BadText", "BadSpan", "Apart", "Refused", "DIGITS", "MOST_DIGITS", "write_number", "read_number", "extended_gcd", "Grid", "_law_is_int", "_law_pool", "_law_take", "_law_big", "_law_free", "_law_step", "_law_shift", "_law_tick", "_law_made", "_law_asked", "_law_count", "_law_counted", "_law_refused"]
def names : List PySem.Str := names0
end My
namespace My
open PySem PySem.Spec PyProof.Rows L2 Rd
abbrev hk : PySem.W.Hook := Rd.hookE 5 fa fn xa fs
def ob (s : PySem.W.SharedT) : Rd.AlE := Rd.obsEG 5 fa fn xa fs (HandSHeadRun.getT s)
theorem ob_eq (s : PySem.W.SharedT) : ob s = hk.obs s.abs := Rd.obsEG_eq (HandSHeadRun.getT_eq s)
set_option maxHeartbeats 0 in
theorem run (w : World) : HandSHeadRun.RunEq R (PySem.W.view R.prog [31]) hk ob 6000 names w := by
  intro os
  kernel_rfl
end My
local macro_rules | `(tactic| walk_at "len") => `(tactic| (simp only [List.length_cons, List.length_nil]; decide))
local macro_rules | `(tactic| walk_at "ne") => `(tactic| first | assumption | exact Ne.symm (by assumption) | omega)
local macro_rules | `(tactic| walk_at "cls") => `(tactic| assumption)
local macro_rules | `(tactic| walk_at "hp") => `(tactic| first | assumption | exact L2.upd_same | (refine' (L2.upd_ne ?hn).trans ?hh; (case hn => walk_at "ne"); (case hh => walk_at "hp")))
local macro_rules | `(tactic| walk_at "side") => `(tactic| first | assumption | (with_reducible rfl) | omega | exact rfl | decide)
local macro_rules | `(tactic| walk_at "mulside") => `(tactic| first | (left; left; constructor <;> omega) | (left; right; constructor <;> omega) | skip)
local macro_rules | `(tactic| walk_at "rd1") => `(tactic| first
  | (with_reducible refine' Rd.w_seq ?_)
  | ((with_reducible refine' Rd.w_var ?wv ?_); (case wv => exact rfl))
  | (with_reducible refine' Rd.w_c ?_)
  | (with_reducible refine' Rd.w_op ?_)
  | (with_reducible refine' Rd.w_op1 ?_)
  | (with_reducible refine' Rd.w_op2 ?_)
  | (with_reducible refine' Rd.w_asg ?_)
  | (with_reducible refine' Rd.w_kname ?_)
  | (with_reducible refine' Rd.w_gname ?_)
  | (with_reducible refine' Rd.w_ret ?_)
  | (with_reducible refine' Rd.w_drop ?_)
  | (with_reducible refine' Rd.w_kdrop ?_)
  | (with_reducible refine' Rd.w_ifS ?_)
  | (with_reducible refine' Rd.w_test ?_)
  | (with_reducible refine' Rd.w_tB ?_)
  | (with_reducible refine' Rd.w_ktest ?_)
  | (with_reducible refine' Rd.w_and ?_)
  | (with_reducible refine' Rd.w_or ?_)
  | (with_reducible refine' Rd.w_not ?_)
  | (with_reducible refine' Rd.w_knot_t ?_)
  | (with_reducible refine' Rd.w_knot_f ?_)
  | (with_reducible refine' Rd.w_knot ?_)
  | (with_reducible refine' Rd.w_kif_n ?_)
  | (with_reducible refine' Rd.w_kif_t ?_)
  | (with_reducible refine' Rd.w_kif_f ?_)
  | (with_reducible refine' Rd.w_kand_t ?_)
  | (with_reducible refine' Rd.w_kand_f ?_)
  | (with_reducible refine' Rd.w_kor_t ?_)
  | (with_reducible refine' Rd.w_kor_f ?_)
  | (with_reducible refine' Rd.w_andV ?_)
  | (with_reducible refine' Rd.w_orV ?_)
  | (with_reducible refine' Rd.w_notV ?_)
  | (with_reducible refine' Rd.w_knotV_t ?_)
  | (with_reducible refine' Rd.w_knotV_f ?_)
  | (with_reducible refine' Rd.w_knotV ?_)
  | (with_reducible refine' Rd.w_kandV_t ?_)
  | (with_reducible refine' Rd.w_kandV_f ?_)
  | (with_reducible refine' Rd.w_korV_t ?_)
  | (with_reducible refine' Rd.w_korV_f ?_)
  | (with_reducible refine' Rd.w_addI ?_)
  | (with_reducible refine' Rd.w_sub ?_)
  | ((with_reducible refine' Rd.w_mul ?wm ?_); (case wm => walk_at "mulside"))
  | ((with_reducible refine' Rd.w_mod ?wm ?_); (case wm => first | omega | assumption))
  | (with_reducible refine' Rd.w_lt ?_)
  | (with_reducible refine' Rd.w_le ?_)
  | (with_reducible refine' Rd.w_gt ?_)
  | (with_reducible refine' Rd.w_ge ?_)
  | (with_reducible refine' Rd.w_neg ?_)
  | (with_reducible refine' Rd.w_eqI ?_)
  | (with_reducible refine' Rd.w_neI ?_)
  | (with_reducible refine' Rd.w_eqS ?_)
  | (with_reducible refine' Rd.w_neS ?_)
  | (with_reducible refine' Rd.w_isN_n ?_)
  | (with_reducible refine' Rd.w_isN_i ?_)
  | (with_reducible refine' Rd.w_isN_r ?_)
  | (with_reducible refine' Rd.w_isN_b ?_)
  | (with_reducible refine' Rd.w_isN_s ?_)
  | (with_reducible refine' Rd.w_notN_n ?_)
  | (with_reducible refine' Rd.w_notN_i ?_)
  | (with_reducible refine' Rd.w_notN_r ?_)
  | (with_reducible refine' Rd.w_nil ?_)
  | (with_reducible refine' Rd.w_cons ?_)
  | (with_reducible refine' Rd.w_kcons1 ?_)
  | (with_reducible refine' Rd.w_kcons2 ?_)
  | (with_reducible refine' Rd.w_cb ?_)
  | (with_reducible refine' Rd.w_kcb ?_)
  | (with_reducible refine' Rd.w_call ?_)
  | (with_reducible refine' Rd.w_kcall ?_)
  | (with_reducible refine' Rd.w_lst ?_)
  | (with_reducible refine' Rd.w_tup ?_)
  | (with_reducible refine' Rd.w_fld ?_)
  | (with_reducible refine' Rd.w_sfld ?_)
  | (with_reducible refine' Rd.w_ksf1 ?_)
  | (with_reducible refine' Rd.w_meth ?_)
  | (with_reducible refine' Rd.w_kmeth2 ?_)
  | (with_reducible refine' Rd.w_make ?_)
  | (with_reducible refine' Rd.w_mko ?_)
  | (with_reducible refine' Rd.w_mkS ?_)
  | (with_reducible refine' Rd.w_ksub ?_)
  | (with_reducible refine' Rd.w_ksub1 ?_)
  | (with_reducible refine' Rd.w_un ?_)
  | (with_reducible refine' Rd.w_kun ?_)
  | (with_reducible refine' Rd.w_ch ?_)
  | (with_reducible refine' Rd.w_ch1 ?_)
  | (with_reducible refine' Rd.w_ch2 ?_)
  | (with_reducible refine' Rd.w_tru ?_)
  | (with_reducible refine' Rd.w_ktru_b ?_)
  | (with_reducible refine' Rd.w_bm ?_)
  | (with_reducible refine' Rd.w_kbm2 ?_)
  | (with_reducible refine' Rd.w_par ?_)
  | (with_reducible refine' Rd.w_kpar ?_)
  | (with_reducible refine' Rd.w_int ?_)
  | (with_reducible refine' Rd.w_isi_int ?_)
  | (with_reducible refine' Rd.w_isi_bool ?_)
  | (with_reducible refine' Rd.w_two ?_)
  | (with_reducible refine' Rd.w_one ?_)
  | ((with_reducible refine' Rd.w_ixL (L2.SqL.of ?wa) ?wb ?_); (case wa => walk_at "hp"); (case wb => exact rfl))
  | ((with_reducible refine' Rd.w_ksubL ?wa ?wb ?_); (case wa => walk_at "hp"); (case wb => exact rfl))
  | ((with_reducible refine' Rd.w_lenM (L2.SqL.of ?wa) ?_); (case wa => walk_at "hp"))
  | ((with_reducible refine' Rd.w_ixM (L2.SqL.of ?wa) ?wb ?wc ?_); (case wa => walk_at "hp"); (case wb => omega); (case wc => omega))
  | ((with_reducible refine' Rd.w_lenL (L2.SqL.of ?wa) ?_); (case wa => walk_at "hp"))
  | ((with_reducible refine' Rd.w_kfld ?wa ?wb ?wc ?wd ?_); (case wa => walk_at "hp"); (case wb => walk_at "cls"); (case wc => walk_at "cls"); (case wd => exact rfl))
  | ((with_reducible refine' Rd.w_ksf2 ?wa ?wb ?wc ?wd ?_); (case wa => walk_at "hp"); (case wb => walk_at "cls"); (case wc => walk_at "cls"); (case wd => exact Nat.le_of_ble_eq_true rfl))
  | ((with_reducible refine' Rd.w_kmeth ?wa ?wb ?_); (case wa => walk_at "hp"); (case wb => exact rfl))
  | ((with_reducible refine' Rd.w_div ?wa ?_); (case wa => first | exact Rd.Small.div (by assumption) (by omega) | exact L2.wide_div (b := 64) (by omega) (by omega) (by decide) (by decide)))
  | ((with_reducible refine' Rd.w_pow (k := 1000000000000000000) ?wa ?wb ?_); (case wa => exact ⟨by decide, by decide, by decide⟩); (case wb => exact (by decide : (10 : Int) ^ (18 : Int).toNat = 1000000000000000000)))
  | ((with_reducible refine' Rd.w_pow (k := 1000000000) ?wa ?wb ?_); (case wa => exact ⟨by decide, by decide, by decide⟩); (case wb => exact (by decide : (10 : Int) ^ (9 : Int).toNat = 1000000000)))
  | (with_reducible refine' Rd.w_ifE ?_)
  | (with_reducible refine' Rd.w_next ?_)
  | (with_reducible refine' Rd.w_brk ?_)
  | (with_reducible refine' Rd.w_cont ?_)
  | (with_reducible refine' Rd.w_retN ?_))
local macro_rules | `(tactic| walk_at "rd") => `(tactic| (walk_at "rd1"; repeat (walk_at "rd1")))
local macro_rules | `(tactic| walk_at "rs1") => `(tactic| first
  | ((with_reducible refine' Rd.w_kif (fun hc => ?_) (fun hc => ?_)) <;> try (exfalso; omega))
  | ((with_reducible refine' Rd.w_kand (fun hc => ?_) (fun hc => ?_)) <;> try (exfalso; omega))
  | ((with_reducible refine' Rd.w_kor (fun hc => ?_) (fun hc => ?_)) <;> try (exfalso; omega))
  | ((with_reducible refine' Rd.w_kor_n (fun hc => ?_) (fun hc => ?_)) <;> try (exfalso; omega))
  | ((with_reducible refine' Rd.w_kand_n (fun hc => ?_) (fun hc => ?_)) <;> try (exfalso; omega))
  | ((with_reducible refine' Rd.w_kandV (fun hc => ?_) (fun hc => ?_)) <;> try (exfalso; omega))
  | ((with_reducible refine' Rd.w_korV (fun hc => ?_) (fun hc => ?_)) <;> try (exfalso; omega))
  | ((with_reducible refine' Rd.w_kifE (fun hc => ?_) (fun hc => ?_)) <;> try (exfalso; omega))
  | ((with_reducible refine' Rd.w_ch3 (fun hc => ?_) (fun hc => ?_)) <;> try (exfalso; omega)))
local macro_rules | `(tactic| walk_at "ra") => `(tactic| repeat' (first | walk_at "rd1" | walk_at "rs1"))
namespace My
open PySem PySem.Spec PyProof.Rows L2 Rd
section
variable {P : Program} {w : World} {K : PySem.W.Frag} {mg : Str → Option Value} {base : Heap}
def spIsInt : Sp := fun vs H Q _ => ∃ i : Int, vs = [.int i] ∧ Q (.bl true) H
theorem use_isint {i : Int} {H : Hp} {Q : VK} {E : XK} (h : Q (.bl true) H) : spIsInt [.int i] H Q E := ⟨i, rfl, h⟩
theorem sc__law_is_int : FnScope ["_law_x"] ["_law_x"] (defScope (top 18)) := ⟨rfl, rfl, rfl, by decide +kernel, rfl, by decide +kernel, by decide +kernel⟩
theorem g__law_is_int (T : Tx fa fn xa fs P K mg) : FnG P w K mg base CX0 1 "_law_is_int" ["_law_x"] spIsInt := by
  obtain ⟨fd, F⟩ := T.says.def_ 0 (d := d__law_is_int) rfl
  have sc := sc__law_is_int
  refine ⟨_, fd, T.glo 3, F.kp, F.ok sc (fun vs H Q E h => ?len) (fun cdv A outer s H vs Q E hr h => ⟨_, PSs.nox (pss_one (ps_ret (pe_and (pe_callB cIsi (by rfl) (T.free 0) (by decide +kernel) (pa_cons (pv 0) (pa_cons (pe_bltn (v := .ty "int") (u := .type "int") rfl (T.free 2) (by decide +kernel) rfl) pa_nil))) (pe_one (pe_not (pe_callB cIsi (by rfl) (T.free 0) (by decide +kernel) (pa_cons (pv 0) (pa_cons (pe_bltn (v := .ty "bool") (u := .type "bool") rfl (T.free 1) (by decide +kernel) rfl) pa_nil)))))))), ?rd⟩), F.bindsN fun _ _ _ _ _ _ us hl => match us, hl with | [_], _ => rfl⟩
  case len =>
    obtain ⟨i, rfl, _⟩ := h
    rfl
  case rd =>
    obtain ⟨i, rfl, hQ⟩ := h
    show tRet _ ⟨_, _, _, _⟩ [some (.int i)] H
    try dsimp only [cxOf]
    walk_at "ra"
    exact hQ

end
end My
namespace My
open PySem PySem.Spec PyProof.Rows L2 Rd
section
variable {P : Program} {w : World} {K : PySem.W.Frag} {mg : Str → Option Value} {base : Heap}

theorem sc__law_pool : FnScope ["_law_script", "_law_seed", "_law_cell"] ["_law_script"] (defScope (top 19)) := ⟨rfl, rfl, rfl, by decide +kernel, rfl, by decide +kernel, by decide +kernel⟩
theorem g__law_pool (T : Tx fa fn xa fs P K mg) : FnG P w K mg base CX0 1 "_law_pool" ["_law_script"] (spPool K) := by
  obtain ⟨fd, F⟩ := T.says.def_ 1 (d := d__law_pool) rfl
  have sc := sc__law_pool
  refine ⟨_, fd, T.glo 5, F.kp, F.ok sc (fun vs H Q E h => ?len) (fun cdv A outer s H vs Q E hr h => ⟨_, PSs.nox (pss_cons (ps_set (i := 1) sc.nd rfl (by first | exact Or.inl rfl | exact Or.inr rfl) pe_int)
    (pss_cons (ps_for PassesOwn.never rfl (pi_list (pv 0)) (pg_name (i := 2) sc.nd rfl (by first | exact Or.inl rfl | exact Or.inr rfl)) (pss_one (ps_set (i := 1) sc.nd rfl (by first | exact Or.inl rfl | exact Or.inr rfl) (pe_op oMod (pe_callTy cInt (by rfl) (T.free 2) (by decide +kernel) (pa_cons (pe_op oAdd (pe_op oAdd (pe_op oMul (pv 1) pe_int) (pe_op oMul (pe_callTy cInt (by rfl) (T.free 2) (by decide +kernel) (pa_cons (pv 2) pa_nil)) pe_int)) pe_int) pa_nil)) pe_int))))
    (pss_one (ps_ret (pe_lst (pa_cons pe_int (pa_cons pe_int (pa_cons pe_int (pa_cons (pv 1) (pa_cons (pe_callTy cList (by rfl) (T.free 4) (by decide +kernel) (pa_cons (pv 0) pa_nil)) pa_nil)))))))))), ?rd⟩), F.bindsN fun _ _ _ _ _ _ us hl => match us, hl with | [_], _ => rfl⟩
  case len =>
    obtain ⟨a, ns, rfl, _⟩ := h
    rfl
  case rd =>
    obtain ⟨a, ns, rfl, hs, hQ⟩ := h
    show tSeq _ _ ⟨_, _, _, _⟩ [some (.ref a), none, none] H
    try dsimp only [cxOf]
    walk_at "rd"
    refine ⟨_, rfl, a, rfl, ⟨_, hs⟩, for_list (xs := ns.map V.int) (fun i σ H' => H' = H ∧ ∃ sd v, 0 ≤ sd ∧ sd < 2147483647 ∧ σ = [some (.ref a), some (.int sd), v]) ⟨rfl, 7, none, by decide, by decide, rfl⟩ ?_ ?_ ?_⟩
    · rintro i σ H' _ ⟨rfl, _⟩
      exact hs
    · rintro i x σ H' hx ⟨rfl, sd, v, h0, h1, rfl⟩
      obtain ⟨c, rfl⟩ : ∃ c : Int, x = .int c := by
        obtain ⟨c, _, e⟩ := List.mem_map.mp (List.mem_of_getElem? hx)
        exact ⟨c, e.symm⟩
      walk_at "ra"
      exact ⟨rfl, _, _, Int.emod_nonneg _ (by decide), Int.emod_lt_of_pos _ (by decide), rfl⟩
    · rintro σ H' ⟨rfl, sd, v, h0, h1, rfl⟩
      walk_at "ra"
      refine w_listL hs fun l hl => ?_
      walk_at "ra"
      refine w_klst (by walk_at "len") fun p hp => ?_
      have hpl : l ≠ p := fun e => by rw [e, upd_same] at hp; cases hp
      refine hQ p _ ?_ ?_ ?_
      · rw [upd_ne (Ne.symm hpl)] at hp; exact hp
      · intro b o hb
        have h1 : b ≠ l := ne_of_none hb hl
        have h2 : b ≠ p := fun e => by rw [e] at hb; rw [upd_ne (Ne.symm hpl), hb] at hp; cases hp
        rw [upd_ne h2, upd_ne h1]; exact hb
      · exact ⟨l, _, ns, upd_same, ⟨0, 0, 0, sd, rfl, by decide, by decide, h0, h1⟩, by rw [upd_ne hpl, upd_same], hpl⟩

end
end My
namespace My
open PySem PySem.Spec PyProof.Rows L2 Rd
section
variable {P : Program} {w : World} {K : PySem.W.Frag} {mg : Str → Option Value} {base : Heap}

theorem sc__law_take : FnScope ["_law_pool_here", "_law_size", "_law_cells", "_law_mixed", "_law_cell", "_law_digit"] ["_law_pool_here", "_law_size"] (defScope (top 20)) := ⟨rfl, rfl, rfl, by decide +kernel, rfl, by decide +kernel, by decide +kernel⟩
theorem g__law_take (T : Tx fa fn xa fs P K mg) : FnG P w K mg base CX0 1 "_law_take" ["_law_pool_here", "_law_size"] spTake := by
  obtain ⟨fd, F⟩ := T.says.def_ 2 (d := d__law_take) rfl
  have sc := sc__law_take
  refine ⟨_, fd, T.glo 7, F.kp, F.ok sc (fun vs H Q E h => ?len) (fun cdv A outer s H vs Q E hr h => ⟨_, PSs.nox (pss_cons (ps_set (i := 2) sc.nd rfl (by first | exact Or.inl rfl | exact Or.inr rfl) (pe_ix ix_seq (pv 0) pe_int (fun _ _ => rfl)))
    (pss_cons (ps_asg (pe_op oAdd (pe_ix ix_seq (pv 0) pe_int (fun _ _ => rfl)) pe_int) (pg_sub (pv 0) pe_int set_list))
    (pss_cons (ps_set (i := 3) sc.nd rfl (by first | exact Or.inl rfl | exact Or.inr rfl) (pe_op oMod (pe_callTy cInt (by rfl) (T.free 2) (by decide +kernel) (pa_cons (pe_op oAdd (pe_op oAdd (pe_op oMul (pe_ix ix_seq (pv 0) pe_int (fun _ _ => rfl)) pe_int) (pe_op oMul (pe_ix ix_seq (pv 0) pe_int (fun _ _ => rfl)) pe_int)) pe_int) pa_nil)) pe_int))
    (pss_cons (ps_if (PW.pt (pw_and (pt_cmpR op_eq (pe_ix ix_seq (pv 0) pe_int (fun _ _ => rfl)) pe_int (nomark _)) (pw_and1 (pt_cmpR oLt (pe_ix ix_seq (pv 0) pe_int (fun _ _ => rfl)) (pe_callB cLen (by rfl) (T.free 6) (by decide +kernel) (pa_cons (pv 2) pa_nil)) (nomark _))))) (pss_cons (ps_set (i := 4) sc.nd rfl (by first | exact Or.inl rfl | exact Or.inr rfl) (pe_callTy cInt (by rfl) (T.free 2) (by decide +kernel) (pa_cons (pe_ix ix_seq (pv 2) (pe_ix ix_seq (pv 0) pe_int (fun _ _ => rfl)) (fun _ _ => rfl)) pa_nil)))
    (pss_cons (ps_asg (pe_op oAdd (pe_ix ix_seq (pv 0) pe_int (fun _ _ => rfl)) pe_int) (pg_sub (pv 0) pe_int set_list))
    (pss_cons (ps_set (i := 3) sc.nd rfl (by first | exact Or.inl rfl | exact Or.inr rfl) (pe_op oMod (pe_callTy cInt (by rfl) (T.free 2) (by decide +kernel) (pa_cons (pe_op oAdd (pe_op oAdd (pe_op oMul (pv 4) pe_int) (pe_ix ix_seq (pv 0) pe_int (fun _ _ => rfl))) (pe_op oMul (pe_ix ix_seq (pv 0) pe_int (fun _ _ => rfl)) pe_int)) pa_nil)) pe_int))
    (pss_one (ps_if (pt_cmpR oGe (pv 4) (pe_op oPow pe_int pe_int) (nomark _)) (pss_one (ps_asg (pv 4) (pg_sub (pv 0) pe_int set_list))) pss_nil))))) pss_nil)
    (pss_cons (ps_if (pt_cmpR oGt (pe_ix ix_seq (pv 0) pe_int (fun _ _ => rfl)) pe_int (nomark _)) (pss_cons (ps_set (i := 5) sc.nd rfl (by first | exact Or.inl rfl | exact Or.inr rfl) (pe_op oMod (pe_callTy cInt (by rfl) (T.free 2) (by decide +kernel) (pa_cons (pe_ix ix_seq (pv 0) pe_int (fun _ _ => rfl)) pa_nil)) (pv 1)))
    (pss_cons (ps_asg (pe_op oDiv (pe_ix ix_seq (pv 0) pe_int (fun _ _ => rfl)) (pv 1)) (pg_sub (pv 0) pe_int set_list))
    (pss_one (ps_ret (pv 5))))) pss_nil)
    (pss_cons (ps_set (i := 3) sc.nd rfl (by first | exact Or.inl rfl | exact Or.inr rfl) (pe_op oMod (pe_callTy cInt (by rfl) (T.free 2) (by decide +kernel) (pa_cons (pe_op oAdd (pe_op oMul (pv 3) pe_int) (pe_op oDiv (pv 3) pe_int)) pa_nil)) pe_int))
    (pss_one (ps_ret (pe_op oMod (pe_callTy cInt (by rfl) (T.free 2) (by decide +kernel) (pa_cons (pv 3) pa_nil)) (pv 1)))))))))), ?rd⟩), F.bindsN fun _ _ _ _ _ _ us hl => match us, hl with | [_, _], _ => rfl⟩
  case len =>
    obtain ⟨p, n, rfl, _⟩ := h
    rfl
  case rd =>
    obtain ⟨p, n, rfl, h0, hs, hp, hQ⟩ := h
    obtain ⟨q, l, ns, h1, ⟨a, b, c, s, rfl, ha, hb, hs0, hs1⟩, h3, h4⟩ := hp
    show tSeq _ _ ⟨_, _, _, _⟩ [some (.ref p), some (.int n), none, none, none, none] H
    try dsimp only [cxOf]
    walk_at "ra"
    all_goals repeat rw [upd_upd]
    all_goals (refine hQ _ _ (Int.emod_nonneg _ (by omega)) (Int.emod_lt_of_pos _ h0) (drawn_put h3 h4 ?_ ?_ ?_ ?_) <;> first | omega | exact Int.ediv_nonneg (by omega) (by omega))

end
end My
namespace My
open PySem PySem.Spec PyProof.Rows L2 Rd
section
variable {P : Program} {w : World} {K : PySem.W.Frag} {mg : Str → Option Value} {base : Heap}
abbrev spBig : Sp := spDraw 0 (fun _ => True) (fun _ d => 0 ≤ d ∧ d < 1000000000 ^ 3)
theorem sc__law_big : FnScope ["_law_pool_here", "_law_value", "_law_k"] ["_law_pool_here"] (defScope (top 21)) := ⟨rfl, rfl, rfl, by decide +kernel, rfl, by decide +kernel, by decide +kernel⟩
theorem g__law_big (T : Tx fa fn xa fs P K mg) : FnG P w K mg base CX0 2 "_law_big" ["_law_pool_here"] spBig := by
  obtain ⟨fd, F⟩ := T.says.def_ 3 (d := d__law_big) rfl
  have sc := sc__law_big
  refine ⟨_, fd, T.glo 9, F.kp, F.ok sc (fun vs H Q E h => ?len) (fun cdv A outer s H vs Q E hr h => ⟨_, PSs.nox (pss_cons (ps_set (i := 1) sc.nd rfl (by first | exact Or.inl rfl | exact Or.inr rfl) pe_int)
    (pss_cons (ps_for PassesOwn.never rfl (pi_range1 (by rfl) (T.free 8) (pa_cons pe_int pa_nil)) (pg_name (i := 2) sc.nd rfl (by first | exact Or.inl rfl | exact Or.inr rfl)) (pss_one (ps_set (i := 1) sc.nd rfl (by first | exact Or.inl rfl | exact Or.inr rfl) (pe_op oAdd (pe_op oMul (pv 1) (pe_op oPow pe_int pe_int)) (pe_cg (g__law_take T) (hr.mono (by decide)) rfl (pa_cons (pv 0) (pa_cons (pe_op oPow pe_int pe_int) pa_nil)))))))
    (pss_one (ps_ret (pv 1))))), ?rd⟩), F.bindsN fun _ _ _ _ _ _ us hl => match us, hl with | [_], _ => rfl⟩
  case len => exact spDraw_len h
  case rd =>
    obtain ⟨p, is, rfl, hl, _, hp, hQ⟩ := h
    obtain rfl := List.eq_nil_of_length_eq_zero hl
    show tSeq _ _ ⟨_, _, _, _⟩ [some (.ref p), none, none] H
    try dsimp only [cxOf]
    walk_at "rd"
    refine ⟨3, rfl, by decide, by decide, for_range (n := 3) (fun i σ H' => Drawn p H H' ∧ ∃ v x, 0 ≤ v ∧ v < 1000000000 ^ i ∧ σ = [some (.ref p), some (.int v), x]) ⟨Drawn.refl hp, 0, none, by decide, by decide, rfl⟩ ?_ ?_⟩
    · rintro i σ H' hi ⟨hd, v, x, h0, h1, rfl⟩
      walk_at "ra"
      refine use_take hd.pool (by decide) (small_of (by decide)) fun d H2 h2 h3 hd2 => ?_
      walk_at "ra"
      refine ⟨hd.trans hd2, _, _, ?_, ?_, rfl⟩
      · omega
      · rw [Int.pow_succ]; omega
    · rintro σ H' ⟨hd, v, x, h0, h1, rfl⟩
      walk_at "ra"
      exact hQ _ _ ⟨h0, h1⟩ hd

end
end My
namespace My
open PySem PySem.Spec PyProof.Rows L2 Rd
section
variable {P : Program} {w : World} {K : PySem.W.Frag} {mg : Str → Option Value} {base : Heap}
abbrev spFree : Sp := spDraw 0 (fun _ => True) (fun _ d => -1000000000000000000000000000 < d ∧ d < 1000000000000000000000000000)
theorem sc__law_free : FnScope ["_law_pool_here", "_law_value", "_law_way"] ["_law_pool_here"] (defScope (top 22)) := ⟨rfl, rfl, rfl, by decide +kernel, rfl, by decide +kernel, by decide +kernel⟩
theorem g__law_free (T : Tx fa fn xa fs P K mg) : FnG P w K mg base CX0 3 "_law_free" ["_law_pool_here"] spFree := by
  obtain ⟨fd, F⟩ := T.says.def_ 4 (d := d__law_free) rfl
  have sc := sc__law_free
  refine ⟨_, fd, T.glo 10, F.kp, F.ok sc (fun vs H Q E h => ?len) (fun cdv A outer s H vs Q E hr h => ⟨_, PSs.nox (pss_cons (ps_set (i := 1) sc.nd rfl (by first | exact Or.inl rfl | exact Or.inr rfl) (pe_op oSub (pe_cg (g__law_take T) (hr.mono (by decide)) rfl (pa_cons (pv 0) (pa_cons pe_int pa_nil))) pe_int))
    (pss_cons (ps_set (i := 2) sc.nd rfl (by first | exact Or.inl rfl | exact Or.inr rfl) (pe_cg (g__law_take T) (hr.mono (by decide)) rfl (pa_cons (pv 0) (pa_cons pe_int pa_nil))))
    (pss_cons (ps_if (pt_cmpR op_eq (pv 2) pe_int (nomark _)) (pss_one (ps_set (i := 1) sc.nd rfl (by first | exact Or.inl rfl | exact Or.inr rfl) (pe_cg (g__law_big T) (hr.mono (by decide)) rfl (pa_cons (pv 0) pa_nil)))) pss_nil)
    (pss_cons (ps_if (pt_cmpR op_eq (pv 2) pe_int (nomark _)) (pss_one (ps_set (i := 1) sc.nd rfl (by first | exact Or.inl rfl | exact Or.inr rfl) (pe_op oSub pe_int (pe_cg (g__law_big T) (hr.mono (by decide)) rfl (pa_cons (pv 0) pa_nil))))) pss_nil)
    (pss_one (ps_ret (pv 1))))))), ?rd⟩), F.bindsN fun _ _ _ _ _ _ us hl => match us, hl with | [_], _ => rfl⟩
  case len => exact spDraw_len h
  case rd =>
    obtain ⟨p, is, rfl, hl, _, hp, hQ⟩ := h
    obtain rfl := List.eq_nil_of_length_eq_zero hl
    show tSeq _ _ ⟨_, _, _, _⟩ [some (.ref p), none, none] H
    try dsimp only [cxOf]
    walk_at "ra"
    refine use_take hp (by decide) (small_of (by decide)) fun d H1 h1 h2 hd => ?_
    walk_at "ra"
    refine use_take hd.pool (by decide) (small_of (by decide)) fun e H2 h3 h4 he => ?_
    have hde := hd.trans he
    walk_at "ra"
    · refine use_draw0 hde.pool trivial fun b H3 hb hd3 => ?_
      obtain ⟨hb0, hb1⟩ := hb
      walk_at "ra"
      exact hQ _ _ (by constructor <;> omega) (hde.trans hd3)
    · refine use_draw0 hde.pool trivial fun b H3 hb hd3 => ?_
      obtain ⟨hb0, hb1⟩ := hb
      walk_at "ra"
      exact hQ _ _ (by constructor <;> omega) (hde.trans hd3)
    · exact hQ _ _ (by constructor <;> omega) hde

end
end My
namespace My
open PySem PySem.Spec PyProof.Rows L2 Rd
section
variable {P : Program} {w : World} {K : PySem.W.Frag} {mg : Str → Option Value} {base : Heap}
abbrev spStep : Sp := spDraw 0 (fun _ => True) (fun _ d => 1 ≤ d ∧ d ≤ 1000000000000000000000000000)
theorem sc__law_step : FnScope ["_law_pool_here", "_law_way"] ["_law_pool_here"] (defScope (top 23)) := ⟨rfl, rfl, rfl, by decide +kernel, rfl, by decide +kernel, by decide +kernel⟩
theorem g__law_step (T : Tx fa fn xa fs P K mg) : FnG P w K mg base CX0 3 "_law_step" ["_law_pool_here"] spStep := by
  obtain ⟨fd, F⟩ := T.says.def_ 5 (d := d__law_step) rfl
  have sc := sc__law_step
  refine ⟨_, fd, T.glo 11, F.kp, F.ok sc (fun vs H Q E h => ?len) (fun cdv A outer s H vs Q E hr h => ⟨_, PSs.nox (pss_cons (ps_set (i := 1) sc.nd rfl (by first | exact Or.inl rfl | exact Or.inr rfl) (pe_cg (g__law_take T) (hr.mono (by decide)) rfl (pa_cons (pv 0) (pa_cons pe_int pa_nil))))
    (pss_cons (ps_if (pt_cmpR op_eq (pv 1) pe_int (nomark _)) (pss_one (ps_ret (pe_op oAdd pe_int (pe_cg (g__law_take T) (hr.mono (by decide)) rfl (pa_cons (pv 0) (pa_cons pe_int pa_nil)))))) pss_nil)
    (pss_cons (ps_if (pt_cmpR op_eq (pv 1) pe_int (nomark _)) (pss_one (ps_ret (pe_op oAdd pe_int (pe_cg (g__law_big T) (hr.mono (by decide)) rfl (pa_cons (pv 0) pa_nil))))) pss_nil)
    (pss_one (ps_ret (pe_op oAdd pe_int (pe_cg (g__law_take T) (hr.mono (by decide)) rfl (pa_cons (pv 0) (pa_cons pe_int pa_nil))))))))), ?rd⟩), F.bindsN fun _ _ _ _ _ _ us hl => match us, hl with | [_], _ => rfl⟩
  case len => exact spDraw_len h
  case rd =>
    obtain ⟨p, is, rfl, hl, _, hp, hQ⟩ := h
    obtain rfl := List.eq_nil_of_length_eq_zero hl
    show tSeq _ _ ⟨_, _, _, _⟩ [some (.ref p), none] H
    try dsimp only [cxOf]
    walk_at "ra"
    refine use_take hp (by decide) (small_of (by decide)) fun d H1 h1 h2 hd => ?_
    walk_at "ra"
    · refine use_take hd.pool (by decide) (small_of (by decide)) fun e H2 h3 h4 he => ?_
      walk_at "ra"
      exact hQ _ _ (by constructor <;> omega) (hd.trans he)
    · refine use_draw0 hd.pool trivial fun b H2 hb he => ?_
      obtain ⟨hb0, hb1⟩ := hb
      walk_at "ra"
      exact hQ _ _ (by constructor <;> omega) (hd.trans he)
    · refine use_take hd.pool (by decide) (small_of (by decide)) fun e H2 h3 h4 he => ?_
      walk_at "ra"
      exact hQ _ _ (by constructor <;> omega) (hd.trans he)

end
end My
namespace My
open PySem PySem.Spec PyProof.Rows L2 Rd
section
variable {P : Program} {w : World} {K : PySem.W.Frag} {mg : Str → Option Value} {base : Heap}
abbrev spShift : Sp := spDraw 1 (fun l => 1 ≤ l.headD 0 ∧ l.headD 0 ≤ 1000000000000000000000000000) (fun _ d => -1000000000000000000000000000 ≤ d ∧ d ≤ 1000000000000000000000000000)
theorem sc__law_shift : FnScope ["_law_pool_here", "_law_step_here", "_law_way"] ["_law_pool_here", "_law_step_here"] (defScope (top 24)) := ⟨rfl, rfl, rfl, by decide +kernel, rfl, by decide +kernel, by decide +kernel⟩
theorem g__law_shift (T : Tx fa fn xa fs P K mg) : FnG P w K mg base CX0 3 "_law_shift" ["_law_pool_here", "_law_step_here"] spShift := by
  obtain ⟨fd, F⟩ := T.says.def_ 6 (d := d__law_shift) rfl
  have sc := sc__law_shift
  refine ⟨_, fd, T.glo 12, F.kp, F.ok sc (fun vs H Q E h => ?len) (fun cdv A outer s H vs Q E hr h => ⟨_, PSs.nox (pss_cons (ps_set (i := 2) sc.nd rfl (by first | exact Or.inl rfl | exact Or.inr rfl) (pe_cg (g__law_take T) (hr.mono (by decide)) rfl (pa_cons (pv 0) (pa_cons pe_int pa_nil))))
    (pss_cons (ps_if (pt_cmpR op_eq (pv 2) pe_int (nomark _)) (pss_one (ps_ret pe_int)) pss_nil)
    (pss_cons (ps_if (pt_cmpR op_eq (pv 2) pe_int (nomark _)) (pss_one (ps_ret (pe_cg (g__law_take T) (hr.mono (by decide)) rfl (pa_cons (pv 0) (pa_cons (pv 1) pa_nil))))) pss_nil)
    (pss_cons (ps_if (pt_cmpR op_eq (pv 2) pe_int (nomark _)) (pss_one (ps_ret (pe_op oSub (pe_op oSub pe_int pe_int) (pe_cg (g__law_take T) (hr.mono (by decide)) rfl (pa_cons (pv 0) (pa_cons pe_int pa_nil)))))) pss_nil)
    (pss_cons (ps_if (pt_cmpR op_eq (pe_cg (g__law_take T) (hr.mono (by decide)) rfl (pa_cons (pv 0) (pa_cons pe_int pa_nil))) pe_int (nomark _)) (pss_one (ps_ret (pe_op oSub pe_int (pe_cg (g__law_big T) (hr.mono (by decide)) rfl (pa_cons (pv 0) pa_nil))))) pss_nil)
    (pss_one (ps_ret (pe_cg (g__law_big T) (hr.mono (by decide)) rfl (pa_cons (pv 0) pa_nil))))))))), ?rd⟩), F.bindsN fun _ _ _ _ _ _ us hl => match us, hl with | [_, _], _ => rfl⟩
  case len => exact spDraw_len h
  case rd =>
    obtain ⟨p, is, rfl, hl, hpre, hp, hQ⟩ := h
    obtain ⟨st, rfl⟩ := List.length_eq_one_iff.mp hl
    obtain ⟨s0, s1⟩ : 1 ≤ st ∧ st ≤ 1000000000000000000000000000 := hpre
    have hsm : Small st := small_of (by omega)
    show tSeq _ _ ⟨_, _, _, _⟩ [some (.ref p), some (.int st), none] H
    try dsimp only [cxOf]
    walk_at "ra"
    refine use_take hp (by decide) (small_of (by decide)) fun d H1 h1 h2 hd => ?_
    walk_at "ra"
    · exact hQ _ _ (by constructor <;> omega) hd
    · refine use_take hd.pool (by omega) hsm fun e H2 h3 h4 he => ?_
      exact hQ _ _ (by constructor <;> omega) (hd.trans he)
    · refine use_take hd.pool (by decide) (small_of (by decide)) fun e H2 h3 h4 he => ?_
      walk_at "ra"
      exact hQ _ _ (by constructor <;> omega) (hd.trans he)
    · refine use_take hd.pool (by decide) (small_of (by decide)) fun e H2 h3 h4 he => ?_
      have hde := hd.trans he
      walk_at "ra"
      · refine use_draw0 hde.pool trivial fun b H3 hb hf => ?_
        obtain ⟨hb0, hb1⟩ := hb
        walk_at "ra"
        exact hQ _ _ (by constructor <;> omega) (hde.trans hf)
      · refine use_draw0 hde.pool trivial fun b H3 hb hf => ?_
        obtain ⟨hb0, hb1⟩ := hb
        exact hQ _ _ (by constructor <;> omega) (hde.trans hf)

end
end My
namespace My
open PySem PySem.Spec PyProof.Rows L2 Rd
section
variable {P : Program} {w : World} {K : PySem.W.Frag} {mg : Str → Option Value} {base : Heap}
abbrev spTick : Sp := spDraw 2 (fun _ => True) (fun _ _ => True)
theorem sc__law_tick : FnScope ["_law_pool_here", "_law_step_here", "_law_offset", "_law_bar"] ["_law_pool_here", "_law_step_here", "_law_offset"] (defScope (top 25)) := ⟨rfl, rfl, rfl, by decide +kernel, rfl, by decide +kernel, by decide +kernel⟩
theorem g__law_tick (T : Tx fa fn xa fs P K mg) : FnG P w K mg base CX0 4 "_law_tick" ["_law_pool_here", "_law_step_here", "_law_offset"] spTick := by
  obtain ⟨fd, F⟩ := T.says.def_ 7 (d := d__law_tick) rfl
  have sc := sc__law_tick
  refine ⟨_, fd, T.glo 13, F.kp, F.ok sc (fun vs H Q E h => ?len) (fun cdv A outer s H vs Q E hr h => ⟨_, PSs.nox (pss_cons (ps_if (pt_cmpR op_eq (pe_cg (g__law_take T) (hr.mono (by decide)) rfl (pa_cons (pv 0) (pa_cons pe_int pa_nil))) pe_int (nomark _)) (pss_one (ps_ret (pe_cg (g__law_free T) (hr.mono (by decide)) rfl (pa_cons (pv 0) pa_nil)))) pss_nil)
    (pss_cons (ps_set (i := 3) sc.nd rfl (by first | exact Or.inl rfl | exact Or.inr rfl) (pe_op oAdd (pv 2) (pe_op oMul (pv 1) (pe_op oSub (pe_cg (g__law_take T) (hr.mono (by decide)) rfl (pa_cons (pv 0) (pa_cons pe_int pa_nil))) pe_int))))
    (pss_one (ps_ret (pe_op oSub (pe_op oAdd (pv 3) (pe_cg (g__law_take T) (hr.mono (by decide)) rfl (pa_cons (pv 0) (pa_cons pe_int pa_nil)))) pe_int))))), ?rd⟩), F.bindsN fun _ _ _ _ _ _ us hl => match us, hl with | [_, _, _], _ => rfl⟩
  case len => exact spDraw_len h
  case rd =>
    obtain ⟨p, is, rfl, hl, _, hp, hQ⟩ := h
    obtain ⟨st, of, rfl⟩ := len2 hl
    show tSeq _ _ ⟨_, _, _, _⟩ [some (.ref p), some (.int st), some (.int of), none] H
    try dsimp only [cxOf]
    walk_at "ra"
    refine use_take hp (by decide) (small_of (by decide)) fun d H1 h1 h2 hd => ?_
    walk_at "ra"
    · refine use_draw0 hd.pool trivial fun b H2 hb he => ?_
      exact hQ _ _ trivial (hd.trans he)
    · refine use_take hd.pool (by decide) (small_of (by decide)) fun e H2 h3 h4 he => ?_
      walk_at "ra"
      refine use_take he.pool (by decide) (small_of (by decide)) fun e2 H3 h5 h6 hf => ?_
      walk_at "ra"
      exact hQ _ _ trivial ((hd.trans he).trans hf)

end
end My
namespace My
open PySem PySem.Spec PyProof.Rows L2 Rd
section
variable {P : Program} {w : World} {K : PySem.W.Frag} {mg : Str → Option Value} {base : Heap}
theorem x_BadNumber (T : Tx fa fn xa fs P K mg) : ExcG P w K mg base 1 "BadNumber" ["self", "number"] (spX1 (He.ga K "BadNumber") "number") := by
  obtain ⟨fd, F⟩ := T.all.sdef 0 (d := s_BadNumber) rfl
  exact exc_one T (T.free 14) (T.glo 15) (T.exc 0) F (T.noat 16) rfl rfl rfl
    (cls_scope ⟨rfl, rfl, rfl, by decide +kernel, rfl, by decide +kernel, by decide +kernel⟩ (by decide +kernel) (fun _ => rfl) rfl (by decide +kernel) (fun x h => h))
    (by decide +kernel) rfl ⟨by decide, by decide⟩ ⟨by decide +kernel, by decide +kernel⟩ ⟨by decide +kernel, by decide +kernel⟩ (fun _ _ _ _ => ⟨_, rfl⟩) (fun _ _ _ _ => rfl) (fun _ _ _ _ => rfl)
    (fun _ _ _ _ _ _ _ us hu => match us, hu with | [_, _], _ => rfl)

end
end My
namespace My
open PySem PySem.Spec PyProof.Rows L2 Rd
section
variable {P : Program} {w : World} {K : PySem.W.Frag} {mg : Str → Option Value} {base : Heap}

/-- a grid stands at a -/
def gridF (s o : Int) : List (Str × V) := putF "offset" (.int o) (putF "step" (.int s) [])
def IsGrid (K : PySem.W.Frag) (H : Hp) (a : Addr) (s o : Int) : Prop := ∃ dx, H a = some (.ins (He.ga K "Grid") dx (gridF s o))
theorem IsGrid.keep {H H' : Hp} {a : Addr} {s o : Int} (h : IsGrid K H a s o) (k : Same H H') : IsGrid K H' a s o := let ⟨dx, e⟩ := h; ⟨dx, k _ _ e⟩
/-- what Grid(step, offset) does with the new instance x -/
def spGrid (K : PySem.W.Frag) : Sp := fun vs H Q E => ∃ (x dx : Addr) (s o : Int), vs = [.ref x, .int s, .int o] ∧ H x = some (.ins (He.ga K "Grid") dx []) ∧
  (1 ≤ s → Q .non (upd H x (.ins (He.ga K "Grid") dx (gridF s (o % s))))) ∧ (s < 1 → ∀ d, H d = none → E (.ref (He.ga K "BadNumber")) (some d) (upd H d (.xd [("number", .int s)])))

theorem sc_Grid___init__ : FnScope ["self", "step", "offset"] ["self", "step", "offset"] (defScope (inClass (top 16) 0)) := ⟨rfl, rfl, rfl, by decide +kernel, rfl, by decide +kernel, by decide +kernel⟩
theorem f_Grid___init__ (T : Tx fa fn xa fs P K mg) : ∃ fd, FunD K "__init__" "Grid.__init__" (defArgs (inClass (top 16) 0)) (defBody (inClass (top 16) 0)) (defScope (inClass (top 16) 0)) (He.DefD.dvs K d_Grid___init__) (He.DefD.kws K d_Grid___init__) (He.ma K (He.ga K "Grid") "__init__") fd ∧ FnOk P w K mg base (CX P w) 3 (He.ma K (He.ga K "Grid") "__init__") fd ["self", "step", "offset"] (spGrid K) := by
  obtain ⟨fd, F⟩ := T.says.def_ 8 (d := d_Grid___init__) rfl
  have sc := sc_Grid___init__
  refine ⟨fd, F, F.ok sc (fun vs H Q E h => ?len) (fun cdv A outer s H vs Q E hr h => ⟨_, (pss_cons (ps_if (pt_cmpR oLt (pv 1) pe_int (nomark _)) (pss_one (ps_raise rfl (takes_of rfl rfl rfl rfl) (pmk_g (x_BadNumber T) (hr.mono (by decide)) rfl (pa_cons (pv 1) pa_nil)))) pss_nil)
    (pss_cons (ps_fld (pv 0) (pv 1) rfl)
    (pss_one (ps_fld (pv 0) (pe_op oMod (pv 2) (pv 1)) rfl)))), ?rd⟩)⟩
  case len =>
    obtain ⟨x, dx, s, o, rfl, _⟩ := h
    rfl
  case rd =>
    obtain ⟨x, dx, s, o, rfl, hx, hq, he⟩ := h
    have hcl : Cls K (He.ga K "Grid") := T.cls 17
    have hn1 : NoAttr K (He.ga K "Grid") "step" := T.noat 18
    have hn2 : NoAttr K (He.ga K "Grid") "offset" := T.noat 19
    show tSeq _ _ ⟨_, _, _, _⟩ [some (.ref x), some (.int s), some (.int o)] H
    try dsimp only [cxOf]
    walk_at "ra"
    · refine use_raise1 fun d hd => ?_
      exact he (by omega) d hd
    · rw [upd_upd]
      exact hq (by omega)

end
end My
namespace My
open PySem PySem.Spec PyProof.Rows L2 Rd
section
variable {P : Program} {w : World} {K : PySem.W.Frag} {mg : Str → Option Value} {base : Heap}
theorem mk_Grid2 (T : Tx fa fn xa fs P K mg) : MkG P w K mg base (CX P w) 3 "Grid" ["self", "step", "offset"] [] (spGrid K) := by
  obtain ⟨fd, F, ok⟩ := f_Grid___init__ (w := w) (base := base) T
  obtain ⟨ds, hv, hb⟩ := F.binds1 (ps := ["self", "step", "offset"]) 3 1 (List.cons_ne_nil _ _) rfl (fun _ _ _ _ _ _ _ us its hu hi => match us, hu, its, hi with | [_, _, _], _, [_], _ => ⟨_, rfl, rfl⟩)
  exact ⟨_, fd, ds, T.glo 20, T.mkr 21, ok, hb, hv⟩
theorem mk_Grid1 (T : Tx fa fn xa fs P K mg) : MkG P w K mg base (CX P w) 3 "Grid" ["self", "step", "offset"] [.int 0] (spGrid K) := by
  obtain ⟨fd, F, ok⟩ := f_Grid___init__ (w := w) (base := base) T
  obtain ⟨ds, hv, hb⟩ := F.binds1 (ps := ["self", "step", "offset"]) 2 0 (List.cons_ne_nil _ _) rfl (fun _ _ _ _ _ _ _ us its hu hi => match us, hu, its, hi with | [_, _], _, [_], _ => ⟨_, rfl, rfl⟩)
  exact ⟨_, fd, ds, T.glo 20, T.mkr 21, ok, hb, hv⟩

end
end My
namespace My
open PySem PySem.Spec PyProof.Rows L2 Rd
section
variable {P : Program} {w : World} {K : PySem.W.Frag} {mg : Str → Option Value} {base : Heap}
def spFirst (K : PySem.W.Frag) : Sp := fun vs H Q _ => ∃ (a : Addr) (s o t : Int), vs = [.ref a, .int t] ∧ IsGrid K H a s o ∧ 1 ≤ s ∧ Q (.int (GridM.fb s o t)) H
theorem sc_Grid_first_bar : FnScope ["self", "tick"] ["self", "tick"] (defScope (inClass (top 16) 2)) := ⟨rfl, rfl, rfl, by decide +kernel, rfl, by decide +kernel, by decide +kernel⟩
theorem g_Grid_first_bar (T : Tx fa fn xa fs P K mg) : MtG P w K mg base CX0 1 (He.ga K "Grid") "first_bar" ["self", "tick"] (spFirst K) := by
  obtain ⟨fd, F⟩ := T.says.def_ 9 (d := d_Grid_first_bar) rfl
  have sc := sc_Grid_first_bar
  refine ⟨⟨_, fd, T.meth 22, F.ok sc (fun vs H Q E h => ?len) (fun cdv A outer s H vs Q E hr h => ⟨_, PSs.nox (pss_one (ps_ret (pe_op oAdd (pv 1) (pe_op oMod (pe_op oSub (pe_fld (pv 0) rfl) (pv 1)) (pe_fld (pv 0) rfl))))), ?rd⟩), F.bindsN fun _ _ _ _ _ _ us hl => match us, hl with | [_, _], _ => rfl⟩, T.cls 17⟩
  case len =>
    obtain ⟨a, s, o, t, rfl, _⟩ := h
    rfl
  case rd =>
    obtain ⟨a, s, o, t, rfl, ⟨dx, ha⟩, h1, hQ⟩ := h
    have hcl : Cls K (He.ga K "Grid") := T.cls 17
    have hn1 : NoAttr K (He.ga K "Grid") "step" := T.noat 18
    have hn2 : NoAttr K (He.ga K "Grid") "offset" := T.noat 19
    show tRet _ ⟨_, _, _, _⟩ [some (.ref a), some (.int t)] H
    try dsimp only [cxOf]
    walk_at "ra"
    exact hQ

end
end My
namespace My
open PySem PySem.Spec PyProof.Rows L2 Rd
section
variable {P : Program} {w : World} {K : PySem.W.Frag} {mg : Str → Option Value} {base : Heap}
def spLast (K : PySem.W.Frag) : Sp := fun vs H Q _ => ∃ (a : Addr) (s o t : Int), vs = [.ref a, .int t] ∧ IsGrid K H a s o ∧ 1 ≤ s ∧ Q (.int (GridM.lb s o t)) H
theorem sc_Grid_last_bar : FnScope ["self", "tick"] ["self", "tick"] (defScope (inClass (top 16) 3)) := ⟨rfl, rfl, rfl, by decide +kernel, rfl, by decide +kernel, by decide +kernel⟩
theorem g_Grid_last_bar (T : Tx fa fn xa fs P K mg) : MtG P w K mg base CX0 1 (He.ga K "Grid") "last_bar" ["self", "tick"] (spLast K) := by
  obtain ⟨fd, F⟩ := T.says.def_ 10 (d := d_Grid_last_bar) rfl
  have sc := sc_Grid_last_bar
  refine ⟨⟨_, fd, T.meth 23, F.ok sc (fun vs H Q E h => ?len) (fun cdv A outer s H vs Q E hr h => ⟨_, PSs.nox (pss_one (ps_ret (pe_op oSub (pv 1) (pe_op oMod (pe_op oSub (pv 1) (pe_fld (pv 0) rfl)) (pe_fld (pv 0) rfl))))), ?rd⟩), F.bindsN fun _ _ _ _ _ _ us hl => match us, hl with | [_, _], _ => rfl⟩, T.cls 17⟩
  case len =>
    obtain ⟨a, s, o, t, rfl, _⟩ := h
    rfl
  case rd =>
    obtain ⟨a, s, o, t, rfl, ⟨dx, ha⟩, h1, hQ⟩ := h
    have hcl : Cls K (He.ga K "Grid") := T.cls 17
    have hn1 : NoAttr K (He.ga K "Grid") "step" := T.noat 18
    have hn2 : NoAttr K (He.ga K "Grid") "offset" := T.noat 19
    show tRet _ ⟨_, _, _, _⟩ [some (.ref a), some (.int t)] H
    try dsimp only [cxOf]
    walk_at "ra"
    exact hQ

end
end My
namespace My
open PySem PySem.Spec PyProof.Rows L2 Rd
section
variable {P : Program} {w : World} {K : PySem.W.Frag} {mg : Str → Option Value} {base : Heap}
def spIn (K : PySem.W.Frag) : Sp := fun vs H Q _ => ∃ (a : Addr) (s o t : Int), vs = [.ref a, .int t] ∧ IsGrid K H a s o ∧ 1 ≤ s ∧ Q (.bl (decide ((t - o) % s = 0))) H
theorem sc_Grid___contains__ : FnScope ["self", "tick"] ["self", "tick"] (defScope (inClass (top 16) 6)) := ⟨rfl, rfl, rfl, by decide +kernel, rfl, by decide +kernel, by decide +kernel⟩
theorem g_Grid___contains__ (T : Tx fa fn xa fs P K mg) : MtG P w K mg base CX0 1 (He.ga K "Grid") "__contains__" ["self", "tick"] (spIn K) := by
  obtain ⟨fd, F⟩ := T.says.def_ 11 (d := d_Grid___contains__) rfl
  have sc := sc_Grid___contains__
  refine ⟨⟨_, fd, T.meth 24, F.ok sc (fun vs H Q E h => ?len) (fun cdv A outer s H vs Q E hr h => ⟨_, PSs.nox (pss_one (ps_ret (pe_cmpR op_eq (pe_op oMod (pe_op oSub (pv 1) (pe_fld (pv 0) rfl)) (pe_fld (pv 0) rfl)) pe_int (nomark _)))), ?rd⟩), F.bindsN fun _ _ _ _ _ _ us hl => match us, hl with | [_, _], _ => rfl⟩, T.cls 17⟩
  case len =>
    obtain ⟨a, s, o, t, rfl, _⟩ := h
    rfl
  case rd =>
    obtain ⟨a, s, o, t, rfl, ⟨dx, ha⟩, h1, hQ⟩ := h
    have hcl : Cls K (He.ga K "Grid") := T.cls 17
    have hn1 : NoAttr K (He.ga K "Grid") "step" := T.noat 18
    have hn2 : NoAttr K (He.ga K "Grid") "offset" := T.noat 19
    show tRet _ ⟨_, _, _, _⟩ [some (.ref a), some (.int t)] H
    try dsimp only [cxOf]
    walk_at "ra"
    exact hQ

end
end My
namespace My
open PySem PySem.Spec PyProof.Rows L2 Rd
section
variable {P : Program} {w : World} {K : PySem.W.Frag} {mg : Str → Option Value} {base : Heap}
def spBetw (K : PySem.W.Frag) : Sp := fun vs H Q _ => ∃ (a : Addr) (s o lo hi : Int), vs = [.ref a, .int lo, .int hi] ∧ IsGrid K H a s o ∧ 1 ≤ s ∧ Small s ∧ Q (.int (if hi ≤ lo then 0 else (GridM.fb s o hi - GridM.fb s o lo) / s)) H
theorem sc_Grid_bars_between : FnScope ["self", "low", "high"] ["self", "low", "high"] (defScope (inClass (top 16) 4)) := ⟨rfl, rfl, rfl, by decide +kernel, rfl, by decide +kernel, by decide +kernel⟩
theorem g_Grid_bars_between (T : Tx fa fn xa fs P K mg) : MtG P w K mg base CX0 2 (He.ga K "Grid") "bars_between" ["self", "low", "high"] (spBetw K) := by
  obtain ⟨fd, F⟩ := T.says.def_ 12 (d := d_Grid_bars_between) rfl
  have sc := sc_Grid_bars_between
  refine ⟨⟨_, fd, T.meth 25, F.ok sc (fun vs H Q E h => ?len) (fun cdv A outer s H vs Q E hr h => ⟨_, PSs.nox (pss_cons (ps_if (pt_cmpR oLe (pv 2) (pv 1) (nomark _)) (pss_one (ps_ret pe_int)) pss_nil)
    (pss_one (ps_ret (pe_op oDiv (pe_op oSub (pe_mg (g_Grid_first_bar T) (hr.mono (by decide)) (pv 0) (pa_cons (pv 2) pa_nil)) (pe_mg (g_Grid_first_bar T) (hr.mono (by decide)) (pv 0) (pa_cons (pv 1) pa_nil))) (pe_fld (pv 0) rfl))))), ?rd⟩), F.bindsN fun _ _ _ _ _ _ us hl => match us, hl with | [_, _, _], _ => rfl⟩, T.cls 17⟩
  case len =>
    obtain ⟨a, s, o, lo, hi, rfl, _⟩ := h
    rfl
  case rd =>
    obtain ⟨a, s, o, lo, hi, rfl, hg, h1, hsm, hQ⟩ := h
    obtain ⟨dx, ha⟩ := id hg
    have hcl : Cls K (He.ga K "Grid") := T.cls 17
    have hn1 : NoAttr K (He.ga K "Grid") "step" := T.noat 18
    have hn2 : NoAttr K (He.ga K "Grid") "offset" := T.noat 19
    show tSeq _ _ ⟨_, _, _, _⟩ [some (.ref a), some (.int lo), some (.int hi)] H
    try dsimp only [cxOf]
    walk_at "ra"
    · rw [if_pos (by assumption)] at hQ
      exact hQ
    · refine ⟨a, s, o, hi, rfl, hg, h1, ?_⟩
      walk_at "ra"
      refine ⟨a, s, o, lo, rfl, hg, h1, ?_⟩
      walk_at "ra"
      rw [if_neg (by assumption)] at hQ
      exact hQ

end
end My
namespace My
open PySem PySem.Spec PyProof.Rows L2 Rd
section
variable {P : Program} {w : World} {K : PySem.W.Frag} {mg : Str → Option Value} {base : Heap}
def spMade (K : PySem.W.Frag) : Sp := fun vs H Q _ => ∃ (a : Addr) (s o : Int), vs = [.ref a, .int s, .int o] ∧ IsGrid K H a s (o % s) ∧ 1 ≤ s ∧ Q (.bl true) H
theorem sc__law_made : FnScope ["_law_bars", "_law_step_here", "_law_offset"] ["_law_bars", "_law_step_here", "_law_offset"] (defScope (top 26)) := ⟨rfl, rfl, rfl, by decide +kernel, rfl, by decide +kernel, by decide +kernel⟩
theorem g__law_made (T : Tx fa fn xa fs P K mg) : FnG P w K mg base CX0 2 "_law_made" ["_law_bars", "_law_step_here", "_law_offset"] (spMade K) := by
  obtain ⟨fd, F⟩ := T.says.def_ 13 (d := d__law_made) rfl
  have sc := sc__law_made
  refine ⟨_, fd, T.glo 26, F.kp, F.ok sc (fun vs H Q E h => ?len) (fun cdv A outer s H vs Q E hr h => ⟨_, PSs.nox (pss_cons (ps_if (PW.pt (pw_or (pt_not (pt_val (pe_callB cIsi (by rfl) (T.free 0) (by decide +kernel) (pa_cons (pv 0) (pa_cons (pe_glob (v := .ref (He.ga K "Grid")) rfl (T.glo 20) rfl) pa_nil))))) (pw_or (pt_not (pt_val (pe_cg (g__law_is_int T) (hr.mono (by decide)) rfl (pa_cons (pe_fld (pv 0) rfl) pa_nil)))) (pw_or1 (pt_not (pt_val (pe_cg (g__law_is_int T) (hr.mono (by decide)) rfl (pa_cons (pe_fld (pv 0) rfl) pa_nil)))))))) (pss_one (ps_ret pe_bl)) pss_nil)
    (pss_one (ps_ret (pe_and (pe_cmpR op_eq (pe_fld (pv 0) rfl) (pv 1) (nomark _)) (pe_and (pe_chain oLe oLt pe_int (pe_fld (pv 0) rfl) (pv 1)) (pe_one (pe_cmpR op_eq (pe_op oMod (pe_callTy cInt (by rfl) (T.free 2) (by decide +kernel) (pa_cons (pe_op oSub (pe_fld (pv 0) rfl) (pv 2)) pa_nil)) (pv 1)) pe_int (nomark _)))))))), ?rd⟩), F.bindsN fun _ _ _ _ _ _ us hl => match us, hl with | [_, _, _], _ => rfl⟩
  case len =>
    obtain ⟨a, s, o, rfl, _⟩ := h
    rfl
  case rd =>
    obtain ⟨a, s, o, rfl, ⟨dx, ha⟩, h1, hQ⟩ := h
    have hcl : Cls K (He.ga K "Grid") := T.cls 17
    have hn1 : NoAttr K (He.ga K "Grid") "step" := T.noat 18
    have hn2 : NoAttr K (He.ga K "Grid") "offset" := T.noat 19
    have hty := T.inst 1 rfl hcl ha
    have hkt := T.kit 2 rfl
    have b0 := Int.emod_nonneg o (show s ≠ 0 by omega)
    have b1 := Int.emod_lt_of_pos o (show 0 < s by omega)
    show tSeq _ _ ⟨_, _, _, _⟩ [some (.ref a), some (.int s), some (.int o)] H
    try dsimp only [cxOf]
    walk_at "ra"
    refine w_isi_own hty hkt ?_
    walk_at "ra"
    refine use_isint ?_
    walk_at "ra"
    refine use_isint ?_
    walk_at "ra"
    have e : (o % s - o) % s = 0 := by rw [GridM.rest_eq s o, show o - s * (o / s) - o = s * (-(o / s)) by rw [Int.mul_neg]; omega, Int.mul_emod_right]
    rw [decide_eq_true e]
    exact hQ

end
end My
namespace My
open PySem PySem.Spec PyProof.Rows L2 Rd
section
variable {P : Program} {w : World} {K : PySem.W.Frag} {mg : Str → Option Value} {base : Heap}
def spAsked (K : PySem.W.Frag) : Sp := fun vs H Q _ => ∃ (a : Addr) (s o t : Int), vs = [.ref a, .int s, .int o, .int t] ∧ IsGrid K H a s (o % s) ∧ 1 ≤ s ∧ Q (.bl true) H
theorem sc__law_asked : FnScope ["_law_bars", "_law_step_here", "_law_offset", "_law_tick_here", "_law_first", "_law_last"] ["_law_bars", "_law_step_here", "_law_offset", "_law_tick_here"] (defScope (top 27)) := ⟨rfl, rfl, rfl, by decide +kernel, rfl, by decide +kernel, by decide +kernel⟩
theorem g__law_asked (T : Tx fa fn xa fs P K mg) : FnG P w K mg base CX0 2 "_law_asked" ["_law_bars", "_law_step_here", "_law_offset", "_law_tick_here"] (spAsked K) := by
  obtain ⟨fd, F⟩ := T.says.def_ 14 (d := d__law_asked) rfl
  have sc := sc__law_asked
  refine ⟨_, fd, T.glo 27, F.kp, F.ok sc (fun vs H Q E h => ?len) (fun cdv A outer s H vs Q E hr h => ⟨_, PSs.nox (pss_cons (ps_set (i := 4) sc.nd rfl (by first | exact Or.inl rfl | exact Or.inr rfl) (pe_mg (g_Grid_first_bar T) (hr.mono (by decide)) (pv 0) (pa_cons (pv 3) pa_nil)))
    (pss_cons (ps_set (i := 5) sc.nd rfl (by first | exact Or.inl rfl | exact Or.inr rfl) (pe_mg (g_Grid_last_bar T) (hr.mono (by decide)) (pv 0) (pa_cons (pv 3) pa_nil)))
    (pss_cons (ps_if (PW.pt (pw_or (pt_not (pt_val (pe_cg (g__law_is_int T) (hr.mono (by decide)) rfl (pa_cons (pv 4) pa_nil)))) (pw_or1 (pt_not (pt_val (pe_cg (g__law_is_int T) (hr.mono (by decide)) rfl (pa_cons (pv 5) pa_nil))))))) (pss_one (ps_ret pe_bl)) pss_nil)
    (pss_cons (ps_if (PW.pt (pw_or (pt_not (pt_chain oLe oLt pe_int (pe_op oSub (pv 4) (pv 3)) (pv 1))) (pw_or1 (pt_not (pt_chain oLe oLt pe_int (pe_op oSub (pv 3) (pv 5)) (pv 1)))))) (pss_one (ps_ret pe_bl)) pss_nil)
    (pss_cons (ps_if (PW.pt (pw_or (pt_cmpR op_ne (pe_op oMod (pe_callTy cInt (by rfl) (T.free 2) (by decide +kernel) (pa_cons (pe_op oSub (pv 4) (pv 2)) pa_nil)) (pv 1)) pe_int (nomark _)) (pw_or1 (pt_cmpR op_ne (pe_op oMod (pe_callTy cInt (by rfl) (T.free 2) (by decide +kernel) (pa_cons (pe_op oSub (pv 5) (pv 2)) pa_nil)) (pv 1)) pe_int (nomark _))))) (pss_one (ps_ret pe_bl)) pss_nil)
    (pss_one (ps_ret (pe_cmpR op_eq (pe_cmpR (oInG (g_Grid___contains__ T) (hr.mono (by decide))) (pv 3) (pv 0) (by with_unfolding_all rfl)) (pe_cmpR op_eq (pe_op oMod (pe_callTy cInt (by rfl) (T.free 2) (by decide +kernel) (pa_cons (pe_op oSub (pv 3) (pv 2)) pa_nil)) (pv 1)) pe_int (nomark _)) (nomark _))))))))), ?rd⟩), F.bindsN fun _ _ _ _ _ _ us hl => match us, hl with | [_, _, _, _], _ => rfl⟩
  case len =>
    obtain ⟨a, s, o, t, rfl, _⟩ := h
    rfl
  case rd =>
    obtain ⟨a, s, o, t, rfl, hg, h1, hQ⟩ := h
    obtain ⟨dx, ha⟩ := id hg
    have hcl : Cls K (He.ga K "Grid") := T.cls 17
    have hn1 : NoAttr K (He.ga K "Grid") "step" := T.noat 18
    have hn2 : NoAttr K (He.ga K "Grid") "offset" := T.noat 19
    have f1 := GridM.fb_ge (s := s) (o := o % s) (t := t) (by omega)
    have f2 := GridM.lb_le (s := s) (o := o % s) (t := t) (by omega)
    have f3 := GridM.fb_bar (s := s) (o := o) (t := t)
    have f4 := GridM.lb_bar (s := s) (o := o) (t := t)
    show tSeq _ _ ⟨_, _, _, _⟩ [some (.ref a), some (.int s), some (.int o), some (.int t), none, none] H
    try dsimp only [cxOf]
    walk_at "ra"
    refine ⟨a, s, _, t, rfl, hg, h1, ?_⟩
    walk_at "ra"
    refine ⟨a, s, _, t, rfl, hg, h1, ?_⟩
    walk_at "ra"
    refine use_isint ?_
    walk_at "ra"
    refine use_isint ?_
    walk_at "ra"
    refine w_inG ha ⟨a, s, _, t, rfl, hg, h1, _, rfl, ?_⟩
    walk_at "ra"
    rw [GridM.in_iff]
    refine w_eqB ?_
    rw [decide_eq_true rfl]
    exact hQ

end
end My
namespace My
open PySem PySem.Spec PyProof.Rows L2 Rd
section
variable {P : Program} {w : World} {K : PySem.W.Frag} {mg : Str → Option Value} {base : Heap}
def spCount : Sp := fun vs H Q _ => ∃ s o lo hi : Int, vs = [.int s, .int o, .int lo, .int hi] ∧ 1 ≤ s ∧ Small s ∧ ∀ H', Same H H' → Q (.int (if hi ≤ lo then 0 else GridM.cnt s o lo hi)) H'
theorem sc__law_count : FnScope ["_law_step_here", "_law_offset", "_law_low", "_law_high", "_law_tick_here"] ["_law_step_here", "_law_offset", "_law_low", "_law_high"] (defScope (top 28)) := ⟨rfl, rfl, rfl, by decide +kernel, rfl, by decide +kernel, by decide +kernel⟩
theorem g__law_count (T : Tx fa fn xa fs P K mg) : FnG P w K mg base CX0 1 "_law_count" ["_law_step_here", "_law_offset", "_law_low", "_law_high"] spCount := by
  obtain ⟨fd, F⟩ := T.says.def_ 15 (d := d__law_count) rfl
  have sc := sc__law_count
  refine ⟨_, fd, T.glo 28, F.kp, F.ok sc (fun vs H Q E h => ?len) (fun cdv A outer s H vs Q E hr h => ⟨_, PSs.nox (pss_cons (ps_if (pt_cmpR oLe (pv 3) (pv 2) (nomark _)) (pss_one (ps_ret pe_int)) pss_nil)
    (pss_cons (ps_if (pt_cmpR oLe (pe_op oSub (pv 3) (pv 2)) pe_int (nomark _)) (pss_one (ps_ret (pe_callB cLen (by rfl) (T.free 6) (by decide +kernel) (pa_cons (pe_lc (own := [("_law_tick_here", 4)]) rfl sc.nd (pi_rangeZ (by rfl) (T.free 8) (pa_cons (pv 2) (pa_cons (pv 3) pa_nil))) (blkOk_by (N := ["_law_step_here", "_law_offset", "_law_low", "_law_high", "_law_tick_here"]) (sc := defScope (top 28)) (by decide +kernel)) (fun _ _ _ _ _ => (pg_name (i := 4) sc.nd rfl (by first | exact Or.inl rfl | exact Or.inr rfl))) (fun _ _ _ _ _ => (pts_one (pt_cmpR op_eq (pe_op oMod (pe_callTy cInt (by rfl) (T.free 2) (by decide +kernel) (pa_cons (pe_op oSub (pv 4) (pv 1)) pa_nil)) (pv 0)) pe_int (nomark _)))) (fun _ _ _ _ _ => (pv 4))) pa_nil)))) pss_nil)
    (pss_one (ps_ret (pe_op oSub (pe_op oDiv (pe_op oSub (pe_op oSub (pv 3) pe_int) (pv 1)) (pv 0)) (pe_op oDiv (pe_op oSub (pe_op oSub (pv 2) pe_int) (pv 1)) (pv 0))))))), ?rd⟩), F.bindsN fun _ _ _ _ _ _ us hl => match us, hl with | [_, _, _, _], _ => rfl⟩
  case len =>
    obtain ⟨s, o, lo, hi, rfl, _⟩ := h
    rfl
  case rd =>
    obtain ⟨s, o, lo, hi, rfl, h1, hsm, hQ⟩ := h
    show tSeq _ _ ⟨_, _, _, _⟩ [some (.int s), some (.int o), some (.int lo), some (.int hi), none] H
    try dsimp only [cxOf]
    walk_at "ra"
    · have z := hQ H (Same.refl H)
      rw [if_pos (by assumption)] at z
      exact z
    · rename_i c1 c2
      refine ⟨_, rfl, _, rfl, fun D hD => ?_⟩
      refine lc_range (lo := lo) (n := (hi - lo).toNat) (fun i H' => ∃ acc : List V, H' = upd H D (.lst acc) ∧ acc.length = ((List.range i).filter fun j : Nat => decide ((lo + (j : Int) - o) % s = 0)).length ∧ acc.length ≤ i) ⟨[], rfl, rfl, Nat.le_refl _⟩ ?_ ?_
      · rintro i H' hi' ⟨acc, rfl, hl, hle⟩
        have hi2 : i < 61 := by omega
        refine ⟨rfl, ?_⟩
        walk_at "ra"
        refine ite2 (fun hc => ?_) (fun hc => ?_)
        · have hc' := of_decide_eq_true hc
          walk_at "ra"
          refine ⟨acc, upd_same, by rw [sizeLine_eq]; omega, acc ++ [.int (lo + i)], upd_upd, ?_, by simp; omega⟩
          rw [List.range_succ, List.filter_append, List.length_append, List.length_append, hl]
          simp [hc']
        · have hc' : ¬ (lo + (i : Int) - o) % s = 0 := fun z => hc (decide_eq_true z)
          refine ⟨acc, rfl, ?_, by omega⟩
          rw [List.range_succ, List.filter_append, List.length_append, hl]
          simp [hc']
      · rintro H' ⟨acc, rfl, hl, hle⟩
        walk_at "ra"
        have z := hQ (upd H D (.lst acc)) (fun b o hb => by rw [upd_ne (ne_of_none hb hD)]; exact hb)
        rw [if_neg (by assumption), show hi = lo + ((hi - lo).toNat : Nat) by omega, ← GridM.cnt_count (by omega)] at z
        rw [hl]
        exact z
    · have z := hQ H (Same.refl H)
      rw [if_neg (by assumption)] at z
      exact z

end
end My
namespace My
open PySem PySem.Spec PyProof.Rows L2 Rd
section
variable {P : Program} {w : World} {K : PySem.W.Frag} {mg : Str → Option Value} {base : Heap}
def spCounted (K : PySem.W.Frag) : Sp := fun vs H Q _ => ∃ (a : Addr) (s o lo hi : Int), vs = [.ref a, .int s, .int o, .int lo, .int hi] ∧ IsGrid K H a s (o % s) ∧ 1 ≤ s ∧ Small s ∧ ∀ H', Same H H' → Q (.bl true) H'
theorem sc__law_counted : FnScope ["_law_bars", "_law_step_here", "_law_offset", "_law_low", "_law_high", "_law_told"] ["_law_bars", "_law_step_here", "_law_offset", "_law_low", "_law_high"] (defScope (top 29)) := ⟨rfl, rfl, rfl, by decide +kernel, rfl, by decide +kernel, by decide +kernel⟩
theorem g__law_counted (T : Tx fa fn xa fs P K mg) : FnG P w K mg base CX0 3 "_law_counted" ["_law_bars", "_law_step_here", "_law_offset", "_law_low", "_law_high"] (spCounted K) := by
  obtain ⟨fd, F⟩ := T.says.def_ 16 (d := d__law_counted) rfl
  have sc := sc__law_counted
  refine ⟨_, fd, T.glo 29, F.kp, F.ok sc (fun vs H Q E h => ?len) (fun cdv A outer s H vs Q E hr h => ⟨_, PSs.nox (pss_cons (ps_set (i := 5) sc.nd rfl (by first | exact Or.inl rfl | exact Or.inr rfl) (pe_mg (g_Grid_bars_between T) (hr.mono (by decide)) (pv 0) (pa_cons (pv 3) (pa_cons (pv 4) pa_nil))))
    (pss_one (ps_ret (pe_and (pe_cg (g__law_is_int T) (hr.mono (by decide)) rfl (pa_cons (pv 5) pa_nil)) (pe_one (pe_cmpR op_eq (pv 5) (pe_cg (g__law_count T) (hr.mono (by decide)) rfl (pa_cons (pv 1) (pa_cons (pv 2) (pa_cons (pv 3) (pa_cons (pv 4) pa_nil))))) (nomark _))))))), ?rd⟩), F.bindsN fun _ _ _ _ _ _ us hl => match us, hl with | [_, _, _, _, _], _ => rfl⟩
  case len =>
    obtain ⟨a, s, o, lo, hi, rfl, _⟩ := h
    rfl
  case rd =>
    obtain ⟨a, s, o, lo, hi, rfl, hg, h1, hsm, hQ⟩ := h
    obtain ⟨dx, ha⟩ := id hg
    show tSeq _ _ ⟨_, _, _, _⟩ [some (.ref a), some (.int s), some (.int o), some (.int lo), some (.int hi), none] H
    try dsimp only [cxOf]
    walk_at "ra"
    refine ⟨a, s, _, lo, hi, rfl, hg, h1, hsm, ?_⟩
    walk_at "ra"
    refine use_isint ?_
    walk_at "ra"
    refine ⟨s, o, lo, hi, rfl, h1, hsm, fun H' hs => ?_⟩
    walk_at "ra"
    rw [GridM.fb_cnt (by omega), decide_eq_true rfl]
    exact hQ H' hs

end
end My
namespace My
open PySem PySem.Spec PyProof.Rows L2 Rd
section
variable {P : Program} {w : World} {K : PySem.W.Frag} {mg : Str → Option Value} {base : Heap}
def spRefused (K : PySem.W.Frag) : Sp := fun vs H Q _ => ∃ s o : Int, vs = [.int s, .int o] ∧ s < 1 ∧ ∀ H', Same H H' → Q (.bl true) H'
theorem sc__law_refused : FnScope ["_law_step_here", "_law_offset", "_law_found", "e"] ["_law_step_here", "_law_offset"] (defScope (top 30)) := ⟨rfl, rfl, rfl, by decide +kernel, rfl, by decide +kernel, by decide +kernel⟩
theorem g__law_refused (T : Tx fa fn xa fs P K mg) : FnG P w K mg base CX0 5 "_law_refused" ["_law_step_here", "_law_offset"] (spRefused K) := by
  obtain ⟨fd, F⟩ := T.says.def_ 17 (d := d__law_refused) rfl
  have sc := sc__law_refused
  refine ⟨_, fd, T.glo 37, F.kp, F.ok sc (fun vs H Q E h => ?len) (fun cdv A outer s H vs Q E hr h => ⟨_, PSs.nox (pss_cons (ps_set (i := 2) sc.nd rfl (by first | exact Or.inl rfl | exact Or.inr rfl) pe_non)
    (pss_cons (ps_catch rfl rfl rfl sc.nd (i := 3) rfl rfl (c := .ref (He.ga K "BadNumber")) ⟨rfl, by decide, .inl (T.glo 15)⟩ (fun W pn xe tk _ => (pss_one (ps_expr (pe_mkC (He.ga K "Grid") (by rfl) (E := WE W) (sp := spGrid K) (mk_Grid2 T) (hr.mono (by decide)) (by rfl) (fun σ => passAt tk σ) (pa_cons (pv 0) (pa_cons (pv 1) pa_nil)))))) (fun a pn => (pss_one (ps_set (i := 2) sc.nd rfl (by first | exact Or.inl rfl | exact Or.inr rfl) (pv 3)))))
    (pss_cons (ps_if (PW.pt (pw_or (pt_not (pt_val (pe_callB cIsi (by rfl) (T.free 0) (by decide +kernel) (pa_cons (pv 2) (pa_cons (pe_glob (v := .ref (He.ga K "BarbreaksError")) rfl (T.glo 36) rfl) pa_nil))))) (pw_or1 (pt_not (pt_val (pe_callB cIsi (by rfl) (T.free 0) (by decide +kernel) (pa_cons (pv 2) (pa_cons (pe_bltn (v := .ty "ValueError") (u := .type "ValueError") rfl (T.free 35) (by decide +kernel) rfl) pa_nil)))))))) (pss_one (ps_ret pe_bl)) pss_nil)
    (pss_cons (ps_if (pt_val (pe_callB cIsiT (by rfl) (T.free 0) (by decide +kernel) (pa_cons (pv 2) (pa_cons (pe_tup (pa_cons (pe_glob (v := .ref (He.ga K "Apart")) rfl (T.glo 34) rfl) (pa_cons (pe_glob (v := .ref (He.ga K "BadName")) rfl (T.glo 33) rfl) (pa_cons (pe_glob (v := .ref (He.ga K "BadSpan")) rfl (T.glo 32) rfl) (pa_cons (pe_glob (v := .ref (He.ga K "BadText")) rfl (T.glo 31) rfl) (pa_cons (pe_glob (v := .ref (He.ga K "Refused")) rfl (T.glo 30) rfl) pa_nil)))))) pa_nil)))) (pss_one (ps_ret pe_bl)) pss_nil)
    (pss_one (ps_ret (pe_and (pe_cg (g__law_is_int T) (hr.mono (by decide)) rfl (pa_cons (pe_xk (pv 2)) pa_nil)) (pe_one (pe_cmpR op_eq (pe_xk (pv 2)) (pv 0) (nomark _)))))))))), ?rd⟩), F.bindsN fun _ _ _ _ _ _ us hl => match us, hl with | [_, _], _ => rfl⟩
  case len =>
    obtain ⟨s, o, rfl, _⟩ := h
    rfl
  case rd =>
    obtain ⟨s, o, rfl, h1, hQ⟩ := h
    have X := T.exc 0 rfl
    show tSeq _ _ ⟨_, _, _, _⟩ [some (.int s), some (.int o), none, none] H
    try dsimp only [cxOf]
    walk_at "rd"
    refine w_kmake fun x dx hx hdx hne => ?_
    refine ⟨x, dx, s, o, rfl, upd_same, fun z => absurd z (by omega), fun _ d hd => ?_⟩
    have hdx' : d ≠ x := fun e => by rw [e, upd_same] at hd; cases hd
    have hdd : d ≠ dx := fun e => by rw [e, upd_ne hne, upd_same] at hd; cases hd
    rw [upd_ne hdx', upd_ne hdd] at hd
    refine ⟨T.exm 10 rfl, fun a ha => ?_⟩
    have had : a ≠ d := fun e => by rw [e, upd_same] at ha; cases ha
    walk_at "rd"
    have xat : XcAt (upd (upd (upd (upd H dx (.own x)) x (.ins (He.ga K "Grid") dx [])) d (.xd [("number", .int s)])) a (XcO (.ref (He.ga K "BadNumber")) (some d) a)) a (He.ga K "BadNumber") (some [("number", .int s)]) := ⟨d, upd_same, by rw [upd_ne (Ne.symm had), upd_same]⟩
    refine w_unb ?_
    have hsame : Same H (upd (upd (upd (upd H dx (.own x)) x (.ins (He.ga K "Grid") dx [])) d (.xd [("number", .int s)])) a (XcO (.ref (He.ga K "BadNumber")) (some d) a)) := fun b o hb => by
      have n1 : b ≠ dx := ne_of_none hb hdx
      have n2 : b ≠ x := ne_of_none hb hx
      have n3 : b ≠ d := ne_of_none hb hd
      have n4 : b ≠ a := fun e => by rw [← e, upd_ne n3, upd_ne n2, upd_ne n1, hb] at ha; cases ha
      rw [upd_ne n4, upd_ne n3, upd_ne n2, upd_ne n1]; exact hb
    generalize upd (upd (upd (upd H dx (.own x)) x (.ins (He.ga K "Grid") dx [])) d (.xd [("number", .int s)])) a (XcO (.ref (He.ga K "BadNumber")) (some d) a) = H2 at xat hsame ⊢
    walk_at "ra"
    refine w_isx xat X.is (T.kit 3) ?_
    walk_at "ra"
    refine w_isxT xat X.is (T.kitT 9) ?_
    walk_at "ra"
    refine w_ktup (by walk_at "len") fun tp htp => ?_
    walk_at "ra"
    have hk : ∀ b o, H2 b = some o → upd H2 tp (.tup [.ref (He.ga K "Apart"), .ref (He.ga K "BadName"), .ref (He.ga K "BadSpan"), .ref (He.ga K "BadText"), .ref (He.ga K "Refused")]) b = some o := fun b o hb => by rw [upd_ne (ne_of_none hb htp)]; exact hb
    have xat2 := xat.keep hk
    refine w_isxs [He.ga K "Apart", He.ga K "BadName", He.ga K "BadSpan", He.ga K "BadText", He.ga K "Refused"] xat2 X.is upd_same ⟨T.kit 4, T.kit 5, T.kit 6, T.kit 7, T.kit 8, trivial⟩ ?_
    walk_at "ra"
    refine w_xk rfl xat2 X.fld (T.noat 16) rfl ?_
    walk_at "ra"
    refine use_isint ?_
    walk_at "ra"
    refine w_xk rfl xat2 X.fld (T.noat 16) rfl ?_
    walk_at "ra"
    rw [decide_eq_true rfl]
    exact hQ _ fun b o hb => hk b o (hsame b o hb)

end
end My
namespace My
open PySem PySem.Spec PyProof.Rows L2 Rd
section
variable {P : Program} {w : World} {K : PySem.W.Frag} {mg : Str → Option Value} {base : Heap}
def spLaw (K : PySem.W.Frag) : Sp := fun vs H Q _ => ∃ (a : Addr) (ns : List Int), vs = [.ref a] ∧ ns.length ≤ 63 ∧ SqL K H a (ns.map V.int) ∧ ∀ H', Q (.bl true) H'
theorem sc_law : FnScope ["_law_script", "_law_pool_here", "_law_step_here", "_law_offset", "_law_other", "_law_shift_here", "_law_ticks", "_law_k", "_law_one", "_law_two", "_law_plain", "_law_turn", "_law_tick_here", "_law_more", "_law_low", "_law_high"] ["_law_script"] (defScope (top 31)) := ⟨rfl, rfl, rfl, by decide +kernel, rfl, by decide +kernel, by decide +kernel⟩
theorem ok_law (T : Tx fa fn xa fs P K mg) {f : Addr} {fd : FuncData} (F : FunD K "law" "law" (defArgs (top 31)) (defBody (top 31)) (defScope (top 31)) [] [] f fd) : FnOk P w K mg base CX0 6 f fd ["_law_script"] (spLaw K) := by
  have sc := sc_law
  refine F.ok sc (fun vs H Q E h => ?len) (fun cdv A outer s H vs Q E hr h => ⟨_, PSs.nox (pss_cons (ps_set (i := 1) sc.nd rfl (by first | exact Or.inl rfl | exact Or.inr rfl) (pe_cg (g__law_pool T) (hr.mono (by decide)) rfl (pa_cons (pv 0) pa_nil)))
    (pss_cons (ps_set (i := 2) sc.nd rfl (by first | exact Or.inl rfl | exact Or.inr rfl) (pe_cg (g__law_step T) (hr.mono (by decide)) rfl (pa_cons (pv 1) pa_nil)))
    (pss_cons (ps_set (i := 3) sc.nd rfl (by first | exact Or.inl rfl | exact Or.inr rfl) (pe_cg (g__law_shift T) (hr.mono (by decide)) rfl (pa_cons (pv 1) (pa_cons (pv 2) pa_nil))))
    (pss_cons (ps_set (i := 4) sc.nd rfl (by first | exact Or.inl rfl | exact Or.inr rfl) (pe_cg (g__law_step T) (hr.mono (by decide)) rfl (pa_cons (pv 1) pa_nil)))
    (pss_cons (ps_set (i := 5) sc.nd rfl (by first | exact Or.inl rfl | exact Or.inr rfl) (pe_cg (g__law_shift T) (hr.mono (by decide)) rfl (pa_cons (pv 1) (pa_cons (pv 4) pa_nil))))
    (pss_cons (ps_setLc (i := 6) (own := [("_law_k", 7)]) rfl sc.nd rfl (by first | exact rfl | exact Or.inl rfl | exact Or.inr rfl) (sw_true rfl rfl rfl (by decide +kernel)) (pi_range1 (by rfl) (T.free 8) (pa_cons pe_int pa_nil)) (blkOk_by (N := ["_law_script", "_law_pool_here", "_law_step_here", "_law_offset", "_law_other", "_law_shift_here", "_law_ticks", "_law_k", "_law_one", "_law_two", "_law_plain", "_law_turn", "_law_tick_here", "_law_more", "_law_low", "_law_high"]) (sc := defScope (top 31)) (by decide +kernel)) (fun _ _ _ _ _ => (pg_name (i := 7) sc.nd rfl (by first | exact Or.inl rfl | exact Or.inr rfl))) (fun _ _ _ _ _ => pts_nil) (fun _ _ _ _ _ => (pe_cg (g__law_tick T) (hr.mono (by decide)) rfl (pa_cons (pv 1) (pa_cons (pv 2) (pa_cons (pv 3) pa_nil))))))
    (pss_cons (ps_set (i := 6) sc.nd rfl (by first | exact Or.inl rfl | exact Or.inr rfl) (pe_op oAdd (pv 6) (pe_lc (own := [("_law_k", 7)]) rfl sc.nd (pi_range1 (by rfl) (T.free 8) (pa_cons pe_int pa_nil)) (blkOk_by (N := ["_law_script", "_law_pool_here", "_law_step_here", "_law_offset", "_law_other", "_law_shift_here", "_law_ticks", "_law_k", "_law_one", "_law_two", "_law_plain", "_law_turn", "_law_tick_here", "_law_more", "_law_low", "_law_high"]) (sc := defScope (top 31)) (by decide +kernel)) (fun _ _ _ _ _ => (pg_name (i := 7) sc.nd rfl (by first | exact Or.inl rfl | exact Or.inr rfl))) (fun _ _ _ _ _ => pts_nil) (fun _ _ _ _ _ => (pe_cg (g__law_tick T) (hr.mono (by decide)) rfl (pa_cons (pv 1) (pa_cons (pv 4) (pa_cons (pv 5) pa_nil))))))))
    (pss_cons (ps_set (i := 8) sc.nd rfl (by first | exact Or.inl rfl | exact Or.inr rfl) (pe_mkE (mk_Grid2 T) (hr.mono (by decide)) rfl passL (pa_cons (pv 2) (pa_cons (pv 3) pa_nil))))
    (pss_cons (ps_set (i := 9) sc.nd rfl (by first | exact Or.inl rfl | exact Or.inr rfl) (pe_mkE (mk_Grid2 T) (hr.mono (by decide)) rfl passL (pa_cons (pv 4) (pa_cons (pv 5) pa_nil))))
    (pss_cons (ps_set (i := 10) sc.nd rfl (by first | exact Or.inl rfl | exact Or.inr rfl) (pe_mkE (mk_Grid1 T) (hr.mono (by decide)) rfl passL (pa_cons (pv 2) pa_nil)))
    (pss_cons (ps_for PassesOwn.never rfl (pi_range1 (by rfl) (T.free 8) (pa_cons pe_int pa_nil)) (pg_name (i := 11) sc.nd rfl (by first | exact Or.inl rfl | exact Or.inr rfl)) (pss_cons (ps_if (PW.pt (pw_or (pt_not (pt_val (pe_cg (g__law_made T) (hr.mono (by decide)) rfl (pa_cons (pv 8) (pa_cons (pv 2) (pa_cons (pv 3) pa_nil)))))) (pw_or (pt_not (pt_val (pe_cg (g__law_made T) (hr.mono (by decide)) rfl (pa_cons (pv 9) (pa_cons (pv 4) (pa_cons (pv 5) pa_nil)))))) (pw_or1 (pt_not (pt_val (pe_cg (g__law_made T) (hr.mono (by decide)) rfl (pa_cons (pv 10) (pa_cons (pv 2) (pa_cons pe_int pa_nil)))))))))) (pss_one (ps_ret pe_bl)) pss_nil)
    (pss_one (ps_for PassesOwn.never rfl (pi_list (pv 6)) (pg_name (i := 12) sc.nd rfl (by first | exact Or.inl rfl | exact Or.inr rfl)) (pss_cons (ps_if (PW.pt (pw_or (pt_not (pt_val (pe_cg (g__law_asked T) (hr.mono (by decide)) rfl (pa_cons (pv 8) (pa_cons (pv 2) (pa_cons (pv 3) (pa_cons (pv 12) pa_nil))))))) (pw_or1 (pt_not (pt_val (pe_cg (g__law_asked T) (hr.mono (by decide)) rfl (pa_cons (pv 9) (pa_cons (pv 4) (pa_cons (pv 5) (pa_cons (pv 12) pa_nil)))))))))) (pss_one (ps_ret pe_bl)) pss_nil)
    (pss_one (ps_if (pt_not (pt_val (pe_cg (g__law_asked T) (hr.mono (by decide)) rfl (pa_cons (pv 10) (pa_cons (pv 2) (pa_cons pe_int (pa_cons (pv 12) pa_nil))))))) (pss_one (ps_ret pe_bl)) pss_nil)))))))
    (pss_cons (ps_set (i := 13) sc.nd rfl (by first | exact Or.inl rfl | exact Or.inr rfl) (pe_op oAdd (pv 6) (pe_lst (pa_cons (pe_op oAdd (pe_ix ix_seq (pv 6) pe_int (fun _ _ => rfl)) (pv 2)) (pa_cons (pe_op oAdd (pe_ix ix_seq (pv 6) pe_int (fun _ _ => rfl)) pe_int) (pa_cons (pe_op oSub (pe_ix ix_seq (pv 6) pe_int (fun _ _ => rfl)) pe_int) pa_nil))))))
    (pss_cons (ps_for PassesOwn.never rfl (pi_list (pv 13)) (pg_name (i := 14) sc.nd rfl (by first | exact Or.inl rfl | exact Or.inr rfl)) (pss_one (ps_for PassesOwn.never rfl (pi_list (pv 13)) (pg_name (i := 15) sc.nd rfl (by first | exact Or.inl rfl | exact Or.inr rfl)) (pss_one (ps_if (PW.pt (pw_or (pt_not (pt_val (pe_cg (g__law_counted T) (hr.mono (by decide)) rfl (pa_cons (pv 8) (pa_cons (pv 2) (pa_cons (pv 3) (pa_cons (pv 14) (pa_cons (pv 15) pa_nil)))))))) (pw_or1 (pt_not (pt_val (pe_cg (g__law_counted T) (hr.mono (by decide)) rfl (pa_cons (pv 10) (pa_cons (pv 2) (pa_cons pe_int (pa_cons (pv 14) (pa_cons (pv 15) pa_nil))))))))))) (pss_one (ps_ret pe_bl)) pss_nil)))))
    (pss_one (ps_ret (pe_and (pe_cg (g__law_refused T) (hr.mono (by decide)) rfl (pa_cons pe_int (pa_cons (pv 3) pa_nil))) (pe_and (pe_cg (g__law_refused T) (hr.mono (by decide)) rfl (pa_cons (pe_un oNeg pe_int) (pa_cons (pv 3) pa_nil))) (pe_one (pe_cg (g__law_refused T) (hr.mono (by decide)) rfl (pa_cons (pe_op oSub pe_int (pv 2)) (pa_cons (pv 5) pa_nil))))))))))))))))))))), ?rd⟩)
  case len =>
    obtain ⟨a, ns, rfl, _⟩ := h
    rfl
  case rd =>
    obtain ⟨a, ns, rfl, _, hs, hQ⟩ := h
    show tSeq _ _ ⟨_, _, _, _⟩ [some (.ref a), none, none, none, none, none, none, none, none, none, none, none, none, none, none, none] H
    try dsimp only [cxOf]
    walk_at "rd"
    refine ⟨a, ns, rfl, hs, fun p H1 hp hk hp1 => ?_⟩
    walk_at "rd"
    refine use_draw0 hp1 trivial fun st H2 hst hd2 => ?_
    obtain ⟨s0, s1⟩ : 1 ≤ st ∧ st ≤ 1000000000000000000000000000 := hst
    walk_at "rd"
    refine use_draw1 hd2.pool ⟨s0, s1⟩ fun ofs H3 ho hd3 => ?_
    walk_at "rd"
    refine use_draw0 hd3.pool trivial fun ot H4 hot hd4 => ?_
    obtain ⟨t0, t1⟩ : 1 ≤ ot ∧ ot ≤ 1000000000000000000000000000 := hot
    walk_at "rd"
    refine use_draw1 hd4.pool ⟨t0, t1⟩ fun sh H5 hsh hd5 => ?_
    walk_at "rd"
    have hp5 := hd5.pool
    clear hd5 hd4 hd3 hd2
    refine ⟨3, rfl, by decide, by decide, fun D hD => ?_⟩
    have hDp : D ≠ p := (Drawn.refl hp5).ne hD
    refine lc_range (n := 3) (fun i H' => ∃ is : List Int, is.length = i ∧ H' D = some (.lst (is.map V.int)) ∧ Drawn p H5 H') ⟨[], rfl, upd_same, (Drawn.refl hp5).new hD⟩ ?_ ?_
    · rintro i H' hi ⟨is, hl, hat, hdr⟩
      refine ⟨rfl, w_yes ?_⟩
      walk_at "rd"
      refine use_draw2 hdr.pool trivial fun t H6 _ hd6 => ?_
      refine ⟨_, hd6.grow _ _ hDp hat, by rw [List.length_map, hl, sizeLine_eq]; omega, is ++ [t], by rw [List.length_append, hl]; rfl, by rw [upd_same, List.map_append]; rfl, ?_⟩
      have z := (hdr.trans hd6).ints hD hDp (is ++ [t])
      rw [List.map_append] at z
      exact z
    · rintro H6 ⟨is, hl, hat, hdr⟩
      walk_at "rd"
      have hp6 := hdr.pool
      clear hdr
      refine ⟨2, rfl, by decide, by decide, fun D2 hD2 => ?_⟩
      have hDp2 : D2 ≠ p := (Drawn.refl hp6).ne hD2
      have hDD : D ≠ D2 := ne_of_none hat hD2
      refine lc_range (n := 2) (fun i H' => ∃ js : List Int, js.length = i ∧ H' D2 = some (.lst (js.map V.int)) ∧ H' D = some (.lst (is.map V.int)) ∧ Drawn p H6 H') ⟨[], rfl, upd_same, by rw [upd_ne hDD]; exact hat, (Drawn.refl hp6).new hD2⟩ ?_ ?_
      · rintro i H' hi ⟨js, hl2, hat2, hat1, hdr⟩
        refine ⟨rfl, w_yes ?_⟩
        walk_at "rd"
        refine use_draw2 hdr.pool trivial fun t H7 _ hd7 => ?_
        refine ⟨_, hd7.grow _ _ hDp2 hat2, by rw [List.length_map, hl2, sizeLine_eq]; omega, js ++ [t], by rw [List.length_append, hl2]; rfl, by rw [upd_same, List.map_append]; rfl, by rw [upd_ne hDD]; exact hd7.grow _ _ hDp hat1, ?_⟩
        have z := (hdr.trans hd7).ints hD2 hDp2 (js ++ [t])
        rw [List.map_append] at z
        exact z
      · rintro H7 ⟨js, hl2, hat2, hat1, hdr⟩
        refine w_op2 ?_
        refine w_addL hat1 hat2 (by rw [List.length_map, List.length_map, hl, hl2]; decide) fun l hl3 => ?_
        rw [← List.map_append]
        obtain ⟨k0, k1, k2, k3, k4, e5⟩ := len5 (show (is ++ js).length = 5 by rw [List.length_append, hl, hl2])
        rw [e5]
        have hL : upd H7 l (.lst ([k0, k1, k2, k3, k4].map V.int)) l = some (.lst ([k0, k1, k2, k3, k4].map V.int)) := upd_same
        generalize upd H7 l (.lst ([k0, k1, k2, k3, k4].map V.int)) = H8 at hL ⊢
        clear hat1 hat2 hdr hat hp6 hp5
        walk_at "rd"
        refine w_kmake fun x dx hx hdx hne => ?_
        refine ⟨x, dx, st, ofs, rfl, upd_same, fun _ => ⟨rfl, ?_⟩, fun z => absurd z (by omega)⟩
        have hL := same_made (o1 := .own x) (o2 := .ins (He.ga K "Grid") dx []) (o3 := .ins (He.ga K "Grid") dx (gridF st (ofs % st))) hx hdx _ _ hL
        have hg1 : IsGrid K (upd (upd (upd H8 dx (.own x)) x (.ins (He.ga K "Grid") dx [])) x (.ins (He.ga K "Grid") dx (gridF st (ofs % st)))) x st (ofs % st) := ⟨dx, upd_same⟩
        generalize upd (upd (upd H8 dx (.own x)) x (.ins (He.ga K "Grid") dx [])) x (.ins (He.ga K "Grid") dx (gridF st (ofs % st))) = H9 at hL hg1 ⊢
        walk_at "rd"
        refine w_kmake fun y dy hy hdy hny => ?_
        refine ⟨y, dy, ot, sh, rfl, upd_same, fun _ => ⟨rfl, ?_⟩, fun z => absurd z (by omega)⟩
        have sm := same_made (o1 := .own y) (o2 := .ins (He.ga K "Grid") dy []) (o3 := .ins (He.ga K "Grid") dy (gridF ot (sh % ot))) hy hdy
        have hL := sm _ _ hL
        have hg1 := hg1.keep sm
        have hg2 : IsGrid K (upd (upd (upd H9 dy (.own y)) y (.ins (He.ga K "Grid") dy [])) y (.ins (He.ga K "Grid") dy (gridF ot (sh % ot)))) y ot (sh % ot) := ⟨dy, upd_same⟩
        generalize upd (upd (upd H9 dy (.own y)) y (.ins (He.ga K "Grid") dy [])) y (.ins (He.ga K "Grid") dy (gridF ot (sh % ot))) = H10 at hL hg1 hg2 sm ⊢
        walk_at "rd"
        refine w_kmake fun z dz hz hdz hnz => ?_
        refine ⟨z, dz, st, 0, rfl, upd_same, fun _ => ⟨rfl, ?_⟩, fun z => absurd z (by omega)⟩
        have sm := same_made (o1 := .own z) (o2 := .ins (He.ga K "Grid") dz []) (o3 := .ins (He.ga K "Grid") dz (gridF st (0 % st))) hz hdz
        have hL := sm _ _ hL
        have hg1 := hg1.keep sm
        have hg2 := hg2.keep sm
        have hg3 : IsGrid K (upd (upd (upd H10 dz (.own z)) z (.ins (He.ga K "Grid") dz [])) z (.ins (He.ga K "Grid") dz (gridF st (0 % st)))) z st (0 % st) := ⟨dz, upd_same⟩
        generalize upd (upd (upd H10 dz (.own z)) z (.ins (He.ga K "Grid") dz [])) z (.ins (He.ga K "Grid") dz (gridF st (0 % st))) = H11 at hL hg1 hg2 hg3 sm ⊢
        walk_at "rd"
        refine ⟨2, rfl, by decide, by decide, for_range (n := 2) (fun i σ H' => H' = H11 ∧ ∃ v1 v2, σ = [some (.ref a), some (.ref p), some (.int st), some (.int ofs), some (.int ot), some (.int sh), some (.ref l), none, some (.ref x), some (.ref y), some (.ref z), v1, v2, none, none, none]) ⟨rfl, none, none, rfl⟩ ?_ ?_⟩
        · rintro i σ H' hi ⟨rfl, v1, v2, rfl⟩
          walk_at "ra"
          refine ⟨x, st, ofs, rfl, hg1, s0, ?_⟩
          walk_at "ra"
          refine ⟨y, ot, sh, rfl, hg2, t0, ?_⟩
          walk_at "ra"
          refine ⟨z, st, 0, rfl, hg3, s0, ?_⟩
          walk_at "ra"
          refine ⟨_, rfl, l, rfl, ⟨_, SqL.of hL⟩, for_list (xs := [k0, k1, k2, k3, k4].map V.int) (fun i σ H'' => H'' = H' ∧ ∃ v1 v2, σ = [some (.ref a), some (.ref p), some (.int st), some (.int ofs), some (.int ot), some (.int sh), some (.ref l), none, some (.ref x), some (.ref y), some (.ref z), v1, v2, none, none, none]) ⟨rfl, _, _, rfl⟩ ?_ ?_ ?_⟩
          · rintro i σ H' _ ⟨rfl, _⟩
            exact SqL.of hL
          · rintro i v σ H' hv ⟨rfl, w1, w2, rfl⟩
            obtain ⟨t, rfl, _⟩ := int_at hv
            walk_at "ra"
            refine ⟨x, st, ofs, t, rfl, hg1, s0, ?_⟩
            walk_at "ra"
            refine ⟨y, ot, sh, t, rfl, hg2, t0, ?_⟩
            walk_at "ra"
            refine ⟨z, st, 0, t, rfl, hg3, s0, ?_⟩
            walk_at "ra"
            exact ⟨rfl, _, _, rfl⟩
          · rintro σ H' ⟨rfl, w1, w2, rfl⟩
            exact ⟨rfl, _, _, rfl⟩
        · rintro σ H' ⟨rfl, v1, v2, rfl⟩
          walk_at "rd"
          refine w_klst (by walk_at "len") fun m hm => ?_
          refine w_op2 ?_
          have sm1 := same_new (o := .lst [.int (k0 + st), .int (k1 + 1), .int (k2 - 1)]) hm
          refine w_addL (sm1 _ _ hL) upd_same (show 8 ≤ sizeLine by decide) fun q hq => ?_
          have sm2 := sm1.trans (same_new (o := .lst ([k0, k1, k2, k3, k4].map V.int ++ [.int (k0 + st), .int (k1 + 1), .int (k2 - 1)])) hq)
          have hM : upd (upd H' m (.lst [.int (k0 + st), .int (k1 + 1), .int (k2 - 1)])) q (.lst ([k0, k1, k2, k3, k4].map V.int ++ [.int (k0 + st), .int (k1 + 1), .int (k2 - 1)])) q = some (.lst ([k0, k1, k2, k3, k4, k0 + st, k1 + 1, k2 - 1].map V.int)) := upd_same
          have hg1 := hg1.keep sm2
          have hg3 := hg3.keep sm2
          generalize upd (upd H' m (.lst [.int (k0 + st), .int (k1 + 1), .int (k2 - 1)])) q (.lst ([k0, k1, k2, k3, k4].map V.int ++ [.int (k0 + st), .int (k1 + 1), .int (k2 - 1)])) = H12 at hM hg1 hg3 sm2 ⊢
          have hss : Small st := small_of (by omega)
          walk_at "rd"
          refine ⟨_, rfl, q, rfl, ⟨_, SqL.of hM⟩, for_list (xs := [k0, k1, k2, k3, k4, k0 + st, k1 + 1, k2 - 1].map V.int) (fun i σ H'' => Same H12 H'' ∧ ∃ v3 v4, σ = [some (.ref a), some (.ref p), some (.int st), some (.int ofs), some (.int ot), some (.int sh), some (.ref l), none, some (.ref x), some (.ref y), some (.ref z), v1, v2, some (.ref q), v3, v4]) ⟨Same.refl _, _, _, rfl⟩ ?_ ?_ ?_⟩
          · rintro i σ H3' _ ⟨hs3, _⟩
            exact SqL.of (hs3 _ _ hM)
          · rintro i v σ H3' hv ⟨hs3, w3, w4, rfl⟩
            obtain ⟨lo, rfl, _⟩ := int_at hv
            walk_at "rd"
            refine ⟨_, rfl, q, rfl, ⟨_, SqL.of (hs3 _ _ hM)⟩, for_list (xs := [k0, k1, k2, k3, k4, k0 + st, k1 + 1, k2 - 1].map V.int) (fun i σ H'' => Same H12 H'' ∧ ∃ v4, σ = [some (.ref a), some (.ref p), some (.int st), some (.int ofs), some (.int ot), some (.int sh), some (.ref l), none, some (.ref x), some (.ref y), some (.ref z), v1, v2, some (.ref q), some (.int lo), v4]) ⟨hs3, _, rfl⟩ ?_ ?_ ?_⟩
            · rintro i σ H4' _ ⟨hs4, _⟩
              exact SqL.of (hs4 _ _ hM)
            · rintro i v σ H4' hv ⟨hs4, w5, rfl⟩
              obtain ⟨hi, rfl, _⟩ := int_at hv
              walk_at "ra"
              refine ⟨x, st, ofs, lo, hi, rfl, hg1.keep hs4, s0, hss, fun H5' hs5 => ?_⟩
              walk_at "ra"
              refine ⟨z, st, 0, lo, hi, rfl, (hg3.keep hs4).keep hs5, s0, hss, fun H6' hs6 => ?_⟩
              walk_at "ra"
              exact ⟨(hs4.trans hs5).trans hs6, _, rfl⟩
            · rintro σ H4' ⟨hs4, w5, rfl⟩
              exact ⟨hs4, _, _, rfl⟩
          · rintro σ H3' ⟨hs3, w3, w4, rfl⟩
            walk_at "ra"
            refine ⟨0, ofs, rfl, by decide, fun H4' _ => ?_⟩
            walk_at "ra"
            refine ⟨-1, ofs, rfl, by decide, fun H5' _ => ?_⟩
            walk_at "ra"
            refine ⟨0 - st, sh, rfl, by omega, fun H6' _ => ?_⟩
            walk_at "ra"
            exact hQ _

end
end My
namespace My
open PySem PySem.Spec PyProof.Rows L2 Rd
theorem facts {P : Program} {w : World} {K : PySem.W.Frag} {h : Heap} {mg : Str → Option Value} {f : Addr} (X : K.In h) (G : h.Ns mainGlobals mg) (hfa : mg ("law" : Str) = some (.ref f)) (c : SaysE fa fn xa fs K) (hfile : ((P.main.file : Str) == ("/claim/cut.py" : Str)) = true) (hno : (P.main.scope.names.lookup ("super" : Str)).isSome = false) :
    ∃ fd : FuncData, (∀ (s : Shared) (v : Value), BindsTo s fd ⟨[v], []⟩ [("_law_script", v)]) ∧ ∀ base : Heap, K.In base → base.Ns mainGlobals mg → FnOk P w K mg base CX0 6 f fd ["_law_script"] (spLaw K) := by
  obtain ⟨fd, F⟩ := c.base.def_ 18 (d := d_law) rfl
  have e := hfa.symm.trans (He.glo_ok X G (c.base.fact 38 (f := .glo "law") rfl))
  cases e
  have b := FunD.bindsA (ps := ["_law_script"]) F fun _ _ _ _ _ _ us hl => match us, hl with | [_], _ => rfl
  exact ⟨fd, fun s v => b s [v] rfl, fun base _ _ => ok_law ⟨c, ⟨h, X, G⟩, hfile, hno⟩ F⟩
end My
open PySem PySem.W PySem.Calls PyProof.Rows
set_option maxHeartbeats 0 in
theorem PySem.Challenge.cw_barbreaks_k03_first_bar_holds : PySem.Challenge.rw_barbreaks_k03_first_bar.Holds := by
  w_on; o_law
  refine HandSHeadRun.head_any (r := OpenLaw.row PySem.Challenge.rw_barbreaks_k03_first_bar) (q := view (OpenLaw.row PySem.Challenge.rw_barbreaks_k03_first_bar).prog [31]) (H := My.hk) (ob := My.ob) (M := 6000) (loose := My.names) (d := HandSHeadRun.topDef (OpenLaw.row PySem.Challenge.rw_barbreaks_k03_first_bar).prog 31) (kwd := []) My.ob_eq
    (by kernel_rfl) (fun s => by kernel_rfl) My.run (by kernel_rfl) (by kernel_rfl) (by kernel_rfl) (by rfl) (by first | assumption | decide +kernel) (by decide +kernel) ⟨rfl, rfl, rfl, rfl, rfl, by decide +kernel⟩ ?hw ?hc
  case hw => w_witness2
  case hc =>
    refine L2.walk_ofE (l := PySem.Challenge.rw_barbreaks_k03_first_bar) (n := 63) (k := 6) (x := "_law_script") (CX := L2.CX0) rfl (by decide) (by kernel_rfl) ⟨rfl, by decide, by decide⟩ ?F (fun _ _ _ _ z => z)
    intro w mg fa h Y G hmg0
    obtain ⟨K, KX, c⟩ := Y
    have hmg : mg ("law" : PySem.Str) = some (.ref fa) := by
      have e : (HandSHeadRun.topDef (OpenLaw.row PySem.Challenge.rw_barbreaks_k03_first_bar).prog 31).name = ("law" : PySem.Str) := by kernel_rfl
      rw [← e]
      exact hmg0
    obtain ⟨fd, hb, hF⟩ := My.facts (P := (PySem.Challenge.rw_barbreaks_k03_first_bar).prog) (w := w) KX G hmg c (by kernel_rfl) (by kernel_rfl)
    exact ⟨K, fd, My.spLaw K, KX, hb, fun H a ns hl _ hS => ⟨a, ns, rfl, hl, hS, fun _ => rfl⟩, hF⟩
