import PyProof.Rows.All
import Wide.All
import OpenK.AllK
import Wide.FinOn
import KE.KStateDown
import KE.KExcSuper
import Lean
import HandS.ForMost
import HandS.More
import HandS.Exc
import HandS.ExcInit
import HandS.ExcField
import HandS.ExcIs
import HandS.ExcValue
import KE.KExcIs
import HandS.ExcOwn
import HandS.WordsExc
import HandS.Defaults
import HandS.Wide
import HandS.IsInst
import HandS.Conv
import HandS.Codes
import HandS.ClsMeth
import HandS.Property
import HandS.MakeKw
import HandS.MakeKwOnly
import HandS.OwnEq
import HandS.StrMore
import HandS.Steps
import HandS.Head0
import HandS.Head1
import HandS.Head2
import HandS.HeadEnd
import HandS.HeadHook1
import HandS.HeadHook2
import HandS.NoneIn
import HandS.Walk
import KE.GoesEnum
import KE.GoesMore
import PyProof.Draws
import PyProof.EnumMake
import HandS.SortKw
import KE.DataMinMax
import HandS.Style
import HandS.SortInts
import HandS.TupAny
import HandS.Zip
import HandS.RevRange
import HandS.ClsMeth
import PySem.Challenge.RW_barbreaks_k48_bands_joined
set_option Elab.async false
set_option linter.all false
set_option maxRecDepth 100000
set_option maxHeartbeats 4000000
/-! Rd: every reading has a named head, so that a proof goes by the head. -/
namespace Rd
open PySem PySem.Spec PyProof.Rows L2

/-! ### operators that choose by the values -/
def rAddI : R2 := rI0 fun i j => .int (i + j)
def rAddS : R2 := fun x y H Q => match x, y with
  | .str a, .str b => a.length + b.length ≤ sizeLine ∧ Q (.str (a ++ b)) H
  | _, _ => False
def uAdd : R2 := fun x y H Q => rAddI x y H Q ∨ rAddS x y H Q ∨ rCat x y H Q
def uSub : R2 := rI0 fun i j => .int (i - j)
def CMulU (i j : Int) : Prop := CMul i j ∨ CMulW i j
def uMul : R2 := fun x y H Q => rI CMulU (fun i j => .int (i * j)) x y H Q ∨ rRep x y H Q
def uDiv : R2 := rI CDivW fun i j => .int (i / j)
def uMod : R2 := rI (fun _ j => 0 < j) fun i j => .int (i % j)
def uPow : R2 := rI CPow fun i j => .int (i ^ j.toNat)
def uLt : R2 := rI0 fun i j => .bl (decide (i < j))
def uLe : R2 := rI0 fun i j => .bl (decide (i ≤ j))
def uGt : R2 := rI0 fun i j => .bl (decide (j < i))
def uGe : R2 := rI0 fun i j => .bl (decide (j ≤ i))
def uNeg : V → Hp → VK → Prop := rU fun i => .int (-i)
section
variable {X : Cx}
theorem oAddS : OpR X (binaryOp .Add) rAddS := by
  intro pins s σ H x y u v Q I rx ry h
  cases x <;> cases y <;> first | exact h.elim | skip
  exact op_add_str pins s σ H _ _ u v Q I rx ry ⟨_, _, rfl, rfl, h.1, h.2⟩
theorem oAdd : OpR X (binaryOp .Add) uAdd := op_add.or (oAddS.or op_cat)
theorem oSub : OpR X (binaryOp .Sub) uSub := op_sub
theorem oMul : OpR X (binaryOp .Mult) uMul := OpR.or (opI fun _ _ _ _ _ _ _ hc q => mul_int q (hc.elim CMul.ok CMulW.ok)) op_rep
theorem oDiv : OpR X (binaryOp .FloorDiv) uDiv := op_fdivW
theorem oMod : OpR X (binaryOp .Mod) uMod := op_mod
theorem oPow : OpR X (binaryOp .Pow) uPow := op_pow
theorem oLt : OpR X (compareOp .Lt) uLt := op_lt
theorem oLe : OpR X (compareOp .LtE) uLe := op_le
theorem oGt : OpR X (compareOp .Gt) uGt := op_gt
theorem oGe : OpR X (compareOp .GtE) uGe := op_ge
theorem oNeg : UnR X (unaryOp .USub) uNeg := un_neg
end
theorem oIs {X : Cx} : OpR X (compareOp .Is) rIsN := op_isN1
theorem oIsNot {X : Cx} : OpR X (compareOp .IsNot) rNotN := op_notN1

/-! ### what follows, named: the layer's own reading with the part that is done put in as a constant -/
abbrev tBc (b : Bool) : TT := fun _ H Q => Q b H
abbrev tAc (vs : List V) : TA := fun _ H Q => Q vs H
def kOp1 (r : R2) (tb : TE) (σ : L2.St) (Q : VK) : VK := fun x H => tOp r (tC x) tb σ H Q
def kOp2 (r : R2) (x : V) (Q : VK) : VK := fun y H => r x y H Q
def kUn (r : V → Hp → VK → Prop) (Q : VK) : VK := fun x H => r x H Q
def kTest (Q : Bool → Hp → Prop) : VK := fun x H => tTest (tC x) [] H Q
def kAnd (u : TT) (σ : L2.St) (Q : Bool → Hp → Prop) : Bool → Hp → Prop := fun b H => tAnd (tBc b) u σ H Q
def kOr (u : TT) (σ : L2.St) (Q : Bool → Hp → Prop) : Bool → Hp → Prop := fun b H => tOr (tBc b) u σ H Q
def kNot (Q : Bool → Hp → Prop) : Bool → Hp → Prop := fun b H => Q (!b) H
def kIf (t u : TS) (D : Ends) (σ : L2.St) : Bool → Hp → Prop := fun b H => tIfS (tBc b) t u D σ H
def kIfE (ta tb : TE) (σ : L2.St) (Q : VK) : Bool → Hp → Prop := fun b H => tIf (tBc b) ta tb σ H Q
def kAndV (tb : TE) (σ : L2.St) (Q : VK) : VK := fun x H => tAndV (tC x) tb σ H Q
def kOrV (tb : TE) (σ : L2.St) (Q : VK) : VK := fun x H => tOrV (tC x) tb σ H Q
def kNotV (Q : VK) : VK := fun x H => tNotV (tC x) [] H Q
def kCh1 (r r' : R2) (tb tc : TE) (σ : L2.St) (Q : VK) : VK := fun x H => tChain r r' (tC x) tb tc σ H Q
def kCh2 (r r' : R2) (tc : TE) (σ : L2.St) (x : V) (Q : VK) : VK := fun y H => tChain r r' (tC x) (tC y) tc σ H Q
def kCh3 (r' : R2) (tc : TE) (σ : L2.St) (y : V) (Q : VK) : VK := fun z H => tChain (fun _ _ H Q => Q z H) r' (tC y) (tC y) tc σ H Q
def kAsg (g : TG) (σ : L2.St) (nx : L2.St → Hp → Prop) : VK := fun x H => g x σ H nx
def kDrop (σ : L2.St) (nx : L2.St → Hp → Prop) : VK := fun _ H => nx σ H
def kSub1 (ti : TE) (t : TSet) (v : V) (σ : L2.St) (Q : L2.St → Hp → Prop) : VK := fun o H => gSub (tC o) ti t v σ H Q
def kSub2 (t : TSet) (o v : V) (σ : L2.St) (Q : L2.St → Hp → Prop) : VK := fun i H => gSub (tC o) (tC i) t v σ H Q
def kCons1 (tr : TA) (σ : L2.St) (Q : List V → Hp → Prop) : VK := fun x H => tCons (tC x) tr σ H Q
def kCons2 (x : V) (Q : List V → Hp → Prop) : List V → Hp → Prop := fun xs H => Q (x :: xs) H
def kCB (r : List V → Hp → VK → Prop) (Q : VK) : List V → Hp → Prop := fun vs H => r vs H Q
def kCall (sp : Sp) (dvs : List V) (E : XK) (Q : VK) : List V → Hp → Prop := fun vs H => tCall sp dvs E (tAc vs) [] H Q
def kLst (Q : VK) : List V → Hp → Prop := fun xs H => tLst (tAc xs) [] H Q
def kTup (Q : VK) : List V → Hp → Prop := fun xs H => tTup (tAc xs) [] H Q
def kFld (K : PySem.W.Frag) (f : Str) (Q : VK) : VK := fun x H => tFld K (tC x) f [] H Q
def kSF1 (K : PySem.W.Frag) (ta : TE) (f : Str) (σ : L2.St) (nx : L2.St → Hp → Prop) : VK := fun y H => sFld K ta (tC y) f ⟨nx, fun _ _ => False, fun _ _ => False, fun _ _ => False⟩ σ H
def kSF2 (K : PySem.W.Frag) (f : Str) (y : V) (σ : L2.St) (nx : L2.St → Hp → Prop) : VK := fun x H => sFld K (tC x) (tC y) f ⟨nx, fun _ _ => False, fun _ _ => False, fun _ _ => False⟩ σ H
def kMeth (C : Addr) (m : Str) (sp : Sp) (dvs : List V) (E : XK) (t : TA) (σ : L2.St) (Q : VK) : VK := fun x H => tMeth C m sp dvs E (tC x) t σ H Q
def kMeth2 (sp : Sp) (dvs : List V) (E : XK) (x : V) (Q : VK) : List V → Hp → Prop := fun vs H => sp (x :: (vs ++ dvs)) H Q E
def kMake (C : Addr) (sp : Sp) (dvs : List V) (E : XK) (Q : VK) : List V → Hp → Prop := fun vs H => tMake C sp dvs E (tAc vs) [] H Q
def kTru (K : PySem.W.Frag) (Q : Bool → Hp → Prop) : VK := fun x H => tTru K (tC x) [] H Q
def kBM (K : PySem.W.Frag) (T : String) (r : V → List V → Hp → VK → Prop) (t : TA) (σ : L2.St) (Q : VK) : VK := fun x H => tBM K T r (tC x) t σ H Q
def kBM2 (r : V → List V → Hp → VK → Prop) (x : V) (Q : VK) : List V → Hp → Prop := fun xs H => r x xs H Q
def kPar (i j : Nat) (σ : L2.St) (nx : L2.St → Hp → Prop) : List V → Hp → Prop := fun vs H => tPar i j (tAc vs) ⟨nx, fun _ _ => False, fun _ _ => False, fun _ _ => False⟩ σ H

section
variable {K : PySem.W.Frag} {σ : L2.St} {H : Hp} {ta tb tc te : TE} {t u : TT} {ts us : TS} {x y z v w : V} {r r' : R2} {Q : VK} {QB : Bool → Hp → Prop} {QA : List V → Hp → Prop} {nx bk ct : L2.St → Hp → Prop} {rt : VK} {i j : Int} {n m : Nat} {tl tr : TA} {g : TG} {D : Ends}
  {a p C dx : Addr} {xs vs : List V} {sp : Sp} {dvs : List V} {E : XK} {f : Str} {fs : List (Str × V)} {b : Bool}
theorem w_seq (h : ts ⟨us ⟨nx, rt, bk, ct⟩, rt, bk, ct⟩ σ H) : tSeq ts us ⟨nx, rt, bk, ct⟩ σ H := h
theorem w_next (h : nx σ H) : tNext ⟨nx, rt, bk, ct⟩ σ H := h
theorem w_brk (h : bk σ H) : tBreak ⟨nx, rt, bk, ct⟩ σ H := h
theorem w_cont (h : ct σ H) : tCont ⟨nx, rt, bk, ct⟩ σ H := h
theorem w_ret (h : te σ H rt) : tRet te ⟨nx, rt, bk, ct⟩ σ H := h
theorem w_retN (h : rt .non H) : tRetN ⟨nx, rt, bk, ct⟩ σ H := h
theorem w_drop (h : te σ H (kDrop σ nx)) : tDrop te ⟨nx, rt, bk, ct⟩ σ H := h
theorem w_kdrop (h : nx σ H) : kDrop σ nx v H := h
theorem w_asg (h : te σ H (kAsg g σ nx)) : tAsg te g ⟨nx, rt, bk, ct⟩ σ H := h
theorem w_kname (h : nx (σ.set n (some v)) H) : kAsg (gName n) σ nx v H := h
theorem w_gname (h : nx (σ.set n (some v)) H) : gName n v σ H nx := h
theorem w_ksub {to ti : TE} {s : TSet} (h : to σ H (kSub1 ti s v σ nx)) : kAsg (gSub to ti s) σ nx v H := h
theorem w_ksub1 {ti : TE} {s : TSet} {o : V} (h : ti σ H (kSub2 s o v σ nx)) : kSub1 ti s v σ nx o H := h
theorem w_ksubL {k : Int} {q : Nat} (hp : H p = some (.lst xs)) (hi : ixN xs.length k = some q) (h : nx σ (upd H p (.lst (xs.set q v)))) : kSub2 rSetL (.ref p) v σ nx (.int k) H := ⟨p, xs, k, q, rfl, rfl, hp, hi, h⟩
theorem w_ifS (h : t σ H (kIf ts us D σ)) : tIfS t ts us D σ H := h
theorem w_ifE (h : t σ H (kIfE ta tb σ Q)) : tIf t ta tb σ H Q := h
theorem w_var (hv : σ[n]? = some (some v)) (h : Q v H) : tVar n σ H Q := ⟨v, hv, h⟩
theorem w_c (h : Q v H) : tC v σ H Q := h
theorem w_op (h : ta σ H (kOp1 r tb σ Q)) : tOp r ta tb σ H Q := h
theorem w_op1 (h : tb σ H (kOp2 r x Q)) : kOp1 r tb σ Q x H := h
theorem w_op2 (h : r x y H Q) : kOp2 r x Q y H := h
theorem w_un {s : V → Hp → VK → Prop} (h : ta σ H (kUn s Q)) : tUn s ta σ H Q := h
theorem w_kun {s : V → Hp → VK → Prop} (h : s x H Q) : kUn s Q x H := h
theorem w_test (h : te σ H (kTest QB)) : tTest te σ H QB := h
theorem w_tB (h : te σ H (kTest QB)) : tB te σ H QB := h
theorem w_ktest (h : QB b H) : kTest QB (.bl b) H := ⟨b, rfl, h⟩
theorem w_and (h : t σ H (kAnd u σ QB)) : tAnd t u σ H QB := h
theorem w_or (h : t σ H (kOr u σ QB)) : tOr t u σ H QB := h
theorem w_not (h : t σ H (kNot QB)) : tNot t σ H QB := h
theorem w_knot (h : QB (!b) H) : kNot QB b H := h
theorem w_andV (h : ta σ H (kAndV tb σ Q)) : tAndV ta tb σ H Q := h
theorem w_orV (h : ta σ H (kOrV tb σ Q)) : tOrV ta tb σ H Q := h
theorem w_notV (h : ta σ H (kNotV Q)) : tNotV ta σ H Q := h
theorem w_knotV (h : Q (.bl (!b)) H) : kNotV Q (.bl b) H := ⟨b, rfl, h⟩
theorem w_ch (h : ta σ H (kCh1 r r' tb tc σ Q)) : tChain r r' ta tb tc σ H Q := h
theorem w_ch1 (h : tb σ H (kCh2 r r' tc σ x Q)) : kCh1 r r' tb tc σ Q x H := h
theorem w_ch2 (h : r x y H (kCh3 r' tc σ y Q)) : kCh2 r r' tc σ x Q y H := h
/-! tests: a literal, a bool, a decided statement -/
theorem w_kif_t (h : ts D σ H) : kIf ts us D σ true H := h
theorem w_kif_f (h : us D σ H) : kIf ts us D σ false H := h
theorem w_kif_b (h1 : b = true → ts D σ H) (h2 : b = false → us D σ H) : kIf ts us D σ b H := match b, h1, h2 with
  | true, h1, _ => w_kif_t (h1 rfl)
  | false, _, h2 => w_kif_f (h2 rfl)
theorem w_kif {c : Prop} {dc : Decidable c} (h1 : c → ts D σ H) (h2 : ¬ c → us D σ H) : kIf ts us D σ (decide c) H := w_kif_b (fun e => h1 (of_decide_eq_true e)) fun e => h2 (of_decide_eq_false e)
theorem w_kand_t (h : t σ H QB) : kAnd t σ QB true H := h
theorem w_kand_f (h : QB false H) : kAnd t σ QB false H := h
theorem w_kand_b (h1 : b = true → t σ H QB) (h2 : b = false → QB false H) : kAnd t σ QB b H := match b, h1, h2 with
  | true, h1, _ => w_kand_t (h1 rfl)
  | false, _, h2 => w_kand_f (h2 rfl)
theorem w_kand {c : Prop} {dc : Decidable c} (h1 : c → t σ H QB) (h2 : ¬ c → QB false H) : kAnd t σ QB (decide c) H := w_kand_b (fun e => h1 (of_decide_eq_true e)) fun e => h2 (of_decide_eq_false e)
theorem w_kor_t (h : QB true H) : kOr t σ QB true H := h
theorem w_kor_f (h : t σ H QB) : kOr t σ QB false H := h
theorem w_kor_b (h1 : b = true → QB true H) (h2 : b = false → t σ H QB) : kOr t σ QB b H := match b, h1, h2 with
  | true, h1, _ => w_kor_t (h1 rfl)
  | false, _, h2 => w_kor_f (h2 rfl)
theorem w_kor {c : Prop} {dc : Decidable c} (h1 : c → QB true H) (h2 : ¬ c → t σ H QB) : kOr t σ QB (decide c) H := w_kor_b (fun e => h1 (of_decide_eq_true e)) fun e => h2 (of_decide_eq_false e)
theorem w_kifE_t (h : ta σ H Q) : kIfE ta tb σ Q true H := h
theorem w_kifE_f (h : tb σ H Q) : kIfE ta tb σ Q false H := h
theorem w_kifE_b (h1 : b = true → ta σ H Q) (h2 : b = false → tb σ H Q) : kIfE ta tb σ Q b H := match b, h1, h2 with
  | true, h1, _ => w_kifE_t (h1 rfl)
  | false, _, h2 => w_kifE_f (h2 rfl)
theorem w_kifE {c : Prop} {dc : Decidable c} (h1 : c → ta σ H Q) (h2 : ¬ c → tb σ H Q) : kIfE ta tb σ Q (decide c) H := w_kifE_b (fun e => h1 (of_decide_eq_true e)) fun e => h2 (of_decide_eq_false e)
theorem w_kandV_t (h : tb σ H Q) : kAndV tb σ Q (.bl true) H := ⟨_, rfl, h⟩
theorem w_kandV_f (h : Q (.bl false) H) : kAndV tb σ Q (.bl false) H := ⟨_, rfl, h⟩
theorem w_kandV_b (h1 : b = true → tb σ H Q) (h2 : b = false → Q (.bl false) H) : kAndV tb σ Q (.bl b) H := match b, h1, h2 with
  | true, h1, _ => w_kandV_t (h1 rfl)
  | false, _, h2 => w_kandV_f (h2 rfl)
theorem w_kandV {c : Prop} {dc : Decidable c} (h1 : c → tb σ H Q) (h2 : ¬ c → Q (.bl false) H) : kAndV tb σ Q (.bl (decide c)) H := w_kandV_b (fun e => h1 (of_decide_eq_true e)) fun e => h2 (of_decide_eq_false e)
theorem w_korV_t (h : Q (.bl true) H) : kOrV tb σ Q (.bl true) H := ⟨_, rfl, h⟩
theorem w_korV_f (h : tb σ H Q) : kOrV tb σ Q (.bl false) H := ⟨_, rfl, h⟩
theorem w_korV_b (h1 : b = true → Q (.bl true) H) (h2 : b = false → tb σ H Q) : kOrV tb σ Q (.bl b) H := match b, h1, h2 with
  | true, h1, _ => w_korV_t (h1 rfl)
  | false, _, h2 => w_korV_f (h2 rfl)
theorem w_korV {c : Prop} {dc : Decidable c} (h1 : c → Q (.bl true) H) (h2 : ¬ c → tb σ H Q) : kOrV tb σ Q (.bl (decide c)) H := w_korV_b (fun e => h1 (of_decide_eq_true e)) fun e => h2 (of_decide_eq_false e)
theorem w_ch3_t (h : tc σ H (kOp2 r' y Q)) : kCh3 r' tc σ y Q (.bl true) H := ⟨_, rfl, h⟩
theorem w_ch3_f (h : Q (.bl false) H) : kCh3 r' tc σ y Q (.bl false) H := ⟨_, rfl, h⟩
theorem w_ch3_b (h1 : b = true → tc σ H (kOp2 r' y Q)) (h2 : b = false → Q (.bl false) H) : kCh3 r' tc σ y Q (.bl b) H := match b, h1, h2 with
  | true, h1, _ => w_ch3_t (h1 rfl)
  | false, _, h2 => w_ch3_f (h2 rfl)
theorem w_ch3 {c : Prop} {dc : Decidable c} (h1 : c → tc σ H (kOp2 r' y Q)) (h2 : ¬ c → Q (.bl false) H) : kCh3 r' tc σ y Q (.bl (decide c)) H := w_ch3_b (fun e => h1 (of_decide_eq_true e)) fun e => h2 (of_decide_eq_false e)
theorem w_knot_t (h : QB false H) : kNot QB true H := h
theorem w_knot_f (h : QB true H) : kNot QB false H := h
theorem w_knotV_t (h : Q (.bl false) H) : kNotV Q (.bl true) H := ⟨_, rfl, h⟩
theorem w_knotV_f (h : Q (.bl true) H) : kNotV Q (.bl false) H := ⟨_, rfl, h⟩
theorem w_kor_n {c : Prop} {dc : Decidable c} (h1 : c → t σ H QB) (h2 : ¬ c → QB true H) : kOr t σ QB (!decide c) H := w_kor_b (fun e => h2 fun hc => by rw [decide_eq_true hc] at e; cases e) fun e => h1 (of_decide_eq_true (by simpa using e))
theorem w_kand_n {c : Prop} {dc : Decidable c} (h1 : c → QB false H) (h2 : ¬ c → t σ H QB) : kAnd t σ QB (!decide c) H := w_kand_b (fun e => h2 fun hc => by rw [decide_eq_true hc] at e; cases e) fun e => h1 (of_decide_eq_true (by simpa using e))
theorem w_kif_n (h : kIf us ts D σ b H) : kIf ts us D σ (!b) H := by cases b <;> exact h
/-! ints -/
theorem w_addI (h : Q (.int (i + j)) H) : uAdd (.int i) (.int j) H Q := .inl ⟨i, j, rfl, rfl, h⟩
theorem w_addS {s s' : Str} (hl : s.length + s'.length ≤ sizeLine) (h : Q (.str (s ++ s')) H) : uAdd (.str s) (.str s') H Q := .inr (.inl ⟨hl, h⟩)
theorem w_addL {q : Addr} {ys : List V} (h1 : H p = some (.lst xs)) (h2 : H q = some (.lst ys)) (hl : xs.length + ys.length ≤ sizeLine) (h : ∀ l, H l = none → Q (.ref l) (upd H l (.lst (xs ++ ys)))) : uAdd (.ref p) (.ref q) H Q := .inr (.inr ⟨p, q, xs, ys, rfl, rfl, h1, h2, hl, h⟩)
theorem w_sub (h : Q (.int (i - j)) H) : uSub (.int i) (.int j) H Q := ⟨i, j, rfl, rfl, h⟩
theorem w_mul (hc : CMulU i j) (h : Q (.int (i * j)) H) : uMul (.int i) (.int j) H Q := .inl ⟨i, j, rfl, rfl, hc, h⟩
theorem w_div (hc : CDivW i j) (h : Q (.int (i / j)) H) : uDiv (.int i) (.int j) H Q := ⟨i, j, rfl, rfl, hc, h⟩
theorem w_mod (hc : 0 < j) (h : Q (.int (i % j)) H) : uMod (.int i) (.int j) H Q := ⟨i, j, rfl, rfl, hc, h⟩
theorem w_pow {k : Int} (hc : CPow i j) (hk : i ^ j.toNat = k) (h : Q (.int k) H) : uPow (.int i) (.int j) H Q := ⟨i, j, rfl, rfl, hc, by subst hk; exact h⟩
theorem w_lt (h : Q (.bl (decide (i < j))) H) : uLt (.int i) (.int j) H Q := ⟨i, j, rfl, rfl, h⟩
theorem w_le (h : Q (.bl (decide (i ≤ j))) H) : uLe (.int i) (.int j) H Q := ⟨i, j, rfl, rfl, h⟩
theorem w_gt (h : Q (.bl (decide (j < i))) H) : uGt (.int i) (.int j) H Q := ⟨i, j, rfl, rfl, h⟩
theorem w_ge (h : Q (.bl (decide (j ≤ i))) H) : uGe (.int i) (.int j) H Q := ⟨i, j, rfl, rfl, h⟩
theorem w_neg (h : Q (.int (-i)) H) : uNeg (.int i) H Q := ⟨i, rfl, h⟩
theorem w_eqI (h : Q (.bl (decide (i = j))) H) : rEq (.int i) (.int j) H Q := ⟨rfl, by
  have e : decide (V.int i = V.int j) = decide (i = j) := by rw [dec_int, Bool.beq_eq_decide_eq]
  rw [e]; exact h⟩
theorem w_neI (h : Q (.bl (!decide (i = j))) H) : rNe (.int i) (.int j) H Q := ⟨rfl, by
  have e : decide (V.int i = V.int j) = decide (i = j) := by rw [dec_int, Bool.beq_eq_decide_eq]
  rw [e]; exact h⟩
theorem w_eqS {s s' : Str} (h : Q (.bl (decide (s = s'))) H) : rEq (.str s) (.str s') H Q := ⟨rfl, by
  have e : decide (V.str s = V.str s') = decide (s = s') := by rw [dec_str, Bool.beq_eq_decide_eq]
  rw [e]; exact h⟩
theorem w_neS {s s' : Str} (h : Q (.bl (!decide (s = s'))) H) : rNe (.str s) (.str s') H Q := ⟨rfl, by
  have e : decide (V.str s = V.str s') = decide (s = s') := by rw [dec_str, Bool.beq_eq_decide_eq]
  rw [e]; exact h⟩
theorem w_eqB {b' : Bool} (h : Q (.bl (decide (b = b'))) H) : rEq (.bl b) (.bl b') H Q := ⟨rfl, by
  have e : decide (V.bl b = V.bl b') = decide (b = b') := by rw [dec_bl, Bool.beq_eq_decide_eq]
  rw [e]; exact h⟩
theorem w_isN_n (h : Q (.bl true) H) : rIsN .non .non H Q := ⟨rfl, h⟩
theorem w_isN_i (h : Q (.bl false) H) : rIsN (.int i) .non H Q := ⟨rfl, h⟩
theorem w_isN_r (h : Q (.bl false) H) : rIsN (.ref a) .non H Q := ⟨rfl, h⟩
theorem w_isN_b (h : Q (.bl false) H) : rIsN (.bl b) .non H Q := ⟨rfl, h⟩
theorem w_isN_s {s : Str} (h : Q (.bl false) H) : rIsN (.str s) .non H Q := ⟨rfl, h⟩
theorem w_notN_n (h : Q (.bl false) H) : rNotN .non .non H Q := ⟨rfl, h⟩
theorem w_notN_i (h : Q (.bl true) H) : rNotN (.int i) .non H Q := ⟨rfl, h⟩
theorem w_notN_r (h : Q (.bl true) H) : rNotN (.ref a) .non H Q := ⟨rfl, h⟩
/-! arguments, displays, calls -/
theorem w_nil (h : QA [] H) : tNil σ H QA := h
theorem w_cons (h : te σ H (kCons1 tr σ QA)) : tCons te tr σ H QA := h
theorem w_kcons1 (h : tr σ H (kCons2 x QA)) : kCons1 tr σ QA x H := h
theorem w_kcons2 (h : QA (x :: xs) H) : kCons2 x QA xs H := h
theorem w_cb {s : List V → Hp → VK → Prop} (h : tl σ H (kCB s Q)) : tCB s tl σ H Q := h
theorem w_kcb {s : List V → Hp → VK → Prop} (h : s vs H Q) : kCB s Q vs H := h
theorem w_call (h : tl σ H (kCall sp dvs E Q)) : tCall sp dvs E tl σ H Q := h
theorem w_kcall (h : sp vs H Q E) : kCall sp [] E Q vs H := by
  show sp (vs ++ []) H Q E
  rw [List.append_nil]; exact h
theorem w_kcallD (h : sp (vs ++ dvs) H Q E) : kCall sp dvs E Q vs H := h
theorem w_lst (h : tl σ H (kLst Q)) : tLst tl σ H Q := h
theorem w_klst (hl : xs.length ≤ sizeLine) (h : ∀ p, H p = none → Q (.ref p) (upd H p (.lst xs))) : kLst Q xs H := ⟨hl, h⟩
theorem w_tup (h : tl σ H (kTup Q)) : tTup tl σ H Q := h
theorem w_ktup (hl : xs.length ≤ sizeLine) (h : ∀ p, H p = none → Q (.ref p) (upd H p (.tup xs))) : kTup Q xs H := ⟨hl, h⟩
theorem w_fld (h : ta σ H (kFld K f Q)) : tFld K ta f σ H Q := h
theorem w_kfld (ho : H a = some (.ins C dx fs)) (hc : Cls K C) (hn : NoAttr K C f) (hl : fs.lookup f = some v) (h : Q v H) : kFld K f Q (.ref a) H := ⟨a, C, dx, fs, v, rfl, ho, hc, hn, hl, h⟩
theorem w_sfld {tv : TE} (h : tv σ H (kSF1 K ta f σ nx)) : sFld K ta tv f ⟨nx, rt, bk, ct⟩ σ H := h
theorem w_ksf1 (h : ta σ H (kSF2 K f y σ nx)) : kSF1 K ta f σ nx y H := h
theorem w_ksf2 (ho : H a = some (.ins C dx fs)) (hc : Cls K C) (hn : NoAttr K C f) (hl : fs.length < 1000) (h : nx σ (upd H a (.ins C dx (putF f y fs)))) : kSF2 K f y σ nx (.ref a) H := ⟨a, C, dx, fs, rfl, ho, hc, hn, hl, h⟩
theorem w_meth {q : Str} (h : ta σ H (kMeth C q sp dvs E tl σ Q)) : tMeth C q sp dvs E ta tl σ H Q := h
theorem w_kmeth {q : Str} (ho : H a = some (.ins C dx fs)) (hn : fs.lookup q = none) (h : tl σ H (kMeth2 sp dvs E (.ref a) Q)) : kMeth C q sp dvs E tl σ Q (.ref a) H := ⟨a, dx, fs, rfl, ho, hn, h⟩
theorem w_kmeth2 (h : sp (x :: vs) H Q E) : kMeth2 sp [] E x Q vs H := by
  show sp (x :: (vs ++ [])) H Q E
  rw [List.append_nil]; exact h
theorem w_kmeth2D (h : sp (x :: (vs ++ dvs)) H Q E) : kMeth2 sp dvs E x Q vs H := h
theorem w_make (h : tl σ H (kMake C sp dvs E Q)) : tMake C sp dvs E tl σ H Q := h
theorem w_kmake (h : ∀ x dx, H x = none → H dx = none → dx ≠ x → sp (.ref x :: (vs ++ dvs)) (upd (upd H dx (.own x)) x (.ins C dx [])) (fun v H2 => v = .non ∧ Q (.ref x) H2) E) : kMake C sp dvs E Q vs H := h
theorem w_tru (h : ta σ H (kTru K QB)) : tTru K ta σ H QB := h
theorem w_ktru_b (h : QB b H) : kTru K QB (.bl b) H := ⟨b, rfl, h⟩
theorem w_bm {T : String} {s : V → List V → Hp → VK → Prop} (h : ta σ H (kBM K T s tl σ Q)) : tBM K T s ta tl σ H Q := h
theorem w_kbm {T : String} {s : V → List V → Hp → VK → Prop} (hty : tyV K T x H) (h : tl σ H (kBM2 s x Q)) : kBM K T s tl σ Q x H := ⟨hty, h⟩
theorem w_kbm2 {s : V → List V → Hp → VK → Prop} (h : s x vs H Q) : kBM2 s x Q vs H := h
theorem w_par {q q' : Nat} (h : tl σ H (kPar q q' σ nx)) : tPar q q' tl ⟨nx, rt, bk, ct⟩ σ H := h
theorem w_kpar {q q' : Nat} (h : nx ((σ.set q (some x)).set q' (some y)) H) : kPar q q' σ nx [x, y] H := ⟨x, y, rfl, h⟩
end
end Rd
/-! Own: a def whose frame holds the cell __class__, by the layer's own start at the scope without that name. -/
namespace Rd
open PySem PySem.Spec PyProof.Rows PySem.W L2
theorem bindL_all {kd : Str → Option NameKind} : ∀ (l : List (Str × Value)) (m : Str → Option Value), (∀ y ∈ l, kd y.1 = some .local) → ∀ x, bindL kd l m x = (l.reverse.lookup x).or (m x)
  | [], _, _, _ => by simp [bindL]
  | (k, v) :: r, m, hl, x => by
    have hk := hl (k, v) List.mem_cons_self
    show bindL kd r (if kd k = some .local then fun y => if y = k then some v else m y else m) x = _
    rw [if_pos hk, bindL_all r _ (fun y hy => hl y (List.mem_cons_of_mem _ hy)) x, List.reverse_cons, List.lookup_append, Option.or_assoc]
    congr 1
    by_cases e : x = k
    · subst e; simp
    · have hb : (x == k) = false := beq_eq_false_iff_ne.mpr e
      simp [List.lookup, hb, e]
/-- sc0 is sc without the one free name -/
structure ClsScope (N P : List Str) (sc sc0 : Scope) : Prop where
  base : FnScope N P sc0
  kind : sc.kind = .function
  co : sc.isCoroutine = false
  gen : sc.isGenerator = false
  nocell : ∀ y ∈ sc.names, y.2 ≠ .cell
  nocell0 : ∀ y ∈ sc0.names, y.2 ≠ .cell
  cells0 : ∀ n : Nat, cellsFrom n sc0.names [] = []
  same : ∀ x : Str, x ≠ "__class__" → sc.names.lookup x = sc0.names.lookup x
  free : sc.names.lookup ("__class__" : Str) = some NameKind.free
  out : ("__class__" : Str) ∉ N
  par : ∀ x ∈ P, x ∈ N
/-- the context of such a body -/
def cxC (X0 : Cx) (A : Around) (env : Env) (xe : Value → Shared → Prop) : Cx := { X0 with A := A.deeper env, env := env, stack := env :: X0.outer, fn := fun x => !decide (x = "__class__"), xe := xe }
abbrev cenv (qual : Str) (sc : Scope) (L f : Addr) (cd : Value) (cc : Addr) : Env := ksEnv qual sc L f cd cc
abbrev leaves (P : Program) (w : World) (CX : CXT) (A : Around) (env : Env) (outer : List Env) (H : Hp) (s : Shared) (E : XK) : Value → Shared → Prop :=
  fun e s' => wpAny (model P w) (A.deeper env) (leaving env e) (fun _ s2 => CX outer H s E e s2) (fun e2 s2 => CX outer H s E e2 s2) s'
section
variable {CX : CXT} {P : Program} {w : World} {K : PySem.W.Frag} {mg : Str → Option Value} {base : Heap} {N ps : List Str} {qual : Str} {sc sc0 : Scope} {f cc D : Addr} {cd : Value} {A : Around} {outer : List Env} {s : Shared} {H : Hp} {E : XK} {us : List Value} {vs : List V}
  {cl : Value} {cld : Option Addr} {csl : Array (Option Value)}
abbrev cxD (CX : CXT) (P : Program) (w : World) (K : PySem.W.Frag) (mg : Str → Option Value) (base : Heap) (N : List Str) (qual : Str) (sc sc0 : Scope) (f : Addr) (cd : Value) (cc : Addr) (A : Around) (outer : List Env) (s : Shared) (H : Hp) (E : XK) : Cx :=
  cxC (cxOf CX P w K mg base N qual sc0 f cd A outer s H E) A (cenv qual sc s.heap.objs.size f cd cc) (leaves P w CX A (cenv qual sc s.heap.objs.size f cd cc) outer H s E)
theorem one_cell {x : Str} {c : Addr} (h : ([(("__class__" : Str), cc)] : List (Str × Addr)).lookup x = some c) : x = "__class__" ∧ c = cc := by
  have m := PySem.mem_of_lookup h
  simp only [List.mem_singleton, Prod.mk.injEq] at m
  exact m
/-- from the start at sc0 to the frame with the cell -/
theorem start_cell {σ : L2.St} {s1 : Shared} (S : ClsScope N ps sc sc0) (hA : A.frames = some outer) (lc : K.lookup cc = some ⟨cl, cld, .cell (some (.ref D)), csl⟩) (I : Inv (cxOf CX P w K mg base N qual sc0 f cd A outer s H E) [] σ H s1) :
    Inv (cxD CX P w K mg base N qual sc sc0 f cd cc A outer s H E) [] σ H s1 := by
  have kc := I.kIn _ _ lc
  have bc := I.bs cc _ (I.mod.kin _ _ lc)
  have o := I.ok
  have nil : ∀ b : Addr, b ∉ ([] : List Addr) := fun b hb => by cases hb
  have ok : (cxD CX P w K mg base N qual sc sc0 f cd cc A outer s H E).Ok := {
    mod := o.mod, kind := S.kind, glob := rfl, blt := rfl, above := o.above,
    inj := fun x y c h1 h2 => (one_cell h1).1.trans (one_cell h2).1.symm,
    has := fun x hx => by
      by_cases e : x = "__class__"
      · subst e; exact ⟨cc, rfl⟩
      · rcases hx with hx | hx
        · exact absurd rfl (S.nocell _ (PySem.mem_of_lookup (show sc.names.lookup x = some .cell from hx)))
        · have q : sc0.names.lookup x = some .free := (S.same x e).symm.trans hx
          exact absurd rfl (S.base.nofree _ (PySem.mem_of_lookup q)),
    cab := fun x c hx h => by
      have e := (one_cell h).1
      have hx' : (!decide (x = "__class__")) = true := hx
      rw [decide_eq_true e] at hx'; exact Bool.noConfusion hx',
    hd := o.hd, frames := Around.frames_deeper hA, stk := .inr ⟨rfl, rfl⟩, exf := fun b hb => absurd hb (nil b), bs := o.bs, bsz := o.bsz, noex := o.noex, exfs := o.exfs, funs := o.funs, frf := o.frf }
  obtain ⟨m, hn, hm⟩ := I.loc
  refine { ok := ok, os := I.os, bare := I.bare, base := I.base, loc := ⟨m, hn, fun i x v e1 e2 e3 => ?_⟩, cell := fun x c h => ?_, free := I.free, freeC := fun x c h => ?_, pin := I.pin, hok := I.hok, len := I.len }
  · have nx : x ≠ "__class__" := fun e => S.out (e ▸ List.mem_of_getElem? e1)
    have v0 : Vis sc0 x := by
      have e3' : Vis sc x := e3
      unfold Vis at e3' ⊢
      rw [← S.same x nx]; exact e3'
    obtain ⟨u, ru, lk⟩ := hm i x v e1 e2 v0
    refine ⟨u, ru, ?_⟩
    rcases lk with ⟨a, b⟩ | ⟨_, c, a, _⟩
    · exact .inl ⟨(S.same x nx).trans a, b⟩
    · have a' : (cellsFrom (s.heap.objs.size + 1) sc0.names []).lookup x = some c := a
      rw [S.cells0] at a'; cases a'
  · rw [(one_cell h).2]; exact ⟨_, _, kc, rfl⟩
  · rw [(one_cell h).2]; exact bc.2
def flowV : Flow → Value
  | .ret v => v
  | _ => .none
/-- what a body's end is to its caller -/
theorem end_of {X : Cx} {Q : VK} {fl : Flow} {s2 : Shared} (hex : X.ex = []) (h : SP X [] { nx := fun _ H' => Q .non H', rt := Q } fl s2) : CE X.outer X.prog X.w X.H_0 X.s_0 Q (flowV fl) s2 := by
  have out : ∀ {σ : L2.St} {H : Hp} {v : V} {u : Value}, Inv X [] σ H s2 → RelV v u → Q v H → CE X.outer X.prog X.w X.H_0 X.s_0 Q u s2 := fun J r q => by
    have un := J.base
    rw [hex] at un
    exact ⟨_, _, J.os, J.bare, un, J.hok, r, q⟩
  cases fl <;> simp only [SP] at h
  all_goals first
    | (obtain ⟨v, σ, H, J, r, q⟩ := h; exact out J r q)
    | (obtain ⟨σ, H, J, q⟩ := h; first | exact q.elim | exact out (v := .non) J rfl q)
theorem fn_cell {k : Nat} {name : Str} {params : Arguments} {body : List Stmt} {dV kV doc pm ct oc : Value} {an od : Option Addr} {osl : Array (Option Value)} {sp : Sp} (lk : K.lookup f = some ⟨oc, od, .func (ksFn name qual params body sc dV kV doc pm an cd ct cc), osl⟩)
    (hcd : PySem.W.codeIn K cd qual = true) (lc : K.lookup cc = some ⟨cl, cld, .cell (some (.ref D)), csl⟩) (S : ClsScope N ps sc sc0) (len : ∀ vs H Q E, sp vs H Q E → vs.length = ps.length) (hloc : ∀ x ∈ ps, sc.names.lookup x = some .local ∧ sc0.names.lookup x = some .local)
    (hbody : ∀ (A : Around) (outer : List Env) (s : Shared) (H : Hp) (vs : List V) (Q : VK) (E : XK) (s1 : Shared), Room k (A.deeper (cenv qual sc s.heap.objs.size f cd cc)) → sp vs H Q E → Inv (cxD CX P w K mg base N qual sc sc0 f cd cc A outer s H E) [] (start N vs) H s1 →
      _root_.PySem.wpAt (model P w) (A.deeper (cenv qual sc s.heap.objs.size f cd cc)) (.func body (cenv qual sc s.heap.objs.size f cd cc)) (execs body (cenv qual sc s.heap.objs.size f cd cc))
        (SP (cxD CX P w K mg base N qual sc sc0 f cd cc A outer s H E) [] { nx := fun _ H' => Q .non H', rt := Q }) (cxD CX P w K mg base N qual sc sc0 f cd cc A outer s H E).xe s1) :
    FnOk P w K mg base CX (k + 1) f (ksFn name qual params body sc dV kV doc pm an cd ct cc) ps sp where
  len := len
  run := fun A outer s H args us vs Q E hr e0 hb r hsp => by
    have up : ∀ b o, base.get? b = some o → s.heap.get? b = some o := fun b o e => (e0.bs b o e).1
    have kin := e0.mod.kin.keeps up
    refine ks_codeAny_call_defAt (fd := ksFn name qual params body sc dV kV doc pm an cd ct cc) (binds := ps.zip us) hr.depth (kin _ _ lk) rfl (e0.mod.nolimit.keeps up) (PySem.W.codeRec_of kin hcd) rfl hb S.nocell (fun y hy => (hloc y.1 (List.of_mem_zip hy).1).1) (fun h1 hns hk => ?_) S.co S.gen S.kind
    have key : (fun x => (ps.zip us).reverse.lookup x) = bindL (envOfC qual sc0 s.heap.objs.size f cd).kindOf (ps.zip us) (fun _ => none) := by
      funext x
      rw [bindL_all _ _ (fun y hy => (hloc y.1 (List.of_mem_zip hy).1).2) x, Option.or_none]
    rw [key] at hns
    have x0 : InCallC s s.heap.objs.size (bindL (envOfC qual sc0 s.heap.objs.size f cd).kindOf (ps.zip us) fun _ => none) (cellsFrom (s.heap.objs.size + 1) sc0.names []) (bindC (envOfC qual sc0 s.heap.objs.size f cd).kindOf (ps.zip us) fun _ => none) { s with heap := h1, toks := s.toks + (ps.zip us).length } := by
      rw [S.cells0]
      exact ⟨⟨⟨h1, _, rfl⟩, hns, hk, Nat.le_refl _⟩, fun n c e => (by cases e), List.Pairwise.nil, fun n c e => (by cases e)⟩
    have I0 := inv_start (CX := CX) (cd := cd) (E := E) S.base hr.hd e0 (len _ _ _ _ hsp) r x0
    refine ks_wpAt_mono (hbody A outer s H vs Q E _ (hr.deeper _) hsp (start_cell S e0.frames lc I0)) (fun fl s2 q => ?_) fun _ _ q => q
    have z := end_of (X := cxD CX P w K mg base N qual sc sc0 f cd cc A outer s H E) rfl q
    cases fl <;> exact z
end
end Rd
/-! OwnE: super().__init__(text) at the head of an own exception's __init__. -/
namespace Rd
open PySem PySem.Spec PyProof.Rows PySem.W PySem.Calls L2
section
variable {X : Cx} {pins : List (Addr × Obj)} {σ : L2.St} {H : Hp} {s : Shared} {a C : Addr}
/-- one tracked object is laid anew by a rule that tells of the ledger: all else stands -/
theorem Inv.relaid {m : Str → Option Value} {h' : Heap} {o : HO} (I : L2.Inv X pins σ H s) (mu : Mut (H a)) (fr0 : Fr X.base X.env.locals s.heap m) (fr : Fr X.base X.env.locals h' m) (nw : News X.base X.env.locals h' (rest X.base s.heap X.env.locals a))
    (new : ∃ u, h'.get? a = some u) (ok : ObjOk X.prog X.w (upd H a o) h' a o) : L2.Inv X pins σ (upd H a o) { s with heap := h' } := by
  have kept : ∀ b u, b ≠ X.env.locals → b ≠ a → s.heap.get? b = some u → h'.get? b = some u := kept_of_news I.bk fr nw
  have free : ∀ b, H b = none → b ≠ a := fun b n e => by rw [e] at n; rw [n] at mu; exact mu
  have loc : ∀ b u, H b = some u → b ≠ X.env.locals := fun b u q e => by rw [e, I.free] at q; cases q
  have rigid : ∀ b u, H b = some u → ¬ Mut (some u) → b ≠ a := fun b u q n e => by rw [e] at q; rw [q] at mu; exact n mu
  refine I.step (g' := s.gens) (t' := s.toks) (d' := s.drawn) (ch := []) (fun b hb => (by cases hb)) (fun b u n _ _ q z => kept b u n (free b z) q) (fun b u n _ _ q z => ⟨u.slots, kept b u n (free b z) q⟩) (fun b u _ q z => ?_) (fun b u _ q => ?_) (fun b xs q => ?_) (fun b u v q => ?_) (fun b vs q => ?_) (fun m2 hm2 => ?_) (fun b u q => ?_) I.bare
  · rw [upd_ne (free b z)]; exact z
  · by_cases e : b = X.env.locals
    · obtain ⟨ob, _, _, hb, _⟩ := fr.ns
      exact ⟨ob, by rw [e]; exact hb⟩
    · by_cases e2 : b = a
      · rw [e2]; exact new
      · exact ⟨u, kept b u e e2 q⟩
  · rw [upd_ne (rigid b _ q fun z => z)]; exact q
  · rw [upd_ne (rigid b _ q fun z => z)]; exact q
  · exact ⟨#[], by rw [upd_ne (rigid b _ q fun z => z), q]; simp⟩
  · rw [hm2.eq_nsMap, ← fr0.ns.eq_nsMap]; exact fr.ns
  · by_cases e : b = a
    · subst e; rw [upd_same] at q; cases q; exact ok
    · rw [upd_ne e] at q
      refine (I.hok b u q).stay (fun c v hc r => ?_) (fun c r => ?_) fun c xs r => ?_
      · rcases hc with rfl | hc
        · exact kept c v (loc c u q) e r
        · exact kept c v (loc c _ hc) (rigid c _ hc fun z => z) r
      · rw [upd_ne (rigid c _ r fun z => z)]; exact r
      · rw [upd_ne (rigid c _ r fun z => z)]; exact r
/-- what the written part says of such a class -/
structure SupC (K : PySem.W.Frag) (C : Addr) : Prop where
  op : PySem.W.nsIn K cStatics "thirdparty.any" = some none
  ini : ks_superIn K C C "__init__" = some (some (.builtin "ValueError.__init__"))
  ve : PySem.W.subIn K (.ref C) (.type "ValueError") = some true
  slf : PySem.W.mroIn K C (.ref C) = some true
  made : excInitIn K C [.type "ValueError", .type "Exception", .type "BaseException", .type "object"] "ValueError.__new__" = true
theorem upd_self {o : HO} (e : H a = some o) : upd H a o = H := by
  funext b
  by_cases z : b = a
  · rw [z, upd_same, e]
  · exact upd_ne z
/-- the bound __init__ is called: nothing of it is told -/
theorem call_wrapped {A : Around} {E : Value → Shared → Prop} {u : Addr} {us : List Value} {Q : Value → Shared → Prop} (T : SupC X.K C) (I : L2.Inv X pins σ H s) (e : H a = some (exo a C none)) (hu : s.heap.get? u = some (kxs_mw "ValueError.__init__" a)) (nb : X.base.get? u = none) (nl : u ≠ X.env.locals)
    (hl : us.length ≤ sizeLine) (h : ∀ s', L2.Inv X pins σ H s' → Q .none s') : wpAny (model X.prog X.w) A (call (.ref u) us) Q E s := by
  obtain ⟨t, ho⟩ := exo_at I.hok e
  obtain ⟨m, fr⟩ := I.fr
  have al : a ≠ X.env.locals := fun z => by rw [z, I.free] at e; cases e
  have ab : X.base.get? a = none := by
    cases q : X.base.get? a with
    | none => rfl
    | some o => have z := (I.bs a o q).2; rw [e] at z; cases z
  have ua : u ≠ a := fun z => by rw [z, ho] at hu; cases hu
  refine kxs_call (L := X.env.locals) (h₀ := X.base) (t := t) (dv := none) (c2 := .none) fr I.mod.kin (news_at al ab ho) F.excBase_ValueError T.made (List.mem_cons_of_mem _ (mem_rest nl nb hu ua)) (.head rest_ne) hl fun t' h' fr' nw' _ => ?_
  have new : h'.get? a = some _ := (nw' (a, excObj C t' none .none) (by simp)).1
  have J := Inv.relaid (o := exo a C none) I (by rw [e]; exact trivial) fr fr' (fun p hp => nw' p (List.mem_cons_of_mem _ (List.mem_cons_of_mem _ hp))) ⟨_, new⟩ (exo_ok new)
  rw [upd_self e] at J
  exact h _ J
end
section
variable {CX : CXT} {P : Program} {w : World} {K : PySem.W.Frag} {mg : Str → Option Value} {base : Heap} {N ps : List Str} {qual : Str} {sc sc0 : Scope} {f cc C cda a : Addr} {A : Around} {outer : List Env} {s0 s : Shared} {H0 H : Hp} {E : XK} {σ : L2.St}
  {cl oc ccl : Value} {cld od cdd : Option Addr} {csl osl ccs : Array (Option Value)} {fd : FuncData} {ar : Arg} {body : List Stmt} {vs : Array Value} {file : Str} {tf : Tok}
/-- the file of the text, the def and its first name, as super() asks them -/
structure SupAt (P : Program) (K : PySem.W.Frag) (mg : Str → Option Value) (sc : Scope) (f cda : Addr) (x : Str) : Prop where
  fn : ∃ oc od fd osl ar, K.lookup f = some ⟨oc, od, .func fd, osl⟩ ∧ (fd.params.posonlyargs ++ fd.params.args).head? = some ar ∧ ar.arg = x
  code : ∃ cl cd vs sl file tf, K.lookup cda = some ⟨cl, cd, .fields vs, sl⟩ ∧ vs[2]? = some (.str file tf) ∧ ((P.main.file : Str) == file) = true
  top : (P.main.scope.names.lookup ("super" : Str)).isSome = false
  glo : mg "super" = none
  here : sc.names.lookup ("super" : Str) = some .globalImplicit
/-- super() at the head of a body: a new object of the kind super, all else stands -/
theorem sup_here {x : Str} {whole : Sem Value} {attr : Str} {p0 p1 : Pos} {D : Addr} {cdD : ClassData} {ox : Obj} {Q : Value → Shared → Prop} (I : L2.Inv (cxD CX P w K mg base N qual sc sc0 f (.ref cda) cc A outer s0 H0 E) [] σ H s) (S : ClsScope N ps sc sc0) (U : SupAt P K mg sc f cda x)
    (h0 : N[0]? = some x) (hx : sc.names.lookup x = some .local) (hσ : σ[0]? = some (some (.ref a))) (lc : K.lookup cc = some ⟨cl, cld, .cell (some (.ref D)), csl⟩) (hD : clsIn K D = some cdD) (ha : s.heap.get? a = some ox) (hcls : ox.cls = .ref C) (hnc : ∀ c, ox.data ≠ .cls c)
    (hsub : mroIn K C (.ref D) = some true) (hat : (attr == ("__class__" : Str)) = false)
    (h : ∀ so h', h'.get? so = some (ks_superObj D a C) → (∀ b o, s.heap.get? b = some o → h'.get? b = some o) → Q (.ref so) { s with heap := h' }) :
    _root_.PySem.wpAt (model P w) (A.deeper (cenv qual sc s0.heap.objs.size f (.ref cda) cc)) (.func body (cenv qual sc s0.heap.objs.size f (.ref cda) cc)) (attributeBase (.Call (.Name "super" p0) [] [] p1) attr (cenv qual sc s0.heap.objs.size f (.ref cda) cc) whole) Q
      (cxD CX P w K mg base N qual sc sc0 f (.ref cda) cc A outer s0 H0 E).xe s := by
  obtain ⟨_, _, _, _, ar, lf, hp, rfl⟩ := U.fn
  obtain ⟨_, _, _, _, _, _, lcd, hv, hfile⟩ := U.code
  obtain ⟨mb, nsb, hb⟩ := I.mod.blt
  have kin : K.In s.heap := I.kIn
  obtain ⟨m, ns, lk⟩ := I.loc
  obtain ⟨u, ru, hu⟩ := lk 0 ar.arg (.ref a) h0 hσ (.inl hx)
  have um : m ar.arg = some (.ref a) := by
    cases ru
    rcases hu with ⟨_, q⟩ | ⟨q, _⟩
    · exact q
    · have q' : sc.names.lookup ar.arg = some .cell ∨ sc.names.lookup ar.arg = some .free := q
      rw [hx] at q'
      rcases q' with z | z <;> cases z
  obtain ⟨oD, gD, eD⟩ : ∃ oD, s.heap.get? D = some oD ∧ oD.data = .cls cdD := by
    unfold clsIn at hD
    split at hD
    · rename_i q
      cases hD
      exact ⟨_, kin _ _ q, rfl⟩
    · cases hD
  have boot : bootBuiltins ("super" : Str) = some (.type "super") := by first | boot_by_name | rfl | kernel_rfl
  have last : wpAny (model P w) (A.deeper (cenv qual sc s0.heap.objs.size f (.ref cda) cc)) (call (.type "super") [.ref D, .ref a]) Q (cxD CX P w K mg base N qual sc sc0 f (.ref cda) cc A outer s0 H0 E).xe s :=
    ks_wpAny_call_super gD eD ha hcls hnc (looks_mroIn kin hsub) fun h' e k => h _ h' e k
  refine ks_wpAt_super_base (env := cenv qual sc s0.heap.objs.size f (.ref cda) cc) U.here S.free hat rfl (kin _ _ lf) rfl hp rfl (kin _ _ lcd) rfl hv hfile U.top ?_
  exact ks_loadName_global S.kind U.here (loadGlobal_builtin (env := cenv qual sc s0.heap.objs.size f (.ref cda) cc) (I.mod.glob.keeps I.bk) U.glo (nsb.keeps I.bk) ((hb _ (by decide)).trans boot)
    ⟨rfl, wpAny_loadName_free S.kind S.free rfl ⟨_, kin _ _ lc, rfl⟩ (wpAny_loadName_local S.kind hx ns um (ks_wpAny_isType_cls gD eD ⟨rfl, last⟩))⟩)
end
end Rd
/-! OwnI: an own exception's __init__ keeps its promise. -/
namespace Rd
open PySem PySem.Spec PyProof.Rows PySem.W PySem.Calls L2
section
variable {CX : CXT} {P : Program} {w : World} {K : PySem.W.Frag} {mg : Str → Option Value} {base : Heap} {N ps : List Str} {qual : Str} {sc sc0 : Scope} {f cc C cda a : Addr} {A : Around} {outer : List Env} {s0 s : Shared} {H0 H : Hp} {E : XK} {σ : L2.St}
  {cl : Value} {cld : Option Addr} {csl : Array (Option Value)} {body : List Stmt}
abbrev supCall (txt : Str) (j : Nat) (p0 p1 apos cp pos : Pos) : Expr := .Call (.Attribute (.Call (.Name "super" p0) [] [] p1) "__init__" apos) [.Constant (.str txt) j cp] [] pos
/-- how such a call is gone through -/
def GoesSup (env : Env) (txt : Str) (j : Nat) (p0 p1 apos cp pos : Pos) : Prop := ∃ pl : Sem Bool, eval (supCall txt j p0 p1 apos cp pos) env = (do
  let ov ← attributeBase (.Call (.Name "super" p0) [] [] p1) "__init__" env (eval (.Call (.Name "super" p0) [] [] p1) env)
  standAt apos.atName
  let (fx, first) ← holding [ov] (getMethod ov "__init__" pl)
  callWith pos fx first (backTo pos (starEach [.Constant (.str txt) j cp] env)) [])
theorem sup_init {x : Str} {txt : Str} {j : Nat} {p0 p1 apos cp pos pos' : Pos} (I : L2.Inv (cxD CX P w K mg base N qual sc sc0 f (.ref cda) cc A outer s0 H0 E) [] σ H s) (S : ClsScope N ps sc sc0) (U : SupAt P K mg sc f cda x) (T2 : SupC K C)
    (h0 : N[0]? = some x) (hx : sc.names.lookup x = some .local) (hσ : σ[0]? = some (some (.ref a))) (lc : K.lookup cc = some ⟨cl, cld, .cell (some (.ref C)), csl⟩) (e : H a = some (exo a C none))
    (go : GoesSup (cenv qual sc s0.heap.objs.size f (.ref cda) cc) txt j p0 p1 apos cp pos) (hsw : swapsWith (supCall txt j p0 p1 apos cp pos) none pos'.line (cenv qual sc s0.heap.objs.size f (.ref cda) cc) = pure false) :
    _root_.PySem.wpAt (model P w) (A.deeper (cenv qual sc s0.heap.objs.size f (.ref cda) cc)) (.func body (cenv qual sc s0.heap.objs.size f (.ref cda) cc)) (exec (.Expr (supCall txt j p0 p1 apos cp pos) pos') (cenv qual sc s0.heap.objs.size f (.ref cda) cc))
      (fun fl s' => fl = .next ∧ L2.Inv (cxD CX P w K mg base N qual sc sc0 f (.ref cda) cc A outer s0 H0 E) [] σ H s') (cxD CX P w K mg base N qual sc sc0 f (.ref cda) cc A outer s0 H0 E).xe s := by
  obtain ⟨pl, hev⟩ := go
  obtain ⟨t, ho⟩ := exo_at I.hok e
  obtain ⟨cdC, hcd, hal⟩ : ∃ cdC, clsIn K C = some cdC ∧ alongIn K "__init__" ((cdC.mro.dropWhile (· != .ref C)).drop 1) = some (some (.builtin "ValueError.__init__")) := by
    have q := T2.ini
    unfold ks_superIn at q
    cases z : clsIn K C with
    | none => rw [z] at q; cases q
    | some c => rw [z] at q; exact ⟨c, rfl, q⟩
  refine ks_wpAt_Expr_any (ks_wpAt_MethodCall (sup_here I S U h0 hx hσ lc hcd ho rfl (fun c z => by cases z) T2.slf (by decide) fun so h1 gso k1 => ?_) hev) I.quiet hsw
  have I1 := I.kept (t' := s.toks) k1
  have kin : K.In h1 := I1.kIn
  have inst : InstAt h1 a _ C none := ⟨k1 _ _ ho, rfl, rfl, trivial⟩
  obtain ⟨hs, g, d, tk, os⟩ := s
  have mro : Looks (model P w) h1 (mroOf (.ref C)) cdC.mro := (looks_clsIn kin hcd).andThen .now
  refine kxs_getMethod (d := d) kxs_ValueError gso (looks_opaque kin T2.op) mro rfl kin hal (inst.type.andThen (looks_subIn kin T2.ve)) (ks_ne kin inst hcd) (by decide) ?_
  have I2 := I1.kept (t' := tk + 1) (h' := h1.push (kxs_mw "ValueError.__init__" a)) fun b o q => Heap.get?_push_of_some _ q
  have gu : (h1.push (kxs_mw "ValueError.__init__" a)).get? h1.objs.size = some (kxs_mw "ValueError.__init__" a) := Heap.get?_push_size _ rfl
  have ul : h1.objs.size ≠ s0.heap.objs.size := fun z => by
    have q : s0.heap.objs.size < h1.objs.size := I1.lt
    omega
  have ub : base.get? h1.objs.size = none := by
    cases q : base.get? h1.objs.size with
    | none => rfl
    | some o => exact absurd (Heap.lt_size (I1.bk _ o q)) (Nat.lt_irrefl _)
  have I3 : L2.Inv (cxD CX P w K mg base N qual sc sc0 f (.ref cda) cc A outer s0 H0 E) [(h1.objs.size, kxs_mw "ValueError.__init__" a)] σ H ⟨h1.push (kxs_mw "ValueError.__init__" a), g, d, tk + 1, os⟩ := I2.pins_of fun p hp => by
    cases List.mem_singleton.mp hp
    exact ⟨gu, I1.hok.fresh (Nat.le_refl _), ul, I1.nofs (Nat.le_refl _), fun v z => by cases z⟩
  have PAc : PA (cxD CX P w K mg base N qual sc sc0 f (.ref cda) cc A outer s0 H0 E) [.Constant (.str txt) j cp] (tCons (tC (.str txt)) tNil) := pa_cons pe_str pa_nil (by rfl)
  refine kxs_callWith1 (h₀ := base) (L := s0.heap.objs.size) (i := "ValueError.__init__") (x := a) (news := [(h1.objs.size, kxs_mw "ValueError.__init__" a)]) (fun p hp => by cases List.mem_singleton.mp hp; exact ⟨gu, ul, ub⟩) (by simp)
    (wpAny_mono (PAc.run pos _ _ σ H (fun us H' => us.length = 1 ∧ H' = H) I3 ⟨rfl, rfl⟩) (fun us s2 q => ?_) fun _ _ z => z) (by rfl) (by rfl)
  obtain ⟨ws, H2, J, rv, hl, rfl⟩ := q
  have gu2 := (J.pin _ (List.mem_append_right _ (List.mem_singleton.mpr rfl))).1
  have hus : us.length ≤ sizeLine := by rw [← rv.length, hl]; decide
  exact ⟨gu2, call_wrapped (X := cxD CX P w K mg base N qual sc sc0 f (.ref cda) cc A outer s0 H0 E) T2 J e gu2 ub ul hus fun s' J' => ⟨rfl, J'.pins_of fun p hp => by cases hp⟩⟩
/-- an __init__ whose first row is super().__init__(text) -/
theorem fn_exc {k : Nat} {name x : Str} {params : Arguments} {rest : List Stmt} {dV kV doc pm ct oc : Value} {an od : Option Addr} {osl : Array (Option Value)} {sp : Sp} {txt : Str} {j : Nat} {p0 p1 apos cp pos pos' : Pos}
    (lk : K.lookup f = some ⟨oc, od, .func (ksFn name qual params (.Expr (supCall txt j p0 p1 apos cp pos) pos' :: rest) sc dV kV doc pm an (.ref cda) ct cc), osl⟩)
    (hcd : PySem.W.codeIn K (.ref cda) qual = true) (lc : K.lookup cc = some ⟨cl, cld, .cell (some (.ref C)), csl⟩) (S : ClsScope N ps sc sc0) (len : ∀ vs H Q E, sp vs H Q E → vs.length = ps.length) (hloc : ∀ x ∈ ps, sc.names.lookup x = some .local ∧ sc0.names.lookup x = some .local)
    (U : SupAt P K mg sc f cda x) (T2 : SupC K C) (h0 : N[0]? = some x) (hx : sc.names.lookup x = some .local)
    (go : ∀ L, GoesSup (cenv qual sc L f (.ref cda) cc) txt j p0 p1 apos cp pos) (hsw : ∀ L, swapsWith (supCall txt j p0 p1 apos cp pos) none pos'.line (cenv qual sc L f (.ref cda) cc) = pure false)
    (hs : ∀ vs H Q E, sp vs H Q E → ∃ a r, vs = .ref a :: r ∧ H a = some (exo a C none))
    (hrest : ∀ (A : Around) (outer : List Env) (s : Shared) (H : Hp) (vs : List V) (Q : VK) (E : XK), Room k (A.deeper (cenv qual sc s.heap.objs.size f (.ref cda) cc)) → sp vs H Q E →
      ∃ t, PSs (cxD CX P w K mg base N qual sc sc0 f (.ref cda) cc A outer s H E) rest t ∧ t { nx := fun _ H' => Q .non H', rt := Q } (start N vs) H) :
    FnOk P w K mg base CX (k + 1) f (ksFn name qual params (.Expr (supCall txt j p0 p1 apos cp pos) pos' :: rest) sc dV kV doc pm an (.ref cda) ct cc) ps sp := by
  refine fn_cell lk hcd lc S len hloc fun A outer s H vs Q E s1 hr hsp I => ?_
  obtain ⟨a, r, rfl, e⟩ := hs _ _ _ _ hsp
  obtain ⟨t, ht, hq⟩ := hrest A outer s H _ Q E hr hsp
  refine ks_wpAt_execs_cons (ks_wpAt_mono (sup_init I S U T2 h0 hx rfl lc e (go _) (hsw _)) (fun fl s2 q => ?_) fun _ _ z => z)
  obtain ⟨rfl, J⟩ := q
  exact wpAt_of_wpAny (ht.run [] s2 _ H _ J hq)
end
end Rd
/-! Catch: try .. except C as e, where e is kept behind the suite: the caught object becomes a tracked one. Only what C names is raised. -/
namespace Rd
open PySem PySem.Spec PyProof.Rows L2
/-- at a stands an exception of the class cls, its own dict at d -/
def XcO (cls : Value) (d : Option Addr) (a : Addr) : HO := .ext fun h => ∃ (o : Obj) (fs : Array Value), h.get? a = some o ∧ Zc cls d o ∧ o.data = .fields fs
/-- a is nobody's record here -/
structure Alone (X : Cx) (pins : List (Addr × Obj)) (a : Addr) : Prop where
  loc : a ≠ X.env.locals
  old : X.s_0.heap.get? a = none
  pin : ∀ p ∈ X.pn ++ pins, p.1 ≠ a
section
variable {X : Cx} {pins : List (Addr × Obj)} {σ : L2.St} {H : Hp} {s : Shared} {a : Addr} {cls : Value} {d : Option Addr}
theorem xcO_is {P : Program} {w : World} {h : Heap} {o : Obj} {fs : Array Value} (e : h.get? a = some o) (z : Zc cls d o) (q : o.data = .fields fs) : ObjOk P w H h a (XcO cls d a) :=
  ⟨⟨o, fs, e, z, q⟩, ⟨o, e⟩, fun _ _ ⟨o, fs, e, z, q⟩ k => ⟨o, fs, k o e, z, q⟩⟩
theorem Inv.hold {o : Obj} {fs : Array Value} (I : L2.Inv X pins σ H s) (al : Alone X pins a) (na : H a = none) (e : s.heap.get? a = some o) (z : Zc cls d o) (q : o.data = .fields fs) : L2.Inv X pins σ (upd H a (XcO cls d a)) s :=
  have up : ∀ {b : Addr} {u : HO}, H b = some u → upd H a (XcO cls d a) b = some u := fun {b u} hb => (upd_ne (ne_of_none hb na)).trans hb
  { ok := I.ok, os := I.os, bare := I.bare, loc := I.loc, cell := I.cell, len := I.len
    base := { keep := I.base.keep, slot := I.base.slot, there := I.base.there
              free := fun b u hb n hx => (upd_ne fun z => by rw [z, al.old] at hb; cases hb).trans (I.base.free b u hb n hx)
              tups := fun b xs hb => up (I.base.tups b xs hb)
              frzs := fun b u v hb => up (I.base.frzs b u v hb)
              tbls := fun b ps hb => let ⟨m, w⟩ := I.base.tbls b ps hb; ⟨m, up w⟩ }
    free := (upd_ne (Ne.symm al.loc)).trans I.free
    freeC := fun x c hc => (upd_ne fun z => by
      obtain ⟨v, u, hu, hv⟩ := I.cell x c hc
      rw [z, e] at hu; cases hu; rw [q] at hv; cases hv).trans (I.freeC x c hc)
    pin := fun p hp => let ⟨h1, h2, h3⟩ := I.pin p hp; ⟨h1, (upd_ne (al.pin p hp)).trans h2, h3⟩
    hok := HOk.laidN I.hok (fun _ _ hb => hb) na (xcO_is e z q) }
/-- the same ends over another context -/
theorem sp_map {Y : Cx} {p1 : List (Addr × Obj)} {D : Ends} {f : Flow} (m : ∀ σ H, L2.Inv Y p1 σ H s → L2.Inv X pins σ H s) (h : SP Y p1 D f s) : SP X pins D f s := by
  cases f with
  | ret u => exact let ⟨v, σ, H, J, r⟩ := h; ⟨v, σ, H, m σ H J, r⟩
  | next => exact let ⟨σ, H, J, r⟩ := h; ⟨σ, H, m σ H J, r⟩
  | brk => exact let ⟨σ, H, J, r⟩ := h; ⟨σ, H, m σ H J, r⟩
  | cont => exact let ⟨σ, H, J, r⟩ := h; ⟨σ, H, m σ H J, r⟩
/-- into the suite, and back -/
theorem Inv.intoSuite (I : L2.Inv X pins σ H s) : L2.Inv (X.suite a (X.pn ++ pins)) [] σ H s :=
  { ok := I.ok.suite _ _, os := I.os, bare := I.bare, base := I.base, loc := I.loc, cell := I.cell, free := I.free, freeC := I.freeC, hok := I.hok, len := I.len, pin := fun p hp => I.pin p (by simpa using hp) }
theorem Inv.outOfSuite {pn : List (Addr × Obj)} (ok : X.Ok) (I : L2.Inv (X.suite a (X.pn ++ pins)) pn σ H s) : L2.Inv X pins σ H s :=
  { ok := ok, os := I.os, bare := I.bare, base := I.base, loc := I.loc, cell := I.cell, free := I.free, freeC := I.freeC, hok := I.hok, len := I.len, pin := fun p hp => I.pin p (List.mem_append_left _ hp) }
/-- what flew in is nobody's record -/
theorem alone_of {B h : Heap} {o : Obj} {fs : Array Value} {sI : Shared} (hs : X.stack = X.env :: X.outer) (hf : X.env.frame = some X.env.locals) (hex : X.ex = []) (J : L2.Inv X pins σ H sI) (nb : ∀ b o, sI.heap.get? b = some o → b ∉ frs X.stack → B.get? b = some o)
    (hB : B.get? a = none) (ff : h.FunFrames B (X.env :: X.outer)) (e : h.get? a = some o) (q : o.data = .fields fs) : Alone X pins a := by
  have nst : a ∉ frs X.stack := by
    rw [hs]
    intro m
    obtain ⟨_, u, hu, nf⟩ := ff.mem m
    rw [e] at hu; cases hu
    exact nf fs q
  have nI : sI.heap.get? a = none := Option.eq_none_iff_forall_ne_some.mpr fun u hu => by
    have z := nb a u hu nst
    rw [hB] at z; cases z
  refine ⟨fun z => nst ?_, Option.eq_none_iff_forall_ne_some.mpr fun u hu => ?_, fun p hp z => ?_⟩
  · rw [hs, z]
    exact List.mem_filterMap.mpr ⟨X.env, List.mem_cons_self, hf⟩
  · obtain ⟨v, hv⟩ := J.base.there a u hu (by rw [hex]; exact List.not_mem_nil)
    rw [nI] at hv; cases hv
  · have hv := (J.pin p hp).1
    rw [z, nI] at hv; cases hv
end
/-- behind the suite the clause's name is unbound -/
def unbound (D : Ends) (i : Nat) : Ends := ⟨fun σ H => D.nx (σ.set i none) H, D.rt, fun σ H => D.bk (σ.set i none) H, fun σ H => D.ct (σ.set i none) H⟩
theorem w_unb {nx : L2.St → Hp → Prop} {rt : VK} {bk ct : L2.St → Hp → Prop} {i : Nat} {σ : L2.St} {H : Hp} (h : nx (σ.set i none) H) : (unbound ⟨nx, rt, bk, ct⟩ i).nx σ H := h
/-- the wish of such a clause -/
def wCatch (K : PySem.W.Frag) (c : Value) (i : Nat) (ts : TS) (D : Ends) : WX := fun cls d σ H => PySem.W.exmOne K cls c = some true ∧ ∀ a, H a = none → ts (unbound D i) (σ.set i (some (.ref a))) (upd H a (XcO cls d a))
section
variable {X : Cx} {x n : Str} {c : Value} {i : Nat} {body suite : List Stmt} {b0 : Stmt} {np pos pos' : Pos} {tb : WX → TS} {ts : TS}
/-- the clause takes what flew in -/
theorem clause_takes {rest : List ExceptHandler} {pins : List (Addr × Obj)} {σ : L2.St} {H : Hp} {D : Ends} {s' : Shared} {h3 B : Heap} {a : Addr} {cls : Value} {d : Option Addr} (ok : X.Ok) (hN : X.N.Nodup) (hi : X.N[i]? = some n) (hln : X.env.kindOf n = some .local) (hc : Names X x c)
    (hm : PySem.W.exmOne X.K cls c = some true) (hsu : ∀ (a : Addr) (pn : List (Addr × Obj)), PSs (X.suite a pn) (b0 :: suite) ts) (fl : HandSPX.FlyingZ B (X.env :: X.outer) a (Zc cls d) h3) (al : Alone X pins a) (na : H a = none)
    (on : ∀ h, HandSPX.FlyingZ B (X.env :: X.outer) a (Zc cls d) h → h3.UpToSlots h → L2.Inv X pins σ H { s' with heap := h }) (q : ts (unbound D i) (σ.set i (some (.ref a))) (upd H a (XcO cls d a))) :
    wpAny (model X.prog X.w) X.A (handleBy (.ref a) X.env (.ExceptHandler (some (.Name x np)) (some n) (b0 :: suite) pos' :: rest)) (SP X pins D) X.xe { s' with heap := h3 } := by
  have J := on h3 fl (Heap.UpToSlots.refl _)
  obtain ⟨o, fs, e, z, _⟩ := fl.there
  have look : PySem.W.Looks (model X.prog X.w) h3 (typeOf (.ref a)) cls := fun _ _ _ _ k w => wpAny_typeOf_ref (k _ _ e) (z.1 ▸ w)
  have back : ∀ {f : Flow} {s6 : Shared}, SP (X.suite a (X.pn ++ pins)) [] (unbound D i) f s6 → wpAny (model X.prog X.w) X.A (do bindName X.env n .none; unbindBehindTheSuite X.env n pos') (fun _ s7 => SP X pins D f s7) X.xe s6 := fun {f s6} h => by
    cases f with
    | ret u => exact let ⟨v, σ, H, S, r, w⟩ := h; gone_ok (Inv.outOfSuite ok S) hN hi hln fun s7 J7 => ⟨v, _, H, J7, r, w⟩
    | next => exact let ⟨σ, H, S, w⟩ := h; gone_ok (Inv.outOfSuite ok S) hN hi hln fun s7 J7 => ⟨_, H, J7, w⟩
    | brk => exact let ⟨σ, H, S, w⟩ := h; gone_ok (Inv.outOfSuite ok S) hN hi hln fun s7 J7 => ⟨_, H, J7, w⟩
    | cont => exact let ⟨σ, H, S, w⟩ := h; gone_ok (Inv.outOfSuite ok S) hN hi hln fun s7 J7 => ⟨_, H, J7, w⟩
  have name : ∀ {R : Value → Shared → Prop} {E : Value → Shared → Prop}, R c { s' with heap := h3 } → wpAny (model X.prog X.w) (X.A.mark (some (.ref a))) (eval (.Name x np) X.env) R E { s' with heap := h3 } := fun {R E} r => by
    have S := Inv.intoSuite (a := a) J
    obtain ⟨g1, g2, g3⟩ := hc
    rcases g3 with g3 | ⟨g3, g4, g5⟩
    · exact ld_glob S g1 g3 r g2
    · exact ld_blt S g1 g3 g4 r g5 g2
  refine wpAny_handleBy_cons (codeAny_handlers_test (name ((PySem.W.exm_one J.kIn look hm).here (codeAny_handlers_suite_as (HandSPX.lands_againZ fl fun h4 fl4 up4 => ?_))))) (fun w => by cases w)
  obtain ⟨o4, fs4, e4, z4, q4⟩ := fl4.there
  have S4 := Inv.intoSuite (a := a) (Inv.hold (on h4 fl4 up4) al na e4 z4 q4)
  refine store_ok (X := X.suite a (X.pn ++ pins)) (v := .ref a) S4 hN hi (.inl hln) rfl (fun s5 S5 => wpAny_mono ((hsu a (X.pn ++ pins)).run [] s5 _ _ _ S5 q) (fun f s6 w => ?_) fun _ _ w => w.elim) (.inr hln)
  exact back w
theorem ps_catch (hs : X.stack = X.env :: X.outer) (hf : X.env.frame = some X.env.locals) (hex : X.ex = []) (hN : X.N.Nodup) (hi : X.N[i]? = some n) (hln : X.env.kindOf n = some .local) (hc : Names X x c)
    (hb : ∀ (W : WX) (pn : List (Addr × Obj)) (xe : Value → Shared → Prop), Takes (X.tr pn xe) W → PassesOwn (model X.prog X.w) X.A X.env xe → PSs (X.tr pn xe) body (tb W)) (hsu : ∀ (a : Addr) (pn : List (Addr × Obj)), PSs (X.suite a pn) (b0 :: suite) ts) :
    PS X (.Try body [.ExceptHandler (some (.Name x np)) (some n) (b0 :: suite) pos'] [] [] pos) (fun D σ H => tb (wCatch X.K c i ts D) D σ H) where
  run := fun pins s σ H D I h => by
    have ok := I.ok
    have fr : X.A.frames = some (X.env :: X.outer) := ok.frames.trans (congrArg some hs)
    refine wpAny_Try_except (wpAny_mono ((hb (wCatch X.K c i ts D) (X.pn ++ pins) _ (fun u s' xx => ?_) PassesOwn.looking).run [] s σ H D (I.toTry _) h) (fun f s1 w => ?_) fun _ _ w => w)
    · obtain ⟨a, B, sI, p1, σ1, H1, cls, d, rfl, J1, nb, up, sky, na, os, ag, hm, q⟩ := xx
      have J : L2.Inv X pins σ1 H1 sI := J1.ofTry ok
      refine Sky.land Zc.steady fr hf (hs ▸ sky) fun h3 fl up3 => ?_
      obtain ⟨o, fs, e, _, qd⟩ := fl.there
      exact clause_takes ok hN hi hln hc hm hsu fl (alone_of hs hf hex J nb fl.2.1 fl.2.2.1 e qd) na (fun h4 fl4 up4 => J.landed nb fl4.1 ((up.trans up3).trans up4) os ag) (q a na)
    · have w' : SP X pins D f s1 := sp_map (fun σ H J => J.ofTry ok) w
      cases f with
      | next => exact wpAny_execs_nil w'
      | ret u => exact w'
      | brk => exact w'
      | cont => exact w'
end
end Rd
/-! Ask: isinstance of a kept exception, its fields; raise of an own exception with fields. -/
namespace Rd
open PySem PySem.Spec PyProof.Rows PySem.W PySem.Calls L2
/-- a kept exception of the class at D with the fields fs (none: it has no dict) -/
def XcAt (H : Hp) (a D : Addr) (fs : Option (List (Str × V))) : Prop := match fs with
  | none => H a = some (XcO (.ref D) none a)
  | some l => ∃ dd, H a = some (XcO (.ref D) (some dd) a) ∧ H dd = some (.xd l)
theorem XcAt.keep {H H' : Hp} {a D : Addr} {fs : Option (List (Str × V))} (h : XcAt H a D fs) (k : ∀ b o, H b = some o → H' b = some o) : XcAt H' a D fs := match fs, h with
  | none, e => k _ _ e
  | some _, ⟨dd, e1, e2⟩ => ⟨dd, k _ _ e1, k _ _ e2⟩
section
variable {X : Cx} {pins : List (Addr × Obj)} {σ : L2.St} {H : Hp} {s : Shared} {a D : Addr} {fs : Option (List (Str × V))}
theorem kept_inst (I : L2.Inv X pins σ H s) (h : XcAt H a D fs) : ∃ o od, InstAt s.heap a o D od ∧ ∀ l f v, fs = some l → l.lookup f = some v → ∃ ob u, od = some ob ∧ lookIn f ob = some (some u) ∧ RelV v u := by
  cases fs with
  | none =>
    obtain ⟨o, vs, e, ⟨z1, z2⟩, q⟩ := (I.hok a _ h).1
    exact ⟨o, none, ⟨e, z1, by unfold notCls; rw [q], by rw [z2]; trivial⟩, fun l f v z => nomatch z⟩
  | some l =>
    obtain ⟨dd, h1, h2⟩ := h
    obtain ⟨o, vs, e, ⟨z1, z2⟩, q⟩ := (I.hok a _ h1).1
    obtain ⟨mA, ns, rel⟩ := (show ObjOk X.prog X.w H s.heap dd (.xd l) from I.hok dd _ h2)
    obtain ⟨ob, ho, hl⟩ := lookIn_ns ns
    refine ⟨o, some ob, ⟨e, z1, by unfold notCls; rw [q], by rw [z2]; exact ho⟩, fun l' f v z w => ?_⟩
    cases z
    have r := rel f
    rw [w] at r
    obtain ⟨u, hu, ru⟩ := RelO.some_of r
    exact ⟨ob, u, rfl, (hl f).trans (congrArg some hu), ru⟩
theorem exc_kit {o : Obj} {od : Option Obj} (C : ExcC X.K D) : KitX X.K (.ref a) (.ref D) (fun h => InstAt h a o D od) := by
  have some_cls : (clsIn X.K D).isSome = true := by
    obtain ⟨cd, e, _⟩ := any_some C.hd
    rw [e]; rfl
  exact kitx_exc some_cls C.hg C.hk C.hs C.ha C.hn C.ht C.hm
def rIsX (K : PySem.W.Frag) : List V → Hp → VK → Prop := fun xs H Q => match xs with
  | [.ref a, c] => ∃ D fs u b, XcAt H a D fs ∧ ExcC K D ∧ ClsV c u ∧ kitOne K (.ref D) u = some b ∧ Q (.bl b) H
  | _ => False
def rIsXT (K : PySem.W.Frag) : List V → Hp → VK → Prop := fun xs H Q => match xs with
  | [.ref a, .ref tp] => ∃ D fs cs us b, XcAt H a D fs ∧ ExcC K D ∧ H tp = some (.tup cs) ∧ Paired ClsV cs us ∧ kitAny K (.ref D) us = some b ∧ Q (.bl b) H
  | _ => False
theorem cIsX : CallR X (.builtin "isinstance") (rIsX X.K) := by
  intro pins s σ H xs us Q I r h
  unfold rIsX at h
  split at h
  · obtain ⟨D, fs, u, b, hx, C, hc, e, q⟩ := h
    obtain ⟨v1, v2, rfl, r1, r2⟩ := vals2 r
    cases r1
    cases hc.eq r2
    obtain ⟨o, od, i, _⟩ := kept_inst I hx
    exact kia_one (exc_kit C) I.kIn i e (fun z => nomatch z) fun tk => ⟨.bl b, _, I.tok tk, rfl, q⟩
  · exact h.elim
theorem cIsXT : CallR X (.builtin "isinstance") (rIsXT X.K) := by
  intro pins s σ H xs us Q I r h
  unfold rIsXT at h
  split at h
  · obtain ⟨D, fs, cs, ws, b, hx, C, ht, hc, e, q⟩ := h
    obtain ⟨v1, v2, rfl, r1, r2⟩ := vals2 r
    cases r1
    cases r2
    obtain ⟨o, od, i, _⟩ := kept_inst I hx
    obtain ⟨its, rv, ⟨⟨c1, c2, c3, c4⟩, g1, g2, n, g3⟩, _⟩ := I.tuple (SqT.of ht)
    cases g2
    cases g3
    cases ClsV.all hc rv
    exact kia_tup (exc_kit C) I.kIn i g1 e (fun z => nomatch z) fun tk => ⟨.bl b, _, I.tok tk, rfl, q⟩
  · exact h.elim
theorem CallR.or {f : Value} {r r' : List V → Hp → VK → Prop} (h : CallR X f r) (h' : CallR X f r') : CallR X f (fun xs H Q => r xs H Q ∨ r' xs H Q) :=
  fun pins s σ H xs us Q I rv z => z.elim (h pins s σ H xs us Q I rv) (h' pins s σ H xs us Q I rv)
def uIsi (K : PySem.W.Frag) : List V → Hp → VK → Prop := fun xs H Q => rIsi K xs H Q ∨ rIsX K xs H Q
def uIsiT (K : PySem.W.Frag) : List V → Hp → VK → Prop := fun xs H Q => rIsiT K xs H Q ∨ rIsXT K xs H Q
theorem cIsi : CallR X (.builtin "isinstance") (uIsi X.K) := CallR.or call_isi cIsX
theorem cIsiT : CallR X (.builtin "isinstance") (uIsiT X.K) := CallR.or call_isiT cIsXT
/-- e.f of a kept exception -/
def tXk (K : PySem.W.Frag) (f : Str) (te : TE) : TE := fun σ H Q => te σ H fun x H1 => match x with
  | .ref a => ∃ C l v, XcAt H1 a C (some l) ∧ XfC K C ∧ findIn K (.ref C) f = some none ∧ l.lookup f = some v ∧ Q v H1
  | _ => False
theorem pe_xk {e : Expr} {te : TE} {f : Str} {pos : Pos} (he : PE X e te) (hb : attributeBase e f X.env (eval e X.env) = eval e X.env := by rfl) : PE X (.Attribute e f pos) (tXk X.K f te) where
  run := fun pins s σ H Q I h => attr_of hb (thn (he.run pins s σ H _ I h) fun u s1 w => by
    obtain ⟨x, H1, I1, rx, w⟩ := w
    split at w
    · obtain ⟨C, l, v, hx, T, hno, hl, q⟩ := w
      cases rx
      obtain ⟨o, od, i, hf⟩ := kept_inst I1 hx
      obtain ⟨ob, u, rfl, hu, ru⟩ := hf l f v rfl hl
      exact HandSPX.exc_get I1.kIn i T.ga T.gg T.exC (findObj_own T.hdC hno rfl hu) (handed_of ru) ⟨v, H1, I1.tok _, ru, q⟩
    · exact w.elim)
end
theorem w_xk {K : PySem.W.Frag} {f : Str} {i : Nat} {σ : L2.St} {H : Hp} {Q : VK} {a C : Addr} {l : List (Str × V)} {v : V} (hv : σ[i]? = some (some (.ref a))) (hx : XcAt H a C (some l)) (hc : XfC K C) (hn : findIn K (.ref C) f = some none) (hl : l.lookup f = some v) (h : Q v H) : tXk K f (tVar i) σ H Q := w_var hv ⟨C, l, v, hx, hc, hn, hl, h⟩
/-! ### an own exception with fields is made -/
def spX0 (C : Addr) : Sp := fun vs H Q _ => ∃ a, vs = [.ref a] ∧ H a = some (exo a C none) ∧ Q .non H
def spX1 (C : Addr) (f : Str) : Sp := fun vs H Q _ => ∃ a y, vs = [.ref a, y] ∧ H a = some (exo a C none) ∧ ∀ d, H d = none → d ≠ a → Q .non (upd (upd H d (exd d [(f, y)])) a (exo a C (some d)))
def spX2 (C : Addr) (f g : Str) : Sp := fun vs H Q _ => ∃ a y z, vs = [.ref a, y, z] ∧ H a = some (exo a C none) ∧ ∀ d, H d = none → d ≠ a → Q .non (upd (upd (upd H d (exd d [(f, y)])) a (exo a C (some d))) d (exd d [(g, z), (f, y)]))
section
variable {H : Hp} {σ : L2.St} {C : Addr} {W : XK}
theorem new_heap {H2 : Hp} {a d : Addr} {o : HO} (na : H a = none) (nd : d ≠ a) (h : ∀ b, b ≠ a → b ≠ d → H2 b = H b) : upd (del H2 a) d o = upd H d o := by
  funext b
  by_cases e : b = d
  · rw [e, upd_same, upd_same]
  · rw [upd_ne e, upd_ne e]
    by_cases z : b = a
    · rw [z, del_same, na]
    · rw [del_ne z, h b z e]
/-- the arguments of an exception are done -/
def kMkO (C : Addr) (sp : Sp) (dvs : List V) (W : XK) : List V → Hp → Prop := fun vs H => tMkO C sp dvs (tAc vs) [] H W
theorem w_mko {sp : Sp} {dvs : List V} {ta : TA} (h : ta σ H (kMkO C sp dvs W)) : tMkO C sp dvs ta σ H W := h
theorem use_raise1 {f : Str} {y : V} (h : ∀ d, H d = none → W (.ref C) (some d) (upd H d (.xd [(f, y)]))) : kMkO C (spX1 C f) [] W [y] H := by
  refine ⟨by show 1 ≤ 1000; decide, fun a na => ⟨a, y, rfl, upd_same, fun d nd hne => ⟨rfl, d, [(f, y)], upd_same, ?_, ?_, ?_⟩⟩⟩
  · rw [upd_ne hne, upd_same]
  · rw [upd_ne hne] at nd; exact nd
  · rw [upd_ne hne] at nd
    rw [new_heap na hne fun b hb hd => by rw [upd_ne hb, upd_ne hd, upd_ne hb]]
    exact h d nd
theorem use_raise2 {f g : Str} {y z : V} (h : ∀ d, H d = none → W (.ref C) (some d) (upd H d (.xd [(g, z), (f, y)]))) : kMkO C (spX2 C f g) [] W [y, z] H := by
  refine ⟨by show 2 ≤ 1000; decide, fun a na => ⟨a, y, z, rfl, upd_same, fun d nd hne => ⟨rfl, d, [(g, z), (f, y)], ?_, upd_same, ?_, ?_⟩⟩⟩
  · rw [upd_ne (Ne.symm hne), upd_same]
  · rw [upd_ne hne] at nd; exact nd
  · rw [upd_ne hne] at nd
    rw [new_heap na hne fun b hb hd => by rw [upd_ne hd, upd_ne hb, upd_ne hd, upd_ne hb]]
    exact h d nd
end
end Rd
/-! Hk: a Hook that also tells of own exceptions, of classes beside each other, and of defs with the cell __class__. -/
namespace Rd
open PySem PySem.Spec PyProof.Rows PySem.W L2
/-- facts of our own -/
inductive Xa where
  /-- an own exception whose __init__ begins with super().__init__ -/
  | exc (x : Str)
  /-- isinstance of an instance of x: an own class y, a built-in one -/
  | kit (x y : Str) (b : Bool) | kitT (x : Str) (t : String) (b : Bool)
  /-- isinstance of a thing of a built-in type -/
  | tkit (t : String) (y : Str) (b : Bool)
  /-- an except clause of y beside an exception of x -/
  | exm (x y : Str) (b : Bool)
  /-- instances of x may be asked for their class -/
  | inst (x : Str)
  /-- a staticmethod of a class -/
  | stat (x m : Str)
  /-- the class is the first of its own line -/
  | self1 (x : Str)
def veT : List Value := [.type "ValueError", .type "Exception", .type "BaseException", .type "object"]
/-- the class object of an own exception over ValueError -/
def xclsB (K : PySem.W.Frag) (C : Addr) : Bool := match K.lookup C with
  | some ⟨.type k, _, .cls cd, sl⟩ => decide (k = "type") && (match cd.mro, sl.toList with
    | .ref C' :: bm, [_, _, _, _, some (.builtin n), _] => decide (C' = C) && (decide (n = "ValueError.__new__") && (!cd.hasDel && (cd.hasDict && HandSPX.refsVE bm)))
    | _, _ => false)
  | _ => false
abbrev iAd (K : PySem.W.Frag) (x : Str) : Addr := He.ma K (He.ga K x) "__init__"
def excB (K : PySem.W.Frag) (x : Str) : Bool :=
  xclsB K (He.ga K x) && (He.eqO (findIn K (.ref (He.ga K x)) "__setattr__") (some (some (.builtin "object.__setattr__"))) && (decide (subIn K (.ref (He.ga K x)) (.type "BaseException") = some true) && (decide (typeIn K (.ref (He.ga K x)) = some (.type "type")) && (keepIn K (.ref (He.ga K x)) &&
  (He.eqO (nsIn K cStatics "thirdparty.any") (some none) && (He.eqO (ks_superIn K (He.ga K x) (He.ga K x) "__init__") (some (some (.builtin "ValueError.__init__"))) && (decide (subIn K (.ref (He.ga K x)) (.type "ValueError") = some true) && (decide (mroIn K (He.ga K x) (.ref (He.ga K x)) = some true) && (excInitIn K (He.ga K x) veT "ValueError.__new__" &&
  (He.eqO (findIn K (.ref (He.ga K x)) "__getattribute__") (some (some (.builtin "BaseException.__getattribute__"))) && (He.eqO (findIn K (.ref (He.ga K x)) "__getattr__") (some none) && (hasDictIn K (He.ga K x) && (He.eqO (findIn K (.ref (He.ga K x)) "__class__") (some (some (.builtin "object.__class__"))) &&
  (He.eqO (specialIn K (.builtin "object.__class__") "__get__") (some (some (.builtin "getset_descriptor.__get__"))) && (decide (takesIn K (.builtin "object.__class__") = some true) && (decide (mroIn K (He.ga K x) (.type "object") = some true) &&
  (He.eqO (findIn K (.ref (He.ga K x)) "__init__") (some (some (.ref (iAd K x)))) && decide (typeIn K (.ref (iAd K x)) = some (.type "function")))))))))))))))))))
/-- what a class finds under m is a descriptor of this kind -/
def cfB (K : PySem.W.Frag) (C : Addr) (m : Str) (n : String) : Bool := match findCls K (.ref C) (.type "type") m with
  | some (.get (.builtin n') (.ref p) .none (.ref C')) => decide (n' = n) && (decide (p = He.ma K C m) && decide (C' = C))
  | _ => false
theorem cf_ok {K : PySem.W.Frag} {C : Addr} {m : Str} {n : String} (h : cfB K C m n = true) : findCls K (.ref C) (.type "type") m = some (.get (.builtin n) (.ref (He.ma K C m)) .none (.ref C)) := by
  unfold cfB at h
  split at h
  · rename_i e
    rw [Bool.and_eq_true, Bool.and_eq_true, decide_eq_true_eq, decide_eq_true_eq, decide_eq_true_eq] at h
    obtain ⟨rfl, rfl, rfl⟩ := h
    exact e
  · cases h
/-- the def under a descriptor -/
def wrapAt (w : String) (x m : Str) (K : PySem.W.Frag) : Addr := match recIn K (He.ma K (He.ga K x) m) w with
  | some (.ref g :: _) => g
  | _ => 0
def Xa.ok (K : PySem.W.Frag) : Xa → Bool
  | .exc x => excB K x
  | .kit x y b => decide (kitOne K (.ref (He.ga K x)) (.ref (He.ga K y)) = some b)
  | .kitT x t b => decide (kitOne K (.ref (He.ga K x)) (.type t) = some b)
  | .tkit t y b => decide (kitOne K (.type t) (.ref (He.ga K y)) = some b)
  | .exm x y b => decide (exmOne K (.ref (He.ga K x)) (.ref (He.ga K y)) = some b)
  | .inst x => He.eqO (findIn K (.ref (He.ga K x)) "__class__") (some (some (.builtin "object.__class__"))) && (He.eqO (specialIn K (.builtin "object.__class__") "__get__") (some (some (.builtin "getset_descriptor.__get__"))) && (decide (takesIn K (.builtin "object.__class__") = some true) && decide (mroIn K (He.ga K x) (.type "object") = some true)))
  | .stat x m => readsIn K (He.ga K x) (.type "type") && (He.eqO (specialIn K (.ref (He.ga K x)) "__getattribute__") (some (some (.builtin "type.__getattribute__"))) && (cfB K (He.ga K x) m "staticmethod.__get__" && (match recIn K (He.ma K (He.ga K x) m) "staticmethod" with
    | some (.ref g :: _) => keepIn K (.ref g)
    | _ => false)))
  | .self1 x => selfFirst K (He.ga K x)
structure ExcT (K : PySem.W.Frag) (x : Str) : Prop where
  oex : OexC K (He.ga K x)
  sup : SupC K (He.ga K x)
  is : ExcC K (He.ga K x)
  fld : XfC K (He.ga K x)
  ini : findIn K (.ref (He.ga K x)) "__init__" = some (some (.ref (iAd K x)))
  fn : typeIn K (.ref (iAd K x)) = some (.type "function")
theorem xcls_ok {K : PySem.W.Frag} {C : Addr} (h : xclsB K C = true) : ∃ nm q N bs bm sn sub ab col dd k0 k1 k2 k3 k5, K.lookup C = some (excClassObj nm q C N bs bm true sn sub ab col dd k0 k1 k2 k3 k5 "ValueError.__new__") ∧ HandSPX.refsVE bm = true := by
  unfold xclsB at h
  split at h
  · rename_i k dd cd sl hl
    have hk := (He.ba h).1
    have hr := (He.ba h).2
    have ek := of_decide_eq_true hk
    subst ek
    split at hr
    · rename_i C' bm k0 k1 k2 k3 n k5 hm hs
      simp only [Bool.and_eq_true, decide_eq_true_eq, Bool.not_eq_true'] at hr
      obtain ⟨e1, e2, e3, e4, e5⟩ := hr
      obtain ⟨nm, bs, mro, ns, qn, hd, sn, sub, ab, col, dl⟩ := cd
      simp only at hm e3 e4
      have es : sl = #[k0, k1, k2, k3, some (.builtin n), k5] := by
        obtain ⟨l⟩ := sl
        exact congrArg Array.mk hs
      subst hm es e1 e2 e3 e4
      exact ⟨nm, qn, ns, bs, bm, sn, sub, ab, col, dd, k0, k1, k2, k3, k5, hl, e5⟩
    · exact Bool.noConfusion hr
  · exact Bool.noConfusion h
theorem exc_ok {K : PySem.W.Frag} {x : Str} (h : excB K x = true) : ExcT K x := by
  unfold excB at h
  simp only [Bool.and_eq_true, decide_eq_true_eq] at h
  obtain ⟨a1, a2, a3, a4, a5, a6, a7, a8, a9, a10, a11, a12, a13, a14, a15, a16, a17, a18, a19⟩ := h
  exact { oex := ⟨xcls_ok a1, He.eqO_ok a2, a3, a4, a5⟩, sup := ⟨He.eqO_ok a6, He.eqO_ok a7, a8, a9, a10⟩, is := ⟨He.eqO_ok a11, He.eqO_ok a12, a3, a13, He.eqO_ok a14, He.eqO_ok a15, a16, a17⟩, fld := ⟨He.eqO_ok a11, He.eqO_ok a12, a3, a13⟩, ini := He.eqO_ok a18, fn := a19 }
/-! ### a def that closes over __class__ -/
abbrev FnV : Type := Option (Str × Str × Arguments × FuncBody × Scope × Addr × List Str × Addr)
def fnV (K : PySem.W.Frag) (p : Str × Option Str) : FnV := match K.lookup (He.fAd K p) with
  | some ⟨_, _, .func fd, _⟩ => some (fd.name, fd.qualname, fd.params, fd.body, fd.scope, fd.globals, fd.closure.map (·.1), fd.builtins)
  | _ => none
structure DefS where
  cls : Str
  name : Str
  qual : Str
  st : Stmt
  dfl : List He.Dv := []
  kwd : List (Str × He.Dv) := []
def DefS.val (d : DefS) : FnV := some (d.name, d.qual, defArgs d.st, .stmts (defBody d.st), defScope d.st, mainGlobals, ["__class__"], builtinsNs)
def DefS.dvs (K : PySem.W.Frag) (d : DefS) : List V := d.dfl.map (He.Dv.v K)
def DefS.kws (K : PySem.W.Frag) (d : DefS) : List (Str × V) := d.kwd.map fun q => (q.1, q.2.v K)
def cellB (K : PySem.W.Frag) (cc C : Addr) : Bool := match K.lookup cc with
  | some ⟨_, _, .cell (some (.ref D)), _⟩ => decide (D = C)
  | _ => false
def fileB (K : PySem.W.Frag) (cd : Value) : Bool := match cd with
  | .ref c => (match K.lookup c with
    | some ⟨_, _, .fields vs, _⟩ => (match (vs[2]? : Option Value) with
      | some (.str z _) => decide (z = "/claim/cut.py")
      | _ => false)
    | _ => false)
  | _ => false
def DefS.ok (K : PySem.W.Frag) (d : DefS) : Bool := keepIn K (.ref (He.fAd K (d.cls, some d.name))) && (match K.lookup (He.fAd K (d.cls, some d.name)) with
  | some ⟨_, _, .func fd, _⟩ => codeIn K fd.code d.qual && (He.dflB K fd.defaults (d.dvs K) && (He.kwdB K fd.kwdefaults (d.kws K) && (fileB K fd.code && (match fd.closure with
    | [(_, cc)] => cellB K cc (He.ga K d.cls)
    | _ => false))))
  | _ => false)
/-- such a def as it stands behind the top -/
structure FunS (K : PySem.W.Frag) (name qual : Str) (st : Stmt) (dvs : List V) (kws : List (Str × V)) (C f : Addr) (fd : FuncData) : Prop where
  ex : ∃ oc od dV kV doc pm an cda ct osl cc cl cld csl, fd = ksFn name qual (defArgs st) (defBody st) (defScope st) dV kV doc pm an (.ref cda) ct cc ∧ K.lookup f = some ⟨oc, od, .func fd, osl⟩ ∧ codeIn K (.ref cda) qual = true ∧ DflV K dV dvs ∧ KwdV K kV kws ∧
    K.lookup cc = some ⟨cl, cld, .cell (some (.ref C)), csl⟩ ∧ ∃ ccl cdd vs sl tf, K.lookup cda = some ⟨ccl, cdd, .fields vs, sl⟩ ∧ vs[2]? = some (.str "/claim/cut.py" tf)
  kp : keepIn K (.ref f) = true
theorem cell_ok {K : PySem.W.Frag} {cc C : Addr} (h : cellB K cc C = true) : ∃ cl cld csl, K.lookup cc = some ⟨cl, cld, .cell (some (.ref C)), csl⟩ := by
  unfold cellB at h
  split at h
  · rename_i q
    cases of_decide_eq_true h
    exact ⟨_, _, _, q⟩
  · cases h
theorem file_ok {K : PySem.W.Frag} {cd : Value} (h : fileB K cd = true) : ∃ c ccl cdd vs sl tf, cd = .ref c ∧ K.lookup c = some ⟨ccl, cdd, .fields vs, sl⟩ ∧ vs[2]? = some (.str "/claim/cut.py" tf) := by
  unfold fileB at h
  split at h
  · split at h
    · rename_i q
      split at h
      · rename_i z
        cases of_decide_eq_true h
        exact ⟨_, _, _, _, _, _, rfl, q, z⟩
      · cases h
    · cases h
  · cases h
theorem DefS.funS {K : PySem.W.Frag} {d : DefS} (e : fnV K (d.cls, some d.name) = d.val) (c : d.ok K = true) : ∃ fd, FunS K d.name d.qual d.st (d.dvs K) (d.kws K) (He.ga K d.cls) (He.fAd K (d.cls, some d.name)) fd := by
  obtain ⟨kp, c⟩ := He.ba c
  unfold fnV at e
  split at c
  · rename_i oc od fd osl q
    rw [q] at e
    obtain ⟨c1, c⟩ := He.ba c
    obtain ⟨c2, c⟩ := He.ba c
    obtain ⟨c3, c⟩ := He.ba c
    obtain ⟨c4, c5⟩ := He.ba c
    obtain ⟨cda, ccl, cdd, vs, sl, tf, e1, e2, e3⟩ := file_ok c4
    split at c5
    · rename_i y cc hcl
      obtain ⟨cl, cld, csl, hc⟩ := cell_ok c5
      obtain ⟨n1, n2, n3, n4, n5, n6, n7, n8, n9, n10, n11, n12, n13, n14, n15⟩ := fd
      simp only at e hcl e1 c1 c2 c3
      subst hcl e1
      simp only [DefS.val, List.map_cons, List.map_nil, Option.some.injEq, Prod.mk.injEq, List.cons.injEq, and_true] at e
      obtain ⟨f1, f2, f3, f4, f5, f6, f7, f8⟩ := e
      subst f1 f2 f3 f4 f5 f6 f7 f8
      exact ⟨_, ⟨oc, od, n8, n9, n10, n11, n12, cda, n14, osl, cc, cl, cld, csl, rfl, q, c1, He.dflB_ok c2, He.kwdB_ok c3, hc, ccl, cdd, vs, sl, tf, e2, e3⟩, kp⟩
    · cases c5
  · cases c
/-! ### a def found by a path of its own -/
structure DefP where
  path : PySem.W.Frag → Addr
  name : Str
  qual : Str
  st : Stmt
  dfl : List He.Dv := []
  kwd : List (Str × He.Dv) := []
def fnP (K : PySem.W.Frag) (a : Addr) : He.FnW := match K.lookup a with
  | some ⟨_, _, .func fd, _⟩ => some (fd.name, fd.qualname, fd.params, fd.body, fd.scope, fd.globals, fd.closure, fd.builtins)
  | _ => none
def DefP.val (d : DefP) : He.FnW := some (d.name, d.qual, defArgs d.st, .stmts (defBody d.st), defScope d.st, mainGlobals, [], builtinsNs)
def DefP.dvs (K : PySem.W.Frag) (d : DefP) : List V := d.dfl.map (He.Dv.v K)
def DefP.kws (K : PySem.W.Frag) (d : DefP) : List (Str × V) := d.kwd.map fun q => (q.1, q.2.v K)
def DefP.ok (K : PySem.W.Frag) (d : DefP) : Bool := keepIn K (.ref (d.path K)) && (match K.lookup (d.path K) with
  | some ⟨_, _, .func fd, _⟩ => codeIn K fd.code d.qual && (He.dflB K fd.defaults (d.dvs K) && He.kwdB K fd.kwdefaults (d.kws K))
  | _ => false)
theorem DefP.funD {K : PySem.W.Frag} {d : DefP} (e : fnP K (d.path K) = d.val) (c : d.ok K = true) : ∃ fd, FunD K d.name d.qual (defArgs d.st) (defBody d.st) (defScope d.st) (d.dvs K) (d.kws K) (d.path K) fd := by
  obtain ⟨kp, c⟩ := He.ba c
  unfold fnP at e
  split at c
  · rename_i oc od fd osl q
    rw [q] at e
    obtain ⟨c1, c⟩ := He.ba c
    obtain ⟨c2, c3⟩ := He.ba c
    obtain ⟨n1, n2, n3, n4, n5, n6, n7, n8, n9, n10, n11, n12, n13, n14, n15⟩ := fd
    simp only at e c1 c2 c3
    simp only [DefP.val, Option.some.injEq, Prod.mk.injEq] at e
    obtain ⟨f1, f2, f3, f4, f5, f6, f7, f8⟩ := e
    subst f1 f2 f3 f4 f5 f6 f7 f8
    exact ⟨_, ⟨oc, od, n8, n9, n10, n11, n12, n13, n14, osl, rfl, q, c1, He.dflB_ok c2, He.kwdB_ok c3⟩, kp⟩
  · cases c
structure Fs where
  s : List DefS
  p : List DefP
/-! ### the Hook -/
def asE (g : Addr → Option Obj) : Nat → List Addr
  | 0 => [mainGlobals, cStatics]
  | n + 1 => He.growD g (asE g n)
abbrev AlE : Type := He.AlD × (Bool × (List FnV × List He.FnW))
def obsE (fa : List He.Fa) (fn : List He.DefD) (xa : List Xa) (fs : Fs) (K : PySem.W.Frag) : AlE := (He.obsD fa fn K, ((xa.all fun a => a.ok K) && ((fs.s.all fun d => d.ok K) && fs.p.all fun d => d.ok K), (fs.s.map fun d => fnV K (d.cls, some d.name), fs.p.map fun d => fnP K (d.path K))))
def valE (fn : List He.DefD) (fs : Fs) : AlE := (He.valD fn, (true, (fs.s.map DefS.val, fs.p.map DefP.val)))
def SaysE (fa : List He.Fa) (fn : List He.DefD) (xa : List Xa) (fs : Fs) (K : PySem.W.Frag) : Prop := obsE fa fn xa fs K = valE fn fs
def obsEG (n : Nat) (fa : List He.Fa) (fn : List He.DefD) (xa : List Xa) (fs : Fs) (g : Addr → Option Obj) : AlE := obsE fa fn xa fs (He.frG g (asE g n))
def hookE (n : Nat) (fa : List He.Fa) (fn : List He.DefD) (xa : List Xa) (fs : Fs) : PySem.W.Hook where
  α := AlE
  obs := fun s => obsEG n fa fn xa fs s.heap.get?
  val := fun _ => valE fn fs
  says := fun _ h => ∃ K : PySem.W.Frag, K.In h ∧ SaysE fa fn xa fs K
  of := fun _ _ e => ⟨_, He.frG_in, e⟩
  keeps := fun _ _ _ ⟨K, hK, c⟩ k => ⟨K, PySem.W.Frag.In.keeps hK k, c⟩
theorem obsEG_eq {n : Nat} {fa : List He.Fa} {fn : List He.DefD} {xa : List Xa} {fs : Fs} {g : Addr → Option Obj} {s : Shared} (h : ∀ a, g a = s.heap.get? a) : obsEG n fa fn xa fs g = (hookE n fa fn xa fs).obs s := by
  cases (funext h : g = s.heap.get?)
  rfl
section
variable {fa : List He.Fa} {fn : List He.DefD} {xa : List Xa} {fs : Fs} {K : PySem.W.Frag}
theorem SaysE.base (c : SaysE fa fn xa fs K) : He.SaysD fa fn K := congrArg Prod.fst c
theorem SaysE.flag (c : SaysE fa fn xa fs K) : ((xa.all fun a => a.ok K) && ((fs.s.all fun d => d.ok K) && fs.p.all fun d => d.ok K)) = true := congrArg (fun z : AlE => z.2.1) c
theorem SaysE.own (c : SaysE fa fn xa fs K) (i : Nat) {a : Xa} (h : xa[i]? = some a := by rfl) : a.ok K = true :=
  List.all_eq_true.mp (He.ba c.flag).1 a (List.mem_of_getElem? h)
theorem SaysE.sdef (c : SaysE fa fn xa fs K) (i : Nat) {d : DefS} (h : fs.s[i]? = some d := by rfl) : ∃ fd, FunS K d.name d.qual d.st (d.dvs K) (d.kws K) (He.ga K d.cls) (He.fAd K (d.cls, some d.name)) fd := by
  have ok := List.all_eq_true.mp (He.ba (He.ba c.flag).2).1 d (List.mem_of_getElem? h)
  have e : (fs.s.map fun d => fnV K (d.cls, some d.name))[i]? = (fs.s.map DefS.val)[i]? := congrArg (fun z : AlE => z.2.2.1[i]?) c
  rw [List.getElem?_map, List.getElem?_map, h] at e
  exact DefS.funS (Option.some.inj e) ok
theorem SaysE.pdef (c : SaysE fa fn xa fs K) (i : Nat) {d : DefP} (h : fs.p[i]? = some d := by rfl) : ∃ fd, FunD K d.name d.qual (defArgs d.st) (defBody d.st) (defScope d.st) (d.dvs K) (d.kws K) (d.path K) fd := by
  have ok := List.all_eq_true.mp (He.ba (He.ba c.flag).2).2 d (List.mem_of_getElem? h)
  have e : (fs.p.map fun d => fnP K (d.path K))[i]? = (fs.p.map DefP.val)[i]? := congrArg (fun z : AlE => z.2.2.2[i]?) c
  rw [List.getElem?_map, List.getElem?_map, h] at e
  exact DefP.funD (Option.some.inj e) ok
end
end Rd
/-! Fx: what the head tells, defs and own exceptions by name. -/
namespace Rd
open PySem PySem.Spec PyProof.Rows L2
structure Tx (fa : List He.Fa) (fn : List He.DefD) (xa : List Xa) (fs : Fs) (P : Program) (K : PySem.W.Frag) (mg : Str → Option Value) : Prop where
  all : SaysE fa fn xa fs K
  hh : ∃ h : Heap, K.In h ∧ h.Ns mainGlobals mg
  file : ((P.main.file : Str) == ("/claim/cut.py" : Str)) = true
  nosup : (P.main.scope.names.lookup ("super" : Str)).isSome = false
section
variable {fa : List He.Fa} {fn : List He.DefD} {xa : List Xa} {fs : Fs} {P : Program} {K : PySem.W.Frag} {mg : Str → Option Value}
theorem Tx.says (T : Tx fa fn xa fs P K mg) : He.SaysD fa fn K := T.all.base
theorem Tx.glo (T : Tx fa fn xa fs P K mg) (i : Nat) {x : Str} (h : fa[i]? = some (.glo x) := by rfl) : mg x = some (.ref (He.ga K x)) := by
  obtain ⟨_, X, G⟩ := T.hh
  exact He.glo_ok X G (T.says.fact i h)
theorem Tx.free (T : Tx fa fn xa fs P K mg) (i : Nat) {x : Str} (h : fa[i]? = some (.free x) := by rfl) : mg x = none := by
  obtain ⟨_, X, G⟩ := T.hh
  exact He.free_ok X G (T.says.fact i h)
theorem Tx.int (T : Tx fa fn xa fs P K mg) (i : Nat) {x : Str} {n : Int} (h : fa[i]? = some (.int x n) := by rfl) : ∃ t, mg x = some (.int n t) := by
  obtain ⟨_, X, G⟩ := T.hh
  exact He.int_ok X G (T.says.fact i h)
theorem Tx.str (T : Tx fa fn xa fs P K mg) (i : Nat) {x z : Str} (h : fa[i]? = some (.str x z) := by rfl) : ∃ t, mg x = some (.str z t) := by
  obtain ⟨_, X, G⟩ := T.hh
  exact He.str_ok X G (T.says.fact i h)
theorem Tx.noat (T : Tx fa fn xa fs P K mg) (i : Nat) {x f : Str} (h : fa[i]? = some (.noat x f) := by rfl) : NoAttr K (He.ga K x) f := He.eqO_ok (T.says.fact i h)
theorem Tx.cls (T : Tx fa fn xa fs P K mg) (i : Nat) {x : Str} (h : fa[i]? = some (.cls x) := by rfl) : Cls K (He.ga K x) := by
  obtain ⟨a, r⟩ := He.ba (T.says.fact i h)
  obtain ⟨b, r⟩ := He.ba r
  obtain ⟨c, d⟩ := He.ba r
  exact ⟨a, b, c, He.eqO_ok d⟩
theorem Tx.meth (T : Tx fa fn xa fs P K mg) (i : Nat) {x m : Str} (h : fa[i]? = some (.meth x m) := by rfl) : Meth K (He.ga K x) m (He.ma K (He.ga K x) m) := by
  obtain ⟨a, r⟩ := He.ba (T.says.fact i h)
  obtain ⟨b, c⟩ := He.ba r
  exact ⟨He.eqO_ok a, b, c⟩
theorem Tx.mkr (T : Tx fa fn xa fs P K mg) (i : Nat) {x : Str} (h : fa[i]? = some (.mkr x) := by rfl) : Mk K (He.ga K x) (He.ma K (He.ga K x) "__init__") := by
  obtain ⟨a, r⟩ := He.ba (T.says.fact i h)
  obtain ⟨b, r⟩ := He.ba r
  obtain ⟨c, d⟩ := He.ba r
  exact ⟨a, He.eqO_ok b, c, d⟩
theorem Tx.exc (T : Tx fa fn xa fs P K mg) (i : Nat) {x : Str} (h : xa[i]? = some (.exc x) := by rfl) : ExcT K x := exc_ok (T.all.own i h)
theorem Tx.kit (T : Tx fa fn xa fs P K mg) (i : Nat) {x y : Str} {b : Bool} (h : xa[i]? = some (.kit x y b) := by rfl) : PySem.W.kitOne K (.ref (He.ga K x)) (.ref (He.ga K y)) = some b := of_decide_eq_true (T.all.own i h)
theorem Tx.kitT (T : Tx fa fn xa fs P K mg) (i : Nat) {x : Str} {t : String} {b : Bool} (h : xa[i]? = some (.kitT x t b) := by rfl) : PySem.W.kitOne K (.ref (He.ga K x)) (.type t) = some b := of_decide_eq_true (T.all.own i h)
theorem Tx.tkit (T : Tx fa fn xa fs P K mg) (i : Nat) {y : Str} {t : String} {b : Bool} (h : xa[i]? = some (.tkit t y b) := by rfl) : PySem.W.kitOne K (.type t) (.ref (He.ga K y)) = some b := of_decide_eq_true (T.all.own i h)
theorem Tx.exm (T : Tx fa fn xa fs P K mg) (i : Nat) {x y : Str} {b : Bool} (h : xa[i]? = some (.exm x y b) := by rfl) : PySem.W.exmOne K (.ref (He.ga K x)) (.ref (He.ga K y)) = some b := of_decide_eq_true (T.all.own i h)
theorem Tx.inst (T : Tx fa fn xa fs P K mg) (i : Nat) {x : Str} (h : xa[i]? = some (.inst x) := by rfl) (c : Cls K (He.ga K x)) {H : Hp} {a dx : Addr} {l : List (Str × V)} (e : H a = some (.ins (He.ga K x) dx l)) : TyX K H (.ref a) (.ref (He.ga K x)) := by
  obtain ⟨a1, r⟩ := He.ba (T.all.own i h)
  obtain ⟨a2, r⟩ := He.ba r
  obtain ⟨a3, a4⟩ := He.ba r
  exact .base (.ins e c (He.eqO_ok a1) (He.eqO_ok a2) (of_decide_eq_true a3) (of_decide_eq_true a4))
end
/-- a def of the module by its name -/
structure FnG (P : Program) (w : World) (K : PySem.W.Frag) (mg : Str → Option Value) (base : Heap) (CX : CXT) (k : Nat) (x : Str) (ps : List Str) (sp : Sp) : Prop where
  ex : ∃ f fd, mg x = some (.ref f) ∧ PySem.W.keepIn K (.ref f) = true ∧ FnOk P w K mg base CX k f fd ps sp ∧ Binds K fd ps []
/-- a method of a class -/
structure MtG (P : Program) (w : World) (K : PySem.W.Frag) (mg : Str → Option Value) (base : Heap) (CX : CXT) (k : Nat) (C : Addr) (m : Str) (ps : List Str) (sp : Sp) : Prop where
  ex : ∃ f fd, Meth K C m f ∧ FnOk P w K mg base CX k f fd ps sp ∧ Binds K fd ps []
  cls : Cls K C
/-- a class that is made by its __init__, the defaults dvs filling up -/
structure MkG (P : Program) (w : World) (K : PySem.W.Frag) (mg : Str → Option Value) (base : Heap) (CX : CXT) (k : Nat) (x : Str) (ps : List Str) (dvs : List V) (sp : Sp) : Prop where
  ex : ∃ f fd ds, mg x = some (.ref (He.ga K x)) ∧ Mk K (He.ga K x) f ∧ FnOk P w K mg base CX k f fd ps sp ∧ Binds K fd ps ds ∧ Vals dvs ds
/-- an own exception that may be raised -/
structure ExcG (P : Program) (w : World) (K : PySem.W.Frag) (mg : Str → Option Value) (base : Heap) (k : Nat) (x : Str) (ps : List Str) (sp : Sp) : Prop where
  ex : ∃ fd, mg x = some (.ref (He.ga K x)) ∧ ExcT K x ∧ FnOk P w K mg base CX0 k (iAd K x) fd ps sp ∧ Binds K fd ps []
section
variable {X : Cx} {x : Str} {p pos apos : Pos} {k : Nat} {ps : List Str} {sp : Sp} {e o : Expr} {es : List Expr} {t : TA} {ta : TE} {CX : CXT} {E : XK} {dvs : List V} {C : Addr} {m : Str}
theorem pe_gint {i : Int} (h : ∃ t, X.mg x = some (.int i t)) (hg : Gl X x) (hd : (x == ("__debug__" : Str)) = false := by decide) : PE X (.Name x pos) (tC (.int i)) := by
  obtain ⟨t, h⟩ := h
  exact pe_glob hg h ⟨t, rfl⟩ hd
theorem pe_gstr {z : Str} (h : ∃ t, X.mg x = some (.str z t)) (hg : Gl X x) (hd : (x == ("__debug__" : Str)) = false := by decide) : PE X (.Name x pos) (tC (.str z)) := by
  obtain ⟨t, h⟩ := h
  exact pe_glob hg h ⟨t, rfl⟩ hd
theorem pe_cgE (F : FnG X.prog X.w X.K X.mg X.base CX k x ps sp) (hr : Room k X.A) (hg : Gl X x) (hx : Passes CX X E) (ha : PA X (e :: es) t) (h1 : (x == ("__debug__" : Str)) = false := by decide) (h2 : starEach (e :: es) X.env = (false, eval e X.env) :: starEach es X.env := by rfl) (h3 : (backTo pos (starEach es X.env)).any (·.1) = false := by rfl) : PE X (.Call (.Name x p) (e :: es) [] pos) (tCall sp [] E t) := by
  obtain ⟨f, fd, a, b, c, d⟩ := F.ex
  exact pe_call c hr hg a b d .nil hx ha h1 h2 h3
theorem pe_cg (F : FnG X.prog X.w X.K X.mg X.base CX0 k x ps sp) (hr : Room k X.A) (hg : Gl X x) (ha : PA X (e :: es) t) (h1 : (x == ("__debug__" : Str)) = false := by decide) (h2 : starEach (e :: es) X.env = (false, eval e X.env) :: starEach es X.env := by rfl) (h3 : (backTo pos (starEach es X.env)).any (·.1) = false := by rfl) : PE X (.Call (.Name x p) (e :: es) [] pos) (tCall sp [] E0 t) := pe_cgE F hr hg pass0 ha h1 h2 h3
theorem pe_mkE (F : MkG X.prog X.w X.K X.mg X.base CX k x ps dvs sp) (hr : Room (k + 1) X.A) (hg : Gl X x) (hx : Passes CX X E) (ha : PA X (e :: es) t) (h1 : (x == ("__debug__" : Str)) = false := by decide) (h2 : starEach (e :: es) X.env = (false, eval e X.env) :: starEach es X.env := by rfl) (h3 : (backTo pos (starEach es X.env)).any (·.1) = false := by rfl) : PE X (.Call (.Name x p) (e :: es) [] pos) (tMake (He.ga X.K x) sp dvs E t) := by
  obtain ⟨f, fd, ds, a, b, c, d, v⟩ := F.ex
  exact pe_make b c hr hg a d v hx ha h1 h2 h3
theorem pmk_g (G : ExcG X.prog X.w X.K X.mg X.base k x ps sp) (hr : Room (k + 1) X.A) (hg : Gl X x) (ha : PA X (e :: es) t) (h1 : (x == ("__debug__" : Str)) = false := by decide) (h2 : starEach (e :: es) X.env = (false, eval e X.env) :: starEach es X.env := by rfl) (h3 : (backTo pos (starEach es X.env)).any (·.1) = false := by rfl) : PMk X (.Call (.Name x p) (e :: es) [] pos) (tMkO (He.ga X.K x) sp [] t) := by
  obtain ⟨fd, a, T, F, b⟩ := G.ex
  exact pmk_oex T.oex T.ini T.fn F hr b .nil (fun _ _ _ _ _ _ _ z => z.elim) hg a ha h1 h2 h3
end
/-! ### the scope without __class__ -/
def notCn (y : Str × NameKind) : Bool := !decide (y.1 = ("__class__" : Str))
def noCls (sc : Scope) : Scope := { sc with names := sc.names.filter notCn }
theorem lookup_rest {x : Str} (h : x ≠ "__class__") : ∀ l : List (Str × NameKind), l.lookup x = (l.filter notCn).lookup x
  | [] => rfl
  | (a, b) :: r => by
    by_cases e : a = "__class__"
    · have hx : (x == a) = false := beq_eq_false_iff_ne.mpr (e ▸ h)
      rw [List.filter_cons_of_neg (by simp [notCn, e]), List.lookup_cons, hx]
      exact lookup_rest h r
    · rw [List.filter_cons_of_pos (by simp [notCn, e]), List.lookup_cons, List.lookup_cons, lookup_rest h r]
theorem cls_scope {N P : List Str} {sc : Scope} (b : FnScope N P (noCls sc)) (c : ∀ y ∈ sc.names, y.2 ≠ .cell) (z : ∀ n : Nat, cellsFrom n (noCls sc).names [] = []) (f : sc.names.lookup ("__class__" : Str) = some NameKind.free) (o : ("__class__" : Str) ∉ N) (p : ∀ x ∈ P, x ∈ N) : ClsScope N P sc (noCls sc) :=
  ⟨b, b.kind, b.co, b.gen, c, fun y hy => c y (List.mem_filter.mp hy).1, z, fun x hx => lookup_rest hx _, f, o, p⟩
/-! ### the own exceptions of one and of two fields -/
section
variable {fa : List He.Fa} {fn : List He.DefD} {xa : List Xa} {fs : Fs} {P : Program} {w : World} {K : PySem.W.Frag} {mg : Str → Option Value} {base : Heap} {x qual self y z f g : Str} {st : Stmt} {fd : FuncData} {txt : Str} {j : Nat} {p0 p1 p2 p3 p4 p5 q1 q2 q3 q4 q5 q6 q7 q8 : Pos}
theorem sup_at {cda : Addr} {oc : Value} {od : Option Addr} {osl : Array (Option Value)} {F : Addr} {ar : Arg} {ccl : Value} {cdd : Option Addr} {vs : Array Value} {sl : Array (Option Value)} {tf : Tok} (T : Tx fa fn xa fs P K mg) (hs : mg "super" = none) (lk : K.lookup F = some ⟨oc, od, .func fd, osl⟩) (hp : (fd.params.posonlyargs ++ fd.params.args).head? = some ar)
    (lc : K.lookup cda = some ⟨ccl, cdd, .fields vs, sl⟩) (hv : vs[2]? = some (.str "/claim/cut.py" tf)) (hh : (defScope st).names.lookup ("super" : Str) = some NameKind.globalImplicit) : SupAt P K mg (defScope st) F cda ar.arg :=
  ⟨⟨oc, od, fd, osl, ar, lk, hp, rfl⟩, ⟨ccl, cdd, vs, sl, _, tf, lc, hv, T.file⟩, T.nosup, hs, hh⟩
theorem exc_one {ar : Arg} (T : Tx fa fn xa fs P K mg) (hs : mg "super" = none) (hm : mg x = some (.ref (He.ga K x))) (X : ExcT K x) (F : FunS K "__init__" qual st [] [] (He.ga K x) (iAd K x) fd) (na : NoAttr K (He.ga K x) f)
    (hb : defBody st = [.Expr (supCall txt j p0 p1 p2 p3 p4) p5, .Assign [.Attribute (.Name self q1) f q2] (.Name y q3) q4]) (ha : ((defArgs st).posonlyargs ++ (defArgs st).args).head? = some ar) (har : ar.arg = self)
    (S : ClsScope [self, y] [self, y] (defScope st) (noCls (defScope st))) (hl : ∀ v ∈ [self, y], (defScope st).names.lookup v = some .local) (hh : (defScope st).names.lookup ("super" : Str) = some NameKind.globalImplicit) (nd : (self == ("__debug__" : Str)) = false ∧ (y == ("__debug__" : Str)) = false) (ndc : self ≠ "__classdict__" ∧ y ≠ "__classdict__") (nc : self ≠ "__class__" ∧ y ≠ "__class__")
    (go : ∀ L ff cda cc, GoesSup (cenv qual (defScope st) L ff (.ref cda) cc) txt j p0 p1 p2 p3 p4) (hsw : ∀ L ff cda cc, swapsWith (supCall txt j p0 p1 p2 p3 p4) none p5.line (cenv qual (defScope st) L ff (.ref cda) cc) = pure false)
    (hsy : ∀ L ff cda cc, swapsWith (.Name y q3) (some (.Attribute (.Name self q1) f q2)) q4.line (cenv qual (defScope st) L ff (.ref cda) cc) = pure false)
    (hbind : ∀ (kV doc pm : Value) (an : Option Addr) (cda : Addr) (ct : Value) (cc : Addr) (us : List Value), us.length = 2 → bindArgs (PySem.W.ksFn "__init__" qual (defArgs st) (defBody st) (defScope st) .none kV doc pm an (.ref cda) ct cc) ⟨us, []⟩ = pure ([self, y].zip us)) :
    ExcG P w K mg base 1 x [self, y] (spX1 (He.ga K x) f) := by
  obtain ⟨oc, od, dV, kV, doc, pm, an, cda, ct, osl, cc, cl, cld, csl, rfl, lk, hcd, hd, _, lc, ccl, cdd, vs, sl, tf, e2, e3⟩ := F.ex
  have U : SupAt P K mg (defScope st) (iAd K x) cda ar.arg := sup_at T hs lk ha e2 e3 hh
  rw [har] at U
  have edV : dV = .none := by rcases hd with ⟨_, e⟩ | ⟨e, _⟩; exact e; exact absurd rfl e
  subst edV
  have B := Binds.all (K := K) (fun us hu => hbind kV doc pm an cda ct cc us hu)
  have hl0 : ∀ v ∈ [self, y], (noCls (defScope st)).names.lookup v = some .local := fun v hv => by
    have hne : v ≠ "__class__" := by
      rcases List.mem_cons.mp hv with rfl | hv
      · exact nc.1
      · cases List.mem_singleton.mp hv; exact nc.2
    exact (S.same v hne).symm.trans (hl v hv)
  refine ⟨_, hm, X, ?_, B⟩
  rw [hb] at lk ⊢
  refine fn_exc (k := 0) lk hcd lc S (fun vs H Q E h => ?_) (fun v hv => ⟨hl v hv, hl0 v hv⟩) U X.sup rfl (hl self List.mem_cons_self) (fun L => go L _ _ _) (fun L => hsw L _ _ _) (fun vs H Q E h => ?_) (fun A outer s H vs Q E hr h => ?_)
  · obtain ⟨a, v, rfl, _⟩ := h; rfl
  · obtain ⟨a, v, rfl, e, _⟩ := h; exact ⟨a, _, rfl, e⟩
  · obtain ⟨a, v, rfl, e, hQ⟩ := h
    have v0 : Vis (defScope st) self := .inl (hl self List.mem_cons_self)
    have v1 : Vis (defScope st) y := .inl (hl y (by simp))
    refine ⟨_, pss_one (ps_ost (pe_var (i := 0) rfl v0 nd.1 (beq_eq_false_iff_ne.mpr ndc.1)) (pe_var (i := 1) rfl v1 nd.2 (beq_eq_false_iff_ne.mpr ndc.2)) (hsy _ _ _ _)), ?_⟩
    exact ⟨v, rfl, .ref a, rfl, a, He.ga K x, rfl, X.oex, na, .inl ⟨e, fun d h1 h2 => hQ d h1 h2⟩⟩
theorem exc_two {ar : Arg} (T : Tx fa fn xa fs P K mg) (hs : mg "super" = none) (hm : mg x = some (.ref (He.ga K x))) (X : ExcT K x) (F : FunS K "__init__" qual st [] [] (He.ga K x) (iAd K x) fd) (na : NoAttr K (He.ga K x) f) (na2 : NoAttr K (He.ga K x) g)
    (hb : defBody st = [.Expr (supCall txt j p0 p1 p2 p3 p4) p5, .Assign [.Attribute (.Name self q1) f q2] (.Name y q3) q4, .Assign [.Attribute (.Name self q5) g q6] (.Name z q7) q8]) (ha : ((defArgs st).posonlyargs ++ (defArgs st).args).head? = some ar) (har : ar.arg = self)
    (S : ClsScope [self, y, z] [self, y, z] (defScope st) (noCls (defScope st))) (hl : ∀ v ∈ [self, y, z], (defScope st).names.lookup v = some .local) (hh : (defScope st).names.lookup ("super" : Str) = some NameKind.globalImplicit) (nd : ∀ v ∈ [self, y, z], (v == ("__debug__" : Str)) = false) (ndc : ∀ v ∈ [self, y, z], v ≠ "__classdict__") (nc : ∀ v ∈ [self, y, z], v ≠ "__class__")
    (go : ∀ L ff cda cc, GoesSup (cenv qual (defScope st) L ff (.ref cda) cc) txt j p0 p1 p2 p3 p4) (hsw : ∀ L ff cda cc, swapsWith (supCall txt j p0 p1 p2 p3 p4) none p5.line (cenv qual (defScope st) L ff (.ref cda) cc) = pure false)
    (hsy : ∀ L ff cda cc, swapsWith (.Name y q3) (some (.Attribute (.Name self q1) f q2)) q4.line (cenv qual (defScope st) L ff (.ref cda) cc) = pure false) (hsz : ∀ L ff cda cc, swapsWith (.Name z q7) (some (.Attribute (.Name self q5) g q6)) q8.line (cenv qual (defScope st) L ff (.ref cda) cc) = pure false)
    (hbind : ∀ (kV doc pm : Value) (an : Option Addr) (cda : Addr) (ct : Value) (cc : Addr) (us : List Value), us.length = 3 → bindArgs (PySem.W.ksFn "__init__" qual (defArgs st) (defBody st) (defScope st) .none kV doc pm an (.ref cda) ct cc) ⟨us, []⟩ = pure ([self, y, z].zip us)) :
    ExcG P w K mg base 1 x [self, y, z] (spX2 (He.ga K x) f g) := by
  obtain ⟨oc, od, dV, kV, doc, pm, an, cda, ct, osl, cc, cl, cld, csl, rfl, lk, hcd, hd, _, lc, ccl, cdd, vs, sl, tf, e2, e3⟩ := F.ex
  have U : SupAt P K mg (defScope st) (iAd K x) cda ar.arg := sup_at T hs lk ha e2 e3 hh
  rw [har] at U
  have edV : dV = .none := by rcases hd with ⟨_, e⟩ | ⟨e, _⟩; exact e; exact absurd rfl e
  subst edV
  have B := Binds.all (K := K) (fun us hu => hbind kV doc pm an cda ct cc us hu)
  have hl0 : ∀ v ∈ [self, y, z], (noCls (defScope st)).names.lookup v = some .local := fun v hv => (S.same v (nc v hv)).symm.trans (hl v hv)
  refine ⟨_, hm, X, ?_, B⟩
  rw [hb] at lk ⊢
  have m0 : self ∈ [self, y, z] := List.mem_cons_self
  have m1 : y ∈ [self, y, z] := by simp
  have m2 : z ∈ [self, y, z] := by simp
  refine fn_exc (k := 0) lk hcd lc S (fun vs H Q E h => ?_) (fun v hv => ⟨hl v hv, hl0 v hv⟩) U X.sup rfl (hl self m0) (fun L => go L _ _ _) (fun L => hsw L _ _ _) (fun vs H Q E h => ?_) (fun A outer s H vs Q E hr h => ?_)
  · obtain ⟨a, v, v2, rfl, _⟩ := h; rfl
  · obtain ⟨a, v, v2, rfl, e, _⟩ := h; exact ⟨a, _, rfl, e⟩
  · obtain ⟨a, v, v2, rfl, e, hQ⟩ := h
    have v0 : Vis (defScope st) self := .inl (hl self m0)
    have v1 : Vis (defScope st) y := .inl (hl y m1)
    have v2' : Vis (defScope st) z := .inl (hl z m2)
    refine ⟨_, pss_cons (ps_ost (pe_var (i := 0) rfl v0 (nd self m0) (beq_eq_false_iff_ne.mpr (ndc self m0))) (pe_var (i := 1) rfl v1 (nd y m1) (beq_eq_false_iff_ne.mpr (ndc y m1))) (hsy _ _ _ _)) (pss_one (ps_ost (pe_var (i := 0) rfl v0 (nd self m0) (beq_eq_false_iff_ne.mpr (ndc self m0))) (pe_var (i := 2) rfl v2' (nd z m2) (beq_eq_false_iff_ne.mpr (ndc z m2))) (hsz _ _ _ _))), ?_⟩
    refine ⟨v, rfl, .ref a, rfl, a, He.ga K x, rfl, X.oex, na, .inl ⟨e, fun d h1 h2 => ?_⟩⟩
    refine ⟨v2, rfl, .ref a, rfl, a, He.ga K x, rfl, X.oex, na2, .inr ⟨d, [(f, v)], upd_same, ?_, (show 1 ≤ 900 by decide), hQ d h1 h2⟩⟩
    rw [upd_ne h2, upd_same]
end
end Rd
/-! Bi: built-ins by named readings. -/
namespace Rd
open PySem PySem.Spec PyProof.Rows L2
/-! readings of our own shape, by the form of the arguments -/
def rInt1 : List V → Hp → VK → Prop := fun xs H Q => match xs with
  | [.int n] => Q (.int n) H
  | _ => False
def rLen (K : PySem.W.Frag) : List V → Hp → VK → Prop := fun xs H Q => match xs with
  | [v] => ∃ n, LenV K v H n ∧ Q (.int n) H
  | _ => False
/-- at p a list or a tuple of ys is to be read -/
def SqA (K : PySem.W.Frag) (H : Hp) (p : Addr) (ys : List V) : Prop := SqL K H p ys ∨ SqT K H p ys
def rList (K : PySem.W.Frag) : List V → Hp → VK → Prop := fun xs H Q => match xs with
  | [.ref p] => ∃ ys, SqA K H p ys ∧ ∀ l, H l = none → Q (.ref l) (upd H l (.lst ys))
  | _ => False
def rTuple (K : PySem.W.Frag) : List V → Hp → VK → Prop := fun xs H Q => match xs with
  | [.ref p] => (∃ ys, SqL K H p ys ∧ ∀ l, H l = none → Q (.ref l) (upd H l (.tup ys))) ∨ ((∃ ys, SqT K H p ys) ∧ Q (.ref p) H)
  | _ => False
def rTwo (g : Int → Int → Int) : List V → Hp → VK → Prop := fun xs H Q => match xs with
  | [.int a, .int b] => Q (.int (g a b)) H
  | _ => False
def rOne (g : Int → Int) : List V → Hp → VK → Prop := fun xs H Q => match xs with
  | [.int a] => Q (.int (g a)) H
  | _ => False
section
variable {X : Cx}
theorem cInt : CallR X (.type "int") rInt1 := by
  intro pins s σ H xs us Q I r h
  unfold rInt1 at h
  split at h
  · exact call_int1 pins s σ H _ us Q I r (.inl ⟨_, rfl, h⟩)
  · exact h.elim
theorem cLen : CallR X (.builtin "len") (rLen X.K) := by
  intro pins s σ H xs us Q I r h
  unfold rLen at h
  split at h
  · obtain ⟨n, hl, hq⟩ := h
    exact call_len pins s σ H _ us Q I r ⟨_, n, rfl, hl, hq⟩
  · exact h.elim
theorem cList : CallR X (.type "list") (rList X.K) := by
  intro pins s σ H xs us Q I r h
  unfold rList at h
  split at h
  · obtain ⟨ys, hl, hq⟩ := h
    exact call_list_of pins s σ H _ us Q I r ⟨_, ys, rfl, hl, hq⟩
  · exact h.elim
theorem cTuple : CallR X (.type "tuple") (rTuple X.K) := by
  intro pins s σ H xs us Q I r h
  unfold rTuple at h
  split at h
  · rcases h with ⟨ys, hl, hq⟩ | ⟨⟨ys, hl⟩, hq⟩
    · exact call_tuple_of pins s σ H _ us Q I r ⟨_, ys, rfl, .inl ⟨hl, hq⟩⟩
    · exact call_tuple_of pins s σ H _ us Q I r ⟨_, ys, rfl, .inr ⟨hl, hq⟩⟩
  · exact h.elim
theorem cMax2 (hc : X.calm = true) : CallR X (.builtin "max") (rTwo max) := by
  intro pins s σ H xs us Q I r h
  unfold rTwo at h
  split at h
  · rename_i a b
    refine call_max2 hc pins s σ H _ us Q I r ⟨a, b, rfl, ?_⟩
    rw [show (if b > a then b else a) = max a b by split <;> omega]
    exact h
  · exact h.elim
theorem cMin2 (hc : X.calm = true) : CallR X (.builtin "min") (rTwo min) := by
  intro pins s σ H xs us Q I r h
  unfold rTwo at h
  split at h
  · rename_i a b
    refine call_min2 hc pins s σ H _ us Q I r ⟨a, b, rfl, ?_⟩
    rw [show (if b < a then b else a) = min a b by split <;> omega]
    exact h
  · exact h.elim
def absI (a : Int) : Int := if a < 0 then -a else a
theorem cAbs : CallR X (.builtin "abs") (rOne absI) := by
  intro pins s σ H xs us Q I r h
  unfold rOne at h
  split at h
  · exact call_abs pins s σ H _ us Q I r ⟨_, rfl, h⟩
  · exact h.elim
end
section
variable {K : PySem.W.Frag} {H : Hp} {Q : VK} {i j : Int} {xs ys : List V} {p : Addr} {x v : V} {b : Bool}
theorem w_int (h : Q (.int i) H) : rInt1 [.int i] H Q := h
theorem w_lenL (hs : SqL K H p xs) (h : Q (.int xs.length) H) : rLen K [.ref p] H Q := ⟨xs.length, .inl ⟨xs, hs, rfl⟩, h⟩
theorem w_lenT (hs : SqT K H p xs) (h : Q (.int xs.length) H) : rLen K [.ref p] H Q := ⟨xs.length, .inr ⟨xs, hs, rfl⟩, h⟩
theorem w_lenS {s : Str} (hl : s.length ≤ sizeLine) (h : Q (.int s.length) H) : rLen K [.str s] H Q := ⟨s.length, ⟨hl, rfl⟩, h⟩
theorem w_listL (hs : SqL K H p ys) (h : ∀ l, H l = none → Q (.ref l) (upd H l (.lst ys))) : rList K [.ref p] H Q := ⟨ys, .inl hs, h⟩
theorem w_listT (hs : SqT K H p ys) (h : ∀ l, H l = none → Q (.ref l) (upd H l (.lst ys))) : rList K [.ref p] H Q := ⟨ys, .inr hs, h⟩
theorem w_tupL (hs : SqL K H p ys) (h : ∀ l, H l = none → Q (.ref l) (upd H l (.tup ys))) : rTuple K [.ref p] H Q := .inl ⟨ys, hs, h⟩
theorem w_tupT (hs : SqT K H p ys) (h : Q (.ref p) H) : rTuple K [.ref p] H Q := .inr ⟨⟨ys, hs⟩, h⟩
theorem w_two {g : Int → Int → Int} (h : Q (.int (g i j)) H) : rTwo g [.int i, .int j] H Q := h
theorem w_one {g : Int → Int} (h : Q (.int (g i)) H) : rOne g [.int i] H Q := h
theorem w_ixL (hs : SqL K H p xs) (ha : atI xs i = some v) (h : Q v H) : rIx K (.ref p) (.int i) H Q := .inl ⟨p, xs, i, v, rfl, rfl, hs, ha, h⟩
theorem w_ixT (hs : SqT K H p xs) (ha : atI xs i = some v) (h : Q v H) : rIx K (.ref p) (.int i) H Q := .inr (.inl ⟨p, xs, i, v, rfl, rfl, hs, ha, h⟩)
theorem w_ixS {s : Str} {c : Nat} (hl : s.length ≤ sizeLine) (ha : atI s.cps.toList i = some c) (h : Q (.str ⟨#[c]⟩) H) : rIx K (.str s) (.int i) H Q := .inr (.inr ⟨s, i, c, rfl, rfl, hl, ha, h⟩)
theorem atI_of {α : Type} {l : List α} {k : Int} {x : α} (h0 : 0 ≤ k) (h : l[k.toNat]? = some x) : atI l k = some x := by
  have hk : k < l.length := by
    have := List.getElem?_eq_some_iff.mp h
    obtain ⟨q, _⟩ := this
    omega
  unfold atI ixN
  rw [if_pos h0, if_pos hk]
  exact h
theorem atI_ints {ns : List Int} {k : Int} (h0 : 0 ≤ k) (h1 : k < ns.length) : atI (ns.map V.int) k = some (.int (ns.getD k.toNat 0)) := by
  refine atI_of h0 ?_
  have hk : k.toNat < ns.length := by omega
  rw [List.getElem?_map, List.getElem?_eq_getElem hk, List.getD_eq_getElem?_getD, List.getElem?_eq_getElem hk]
  rfl
theorem w_lenM {ns : List Int} (hs : SqL K H p (ns.map V.int)) (h : Q (.int ns.length) H) : rLen K [.ref p] H Q := w_lenL hs (by rw [List.length_map]; exact h)
theorem w_lenMT {ns : List Int} (hs : SqT K H p (ns.map V.int)) (h : Q (.int ns.length) H) : rLen K [.ref p] H Q := w_lenT hs (by rw [List.length_map]; exact h)
theorem w_ixM {ns : List Int} (hs : SqL K H p (ns.map V.int)) (h0 : 0 ≤ i) (h1 : i < ns.length) (h : Q (.int (ns.getD i.toNat 0)) H) : rIx K (.ref p) (.int i) H Q := w_ixL hs (atI_ints h0 h1) h
theorem w_ixMT {ns : List Int} (hs : SqT K H p (ns.map V.int)) (h0 : 0 ≤ i) (h1 : i < ns.length) (h : Q (.int (ns.getD i.toNat 0)) H) : rIx K (.ref p) (.int i) H Q := w_ixT hs (atI_ints h0 h1) h
theorem w_isi_int (h : Q (.bl true) H) : uIsi K [.int i, .ty "int"] H Q := .inl ⟨_, _, _, _, true, rfl, .ty _, .base (.int i), kit_ty (by decide +kernel), h⟩
theorem w_isi_bool (h : Q (.bl false) H) : uIsi K [.int i, .ty "bool"] H Q := .inl ⟨_, _, _, _, false, rfl, .ty _, .base (.int i), kit_ty (by decide +kernel), h⟩
theorem w_isi_own {a C D : Addr} {b : Bool} (hc : TyX K H (.ref a) (.ref C)) (e : PySem.W.kitOne K (.ref C) (.ref D) = some b) (h : Q (.bl b) H) : uIsi K [.ref a, .ref D] H Q := .inl ⟨_, _, _, _, b, rfl, .own _, hc, e, h⟩
theorem w_isi_none {D : Addr} {b : Bool} (e : PySem.W.kitOne K (.type "NoneType") (.ref D) = some b) (h : Q (.bl b) H) : uIsi K [.non, .ref D] H Q := .inl ⟨_, _, _, _, b, rfl, .own _, .base .non, e, h⟩
theorem w_isx {a D C : Addr} {fs : Option (List (Str × V))} {b : Bool} (hx : XcAt H a D fs) (c : ExcC K D) (e : PySem.W.kitOne K (.ref D) (.ref C) = some b) (h : Q (.bl b) H) : uIsi K [.ref a, .ref C] H Q := .inr ⟨D, fs, _, b, hx, c, .own _, e, h⟩
theorem w_isxT {a D : Addr} {t : String} {fs : Option (List (Str × V))} {b : Bool} (hx : XcAt H a D fs) (c : ExcC K D) (e : PySem.W.kitOne K (.ref D) (.type t) = some b) (h : Q (.bl b) H) : uIsi K [.ref a, .ty t] H Q := .inr ⟨D, fs, _, b, hx, c, .ty _, e, h⟩
/-- none of the classes -/
def NoneOf (K : PySem.W.Frag) (D : Addr) : List Addr → Prop
  | [] => True
  | C :: r => PySem.W.kitOne K (.ref D) (.ref C) = some false ∧ NoneOf K D r
theorem NoneOf.any {D : Addr} : ∀ {Cs : List Addr}, NoneOf K D Cs → PySem.W.kitAny K (.ref D) (Cs.map Value.ref) = some false
  | [], _ => rfl
  | _ :: _, h => kitAny_cons h.1 (fun _ => NoneOf.any h.2) (fun z => nomatch z)
theorem pairedR : ∀ Cs : List Addr, Paired ClsV (Cs.map V.ref) (Cs.map Value.ref)
  | [] => .nil
  | _ :: r => .cons (.own _) (pairedR r)
theorem w_isxs {a D tp : Addr} {fs : Option (List (Str × V))} (Cs : List Addr) (hx : XcAt H a D fs) (c : ExcC K D) (ht : H tp = some (.tup (Cs.map V.ref))) (e : NoneOf K D Cs) (h : Q (.bl false) H) : uIsiT K [.ref a, .ref tp] H Q := .inr ⟨D, fs, _, _, false, hx, c, ht, pairedR Cs, e.any, h⟩
end
end Rd
/-! Pool: the law's own drawing, by what it promises. -/
namespace Rd
open PySem PySem.Spec PyProof.Rows L2
/-- all but p stands -/
def Grow (p : Addr) (H H' : Hp) : Prop := ∀ a o, a ≠ p → H a = some o → H' a = some o
theorem Grow.refl {p : Addr} {H : Hp} : Grow p H H := fun _ _ _ h => h
theorem Grow.trans {p : Addr} {H H1 H2 : Hp} (a : Grow p H H1) (b : Grow p H1 H2) : Grow p H H2 := fun x o n h => b x o n (a x o n h)
theorem Grow.put {p : Addr} {H : Hp} {o : HO} : Grow p H (upd H p o) := fun a u n h => by rw [upd_ne n]; exact h
theorem Grow.new {p q : Addr} {H : Hp} {o : HO} (hq : H q = none) : Grow p H (upd H q o) := fun a u _ h => by rw [upd_ne (ne_of_none h hq)]; exact h
def PoolL (q : Addr) (l : List V) : Prop := ∃ a b c s : Int, l = [.int a, .int b, .int c, .int s, .ref q] ∧ 0 ≤ a ∧ 0 ≤ b ∧ 0 ≤ s ∧ s < 2147483647
def PoolAt (H : Hp) (p : Addr) : Prop := ∃ (q : Addr) (l : List V) (ns : List Int), H p = some (.lst l) ∧ PoolL q l ∧ H q = some (.lst (ns.map V.int)) ∧ q ≠ p
theorem PoolAt.keep {H H' : Hp} {p : Addr} (h : PoolAt H p) (g : ∀ a o, H a = some o → H' a = some o) : PoolAt H' p := by
  obtain ⟨q, l, ns, h1, h2, h3, h4⟩ := h
  exact ⟨q, l, ns, g _ _ h1, h2, g _ _ h3, h4⟩
theorem PoolAt.new {H : Hp} {p x : Addr} {o : HO} (h : PoolAt H p) (hx : H x = none) : PoolAt (upd H x o) p := h.keep fun a u e => by rw [upd_ne (ne_of_none e hx)]; exact e
theorem PoolAt.lst {H : Hp} {p : Addr} (h : PoolAt H p) : ∃ l, H p = some (.lst l) := by
  obtain ⟨q, l, ns, h1, _⟩ := h
  exact ⟨l, h1⟩
/-- p is the pool, H' is H but for the pool and what is new -/
structure Drawn (p : Addr) (H H' : Hp) : Prop where
  grow : Grow p H H'
  core : ∃ (q : Addr) (l l' : List V) (ns : List Int), H p = some (.lst l) ∧ PoolL q l ∧ H q = some (.lst (ns.map V.int)) ∧ q ≠ p ∧ H' p = some (.lst l') ∧ PoolL q l'
theorem Drawn.pool {p : Addr} {H H' : Hp} (h : Drawn p H H') : PoolAt H' p := let ⟨q, _, l', ns, _, _, h3, h4, h5, h6⟩ := h.core; ⟨q, l', ns, h5, h6, h.grow q _ h4 h3, h4⟩
theorem Drawn.was {p : Addr} {H H' : Hp} (h : Drawn p H H') : ∃ l, H p = some (.lst l) := let ⟨_, l, _, _, h1, _⟩ := h.core; ⟨l, h1⟩
theorem PoolL.inj {q q' : Addr} {l : List V} (h : PoolL q l) (h' : PoolL q' l) : q = q' := by
  obtain ⟨a, b, c, s, rfl, _⟩ := h
  obtain ⟨a', b', c', s', e, _⟩ := h'
  simp only [List.cons.injEq, V.ref.injEq] at e
  exact e.2.2.2.2.1
def Small (n : Int) : Prop := n ≤ 10 ^ 70
theorem small_of {n : Int} (h : n ≤ 10 ^ 60) : Small n := Int.le_trans h (by decide)
theorem Small.div {i n : Int} (h : Small n) (h0 : 0 < n) : CDivW i n := by
  refine wide_div h0 (b := 250) ?_ (by decide) (by decide)
  have h1 : n ≤ 10 ^ 70 := h
  have h2 : ((10 : Int) ^ 70).toNat < 2 ^ 250 := by decide
  have h3 : n.natAbs ≤ ((10 : Int) ^ 70).toNat := by omega
  exact Nat.lt_of_le_of_lt h3 h2
theorem drawn_put {H : Hp} {p q : Addr} {l : List V} {ns : List Int} {a b c s : Int} (h1 : H p = some (.lst l)) (h2 : PoolL q l) (h3 : H q = some (.lst (ns.map V.int))) (h4 : q ≠ p) (ha : 0 ≤ a) (hb : 0 ≤ b) (hs : 0 ≤ s) (hs1 : s < 2147483647) : Drawn p H (upd H p (.lst [.int a, .int b, .int c, .int s, .ref q])) :=
  ⟨Grow.put, ⟨q, l, _, ns, h1, h2, h3, h4, upd_same, ⟨a, b, c, s, rfl, ha, hb, hs, hs1⟩⟩⟩
theorem Drawn.refl {p : Addr} {H : Hp} (h : PoolAt H p) : Drawn p H H := ⟨Grow.refl, let ⟨q, l, ns, h1, h2, h3, h4⟩ := h; ⟨q, l, l, ns, h1, h2, h3, h4, h1, h2⟩⟩
theorem Drawn.trans {p : Addr} {H H1 H2 : Hp} (a : Drawn p H H1) (b : Drawn p H1 H2) : Drawn p H H2 := ⟨a.grow.trans b.grow, by
  obtain ⟨q, l, l', ns, h1, h2, h3, h4, h5, h6⟩ := a.core
  obtain ⟨q', k, k', ms, g1, g2, g3, g4, g5, g6⟩ := b.core
  rw [h5] at g1
  cases g1
  cases h6.inj g2
  exact ⟨q, l, k', ns, h1, h2, h3, h4, g5, g6⟩⟩
/-- what was new may change -/
theorem Drawn.put {p D : Addr} {H H1 : Hp} {o : HO} (a : Drawn p H H1) (hD : H D = none) : Drawn p H (upd H1 D o) :=
  ⟨fun b u nb hb => by rw [upd_ne (ne_of_none hb hD)]; exact a.grow b u nb hb, by
    obtain ⟨q, l, l', ns, h1, h2, h3, h4, h5, h6⟩ := a.core
    exact ⟨q, l, l', ns, h1, h2, h3, h4, by rw [upd_ne (ne_of_none h1 hD)]; exact h5, h6⟩⟩
theorem Drawn.new {p x : Addr} {H H1 : Hp} {o : HO} (a : Drawn p H H1) (hx : H1 x = none) : Drawn p H (upd H1 x o) := a.trans ((Drawn.refl a.pool).put hx)
/-- a drawing def: the pool and further ints in, an int with P out -/
def spDraw (n : Nat) (pre : List Int → Prop) (post : List Int → Int → Prop) : Sp := fun vs H Q _ => ∃ (p : Addr) (is : List Int), vs = .ref p :: is.map V.int ∧ is.length = n ∧ pre is ∧ PoolAt H p ∧ ∀ d H', post is d → Drawn p H H' → Q (.int d) H'
def spPool (K : PySem.W.Frag) : Sp := fun vs H Q _ => ∃ (a : Addr) (ns : List Int), vs = [.ref a] ∧ SqL K H a (ns.map V.int) ∧ ∀ p H', H p = none → (∀ b o, H b = some o → H' b = some o) → PoolAt H' p → Q (.ref p) H'
def spTake : Sp := fun vs H Q _ => ∃ (p : Addr) (n : Int), vs = [.ref p, .int n] ∧ 0 < n ∧ Small n ∧ PoolAt H p ∧ ∀ d H', 0 ≤ d → d < n → Drawn p H H' → Q (.int d) H'
theorem use_take {p : Addr} {n : Int} {H : Hp} {Q : VK} {E : XK} (hp : PoolAt H p) (h0 : 0 < n) (hs : Small n) (h : ∀ d H', 0 ≤ d → d < n → Drawn p H H' → Q (.int d) H') : spTake [.ref p, .int n] H Q E := ⟨p, n, rfl, h0, hs, hp, h⟩
theorem len2 {α : Type} : ∀ {l : List α}, l.length = 2 → ∃ a b, l = [a, b]
  | [a, b], _ => ⟨a, b, rfl⟩
theorem spDraw_len {n : Nat} {pre : List Int → Prop} {post : List Int → Int → Prop} {vs : List V} {H : Hp} {Q : VK} {E : XK} (h : spDraw n pre post vs H Q E) : vs.length = n + 1 := by
  obtain ⟨p, is, rfl, hl, _⟩ := h
  rw [List.length_cons, List.length_map, hl]
theorem use_draw0 {pre : List Int → Prop} {post : List Int → Int → Prop} {p : Addr} {H : Hp} {Q : VK} {E : XK} (hp : PoolAt H p) (hpre : pre []) (h : ∀ d H', post [] d → Drawn p H H' → Q (.int d) H') : spDraw 0 pre post [.ref p] H Q E := ⟨p, [], rfl, rfl, hpre, hp, h⟩
theorem use_draw1 {pre : List Int → Prop} {post : List Int → Int → Prop} {p : Addr} {a : Int} {H : Hp} {Q : VK} {E : XK} (hp : PoolAt H p) (hpre : pre [a]) (h : ∀ d H', post [a] d → Drawn p H H' → Q (.int d) H') : spDraw 1 pre post [.ref p, .int a] H Q E := ⟨p, [a], rfl, rfl, hpre, hp, h⟩
theorem use_draw2 {pre : List Int → Prop} {post : List Int → Int → Prop} {p : Addr} {a b : Int} {H : Hp} {Q : VK} {E : XK} (hp : PoolAt H p) (hpre : pre [a, b]) (h : ∀ d H', post [a, b] d → Drawn p H H' → Q (.int d) H') : spDraw 2 pre post [.ref p, .int a, .int b] H Q E := ⟨p, [a, b], rfl, rfl, hpre, hp, h⟩
theorem PoolAt.ints {H : Hp} {p D : Addr} (h : PoolAt H p) (n : D ≠ p) (is : List Int) : PoolAt (upd H D (.lst (is.map V.int))) p := by
  obtain ⟨q, l, ns, h1, h2, h3, h4⟩ := h
  by_cases e : q = D
  · exact ⟨q, l, is, by rw [upd_ne (Ne.symm n)]; exact h1, h2, by rw [e, upd_same], h4⟩
  · exact ⟨q, l, ns, by rw [upd_ne (Ne.symm n)]; exact h1, h2, by rw [upd_ne e]; exact h3, h4⟩
theorem Drawn.ints {H H1 : Hp} {p D : Addr} (h : Drawn p H H1) (hD : H D = none) (_ : D ≠ p) (is : List Int) : Drawn p H (upd H1 D (.lst (is.map V.int))) := h.put hD
theorem Drawn.ne {H H1 : Hp} {p D : Addr} (h : Drawn p H H1) (hD : H1 D = none) : D ≠ p := fun e => by
  obtain ⟨l, z⟩ := h.pool.lst
  rw [e, z] at hD; cases hD
theorem Drawn.tup {H H1 : Hp} {p a : Addr} {xs : List V} (h : Drawn p H H1) (e : H a = some (.tup xs)) : H1 a = some (.tup xs) := h.grow a _ (fun z => by
  obtain ⟨l, w⟩ := h.was
  rw [z, w] at e; cases e) e
theorem Drawn.ins {H H1 : Hp} {p a C dx : Addr} {fs : List (Str × V)} (h : Drawn p H H1) (e : H a = some (.ins C dx fs)) : H1 a = some (.ins C dx fs) := h.grow a _ (fun z => by
  obtain ⟨l, w⟩ := h.was
  rw [z, w] at e; cases e) e
theorem Drawn.lst {H H1 : Hp} {p a : Addr} {xs : List V} (h : Drawn p H H1) (n : a ≠ p) (e : H a = some (.lst xs)) : H1 a = some (.lst xs) := h.grow a _ n e
/-- only new things -/
theorem Drawn.of_same {H H1 : Hp} {p : Addr} (h : PoolAt H p) (s : L2.Same H H1) : Drawn p H H1 := ⟨fun a o _ e => s a o e, let ⟨q, l, ns, h1, h2, h3, h4⟩ := h; ⟨q, l, l, ns, h1, h2, h3, h4, s _ _ h1, h2⟩⟩
theorem Drawn.same {H H1 H2 : Hp} {p : Addr} (h : Drawn p H H1) (s : L2.Same H1 H2) : Drawn p H H2 := h.trans (.of_same h.pool s)
/-- what was free is not the pool -/
theorem Drawn.fresh {H H1 : Hp} {p x : Addr} (h : Drawn p H H1) (e : H1 x = none) : x ≠ p := h.ne e
theorem Drawn.free {H H1 : Hp} {p x : Addr} (h : Drawn p H H1) (e : H1 x = none) : H x = none := Option.eq_none_iff_forall_ne_some.mpr fun o z => by
  have n := h.ne e
  rw [h.grow x o n z] at e; cases e
theorem sameAt {H H1 : Hp} {a : Addr} {o : HO} (s : L2.Same H H1) (e : H a = some o) : H1 a = some o := s a o e
/-- a new thing that then gets its fields -/
theorem same_made {H : Hp} {x dx : Addr} {o1 o2 o3 : HO} (hx : H x = none) (hd : H dx = none) : L2.Same H (upd (upd (upd H dx o1) x o2) x o3) := fun b o hb => by
  rw [upd_ne (ne_of_none hb hx), upd_ne (ne_of_none hb hx), upd_ne (ne_of_none hb hd)]; exact hb
theorem same_new {H : Hp} {x : Addr} {o : HO} (hx : H x = none) : L2.Same H (upd H x o) := fun b u hb => by rw [upd_ne (ne_of_none hb hx)]; exact hb
theorem len5 {α : Type} : ∀ {l : List α}, l.length = 5 → ∃ a b c d e, l = [a, b, c, d, e]
  | [a, b, c, d, e], _ => ⟨a, b, c, d, e, rfl⟩
theorem len3 {α : Type} : ∀ {l : List α}, l.length = 3 → ∃ a b c, l = [a, b, c]
  | [a, b, c], _ => ⟨a, b, c, rfl⟩
/-- the items of a list of ints -/
theorem int_at {ns : List Int} {i : Nat} {x : V} (h : (ns.map V.int)[i]? = some x) : ∃ c, x = .int c ∧ c ∈ ns := by
  obtain ⟨c, hc, e⟩ := List.mem_map.mp (List.mem_of_getElem? h)
  exact ⟨c, e.symm, hc⟩
theorem w_yes {σ : L2.St} {H : Hp} {A B : Hp → Prop} (h : A H) : tYes σ H (fun b H3 => if b = true then A H3 else B H3) := by
  show (if true = true then A H else B H)
  rw [if_pos rfl]; exact h
end Rd
/-! Ops: x in o by an own __contains__. -/
namespace Rd
open PySem PySem.Spec PyProof.Rows PySem.W L2
def rInG (C : Addr) (sp : Sp) : R2 := fun x y H Q => match y with
  | .ref a => ∃ dx fs, H a = some (.ins C dx fs) ∧ sp [.ref a, x] H (fun v H2 => ∃ b, v = .bl b ∧ Q (.bl b) H2) E0
  | _ => False
section
variable {X : Cx} {k : Nat} {C : Addr} {ps : List Str} {sp : Sp}
theorem inst_of {pins : List (Addr × Obj)} {σ : L2.St} {H : Hp} {s : Shared} {a dx : Addr} {fs : List (Str × V)} (I : L2.Inv X pins σ H s) (e : H a = some (.ins C dx fs)) : ∃ od, InstAt s.heap a (instObj C dx) C (some od) := by
  obtain ⟨mA, om, _⟩ := ins_get I.hok e
  obtain ⟨od, i, _⟩ := om.look
  exact ⟨od, i⟩
theorem oInG (G : MtG X.prog X.w X.K X.mg X.base CX0 k C "__contains__" ps sp) (hr : Room k X.A) : OpR X (compareOp .In) (rInG C sp) := by
  intro pins s σ H x y u v Q I rx ry h
  unfold rInG at h
  split at h
  · rename_i a
    obtain ⟨dx, fs, e, h⟩ := h
    obtain ⟨f, fd, m, F, b⟩ := G.ex
    obtain ⟨od, i⟩ := inst_of I e
    obtain ⟨_, fr⟩ := I.fr
    cases ry
    refine in_K fr I.mod.kin i m.at_ m.fn (thn (run_fn (vs := [V.ref a, x]) (dvs := []) F hr b .nil pass0 I (.cons (show RelV (V.ref a) (Value.ref a) from rfl) (.cons rx .nil)) h) fun r s1 w => ?_)
    obtain ⟨z, H1, I1, rz, c, rfl, q⟩ := w
    cases rz
    exact thn (tru_ok pins s1 σ H1 (.bl c) _ (fun b H' => Q (.bl b) H') I1 rfl ⟨c, rfl, q⟩) fun b2 s2 w2 => let ⟨H2, I2, q2⟩ := w2; ⟨.bl b2, H2, I2, rfl, q2⟩
  · exact h.elim
theorem pe_mg {o e : Expr} {es : List Expr} {m : Str} {t : TA} {ta : TE} {pos apos : Pos} {pl : Sem Bool} (G : MtG X.prog X.w X.K X.mg X.base CX0 k C m ps sp) (hr : Room k X.A) (ho : PE X o ta) (ha : PA X (e :: es) t) (h1 : starEach (e :: es) X.env = (false, eval e X.env) :: starEach es X.env := by rfl) (h2 : (backTo pos (starEach es X.env)).any (·.1) = false := by rfl)
    (h3 : eval (.Call (.Attribute o m apos) (e :: es) [] pos) X.env = (eval o X.env >>= fun ov => standAt apos.atName >>= fun _ => holding [ov] (getMethod ov m pl) >>= fun fx => callWith pos fx.1 fx.2 (backTo pos (starEach (e :: es) X.env)) (backToKw pos (keywordEach [] X.env))) := by rfl) : PE X (.Call (.Attribute o m apos) (e :: es) [] pos) (tMeth C m sp [] E0 ta t) := by
  obtain ⟨f, fd, mt, F, b⟩ := G.ex
  exact pe_meth ho G.cls mt F hr b .nil pass0 ha h1 h2 h3
end
section
variable {K : PySem.W.Frag} {H : Hp} {Q : VK} {C a dx : Addr} {fs : List (Str × V)} {sp : Sp} {x : V}
theorem w_inG (e : H a = some (.ins C dx fs)) (h : sp [.ref a, x] H (fun v H2 => ∃ b, v = .bl b ∧ Q (.bl b) H2) E0) : rInG C sp x (.ref a) H Q := ⟨dx, fs, e, h⟩
end
end Rd
/-! Rng: range(a, b) over ints of any size. -/
namespace Rd
open PySem PySem.Spec PyProof.Rows L2
/-- what is asked of an iterator that is one record and gives lo, lo + 1, .. -/
structure IntsIt (P : Program) (w : World) (it : Addr) (lo : Int) (n : Nat) (cn : String) (St : Nat → Heap → Prop) : Prop where
  name : ["enumerate", "zip", "dict_itemiterator", "dict_reverseitemiterator", "odict_iterator", "itertools.zip_longest", "itertools.pairwise"].contains cn = false
  one : ∀ i h, St i h → ∃ vs, h.get? it = some { cls := .type cn, data := .fields vs }
  keep : ∀ i h h', St i h → (∀ o, h.get? it = some o → h'.get? it = some o) → St i h'
  walks : ∀ A : Around, A.handled = none → Walks P w A it [it] [it] n (fun i v => ∃ t, v = .int (lo + i * 1) t) St
  ends : ∀ (A : Around), A.handled = none → ∀ (i : Nat) (s : Shared) (Q : Option Value → Shared → Prop) (E : Value → Shared → Prop), n ≤ i → St i s.heap → (∀ h', Heap.ExtBut it s.heap h' → Q none { s with heap := h' }) → wpAny (model P w) A (pyNext (.ref it)) Q E s
  again : ∀ (A : Around) (i : Nat) (s : Shared) (Q E : Value → Shared → Prop), St i s.heap → Q (.ref it) s → wpAny (model P w) A (pyIter (.ref it)) Q E s
theorem turn_ints {P : Program} {w : World} {K : PySem.W.Frag} {tg : Expr} {it : Addr} {lo : Int} {n : Nat} {St : Nat → Heap → Prop} {cn : String} (R : IntsIt P w it lo n cn St) : Turn P w K tg (Itr lo n) [it] it St where
  mem := List.mem_singleton.mpr rfl
  obj := fun i h st b hb => by
    cases List.mem_singleton.mp hb
    obtain ⟨vs, e⟩ := R.one i h st
    exact ⟨_, e, fun v z => by cases z⟩
  keep := fun i h h' st k => R.keep i h h' st (k it (List.mem_singleton.mpr rfl))
  item := fun X hP hw hK hc i pins s σ H E I hf st hg => by
    subst hP hw hK
    obtain ⟨f0, f1, f2, f3, f4, f5⟩ := hf it (List.mem_singleton.mpr rfl)
    refine (R.walks X.A (I.ok.hd hc)).item i s _ _ hg st fun v h' tk hv st' k => ?_
    obtain ⟨t, rfl⟩ := hv
    have J := I.turned (t' := tk) (fun b o hb e => k b o (fun z => hb (List.mem_singleton.mp z)) e) f0 f1 f3 f4 f5
    obtain ⟨vs, e⟩ := R.one _ _ st'
    exact ⟨_, rfl, go_of (s := { s with heap := h', toks := tk }) (n := cn) e rfl rfl R.name ⟨.int (lo + i), H, J, ⟨t, by rw [Int.mul_one]⟩, ⟨rfl, rfl⟩, st', fun b hb => (hf b hb).1⟩⟩
  done := fun X hP hw hK hc i pins s σ H E I hf st hg => by
    subst hP hw hK
    obtain ⟨f0, f1, f2, f3, f4, f5⟩ := hf it (List.mem_singleton.mpr rfl)
    exact R.ends X.A (I.ok.hd hc) i s _ _ hg st fun h' eb => ⟨rfl, I.turned (t' := s.toks) (fun b o hb e => eb b o hb e) f0 f1 f3 f4 f5⟩
  self := fun A i s Q E st h => R.again A i s Q E st h
def iRngZ (ta : TA) : TI := fun σ H R => ta σ H fun vs H1 => match vs with
  | [.int a, .int b] => R (Itr a (b - a).toNat) H1
  | _ => False
section
variable {X : Cx} {tg : Expr}
theorem small_it {it : Addr} {lo : Int} {n : Nat} : IntsIt X.prog X.w it lo n "range_iterator" (fun i h => IsRangeIter h it (lo + (i : Nat) * 1) ((n : Int) - (i : Nat)) 1) where
  name := by decide
  one := fun i h st => ⟨_, st⟩
  keep := fun i h h' st k => k _ st
  walks := fun A hA => Walks.range hA it lo 1 n
  ends := fun A hA i s Q E hi st hQ => wpAny_pyNext_range_end hA st (by omega) hQ
  again := fun A i s Q E st h => wpAny_pyIter_rangeiter st h
theorem long_it {it : Addr} {lo : Int} {n : Nat} : IntsIt X.prog X.w it lo n "longrange_iterator" (fun i h => IsLongIter h it (lo + (i : Nat) * 1) ((n : Int) - (i : Nat)) 1) where
  name := by decide
  one := fun i h st => ⟨_, st⟩
  keep := fun i h h' st k => k _ st
  walks := fun A hA => Walks.longrange hA it lo 1 n
  ends := fun A hA i s Q E hi st hQ => wpAny_pyNext_long_end hA st (by omega) hQ
  again := fun A i s Q E st h => wpAny_pyIter_longiter st h
/-- the walk of a range just made, whatever its ends -/
theorem range_any {pins : List (Addr × Obj)} {σ : L2.St} {H : Hp} {s : Shared} {R : It → Hp → Prop} {E : Value → Shared → Prop} {lo hi : Int} {t u v : Tok} {r : Addr} (I : L2.Inv X pins σ H s) (hr : IsRange s.heap r lo hi 1 t u v) (q : R (Itr lo (hi - lo).toNat) H) :
    wpAny (model X.prog X.w) X.A (pyIter (.ref r)) (PIE X pins σ tg R) E s := by
  have e1 : lo + ((0 : Nat) : Int) * 1 = lo := by simp
  have e2 : (((hi - lo).toNat : Nat) : Int) - ((0 : Nat) : Int) = Builtin.Range.rangeSize lo hi 1 := by rw [rangeSize_one]; split <;> omega
  have fresh : ∀ {b : Addr}, b ∈ [s.heap.objs.size] → FpOk X pins H b := fun hb => by
    cases List.mem_singleton.mp hb
    exact I.fpOk (Nat.le_refl _) (I.hok.fresh (Nat.le_refl _))
  cases hs : Builtin.Range.small lo hi 1 with
  | true =>
    refine wpAny_pyIter_range hr hs ⟨s.heap.objs.size, [s.heap.objs.size], _, _, H, rfl, I.kept (t' := s.toks) fun b o e => Heap.get?_push_of_some _ e, turn_ints small_it, ?_, fun b hb => fresh hb, q⟩
    show IsRangeIter _ _ (lo + ((0 : Nat) : Int) * 1) ((((hi - lo).toNat : Nat) : Int) - ((0 : Nat) : Int)) 1
    rw [e1, e2]
    exact Heap.get?_push_size _ rfl
  | false =>
    refine wpAny_pyIter_longrange hr hs ⟨s.heap.objs.size, [s.heap.objs.size], _, _, H, rfl, I.kept (t' := s.toks) fun b o e => Heap.get?_push_of_some _ e, turn_ints long_it, ?_, fun b hb => fresh hb, q⟩
    show IsLongIter _ _ (lo + ((0 : Nat) : Int) * 1) ((((hi - lo).toNat : Nat) : Int) - ((0 : Nat) : Int)) 1
    rw [e1, e2]
    exact Heap.get?_push_size _ rfl
theorem pi_rangeZ {a b : Expr} {ta : TA} {p pos : Pos} (hg : Gl X "range") (hm : X.mg "range" = none) (ha : PA X [a, b] ta) (hs : starEach [a, b] X.env = [(false, eval a X.env), (false, eval b X.env)] := by rfl) (hs2 : starEach [b] X.env = [(false, eval b X.env)] := by rfl) :
    PI X tg (.Call (.Name "range" p) [a, b] [] pos) (iRngZ ta) where
  run := fun pins s σ H R I h => by
    refine Call_ (ld_blt I hg hm boot_range (PyProof.Rows.callWith_type1 (thn (ha.run pos pins s σ H _ I h) fun us s1 w => ?_) (hs.trans (by rw [hs2])) (by rw [hs2]; rfl)))
    obtain ⟨vs, H1, I1, rv, w⟩ := w
    split at w
    · obtain ⟨v1, v2, rfl, ⟨t1, rfl⟩, ⟨t2, rfl⟩⟩ := vals2 rv
      exact call_range_2 (range_any (I1.kept (t' := s1.toks + 1) fun b o e => Heap.get?_push_of_some _ e) (Heap.get?_push_size _ rfl) w)
    · exact w.elim
end
end Rd
/-! MkS: C(e, ..) where what is raised is wished for at the caller's slots. -/
namespace Rd
open PySem PySem.Spec PyProof.Rows L2
/-- a call's end, seen from the body that called -/
def Came (X : Cx) (pins : List (Addr × Obj)) (σ : L2.St) (Q : VK) (r : Result) (s' : Shared) : Prop := match r with
  | .ok (.ret u) => EP X pins σ Q u s'
  | .ok _ => False
  | .error e => X.xe e s'
theorem came_of {X : Cx} {CX : CXT} {pins : List (Addr × Obj)} {σ : L2.St} {H : Hp} {s s' : Shared} {Q : VK} {E : XK} (I : L2.Inv X pins σ H s) (hx : PassesAt CX X σ E) : ∀ {r : Result}, CR CX X.stack X.prog X.w H s Q E r s' → Came X pins σ Q r s'
  | .error e, c => hx pins H s e s' I c
  | .ok (.ret _), c => I.after c
  | .ok .next, c => c
  | .ok .brk, c => c
  | .ok .cont, c => c
/-- the reading: the layer's own for a new instance, its wish at the slots -/
def tMkS (C : Addr) (sp : Sp) (dvs : List V) (E : L2.St → XK) (t : TA) : TE := fun σ H Q => tMake C sp dvs (E σ) t σ H Q
section
variable {X : Cx} {CX : CXT} {k : Nat} {x : Str} {ps : List Str} {dvs : List V} {sp : Sp} {E : L2.St → XK} {e : Expr} {es : List Expr} {t : TA} {p pos : Pos}
theorem pe_mkS (G : MkG X.prog X.w X.K X.mg X.base CX k x ps dvs sp) (hr : Room (k + 1) X.A) (hg : Gl X x) (hx : ∀ σ, PassesAt CX X σ (E σ)) (ha : PA X (e :: es) t) (h1 : (x == ("__debug__" : Str)) = false := by decide) (h2 : starEach (e :: es) X.env = (false, eval e X.env) :: starEach es X.env := by rfl) (h3 : (backTo pos (starEach es X.env)).any (·.1) = false := by rfl) :
    PE X (.Call (.Name x p) (e :: es) [] pos) (tMkS (He.ga X.K x) sp dvs E t) where
  run := fun pins s σ H Q I h => by
    obtain ⟨f, fd, ds, hm, M, F, hb, hd⟩ := G.ex
    refine wpAny_Call_Name_kw (ld_glob I hg hm (PySem.W.callWith_K (h₀ := X.base) I.ok.mod.kin M.kp (thn (ha.run pos pins s σ H _ I h) fun us s1 w => ⟨?_, ?_⟩) h2 h3) h1)
    · obtain ⟨vs, H1, I1, _⟩ := w; exact I1.kIn
    · obtain ⟨vs, H1, I1, rv, w⟩ := w
      have new := Inv.made (C := He.ga X.K x) I1
      have say := w (s1.heap.objs.size + 1) s1.heap.objs.size (I1.hok.fresh (Nat.le_succ _)) (I1.hok.fresh (Nat.le_refl _)) (Nat.ne_of_lt (Nat.lt_succ_self _))
      have rel : Vals (.ref (s1.heap.objs.size + 1) :: (vs ++ dvs)) (.ref (s1.heap.objs.size + 1) :: (us ++ ds)) := .cons rfl (rv.append hd)
      have len := rel.length.symm.trans (F.len _ _ _ _ say)
      refine wpAny_call (make_map (f := f) I1.kIn M.makes M.init (beq_iff_eq.mp M.fn) (codeAny_mono (F.run _ X.stack _ _ ⟨.ref (s1.heap.objs.size + 1) :: us, []⟩ _ _ _ (E σ) (hr.make _ us []) (new.env0.make _ us []) (hb _ (.ref (s1.heap.objs.size + 1) :: us) new.kIn len) rel say) fun r s2 c => ?_))
      have z := came_of new (hx σ) c
      cases r with
      | error e2 => exact z
      | ok fl => cases fl with
        | ret u =>
          obtain ⟨v, H2, I2, ru, ev, q⟩ := z
          cases ev
          exact ⟨ru, V.ref (s1.heap.objs.size + 1), H2, I2, rfl, q⟩
        | _ => exact (show False from z).elim
/-- the same, the class's place given ahead -/
theorem pe_mkC (C : Addr) (hC : He.ga X.K x = C) (G : MkG X.prog X.w X.K X.mg X.base CX k x ps dvs sp) (hr : Room (k + 1) X.A) (hg : Gl X x) (hx : ∀ σ, PassesAt CX X σ (E σ)) (ha : PA X (e :: es) t) (h1 : (x == ("__debug__" : Str)) = false := by decide) (h2 : starEach (e :: es) X.env = (false, eval e X.env) :: starEach es X.env := by rfl) (h3 : (backTo pos (starEach es X.env)).any (·.1) = false := by rfl) :
    PE X (.Call (.Name x p) (e :: es) [] pos) (tMkS C sp dvs E t) := hC ▸ pe_mkS G hr hg hx ha h1 h2 h3
end
section
variable {C : Addr} {sp : Sp} {dvs : List V} {E : L2.St → XK} {tl : TA} {σ : L2.St} {H : Hp} {Q : VK}
theorem w_mkS (h : tl σ H (kMake C sp dvs (E σ) Q)) : tMkS C sp dvs E tl σ H Q := h
end
end Rd
/-! SameM: values that are alike through and through, and isinstance of the plain types. -/
namespace Rd
open PySem PySem.Spec PyProof.Rows L2
/-- v and w are alike, down to the depth d -/
def Alike (H : Hp) : Nat → V → V → Prop
  | 0, _, _ => False
  | d + 1, v, w => (v = .non ∧ w = .non) ∨ (∃ b, v = .bl b ∧ w = .bl b) ∨ (∃ i, v = .int i ∧ w = .int i) ∨ (∃ s, v = .str s ∧ w = .str s) ∨
      ∃ (a b : Addr) (xs ys : List V), v = .ref a ∧ w = .ref b ∧ ((H a = some (.lst xs) ∧ H b = some (.lst ys)) ∨ (H a = some (.tup xs) ∧ H b = some (.tup ys))) ∧ xs.length = ys.length ∧ xs.length ≤ 1000000 ∧ ∀ (i : Nat) (x y : V), xs[i]? = some x → ys[i]? = some y → Alike H d x y
theorem Alike.keep {H H' : Hp} (k : Same H H') : ∀ {d : Nat} {v w : V}, Alike H d v w → Alike H' d v w
  | 0, _, _, h => h.elim
  | _ + 1, _, _, .inl h => .inl h
  | _ + 1, _, _, .inr (.inl h) => .inr (.inl h)
  | _ + 1, _, _, .inr (.inr (.inl h)) => .inr (.inr (.inl h))
  | _ + 1, _, _, .inr (.inr (.inr (.inl h))) => .inr (.inr (.inr (.inl h)))
  | _ + 1, _, _, .inr (.inr (.inr (.inr ⟨a, b, xs, ys, e1, e2, h, hl, hs, hi⟩))) => .inr (.inr (.inr (.inr ⟨a, b, xs, ys, e1, e2, h.elim (fun z => .inl ⟨k _ _ z.1, k _ _ z.2⟩) (fun z => .inr ⟨k _ _ z.1, k _ _ z.2⟩), hl, hs, fun i x y hx hy => (hi i x y hx hy).keep k⟩)))
section
variable {H : Hp} {d : Nat} {a b : Addr} {xs ys : List V}
theorem alike_non : Alike H (d + 1) .non .non := .inl ⟨rfl, rfl⟩
theorem alike_bl {x : Bool} : Alike H (d + 1) (.bl x) (.bl x) := .inr (.inl ⟨x, rfl, rfl⟩)
theorem alike_int {i : Int} : Alike H (d + 1) (.int i) (.int i) := .inr (.inr (.inl ⟨i, rfl, rfl⟩))
theorem alike_str {s : Str} : Alike H (d + 1) (.str s) (.str s) := .inr (.inr (.inr (.inl ⟨s, rfl, rfl⟩)))
theorem alike_lst (ha : H a = some (.lst xs)) (hb : H b = some (.lst ys)) (hl : xs.length = ys.length) (hs : xs.length ≤ 1000000) (h : ∀ (i : Nat) (x y : V), xs[i]? = some x → ys[i]? = some y → Alike H d x y) : Alike H (d + 1) (.ref a) (.ref b) :=
  .inr (.inr (.inr (.inr ⟨a, b, xs, ys, rfl, rfl, .inl ⟨ha, hb⟩, hl, hs, h⟩)))
theorem alike_tup (ha : H a = some (.tup xs)) (hb : H b = some (.tup ys)) (hl : xs.length = ys.length) (hs : xs.length ≤ 1000000) (h : ∀ (i : Nat) (x y : V), xs[i]? = some x → ys[i]? = some y → Alike H d x y) : Alike H (d + 1) (.ref a) (.ref b) :=
  .inr (.inr (.inr (.inr ⟨a, b, xs, ys, rfl, rfl, .inr ⟨ha, hb⟩, hl, hs, h⟩)))
/-- plain items -/
def Plain : V → Prop
  | .non => True
  | .bl _ => True
  | .int _ => True
  | .str _ => True
  | _ => False
theorem alike_plain : ∀ {x : V}, Plain x → Alike H (d + 1) x x
  | .non, _ => alike_non
  | .bl _, _ => alike_bl
  | .int _, _ => alike_int
  | .str _, _ => alike_str
theorem plain_ints (ns : List Int) : ∀ x ∈ ns.map V.int, Plain x := fun x hx => by
  obtain ⟨c, _, rfl⟩ := List.mem_map.mp hx
  trivial
theorem alike_items (hp : ∀ x ∈ xs, Plain x) : ∀ (i : Nat) (x y : V), xs[i]? = some x → xs[i]? = some y → Alike H (d + 1) x y := fun i x y hx hy => by
  rw [hx] at hy
  cases hy
  exact alike_plain (hp x (List.mem_of_getElem? hx))
theorem alike_plst (ha : H a = some (.lst xs)) (hb : H b = some (.lst xs)) (hs : xs.length ≤ 1000000) (hp : ∀ x ∈ xs, Plain x) : Alike H (d + 2) (.ref a) (.ref b) := alike_lst ha hb rfl hs (alike_items hp)
theorem alike_ptup (ha : H a = some (.tup xs)) (hb : H b = some (.tup xs)) (hs : xs.length ≤ 1000000) (hp : ∀ x ∈ xs, Plain x) : Alike H (d + 2) (.ref a) (.ref b) := alike_tup ha hb rfl hs (alike_items hp)
def spSame (d : Nat) : Sp := fun vs H Q _ => ∃ v w, vs = [v, w] ∧ Alike H d v w ∧ Q (.bl true) H
theorem rec0 {vs : List V} {Q : VK} {E : XK} (h : spSame 0 vs H Q E) : False := by
  obtain ⟨_, _, _, h, _⟩ := h
  exact h
theorem use_same {v w : V} {Q : VK} {E : XK} (h : Alike H d v w) (q : Q (.bl true) H) : spSame d [v, w] H Q E := ⟨v, w, rfl, h, q⟩
theorem atI_nat {α : Type} {l : List α} {i : Nat} {x : α} (h : l[i]? = some x) : atI l (0 + (i : Int)) = some x := atI_of (by omega) (by rw [show (0 + (i : Int)).toNat = i by omega]; exact h)
end
section
variable {K : PySem.W.Frag} {H : Hp} {Q : VK} {a : Addr} {xs : List V}
theorem w_isB {v : V} {T t : String} {r : Bool} (ty : TyX K H v (.type T)) (e : kitB T t = some r) (h : Q (.bl r) H) : uIsi K [v, .ty t] H Q := .inl ⟨_, _, _, _, r, rfl, .ty _, ty, kit_ty e, h⟩
theorem w_neB_tt (h : Q (.bl false) H) : rNe (.bl true) (.bl true) H Q := ⟨rfl, h⟩
theorem w_neB_ff (h : Q (.bl false) H) : rNe (.bl false) (.bl false) H Q := ⟨rfl, h⟩
theorem w_neB_tf (h : Q (.bl true) H) : rNe (.bl true) (.bl false) H Q := ⟨rfl, h⟩
theorem w_neB_ft (h : Q (.bl true) H) : rNe (.bl false) (.bl true) H Q := ⟨rfl, h⟩
theorem w_isb_NoneType_bool (h : Q (.bl false) H) : uIsi K [.non, .ty "bool"] H Q := w_isB (.base .non) (by decide +kernel) h
theorem w_isb_NoneType_int (h : Q (.bl false) H) : uIsi K [.non, .ty "int"] H Q := w_isB (.base .non) (by decide +kernel) h
theorem w_isb_NoneType_str (h : Q (.bl false) H) : uIsi K [.non, .ty "str"] H Q := w_isB (.base .non) (by decide +kernel) h
theorem w_isb_NoneType_dict (h : Q (.bl false) H) : uIsi K [.non, .ty "dict"] H Q := w_isB (.base .non) (by decide +kernel) h
theorem w_isb_NoneType_list (h : Q (.bl false) H) : uIsi K [.non, .ty "list"] H Q := w_isB (.base .non) (by decide +kernel) h
theorem w_isb_NoneType_tuple (h : Q (.bl false) H) : uIsi K [.non, .ty "tuple"] H Q := w_isB (.base .non) (by decide +kernel) h
theorem w_isb_bool_bool {x : Bool} (h : Q (.bl true) H) : uIsi K [.bl x, .ty "bool"] H Q := w_isB (.base (.bl x)) (by decide +kernel) h
theorem w_isb_bool_int {x : Bool} (h : Q (.bl true) H) : uIsi K [.bl x, .ty "int"] H Q := w_isB (.base (.bl x)) (by decide +kernel) h
theorem w_isb_bool_str {x : Bool} (h : Q (.bl false) H) : uIsi K [.bl x, .ty "str"] H Q := w_isB (.base (.bl x)) (by decide +kernel) h
theorem w_isb_bool_dict {x : Bool} (h : Q (.bl false) H) : uIsi K [.bl x, .ty "dict"] H Q := w_isB (.base (.bl x)) (by decide +kernel) h
theorem w_isb_bool_list {x : Bool} (h : Q (.bl false) H) : uIsi K [.bl x, .ty "list"] H Q := w_isB (.base (.bl x)) (by decide +kernel) h
theorem w_isb_bool_tuple {x : Bool} (h : Q (.bl false) H) : uIsi K [.bl x, .ty "tuple"] H Q := w_isB (.base (.bl x)) (by decide +kernel) h
theorem w_isb_int_bool {x : Int} (h : Q (.bl false) H) : uIsi K [.int x, .ty "bool"] H Q := w_isB (.base (.int x)) (by decide +kernel) h
theorem w_isb_int_int {x : Int} (h : Q (.bl true) H) : uIsi K [.int x, .ty "int"] H Q := w_isB (.base (.int x)) (by decide +kernel) h
theorem w_isb_int_str {x : Int} (h : Q (.bl false) H) : uIsi K [.int x, .ty "str"] H Q := w_isB (.base (.int x)) (by decide +kernel) h
theorem w_isb_int_dict {x : Int} (h : Q (.bl false) H) : uIsi K [.int x, .ty "dict"] H Q := w_isB (.base (.int x)) (by decide +kernel) h
theorem w_isb_int_list {x : Int} (h : Q (.bl false) H) : uIsi K [.int x, .ty "list"] H Q := w_isB (.base (.int x)) (by decide +kernel) h
theorem w_isb_int_tuple {x : Int} (h : Q (.bl false) H) : uIsi K [.int x, .ty "tuple"] H Q := w_isB (.base (.int x)) (by decide +kernel) h
theorem w_isb_str_bool {x : Str} (h : Q (.bl false) H) : uIsi K [.str x, .ty "bool"] H Q := w_isB (.base (.str x)) (by decide +kernel) h
theorem w_isb_str_int {x : Str} (h : Q (.bl false) H) : uIsi K [.str x, .ty "int"] H Q := w_isB (.base (.str x)) (by decide +kernel) h
theorem w_isb_str_str {x : Str} (h : Q (.bl true) H) : uIsi K [.str x, .ty "str"] H Q := w_isB (.base (.str x)) (by decide +kernel) h
theorem w_isb_str_dict {x : Str} (h : Q (.bl false) H) : uIsi K [.str x, .ty "dict"] H Q := w_isB (.base (.str x)) (by decide +kernel) h
theorem w_isb_str_list {x : Str} (h : Q (.bl false) H) : uIsi K [.str x, .ty "list"] H Q := w_isB (.base (.str x)) (by decide +kernel) h
theorem w_isb_str_tuple {x : Str} (h : Q (.bl false) H) : uIsi K [.str x, .ty "tuple"] H Q := w_isB (.base (.str x)) (by decide +kernel) h
theorem w_isb_list_bool (e : H a = some (.lst xs)) (h : Q (.bl false) H) : uIsi K [.ref a, .ty "bool"] H Q := w_isB (.base (.lst e)) (by decide +kernel) h
theorem w_isb_list_int (e : H a = some (.lst xs)) (h : Q (.bl false) H) : uIsi K [.ref a, .ty "int"] H Q := w_isB (.base (.lst e)) (by decide +kernel) h
theorem w_isb_list_str (e : H a = some (.lst xs)) (h : Q (.bl false) H) : uIsi K [.ref a, .ty "str"] H Q := w_isB (.base (.lst e)) (by decide +kernel) h
theorem w_isb_list_dict (e : H a = some (.lst xs)) (h : Q (.bl false) H) : uIsi K [.ref a, .ty "dict"] H Q := w_isB (.base (.lst e)) (by decide +kernel) h
theorem w_isb_list_list (e : H a = some (.lst xs)) (h : Q (.bl true) H) : uIsi K [.ref a, .ty "list"] H Q := w_isB (.base (.lst e)) (by decide +kernel) h
theorem w_isb_list_tuple (e : H a = some (.lst xs)) (h : Q (.bl false) H) : uIsi K [.ref a, .ty "tuple"] H Q := w_isB (.base (.lst e)) (by decide +kernel) h
theorem w_isb_tuple_bool (e : H a = some (.tup xs)) (h : Q (.bl false) H) : uIsi K [.ref a, .ty "bool"] H Q := w_isB (.base (.tup e)) (by decide +kernel) h
theorem w_isb_tuple_int (e : H a = some (.tup xs)) (h : Q (.bl false) H) : uIsi K [.ref a, .ty "int"] H Q := w_isB (.base (.tup e)) (by decide +kernel) h
theorem w_isb_tuple_str (e : H a = some (.tup xs)) (h : Q (.bl false) H) : uIsi K [.ref a, .ty "str"] H Q := w_isB (.base (.tup e)) (by decide +kernel) h
theorem w_isb_tuple_dict (e : H a = some (.tup xs)) (h : Q (.bl false) H) : uIsi K [.ref a, .ty "dict"] H Q := w_isB (.base (.tup e)) (by decide +kernel) h
theorem w_isb_tuple_list (e : H a = some (.tup xs)) (h : Q (.bl false) H) : uIsi K [.ref a, .ty "list"] H Q := w_isB (.base (.tup e)) (by decide +kernel) h
theorem w_isb_tuple_tuple (e : H a = some (.tup xs)) (h : Q (.bl true) H) : uIsi K [.ref a, .ty "tuple"] H Q := w_isB (.base (.tup e)) (by decide +kernel) h
end
end Rd
/-! Loops: for and comprehensions, when what they go over is done. -/
namespace Rd
open PySem PySem.Spec PyProof.Rows L2
section
variable {K : PySem.W.Frag} {g : TG} {tb : TS} {D : Ends} {σ : L2.St} {H : Hp} {tl : TA} {te : TE}
def kFR1 (g : TG) (tb : TS) (D : Ends) (σ : L2.St) : List V → Hp → Prop := fun vs H => tFor (iRng1 (tAc vs)) g tb D σ H
def kFR2 (g : TG) (tb : TS) (D : Ends) (σ : L2.St) : List V → Hp → Prop := fun vs H => tFor (iRng2 (tAc vs)) g tb D σ H
def kFL (K : PySem.W.Frag) (g : TG) (tb : TS) (D : Ends) (σ : L2.St) : VK := fun x H => tFor (iList K (tC x)) g tb D σ H
def kFT (K : PySem.W.Frag) (g : TG) (tb : TS) (D : Ends) (σ : L2.St) : VK := fun x H => tFor (iTup K (tC x)) g tb D σ H
def kFE (K : PySem.W.Frag) (g : TG) (tb : TS) (D : Ends) (σ : L2.St) : List V → Hp → Prop := fun vs H => tFor (iEnum K (tAc vs)) g tb D σ H
theorem w_forR1 (h : tl σ H (kFR1 g tb D σ)) : tFor (iRng1 tl) g tb D σ H := h
theorem w_forR2 (h : tl σ H (kFR2 g tb D σ)) : tFor (iRng2 tl) g tb D σ H := h
theorem w_forL (h : te σ H (kFL K g tb D σ)) : tFor (iList K te) g tb D σ H := h
theorem w_forT (h : te σ H (kFT K g tb D σ)) : tFor (iTup K te) g tb D σ H := h
theorem w_forE (h : tl σ H (kFE K g tb D σ)) : tFor (iEnum K tl) g tb D σ H := h
variable {tt : TT} {ty : TE} {vs : List Nat} {Q : VK}
def kCR1 (g : TG) (tt : TT) (ty : TE) (vs : List Nat) (σ : L2.St) (Q : VK) : List V → Hp → Prop := fun xs H => tLc (iRng1 (tAc xs)) g tt ty vs σ H Q
def kCR2 (g : TG) (tt : TT) (ty : TE) (vs : List Nat) (σ : L2.St) (Q : VK) : List V → Hp → Prop := fun xs H => tLc (iRng2 (tAc xs)) g tt ty vs σ H Q
def kCL (K : PySem.W.Frag) (g : TG) (tt : TT) (ty : TE) (vs : List Nat) (σ : L2.St) (Q : VK) : VK := fun x H => tLc (iList K (tC x)) g tt ty vs σ H Q
def kCT (K : PySem.W.Frag) (g : TG) (tt : TT) (ty : TE) (vs : List Nat) (σ : L2.St) (Q : VK) : VK := fun x H => tLc (iTup K (tC x)) g tt ty vs σ H Q
def kCE (K : PySem.W.Frag) (g : TG) (tt : TT) (ty : TE) (vs : List Nat) (σ : L2.St) (Q : VK) : List V → Hp → Prop := fun xs H => tLc (iEnum K (tAc xs)) g tt ty vs σ H Q
theorem w_lcR1 (h : tl σ H (kCR1 g tt ty vs σ Q)) : tLc (iRng1 tl) g tt ty vs σ H Q := h
theorem w_lcR2 (h : tl σ H (kCR2 g tt ty vs σ Q)) : tLc (iRng2 tl) g tt ty vs σ H Q := h
theorem w_lcL (h : te σ H (kCL K g tt ty vs σ Q)) : tLc (iList K te) g tt ty vs σ H Q := h
theorem w_lcT (h : te σ H (kCT K g tt ty vs σ Q)) : tLc (iTup K te) g tt ty vs σ H Q := h
theorem w_lcE (h : tl σ H (kCE K g tt ty vs σ Q)) : tLc (iEnum K tl) g tt ty vs σ H Q := h
/-- list methods: the receiver is a list of the heap -/
theorem w_kbmL {s : V → List V → Hp → VK → Prop} {p : Addr} {xs : List V} (hp : H p = some (.lst xs)) (h : tl σ H (kBM2 s (.ref p) Q)) : kBM K "list" s tl σ Q (.ref p) H := ⟨.inl ⟨rfl, xs, SqL.of hp⟩, h⟩
theorem w_app {p : Addr} {xs : List V} {y : V} (hp : H p = some (.lst xs)) (hl : xs.length < sizeLine) (h : Q .non (upd H p (.lst (xs ++ [y])))) : rAppend (.ref p) [y] H Q := ⟨p, xs, y, rfl, rfl, hp, hl, h⟩
end
section
variable {K : PySem.W.Frag} {σ : L2.St} {H : Hp} {T : Addr} {x y z : V} {Q : L2.St → Hp → Prop}
/-- a tuple into names -/
theorem w_gt2 {i j : Nat} (h : SqT K H T [x, y]) (q : Q ((σ.set i (some x)).set j (some y)) H) : gTup K 2 (gCons (gName i) (gCons (gName j) gNil)) (.ref T) σ H Q := ⟨T, _, rfl, h, rfl, _, _, rfl, _, _, rfl, rfl, q⟩
theorem w_gt3 {i j k : Nat} (h : SqT K H T [x, y, z]) (q : Q (((σ.set i (some x)).set j (some y)).set k (some z)) H) : gTup K 3 (gCons (gName i) (gCons (gName j) (gCons (gName k) gNil))) (.ref T) σ H Q := ⟨T, _, rfl, h, rfl, _, _, rfl, _, _, rfl, _, _, rfl, rfl, q⟩
theorem w_gl2 {i j : Nat} (h : SqL K H T [x, y]) (q : Q ((σ.set i (some x)).set j (some y)) H) : gUnl K 2 (gCons (gName i) (gCons (gName j) gNil)) (.ref T) σ H Q := ⟨T, _, rfl, h, rfl, _, _, rfl, _, _, rfl, rfl, q⟩
theorem w_gl3 {i j k : Nat} (h : SqL K H T [x, y, z]) (q : Q (((σ.set i (some x)).set j (some y)).set k (some z)) H) : gUnl K 3 (gCons (gName i) (gCons (gName j) (gCons (gName k) gNil))) (.ref T) σ H Q := ⟨T, _, rfl, h, rfl, _, _, rfl, _, _, rfl, _, _, rfl, rfl, q⟩
end
end Rd
/-! EnumT: enumerate(v) for a tuple v. -/
namespace Rd
open PySem PySem.Spec PyProof.Rows L2
/-- enumerate.__new__ of anything that begins, no start given -/
theorem enum_made {v : Value} {o : Obj} {G : Heap → Prop} (B : Begins v o G) :
    Meets (Builtin.«enumerate.__new__» ⟨[.type "enumerate", v], []⟩) (fun _ R s => G s.heap ∧ R (.ok (.ret (.ref (s.heap.push o).objs.size)))
      { s with heap := (s.heap.push o).push { cls := .type "enumerate", data := .fields #[.none, .bool false, .ref s.heap.objs.size, rawInt 0, .none, .none] } }) :=
  .of_wp fun P w A R ⟨h, g, d, n, os⟩ ⟨hG, q⟩ => by
    have sub := sub_enumerate
    have step : ∀ {A' : Around} {E : Value → Shared → Prop} {Q : Value → Shared → Prop}, Q (.ref h.objs.size) ⟨h.push o, g, d, n, os⟩ → wpAny (model P w) A' (pyIter v) Q E ⟨h, g, d, n, os⟩ := fun z => B.iter P w _ _ ⟨h, g, d, n, os⟩ _ hG z
    wp_walk using step
    refine wpAny_stack_any fun st => wpAny_pure ?_
    split <;> first
      | (wp_walk using step; exact ⟨_, rfl, q⟩)
      | (rename_i c _ _ _ _ _; cases (c == Value.type "enumerate") <;> (wp_walk using step; exact ⟨_, rfl, q⟩))
/-- the call: two new cells, all else stands -/
theorem call_enum {P : Program} {w : World} {A : Around} {E : Value → Shared → Prop} {s : Shared} {v : Value} {o : Obj} {G : Heap → Prop} {Q : Value → Shared → Prop} (B : Begins v o G) (hG : G s.heap)
    (q : ∀ h', IsEnum h' (s.heap.objs.size + 1) s.heap.objs.size 0 .none → h'.get? s.heap.objs.size = some o → (∀ b u, s.heap.get? b = some u → h'.get? b = some u) → Q (.ref (s.heap.objs.size + 1)) { s with heap := h' }) :
    wpAny (model P w) A (call (.type "enumerate") [v]) Q E s := by
  have sz : (s.heap.push o).objs.size = s.heap.objs.size + 1 := Heap.size_push ..
  refine callType_new F.called_enumerate (by decide) (F.typeCall_enumerate_1 _) (F.newCall_enumerate_1 _) (fun ob => F.args_object_init_2 ob _) F.entry_enumerate_new (enum_made B) ⟨hG, ?_⟩
  have new := Heap.get?_push_size (s.heap.push o) (o := { cls := .type "enumerate", data := .fields #[.none, .bool false, .ref s.heap.objs.size, rawInt 0, .none, .none] }) rfl
  show _ ∧ _
  rw [sz] at new ⊢
  exact ⟨⟨_, new, rfl⟩, q _ new (Heap.get?_push_of_some _ (Heap.get?_push_size _ B.free)) fun b u hb => Heap.get?_push_of_some _ (Heap.get?_push_of_some _ hb)⟩
/-- the tuple at a, each item with its place in a new pair -/
def IteT (K : PySem.W.Frag) (a : Addr) : It :=
  ⟨fun i H => ∃ (xs : List V) (x : V), SqT K H a xs ∧ xs[i]? = some x, fun i H v H' => ∃ T x, v = .ref T ∧ H T = none ∧ H' = upd H T (.tup [.int (i : Nat), x]) ∧ ∀ xs, SqT K H a xs → xs[i]? = some x, fun i H => ∃ xs : List V, SqT K H a xs ∧ xs.length = i⟩
/-- the cells at turn i -/
def EnumAt (a e it : Addr) (i : Nat) (h : Heap) : Prop := (∃ old, IsEnum h e it ((i : Nat) : Int) old) ∧ h.IsTupleIter it a i
section
variable {a e it : Addr} {i : Nat} {h : Heap}
theorem EnumAt.ne (st : EnumAt a e it i h) : e ≠ it := fun z => by
  obtain ⟨⟨_, q⟩, o, ho, hc, _⟩ := st
  rw [← z, q] at ho
  cases ho
  exact absurd (show Value.type "enumerate" = Value.type "tuple_iterator" from hc) (by decide)
theorem EnumAt.off {t : Array Value} (st : EnumAt a e it i h) (ht : h.IsTuple a t) : a ≠ it ∧ e ∉ [it, a] := by
  obtain ⟨⟨_, q⟩, o, ho, hc, _⟩ := id st
  obtain ⟨u, hu, uc, _⟩ := ht
  refine ⟨fun z => ?_, fun m => ?_⟩
  · rw [z, ho] at hu; cases hu; rw [uc] at hc; exact absurd hc (by decide)
  · rcases List.mem_cons.mp m with z | z
    · exact st.ne z
    · have z' := List.mem_singleton.mp z
      rw [← z', q] at hu; cases hu; exact absurd (show Value.type "enumerate" = Value.type "tuple" from uc) (by decide)
theorem EnumAt.keep {h' : Heap} (st : EnumAt a e it i h) (k : ∀ b ∈ [e, it], ∀ o, h.get? b = some o → h'.get? b = some o) : EnumAt a e it i h' :=
  let ⟨⟨old, q⟩, r⟩ := st; ⟨⟨old, k e (by simp) _ q⟩, r.at fun o z => k it (by simp) o z⟩
end
theorem turn_enumT {P : Program} {w : World} {K : PySem.W.Frag} {elts : List Expr} {kk : Nat} {tpos : Pos} (a e it : Addr) : Turn P w K (.Tuple elts kk tpos) (IteT K a) [e, it] e (EnumAt a e it) where
  mem := by simp
  obj := fun i h st b hb => by
    obtain ⟨⟨old, q⟩, o, ho, _, hd⟩ := st
    rcases List.mem_cons.mp hb with rfl | hb
    · exact ⟨_, q, fun v z => nomatch z⟩
    · rw [List.mem_singleton.mp hb]; exact ⟨o, ho, fun v z => by rw [hd] at z; cases z⟩
  keep := fun i h h' st k => st.keep k
  item := fun X hP hw hK hc i pins s σ H E I fp st go => by
    subst hP hw hK
    obtain ⟨xs, x, hx, xi⟩ := go
    obtain ⟨its, rv, tp, _⟩ := I.tuple hx
    obtain ⟨off, off2⟩ := st.off tp
    have ne := st.ne
    obtain ⟨u, hu, ru⟩ := rv.get xi
    have lt : i < its.toArray.size := by
      have z := (List.getElem?_eq_some_iff.mp hu).1
      simpa using z
    obtain ⟨⟨old, q⟩, ti⟩ := id st
    have le : e < s.heap.objs.size := Heap.lt_size q
    have li : it < s.heap.objs.size := by obtain ⟨_, z, _⟩ := ti; exact Heap.lt_size z
    refine wpAny_pyNext_enum_itemD (Draws.tuple (A := X.A.in1) (I.ok.hd hc) it a off its.toArray) q ⟨ti, tp⟩ lt ne off2 fun y h1 tk hy out ti1 new sz k1 => ?_
    have yu : y = u := by
      have z : its.toArray[i]? = some u := by simpa using hu
      rw [z] at hy; exact (Option.some.inj hy).symm
    subst yu
    refine ⟨_, rfl, wpAny_letOwnedTupleGo_enum (s := { s with heap := h1, toks := tk + 1 }) out fun h2 q2 sb => ?_⟩
    have new2 : h2.get? s.heap.objs.size = some { cls := .type "tuple", data := .seq #[.int i tk, y] } := (sb.2 _ (Nat.ne_of_gt le)).trans new
    have J := I.turnedNew (t' := tk + 1) (ch := [e, it]) (T := s.heap.objs.size) (ob := .tup [.int (i : Nat), x]) (h' := h2)
      (fun b o hb z => (sb.2 b fun w => hb (by simp [w])).trans (k1 b o (fun w => hb (by simp [w])) (fun w => hb (by simp [w])) z)) fp (Nat.le_refl _)
      ⟨show 2 ≤ sizeLine by decide, [.int i tk, y], .cons ⟨_, rfl⟩ (.cons ru .nil), ⟨_, new2, rfl, _, rfl⟩⟩
    refine ⟨.ref s.heap.objs.size, _, J, rfl, ⟨_, x, rfl, I.hok.fresh (Nat.le_refl _), rfl, fun ys hy => I.tuple_inj hx hy ▸ xi⟩, ⟨⟨y, ?_⟩, ti1.1.at fun o z => (sb.2 it (Ne.symm ne)).trans z⟩, fun b hb => ?_⟩
    · rw [show ((i + 1 : Nat) : Int) = (i : Int) + 1 by omega]; exact q2
    · have lb : b < s.heap.objs.size := by
        rcases List.mem_cons.mp hb with z | z
        · rw [z]; exact le
        · rw [List.mem_singleton.mp z]; exact li
      rw [upd_ne (Nat.ne_of_lt lb)]; exact (fp b hb).1
  done := fun X hP hw hK hc i pins s σ H E I fp st go => by
    subst hP hw hK
    obtain ⟨xs, hx, xi⟩ := go
    obtain ⟨its, rv, tp, _⟩ := I.tuple hx
    obtain ⟨off, off2⟩ := st.off tp
    obtain ⟨⟨old, q⟩, ti⟩ := id st
    have ln : its.toArray.size = i := by
      have z := rv.length
      simp; omega
    obtain ⟨f0, f1, f2, f3, f4, f5⟩ := fp it (by simp)
    exact wpAny_pyNext_enum_endD (Draws.tuple (A := X.A.in1) (I.ok.hd hc) it a off its.toArray) q ⟨ln ▸ ti, tp⟩ fun h' eb => ⟨rfl, I.turned (t' := s.toks) (fun b o hb z => eb b o hb z) f0 f1 f3 f4 f5⟩
  self := fun A i s Q E st h => let ⟨⟨_, q⟩, _⟩ := st; wpAny_pyIter_enum q h
/-- enumerate of a list or of a tuple -/
def iEnumA (K : PySem.W.Frag) (ta : TA) : TI := fun σ H R => ta σ H fun vs H1 => match vs with
  | [.ref a] => (∃ xs, SqL K H1 a xs ∧ R (Ite K a) H1) ∨ (∃ xs, SqT K H1 a xs ∧ R (IteT K a) H1)
  | _ => False
theorem pi_enumA {X : Cx} {e : Expr} {ta : TA} {p pos tpos : Pos} {elts : List Expr} {kk : Nat} (hg : Gl X "enumerate") (hm : X.mg "enumerate" = none) (ha : PA X [e] ta) (hs : starEach [e] X.env = [(false, eval e X.env)] := by rfl) :
    PI X (.Tuple elts kk tpos) (.Call (.Name "enumerate" p) [e] [] pos) (iEnumA X.K ta) where
  run := fun pins s σ H R I h => Call_ (ld_blt I hg hm boot_enumerate (callWith_type1 (thn (ha.run pos pins s σ H _ I h) fun us s1 w => by
    obtain ⟨vs, H1, I1, rv, w⟩ := w
    split at w
    · rename_i a
      obtain ⟨v1, rfl, r1⟩ := vals1 rv
      cases r1
      rcases w with ⟨xs, hx, w⟩ | ⟨xs, hx, w⟩
      · obtain ⟨its, _, l, _⟩ := I1.list hx
        refine call_enumerate_list l.isList fun h' he hit hsz hk => wpAny_pyIter_enum he ⟨_, [s1.heap.objs.size + 1, s1.heap.objs.size], _, _, H1, rfl, I1.kept (t' := s1.toks) hk, turn_enum a _ _, ⟨⟨_, he⟩, hit, Nat.succ_ne_self _⟩, fun b hb => ?_, w⟩
        have le : s1.heap.objs.size ≤ b := by
          rcases List.mem_cons.mp hb with z | z
          · rw [z]; exact Nat.le_succ _
          · rw [List.mem_singleton.mp z]; exact Nat.le_refl _
        exact I1.fpOk le (I1.hok.fresh le)
      · obtain ⟨its, _, tp, _⟩ := I1.tuple hx
        refine call_enum (begins_tuple a its.toArray) tp fun h' he hit hk => wpAny_pyIter_enum he ⟨_, [s1.heap.objs.size + 1, s1.heap.objs.size], _, _, H1, rfl, I1.kept (t' := s1.toks) hk, turn_enumT a _ _, ⟨⟨_, he⟩, ⟨_, hit, rfl, rfl⟩⟩, fun b hb => ?_, w⟩
        have le : s1.heap.objs.size ≤ b := by
          rcases List.mem_cons.mp hb with z | z
          · rw [z]; exact Nat.le_succ _
          · rw [List.mem_singleton.mp z]; exact Nat.le_refl _
        exact I1.fpOk le (I1.hok.fresh le)
    · exact w.elim) hs rfl))
theorem walk_enumT {K : PySem.W.Frag} {a : Addr} {xs : List V} : Walk (IteT K a) xs.length (fun H => SqT K H a xs) (YPair (fun i => some (.int (i : Nat))) (fun i => xs[i]?)) where
  goes := fun i _ hi h => ⟨xs, xs[i], h, List.getElem?_eq_getElem hi⟩
  stops := fun _ h => ⟨xs, h, rfl⟩
  yields := fun i H v H' _ h ⟨T, x, h1, h2, h3, h4⟩ => ⟨T, .int (i : Nat), x, h1, h2, h3, rfl, h4 xs h⟩
section
variable {K : PySem.W.Frag} {g : TG} {tb : TS} {D : Ends} {σ : L2.St} {H : Hp} {tl : TA} {tt : TT} {ty : TE} {vs : List Nat} {Q : VK}
def kFEA (K : PySem.W.Frag) (g : TG) (tb : TS) (D : Ends) (σ : L2.St) : List V → Hp → Prop := fun vs H => tFor (iEnumA K (tAc vs)) g tb D σ H
def kCEA (K : PySem.W.Frag) (g : TG) (tt : TT) (ty : TE) (vs : List Nat) (σ : L2.St) (Q : VK) : List V → Hp → Prop := fun xs H => tLc (iEnumA K (tAc xs)) g tt ty vs σ H Q
theorem w_forEA (h : tl σ H (kFEA K g tb D σ)) : tFor (iEnumA K tl) g tb D σ H := h
theorem w_lcEA (h : tl σ H (kCEA K g tt ty vs σ Q)) : tLc (iEnumA K tl) g tt ty vs σ H Q := h
end
end Rd
/-! LenG: len(o) by an own __len__; == of lists by their items. -/
namespace Rd
open PySem PySem.Spec PyProof.Rows PySem.W L2
def rLenG (C : Addr) (sp : Sp) : List V → Hp → VK → Prop := fun xs H Q => match xs with
  | [.ref a] => ∃ dx fs, H a = some (.ins C dx fs) ∧ sp [.ref a] H (fun v H2 => ∃ n : Int, v = .int n ∧ (0 ≤ n ∧ n < 2 ^ 63) ∧ Q (.int n) H2) E0
  | _ => False
section
variable {X : Cx} {k : Nat} {C : Addr} {ps : List Str} {sp : Sp}
theorem cLenG (G : MtG X.prog X.w X.K X.mg X.base CX0 k C "__len__" ps sp) (hr : Room (k + 1) X.A) : CallR X (.builtin "len") (rLenG C sp) := by
  intro pins s σ H xs us Q I r h
  unfold rLenG at h
  split at h
  · rename_i a
    obtain ⟨dx, fs, e, h⟩ := h
    obtain ⟨v1, rfl, r1⟩ := vals1 r
    cases r1
    obtain ⟨f, fd, m, F, b⟩ := G.ex
    obtain ⟨od, i⟩ := inst_of I e
    obtain ⟨_, fr⟩ := I.fr
    have ln := F.len _ _ _ _ h
    have bd := b s [.ref a] I.kIn (by rw [List.append_nil]; exact ln)
    rw [List.append_nil] at bd
    refine len_K fr I.mod.kin i m.at_ m.fn (wpAny_call (codeAny_mono (F.run X.A.in1 X.stack s H ⟨[.ref a], []⟩ [.ref a] [.ref a] _ E0 hr.in1 I.env0.in1 bd (.cons rfl .nil) h) fun r s' c => ?_))
    have z := came_of I (fun pins H s e s' J w => pass0 pins σ H s e s' J w) c
    cases r with
    | error e => exact z
    | ok fl => cases fl with
      | ret u =>
        obtain ⟨v, H2, I2, ru, n, rfl, hn, q⟩ := z
        obtain ⟨t, rfl⟩ := ru
        exact ⟨hn, .int n, H2, I2.tok _, ⟨_, rfl⟩, q⟩
      | _ => exact (show False from z).elim
  · exact h.elim
end
section
variable {K : PySem.W.Frag} {H : Hp} {Q : VK} {C a dx : Addr} {fs : List (Str × V)} {sp : Sp}
theorem w_lenG (e : H a = some (.ins C dx fs)) (h : sp [.ref a] H (fun v H2 => ∃ n : Int, v = .int n ∧ (0 ≤ n ∧ n < 2 ^ 63) ∧ Q (.int n) H2) E0) : rLenG C sp [.ref a] H Q := ⟨dx, fs, e, h⟩
end
/-! ### == by the items -/
theorem dp_ints {K : PySem.W.Frag} {H : Hp} : ∀ ns : List Int, DpAll K H (ns.map V.int) (ns.map PyData.int)
  | [] => .nil
  | i :: r => .cons (.int i) (dp_ints r)
theorem lay_ints : ∀ ns : List Int, PyData.canLayAll0 (ns.map PyData.int) = true
  | [] => by simp [PyData.canLayAll0]
  | i :: r => by simp only [List.map_cons, PyData.canLayAll0, PyData.canLay0, lay_ints r, Bool.and_self]
theorem depth_ints : ∀ ns : List Int, PyData.depthAll (ns.map PyData.int) = 0
  | [] => by simp [PyData.depthAll]
  | i :: r => by simp only [List.map_cons, PyData.depthAll, PyData.depth, depth_ints r, Nat.max_self]
theorem shaped_ints (ns : List Int) : SeqAt.shaped (.list (ns.map PyData.int)) = true := by
  unfold SeqAt.shaped
  simp [PyData.canLay0, PyData.depth, lay_ints, depth_ints]
theorem shaped_intsT (ns : List Int) : SeqAt.shaped (.tuple (ns.map PyData.int)) = true := by
  unfold SeqAt.shaped
  simp [PyData.canLay0, PyData.depth, lay_ints, depth_ints]
theorem eqv_ints : ∀ ns ms : List Int, PyData.eqvAll (ns.map PyData.int) (ms.map PyData.int) = decide (ns = ms)
  | [], [] => by simp [PyData.eqvAll]
  | [], _ :: _ => by simp [PyData.eqvAll]
  | _ :: _, [] => by simp [PyData.eqvAll]
  | i :: r, j :: t => by
    simp only [List.map_cons, PyData.eqvAll, PyData.eqv, eqv_ints r t]
    rw [Bool.eq_iff_iff]
    simp
/-- plain values, or lists of ints -/
def uEq (K : PySem.W.Frag) : R2 := fun x y H Q => rEq x y H Q ∨ rEqD K x y H Q
def uNe (K : PySem.W.Frag) : R2 := fun x y H Q => rNe x y H Q ∨ rNeD K x y H Q
theorem oEq {X : Cx} {k : Nat} (hr : Room k X.A) : OpR X (compareOp .Eq) (uEq X.K) := OpR.or op_eq (op_eqD hr.units)
theorem oNe {X : Cx} {k : Nat} (hr : Room k X.A) : OpR X (compareOp .NotEq) (uNe X.K) := OpR.or op_ne (op_neD hr.units)
section
variable {K : PySem.W.Frag} {H : Hp} {Q : VK} {a b : Addr} {ns ms : List Int}
theorem w_eqL (ha : H a = some (.lst (ns.map V.int))) (hb : H b = some (.lst (ms.map V.int))) (h : Q (.bl (decide (ns = ms))) H) : uEq K (.ref a) (.ref b) H Q :=
  .inr ⟨_, _, .lst (SqL.of ha) (dp_ints ns), .lst (SqL.of hb) (dp_ints ms), shaped_ints ns, shaped_ints ms, by show Q (.bl (PyData.eqv (.list _) (.list _))) H; rw [PyData.eqv, eqv_ints]; exact h⟩
theorem w_neL (ha : H a = some (.lst (ns.map V.int))) (hb : H b = some (.lst (ms.map V.int))) (h : Q (.bl (!decide (ns = ms))) H) : uNe K (.ref a) (.ref b) H Q :=
  .inr ⟨_, _, .lst (SqL.of ha) (dp_ints ns), .lst (SqL.of hb) (dp_ints ms), shaped_ints ns, shaped_ints ms, by show Q (.bl (!PyData.eqv (.list _) (.list _))) H; rw [PyData.eqv, eqv_ints]; exact h⟩
end
theorem atI_last {ns : List Int} (h : ns ≠ []) : atI (ns.map V.int) (-1) = some (.int (ns.getLastD 0)) := by
  have hp : 0 < ns.length := List.length_pos_iff.mpr h
  unfold atI ixN
  rw [if_neg (by decide), List.length_map, if_pos (by omega)]
  show (ns.map V.int)[_]? = _
  rw [List.getElem?_map, show ((-1 : Int) + ns.length).toNat = ns.length - 1 by omega, List.getElem?_eq_getElem (by omega), List.getLastD_eq_getLast?, List.getLast?_eq_getElem?, List.getElem?_eq_getElem (by omega)]
  rfl
theorem w_ixLast {K : PySem.W.Frag} {H : Hp} {Q : VK} {p : Addr} {ns : List Int} (hp : H p = some (.lst (ns.map V.int))) (hn : ns ≠ []) (h : Q (.int (ns.getLastD 0)) H) : rIx K (.ref p) (.int (-1)) H Q := w_ixL (SqL.of hp) (atI_last hn) h
theorem getLastD_mem : ∀ {ns : List Int}, ns ≠ [] → ns.getLastD 0 ∈ ns
  | [], h => absurd rfl h
  | a :: r, h => by
    rw [List.getLastD_cons, ← List.getLast_eq_getLastD (h := h)]
    exact List.getLast_mem h
/-- a method that may raise -/
theorem pe_mgE {X : Cx} {k : Nat} {C : Addr} {ps : List Str} {sp : Sp} {CX : CXT} {E : XK} {o e : Expr} {es : List Expr} {m : Str} {t : TA} {ta : TE} {pos apos : Pos} {pl : Sem Bool} (G : MtG X.prog X.w X.K X.mg X.base CX k C m ps sp) (hr : Room k X.A) (hx : Passes CX X E) (ho : PE X o ta) (ha : PA X (e :: es) t) (h1 : starEach (e :: es) X.env = (false, eval e X.env) :: starEach es X.env := by rfl) (h2 : (backTo pos (starEach es X.env)).any (·.1) = false := by rfl)
    (h3 : eval (.Call (.Attribute o m apos) (e :: es) [] pos) X.env = (eval o X.env >>= fun ov => standAt apos.atName >>= fun _ => holding [ov] (getMethod ov m pl) >>= fun fx => callWith pos fx.1 fx.2 (backTo pos (starEach (e :: es) X.env)) (backToKw pos (keywordEach [] X.env))) := by rfl) : PE X (.Call (.Attribute o m apos) (e :: es) [] pos) (tMeth C m sp [] E ta t) := by
  obtain ⟨f, fd, mt, F, b⟩ := G.ex
  exact pe_meth ho G.cls mt F hr b .nil hx ha h1 h2 h3
end Rd
/-! MaxD: max(ints, default=d). -/
namespace Rd
open PySem PySem.Spec PyProof.Rows PySem.W L2
def maxDef (d : Int) : List Int → Int
  | [] => d
  | n :: r => r.foldl max n
def rMaxDef (K : PySem.W.Frag) : List V → List V → Hp → VK → Prop := fun xs zs H Q => match xs, zs with
  | [.ref p], [.int d] => ∃ ns : List Int, SqL K H p (ns.map V.int) ∧ Q (.int (maxDef d ns)) H
  | _, _ => False
theorem alike_all (ns : List Int) : AlikeAll (ns.map PyData.int) := by
  refine ⟨fun x hx y hy => ?_, fun x hx => ?_⟩
  · obtain ⟨i, _, rfl⟩ := List.mem_map.mp hx
    obtain ⟨j, _, rfl⟩ := List.mem_map.mp hy
    rfl
  · obtain ⟨i, _, rfl⟩ := List.mem_map.mp hx
    exact fun z => nomatch z
theorem cMaxD {X : Cx} {k : Nat} (hc : X.calm = true) (hr : Room k X.A) : CallRK X (.builtin "max") ["default"] (rMaxDef X.K) := by
  intro pins s σ H xs zs us ws Q I r1 r2 h
  unfold rMaxDef at h
  split at h
  · rename_i p d
    obtain ⟨ns, hs, q⟩ := h
    obtain ⟨u, rfl, ru⟩ := vals1 r1
    obtain ⟨w, rfl, rw'⟩ := vals1 r2
    cases ru
    obtain ⟨its, rv, hl, _⟩ := I.list hs
    obtain ⟨as, ra⟩ := Dp.readsAll I _ _ _ (dp_ints ns) rv
    have un := hr.units
    refine max_list_default (xs := ns.map PyData.int) (I.ok.hd hc) hl.isList (by simpa using ra) (alike_all ns) (by rw [depth_ints]; omega) (fun e h' tk hk => ?_) (fun y ys i v h' tk bs e hv rd hk => ?_)
    · have e2 : ns = [] := List.map_eq_nil_iff.mp e
      subst e2
      exact ⟨.int d, H, I.kept hk, rw', q⟩
    · cases ns with
      | nil => cases e
      | cons n r =>
        cases e
        rw [maxD_ints] at rd
        cases rd
        exact ⟨.int _, H, I.kept hk, ⟨_, rfl⟩, q⟩
  · exact h.elim
def kKw1 (r : List V → List V → Hp → VK → Prop) (tk : TA) (σ : L2.St) (Q : VK) : List V → Hp → Prop := fun vs H => tCKw r (tAc vs) tk σ H Q
def kKw2 (r : List V → List V → Hp → VK → Prop) (vs : List V) (Q : VK) : List V → Hp → Prop := fun zs H => r vs zs H Q
section
variable {r : List V → List V → Hp → VK → Prop} {t tk : TA} {σ : L2.St} {H : Hp} {Q : VK} {vs zs : List V} {K : PySem.W.Frag} {p : Addr} {d : Int} {ns : List Int}
theorem w_ckw (h : t σ H (kKw1 r tk σ Q)) : tCKw r t tk σ H Q := h
theorem w_kkw1 (h : tk σ H (kKw2 r vs Q)) : kKw1 r tk σ Q vs H := h
theorem w_kkw2 (h : r vs zs H Q) : kKw2 r vs Q zs H := h
theorem w_maxD (hp : H p = some (.lst (ns.map V.int))) (h : Q (.int (maxDef d ns)) H) : rMaxDef K [.ref p] [.int d] H Q := ⟨ns, SqL.of hp, h⟩
end
theorem w_sum {K : PySem.W.Frag} {H : Hp} {Q : VK} {p : Addr} {ns : List Int} (hp : H p = some (.lst (ns.map V.int))) (h : Q (.int ns.sum) H) : rSum K [.ref p] H Q := ⟨p, ns, rfl, SqL.of hp, h⟩
theorem ref_at {rs : List Addr} {j : Nat} {x : V} (h : (rs.map V.ref)[j]? = some x) : ∃ r, rs[j]? = some r ∧ x = .ref r := by
  rw [List.getElem?_map] at h
  cases e : rs[j]? with
  | none => rw [e] at h; cases h
  | some r => rw [e] at h; exact ⟨r, rfl, (Option.some.inj h).symm⟩
theorem int_is {ns : List Int} {i : Nat} {x : V} (hi : i < ns.length) (h : (ns.map V.int)[i]? = some x) : x = .int (ns.getD i 0) := by
  rw [List.getElem?_map, List.getElem?_eq_getElem hi] at h
  rw [List.getD_eq_getElem?_getD, List.getElem?_eq_getElem hi]
  exact (Option.some.inj h).symm
theorem in_ints {x : Int} {ns : List Int} : inV (.int x) (ns.map V.int) = decide (x ∈ ns) := by
  rw [Bool.eq_iff_iff]
  have e : ∀ a : Int, eqV (.int a) (.int x) = (a == x) := fun a => rfl
  simp [inV, e]
theorem flat_ints (ns : List Int) : (ns.map V.int).all flatV = true := by
  simp [flatV]
theorem w_inI {K : PySem.W.Frag} {H : Hp} {Q : VK} {p : Addr} {x : Int} {ns : List Int} (hp : H p = some (.lst (ns.map V.int))) (h : Q (.bl (decide (x ∈ ns))) H) : rIn K false (.int x) (.ref p) H Q :=
  ⟨p, _, rfl, .inl (SqL.of hp), rfl, flat_ints ns, by rw [if_neg (by decide), in_ints]; exact h⟩
end Rd
/-! InK: the rules whose reading names the written part, with that part given: for the inside of a comprehension. -/
namespace Rd
open PySem PySem.Spec PyProof.Rows L2
section
variable {X : Cx} {K : PySem.W.Frag}
theorem CallR.toK {f : Value} {r : PySem.W.Frag → List V → Hp → VK → Prop} (h : CallR X f (r X.K)) (e : X.K = K) : CallR X f (r K) := e ▸ h
theorem OpR.toK {o : Value → Value → Sem Value} {r : PySem.W.Frag → R2} (h : OpR X o (r X.K)) (e : X.K = K) : OpR X o (r K) := e ▸ h
theorem ix_seqK (K : PySem.W.Frag) (e : X.K = K) : IxR X (rIx K) := e ▸ ix_seq
theorem sl_listK (K : PySem.W.Frag) (e : X.K = K) : SlR X (rSlL K) := e ▸ sl_list
theorem pe_fldK {o : Expr} {ta : TE} {f : Str} {pos : Pos} (K : PySem.W.Frag) (e : X.K = K) (he : PE X o ta) (hb : attributeBase o f X.env (eval o X.env) = eval o X.env) : PE X (.Attribute o f pos) (tFld K ta f) := e ▸ pe_fld he hb
theorem pg_tupK {es : List Expr} {k : Nat} {t : TGs} {n : Nat} {pos : Pos} (K : PySem.W.Frag) (e : X.K = K) (hc : X.calm = true) (h : PGs X es t) (hn : (assignEach es X.env).length = n := by rfl) (hst : (assignEach es X.env).findIdx? (·.1) = none := by rfl) : PG X (.Tuple es k pos) (gTup K n t) := e ▸ pg_tup hc h hn hst
end
end Rd
/-! CatchM: try with several clauses `except C as e`; calls of defs and methods inside a try. -/
namespace Rd
open PySem PySem.Spec PyProof.Rows L2
/-- a clause: what it takes, the slot of its name, its suite -/
structure Clause where
  c : Value
  i : Nat
  ts : TS
def wCatches (K : PySem.W.Frag) : List Clause → Ends → WX
  | [], _ => fun _ _ _ _ => False
  | u :: r, D => fun cls d σ H => wCatch K u.c u.i u.ts D cls d σ H ∨ (PySem.W.exmOne K cls u.c = some false ∧ wCatches K r D cls d σ H)
inductive PHs (X : Cx) : List ExceptHandler → List Clause → Prop
  | nil : PHs X [] []
  | cons {x n : Str} {c : Value} {i : Nat} {suite : List Stmt} {b0 : Stmt} {np pos : Pos} {ts : TS} {hs : List ExceptHandler} {cs : List Clause} (hi : X.N[i]? = some n) (hln : X.env.kindOf n = some .local) (hc : Names X x c) (hsu : ∀ (a : Addr) (pn : List (Addr × Obj)), PSs (X.suite a pn) (b0 :: suite) ts) (hr : PHs X hs cs) : PHs X (.ExceptHandler (some (.Name x np)) (some n) (b0 :: suite) pos :: hs) (⟨c, i, ts⟩ :: cs)
section
variable {X : Cx}
theorem clauses_take {pins : List (Addr × Obj)} {σ : L2.St} {H : Hp} {D : Ends} {s' : Shared} {h3 B : Heap} {a : Addr} {cls : Value} {d : Option Addr} (ok : X.Ok) (hN : X.N.Nodup) (fl : HandSPX.FlyingZ B (X.env :: X.outer) a (Zc cls d) h3) (al : Alone X pins a) (na : H a = none)
    (on : ∀ h, HandSPX.FlyingZ B (X.env :: X.outer) a (Zc cls d) h → h3.UpToSlots h → L2.Inv X pins σ H { s' with heap := h }) {hs : List ExceptHandler} {cs : List Clause} (p : PHs X hs cs) (q : wCatches X.K cs D cls d σ H) :
    wpAny (model X.prog X.w) X.A (handleBy (.ref a) X.env hs) (SP X pins D) X.xe { s' with heap := h3 } := by
  induction p with
  | nil => exact q.elim
  | cons hi hln hc hsu _ ih =>
    rcases q with ⟨hm, q⟩ | ⟨hm, q⟩
    · exact clause_takes ok hN hi hln hc hm hsu fl al na on (q a na)
    · have J := on h3 fl (Heap.UpToSlots.refl _)
      obtain ⟨o, fs, e, z, _⟩ := fl.there
      have look : PySem.W.Looks (model X.prog X.w) h3 (typeOf (.ref a)) cls := fun _ _ _ _ k w => wpAny_typeOf_ref (k _ _ e) (z.1 ▸ w)
      have S := Inv.intoSuite (a := a) J
      refine wpAny_handleBy_cons (codeAny_handlers_test ?_) (fun w => by cases w)
      obtain ⟨g1, g2, g3⟩ := hc
      rcases g3 with g3 | ⟨g3, g4, g5⟩
      · exact ld_glob S g1 g3 ((PySem.W.exm_one J.kIn look hm).here (ih q)) g2
      · exact ld_blt S g1 g3 g4 ((PySem.W.exm_one J.kIn look hm).here (ih q)) g5 g2
theorem ps_catches {body : List Stmt} {hds : List ExceptHandler} {cs : List Clause} {pos : Pos} {tb : WX → TS} (hs : X.stack = X.env :: X.outer) (hf : X.env.frame = some X.env.locals) (hex : X.ex = []) (hN : X.N.Nodup)
    (hb : ∀ (W : WX) (pn : List (Addr × Obj)) (xe : Value → Shared → Prop), Takes (X.tr pn xe) W → PassesOwn (model X.prog X.w) X.A X.env xe → PSs (X.tr pn xe) body (tb W)) (hh : PHs X hds cs) (hne : hds ≠ [] := by exact List.cons_ne_nil _ _) :
    PS X (.Try body hds [] [] pos) (fun D σ H => tb (wCatches X.K cs D) D σ H) where
  run := fun pins s σ H D I h => by
    have ok := I.ok
    have fr : X.A.frames = some (X.env :: X.outer) := ok.frames.trans (congrArg some hs)
    obtain ⟨h0, hr, rfl⟩ := List.exists_cons_of_ne_nil hne
    refine wpAny_Try_except (wpAny_mono ((hb (wCatches X.K cs D) (X.pn ++ pins) _ (fun u s' xx => ?_) PassesOwn.looking).run [] s σ H D (I.toTry _) h) (fun f s1 w => ?_) fun _ _ w => w)
    · obtain ⟨a, B, sI, p1, σ1, H1, cls, d, rfl, J1, nb, up, sky, na, os, ag, q⟩ := xx
      have J : L2.Inv X pins σ1 H1 sI := J1.ofTry ok
      refine Sky.land Zc.steady fr hf (hs ▸ sky) fun h3 fl up3 => ?_
      obtain ⟨o, fs, e, _, qd⟩ := fl.there
      exact clauses_take ok hN fl (alone_of hs hf hex J nb fl.2.1 fl.2.2.1 e qd) na (fun h4 fl4 up4 => J.landed nb fl4.1 ((up.trans up3).trans up4) os ag) hh q
    · have w' : SP X pins D f s1 := sp_map (fun σ H J => J.ofTry ok) w
      cases f with
      | next => exact wpAny_execs_nil w'
      | ret u => exact w'
      | brk => exact w'
      | cont => exact w'
end
/-! ### calls inside a try -/
def tMethS (C : Addr) (m : Str) (sp : Sp) (E : L2.St → XK) (ta : TE) (t : TA) : TE := fun σ H Q => tMeth C m sp [] (E σ) ta t σ H Q
section
variable {X : Cx} {CX : CXT} {k : Nat} {C : Addr} {x m : Str} {ps : List Str} {sp : Sp} {E : L2.St → XK} {o e : Expr} {es : List Expr} {ta : TE} {t : TA} {p pos apos : Pos} {pl : Sem Bool}
theorem pe_cgS (F : FnG X.prog X.w X.K X.mg X.base CX k x ps sp) (hr : Room k X.A) (hg : Gl X x) (hx : ∀ σ, PassesAt CX X σ (E σ)) (ha : PA X (e :: es) t) (h1 : (x == ("__debug__" : Str)) = false := by decide) (h2 : starEach (e :: es) X.env = (false, eval e X.env) :: starEach es X.env := by rfl) (h3 : (backTo pos (starEach es X.env)).any (·.1) = false := by rfl) : PE X (.Call (.Name x p) (e :: es) [] pos) (tCallS sp E t) := by
  obtain ⟨f, fd, a, b, c, d⟩ := F.ex
  exact pe_callS c hr hg a b d hx ha h1 h2 h3
theorem pe_mgS (G : MtG X.prog X.w X.K X.mg X.base CX k C m ps sp) (hr : Room k X.A) (hx : ∀ σ, PassesAt CX X σ (E σ)) (ho : PE X o ta) (ha : PA X (e :: es) t) (h1 : starEach (e :: es) X.env = (false, eval e X.env) :: starEach es X.env := by rfl) (h2 : (backTo pos (starEach es X.env)).any (·.1) = false := by rfl)
    (h3 : eval (.Call (.Attribute o m apos) (e :: es) [] pos) X.env = (eval o X.env >>= fun ov => standAt apos.atName >>= fun _ => holding [ov] (getMethod ov m pl) >>= fun fx => callWith pos fx.1 fx.2 (backTo pos (starEach (e :: es) X.env)) (backToKw pos (keywordEach [] X.env))) := by rfl) : PE X (.Call (.Attribute o m apos) (e :: es) [] pos) (tMethS C m sp E ta t) where
  run := fun pins s σ H Q I h => by
    obtain ⟨f, fd, mt, F, b⟩ := G.ex
    refine PySem.W.methodCall_KW (pl := pl) (wpAny_mono (ho.run pins s σ H _ I h) (fun u s1 z => ?_) fun _ _ w => w) h3
    obtain ⟨y, H1, I1, ry, a, dx, fs, rfl, ea, nl, q⟩ := z
    cases (show u = Value.ref a from ry)
    have room := I.ok.mod.kin
    have arg : wpAny (model X.prog X.w) X.A (spliced (backTo pos (starEach (e :: es) X.env))) (AP X pins σ _) X.xe s1 := ha.run pos pins s1 σ H1 _ I1 q
    refine getmeth_ok I1 ea G.cls mt nl (PySem.W.callWith_K (first := [.ref a]) (h₀ := X.base) room mt.kp (wpAny_mono arg (fun us s2 z => ?_) fun _ _ w => w) h1 h2)
    obtain ⟨vs, H2, I2, rv, q2⟩ := z
    rw [List.append_nil] at q2
    exact ⟨I2.kIn, run_fnS (us := .ref a :: us) (vs := .ref a :: vs) F hr b (hx σ) I2 (.cons ry rv) q2⟩
end
section
variable {C : Addr} {sp : Sp} {E : L2.St → XK} {ta : TE} {tl : TA} {σ : L2.St} {H : Hp} {Q : VK} {q : Str}
theorem w_callS (h : tl σ H (kCall sp [] (E σ) Q)) : tCallS sp E tl σ H Q := by
  have e : kCall sp [] (E σ) Q = fun vs H1 => sp vs H1 Q (E σ) := funext fun vs => funext fun H1 => by
    show sp (vs ++ []) H1 Q (E σ) = _
    rw [List.append_nil]
  rw [e] at h; exact h
theorem w_methS (h : ta σ H (kMeth C q sp [] (E σ) tl σ Q)) : tMethS C q sp E ta tl σ H Q := h
theorem w_c1 {K : PySem.W.Frag} {u : Clause} {r : List Clause} {D : Ends} {cls : Value} {d : Option Addr} (hm : PySem.W.exmOne K cls u.c = some true) (h : ∀ a, H a = none → u.ts (unbound D u.i) (σ.set u.i (some (.ref a))) (upd H a (XcO cls d a))) : wCatches K (u :: r) D cls d σ H := .inl ⟨hm, h⟩
theorem w_c2 {K : PySem.W.Frag} {u : Clause} {r : List Clause} {D : Ends} {cls : Value} {d : Option Addr} (hm : PySem.W.exmOne K cls u.c = some false) (h : wCatches K r D cls d σ H) : wCatches K (u :: r) D cls d σ H := .inr ⟨hm, h⟩
end
end Rd
/-! Auto: steps that hand on the next heap by a name, with what is known of it. -/
namespace Rd
open PySem PySem.Spec PyProof.Rows L2
def spIsInt : Sp := fun vs H Q _ => ∃ i : Int, vs = [.int i] ∧ Q (.bl true) H
section
variable {K : PySem.W.Frag} {H H' : Hp} {Q : VK} {E : XK} {xs ys : List V} {p q a D d : Addr} {i : Int} {fs : Option (List (Str × V))}
theorem use_isint (h : Q (.bl true) H) : spIsInt [.int i] H Q E := ⟨i, rfl, h⟩
theorem n_klst (hl : xs.length ≤ sizeLine) (h : ∀ (l : Addr) (H' : Hp), H l = none → Same H H' → H' l = some (.lst xs) → Q (.ref l) H') : kLst Q xs H := w_klst hl fun p hp => h p _ hp (same_new hp) upd_same
theorem n_ktup (hl : xs.length ≤ sizeLine) (h : ∀ (l : Addr) (H' : Hp), H l = none → Same H H' → H' l = some (.tup xs) → Q (.ref l) H') : kTup Q xs H := w_ktup hl fun p hp => h p _ hp (same_new hp) upd_same
theorem n_addL (h1 : H p = some (.lst xs)) (h2 : H q = some (.lst ys)) (hl : xs.length + ys.length ≤ sizeLine) (h : ∀ (l : Addr) (H' : Hp), H l = none → Same H H' → H' l = some (.lst (xs ++ ys)) → Q (.ref l) H') : uAdd (.ref p) (.ref q) H Q := w_addL h1 h2 hl fun l hn => h l _ hn (same_new hn) upd_same
theorem n_listL (hs : H p = some (.lst ys)) (h : ∀ (l : Addr) (H' : Hp), H l = none → Same H H' → H' l = some (.lst ys) → Q (.ref l) H') : rList K [.ref p] H Q := w_listL (SqL.of hs) fun l hn => h l _ hn (same_new hn) upd_same
theorem n_listT (hs : H p = some (.tup ys)) (h : ∀ (l : Addr) (H' : Hp), H l = none → Same H H' → H' l = some (.lst ys) → Q (.ref l) H') : rList K [.ref p] H Q := w_listT (SqT.of hs) fun l hn => h l _ hn (same_new hn) upd_same
theorem n_tupL (hs : H p = some (.lst ys)) (h : ∀ (l : Addr) (H' : Hp), H l = none → Same H H' → H' l = some (.tup ys) → Q (.ref l) H') : rTuple K [.ref p] H Q := w_tupL (SqL.of hs) fun l hn => h l _ hn (same_new hn) upd_same
theorem n_tupT (hs : H p = some (.tup ys)) (h : Q (.ref p) H) : rTuple K [.ref p] H Q := w_tupT (SqT.of hs) h
theorem XcAt.same (s : Same H H') (h : XcAt H a D fs) : XcAt H' a D fs := h.keep s
theorem PoolAt.same (s : Same H H') (h : PoolAt H p) : PoolAt H' p := h.keep s
theorem pool_drawn (h : Drawn p H H') : PoolAt H' p := h.pool
theorem ne_pool (hp : PoolAt H p) (hl : H q = none) : q ≠ p := (Drawn.refl hp).ne hl
theorem ne_lst (h1 : H p = some (.lst xs)) (h2 : H q = some (.tup ys)) : p ≠ q := fun e => by rw [e, h2] at h1; cases h1
/-- a new thing changed again -/
theorem same_put {o : HO} (s : Same H H') (hn : H p = none) : Same H (upd H' p o) := fun b u hb => by rw [upd_ne (ne_of_none hb hn)]; exact s b u hb
theorem xmade (hd : H d = none) {l : List (Str × V)} {C : Addr} (na : upd H d (.xd l) a = none) : Same H (upd (upd H d (.xd l)) a (XcO (.ref C) (some d) a)) ∧ XcAt (upd (upd H d (.xd l)) a (XcO (.ref C) (some d) a)) a C (some l) := by
  have ad : d ≠ a := fun e => by rw [← e, upd_same] at na; cases na
  exact ⟨same_put (same_new hd) (by rw [upd_ne (Ne.symm ad)] at na; exact na), d, upd_same, by rw [upd_ne ad, upd_same]⟩
theorem n_caught {u : Clause} {r : List Clause} {D : Ends} {C : Addr} {l : List (Str × V)} {σ : L2.St} (hd : H d = none) (hm : PySem.W.exmOne K (.ref C) u.c = some true) (h : ∀ (a : Addr) (H2 : Hp), H a = none → Same H H2 → XcAt H2 a C (some l) → u.ts (unbound D u.i) (σ.set u.i (some (.ref a))) H2) : wCatches K (u :: r) D (.ref C) (some d) σ (upd H d (.xd l)) :=
  w_c1 hm fun a na => let ⟨s, x⟩ := xmade hd na; h a _ (by
    have ad : a ≠ d := fun e => by rw [e, upd_same] at na; cases na
    rw [upd_ne ad] at na; exact na) s x
end
/-! ### exceptions by K given ahead -/
theorem pe_xkK {X : Cx} {e : Expr} {te : TE} {f : Str} {pos : Pos} (K : PySem.W.Frag) (e1 : X.K = K) (he : PE X e te) (hb : attributeBase e f X.env (eval e X.env) = eval e X.env := by rfl) : PE X (.Attribute e f pos) (tXk K f te) := e1 ▸ pe_xk he hb
/-! ### methods without arguments -/
section
variable {X : Cx} {CX : CXT} {k : Nat} {C : Addr} {m : Str} {ps : List Str} {sp : Sp} {E : XK} {o : Expr} {ta : TE} {pos apos : Pos} {pl : Sem Bool}
theorem pe_mgE0 (G : MtG X.prog X.w X.K X.mg X.base CX k C m ps sp) (hr : Room k X.A) (hx : Passes CX X E) (ho : PE X o ta)
    (h3 : eval (.Call (.Attribute o m apos) [] [] pos) X.env = (eval o X.env >>= fun ov => standAt apos.atName >>= fun _ => holding [ov] (getMethod ov m pl) >>= fun fx => callWith pos fx.1 fx.2 (backTo pos (starEach [] X.env)) (backToKw pos (keywordEach [] X.env))) := by rfl) : PE X (.Call (.Attribute o m apos) [] [] pos) (tMeth C m sp [] E ta tNil) := by
  obtain ⟨f, fd, mt, F, b⟩ := G.ex
  exact pe_meth0 ho G.cls mt F hr b .nil hx h3
theorem pe_mg0 (G : MtG X.prog X.w X.K X.mg X.base CX0 k C m ps sp) (hr : Room k X.A) (ho : PE X o ta)
    (h3 : eval (.Call (.Attribute o m apos) [] [] pos) X.env = (eval o X.env >>= fun ov => standAt apos.atName >>= fun _ => holding [ov] (getMethod ov m pl) >>= fun fx => callWith pos fx.1 fx.2 (backTo pos (starEach [] X.env)) (backToKw pos (keywordEach [] X.env))) := by rfl) : PE X (.Call (.Attribute o m apos) [] [] pos) (tMeth C m sp [] E0 ta tNil) := pe_mgE0 G hr pass0 ho h3
end
end Rd
/-! Auto2: list(range(a, b)), slices, == of plain lists with []. -/
namespace Rd
open PySem PySem.Spec PyProof.Rows L2
def rg (a b : Int) : List Int := (List.range (b - a).toNat).map fun i => a + (i : Nat)
theorem rgV_eq (a b : Int) : rgV a b = (rg a b).map V.int := by unfold rgV rg; rw [List.map_map]; rfl
theorem rg_len {a b : Int} : (rg a b).length = (b - a).toNat := by unfold rg; rw [List.length_map, List.length_range]
theorem rg_at {a b : Int} {i : Nat} (h : i < (b - a).toNat) : (rg a b).getD i 0 = a + i := by
  unfold rg
  rw [List.getD_eq_getElem?_getD, List.getElem?_map, List.getElem?_range h]; rfl
theorem rg_mem {a b x : Int} (h : x ∈ rg a b) : a ≤ x ∧ x < b := by
  unfold rg at h
  obtain ⟨i, hi, e⟩ := List.mem_map.mp h
  have := List.mem_range.mp hi
  omega
def kRg1 (tb : TE) (σ : L2.St) (Q : VK) : VK := fun x H => tLstRg (tRg2 (tC x) tb) σ H Q
def kRg2 (x : V) (Q : VK) : VK := fun y H => tLstRg (tRg2 (tC x) (tC y)) [] H Q
def kRg0 (Q : VK) : VK := fun y H => tLstRg (tRg1 (tC y)) [] H Q
def kSl1 (r : V → Option Int → Option Int → Hp → VK → Prop) (tl th : TO) (σ : L2.St) (Q : VK) : VK := fun x H => tSl r (tC x) tl th σ H Q
def kSl2 (r : V → Option Int → Option Int → Hp → VK → Prop) (x : V) (th : TO) (σ : L2.St) (Q : VK) : VK := fun y H => tSl r (tC x) (tPart (tC y)) th σ H Q
def kSl3 (r : V → Option Int → Option Int → Hp → VK → Prop) (x : V) (l : Option Int) (Q : VK) : VK := fun y H => ∃ i, y = .int i ∧ r x l (some i) H Q
section
variable {K : PySem.W.Frag} {σ : L2.St} {H : Hp} {Q : VK} {te ta tb : TE} {tl th : TO} {x y : V} {i j : Int} {l : Option Int} {a p : Addr} {xs : List V} {r : V → Option Int → Option Int → Hp → VK → Prop}
theorem w_lrg (h : ta σ H (kRg1 tb σ Q)) : tLstRg (tRg2 ta tb) σ H Q := h
theorem w_lrg0 (h : ta σ H (kRg0 Q)) : tLstRg (tRg1 ta) σ H Q := h
theorem w_krg1 (h : tb σ H (kRg2 x Q)) : kRg1 tb σ Q x H := h
theorem n_krg2 (ok : RgOk i j) (h : ∀ (l : Addr) (H' : Hp), H l = none → Same H H' → H' l = some (.lst ((rg i j).map V.int)) → Q (.ref l) H') : kRg2 (.int i) Q (.int j) H :=
  ⟨i, j, rfl, rfl, ok, fun q hq => h q _ hq (same_new hq) (by rw [upd_same, rgV_eq])⟩
theorem n_krg0 (ok : RgOk 0 j) (h : ∀ (l : Addr) (H' : Hp), H l = none → Same H H' → H' l = some (.lst ((rg 0 j).map V.int)) → Q (.ref l) H') : kRg0 Q (.int j) H :=
  ⟨j, rfl, ok, fun q hq => h q _ hq (same_new hq) (by rw [upd_same, rgV_eq])⟩
theorem w_sl (h : te σ H (kSl1 r tl th σ Q)) : tSl r te tl th σ H Q := h
theorem w_sl_u (h : te σ H (kSl3 r x none Q)) : kSl1 r tNoPart (tPart te) σ Q x H := h
theorem w_sl_l (h : te σ H (kSl2 r x th σ Q)) : kSl1 r (tPart te) th σ Q x H := h
theorem w_sl_ln (h : r x (some i) none H Q) : kSl2 r x tNoPart σ Q (.int i) H := ⟨i, rfl, h⟩
theorem w_sl_lu (h : te σ H (kSl3 r x (some i) Q)) : kSl2 r x (tPart te) σ Q (.int i) H := ⟨i, rfl, h⟩
theorem w_sl3 (h : r x l (some i) H Q) : kSl3 r x l Q (.int i) H := ⟨i, rfl, h⟩
theorem n_slL {lo hi : Option Int} (hs : H p = some (.lst xs)) (h : ∀ (l : Addr) (H' : Hp), H l = none → Same H H' → H' l = some (.lst (cutV xs lo hi)) → Q (.ref l) H') : rSlL K (.ref p) lo hi H Q := ⟨p, xs, rfl, SqL.of hs, fun q hq => h q _ hq (same_new hq) upd_same⟩
end
theorem cut_take {xs : List V} {k : Int} (h : 0 ≤ k) : cutV xs none (some k) = xs.take k.toNat := by
  have e : HT.sIx xs.length xs.length (some k) = min k.toNat xs.length := if_neg (by omega)
  unfold cutV
  rw [e, HT.sIx_none, List.drop_zero, Nat.sub_zero]
  by_cases c : xs.length ≤ k.toNat
  · rw [List.take_of_length_le (by omega), List.take_of_length_le c]
  · rw [show min k.toNat xs.length = k.toNat by omega]
theorem cut_drop {xs : List V} {k : Int} (h : 0 ≤ k) : cutV xs (some k) none = xs.drop k.toNat := by
  have e : HT.sIx xs.length 0 (some k) = min k.toNat xs.length := if_neg (by omega)
  unfold cutV
  rw [e, HT.sIx_none]
  by_cases c : xs.length ≤ k.toNat
  · rw [List.drop_of_length_le (by omega), List.drop_of_length_le c, List.take_nil]
  · rw [show min k.toNat xs.length = k.toNat by omega, List.take_of_length_le (by rw [List.length_drop]; exact Nat.le_refl _)]
theorem cut_mid {xs : List V} {j k : Int} (h : 0 ≤ j) (h2 : 0 ≤ k) : cutV xs (some j) (some k) = (xs.drop j.toNat).take (k.toNat - j.toNat) := by
  have e : HT.sIx xs.length 0 (some j) = min j.toNat xs.length := if_neg (by omega)
  have f : HT.sIx xs.length xs.length (some k) = min k.toNat xs.length := if_neg (by omega)
  unfold cutV
  rw [e, f]
  by_cases c : xs.length ≤ j.toNat
  · rw [List.drop_of_length_le (by omega), List.drop_of_length_le c, List.take_nil, List.take_nil]
  · rw [show min j.toNat xs.length = j.toNat by omega]
    by_cases d : xs.length ≤ k.toNat
    · rw [List.take_of_length_le (by rw [List.length_drop]; omega), List.take_of_length_le (by rw [List.length_drop]; omega)]
    · rw [show min k.toNat xs.length = k.toNat by omega]
/-- plain items that == can tell -/
def Flat : V → Prop
  | .non => True
  | .bl _ => True
  | .int _ => True
  | .str s => PyData.strOk s = true
  | _ => False
theorem Flat.plain : ∀ {x : V}, Flat x → Plain x
  | .non, _ => trivial
  | .bl _, _ => trivial
  | .int _, _ => trivial
  | .str _, _ => trivial
/-! ### == of a plain list with [] -/
def plD : V → PyData
  | .non => .none
  | .bl b => .bool b
  | .int i => .int i
  | .str s => .str s
  | _ => .none
theorem dp_plain {K : PySem.W.Frag} {H : Hp} : ∀ {xs : List V}, (∀ x ∈ xs, Flat x) → DpAll K H xs (xs.map plD)
  | [], _ => .nil
  | x :: r, h => by
    refine .cons ?_ (dp_plain fun y hy => h y (List.mem_cons_of_mem _ hy))
    have hx := h x List.mem_cons_self
    cases x with
    | non => exact .non
    | bl b => exact .bl b
    | int i => exact .int i
    | str s => exact .str s
    | _ => exact hx.elim
theorem lay_plain : ∀ {xs : List V}, (∀ x ∈ xs, Flat x) → PyData.canLayAll0 (xs.map plD) = true ∧ PyData.depthAll (xs.map plD) = 0
  | [], _ => by simp [PyData.canLayAll0, PyData.depthAll]
  | x :: r, h => by
    have ih := lay_plain fun y hy => h y (List.mem_cons_of_mem _ hy)
    have hx := h x List.mem_cons_self
    have e : PyData.canLay0 (plD x) = true ∧ PyData.depth (plD x) = 0 := by
      cases x with
      | non => simp [plD, PyData.canLay0, PyData.depth]
      | bl b => simp [plD, PyData.canLay0, PyData.depth]
      | int i => simp [plD, PyData.canLay0, PyData.depth]
      | str s => simp only [plD, PyData.canLay0, PyData.depth, and_true]; exact hx
      | _ => exact hx.elim
    simp only [List.map_cons, PyData.canLayAll0, PyData.depthAll, ih.1, ih.2, e.1, e.2, Bool.and_self, Nat.max_self, and_self]
theorem shaped_plain {xs : List V} (h : ∀ x ∈ xs, Flat x) : SeqAt.shaped (.list (xs.map plD)) = true := by
  unfold SeqAt.shaped
  simp [PyData.canLay0, PyData.depth, lay_plain h]
section
variable {K : PySem.W.Frag} {H : Hp} {Q : VK} {a b : Addr} {xs : List V}
theorem eqv_none (h : ∀ x ∈ xs, Flat x) : PyData.eqvAll (xs.map plD) [] = decide (xs = []) := by
  cases xs <;> simp [PyData.eqvAll]
theorem w_neE (h : ∀ x ∈ xs, Flat x) (ha : H a = some (.lst xs)) (hb : H b = some (.lst [])) (q : Q (.bl (!decide (xs = []))) H) : uNe K (.ref a) (.ref b) H Q :=
  .inr ⟨_, _, .lst (SqL.of ha) (dp_plain h), .lst (SqL.of hb) .nil, shaped_plain h, shaped_ints [], by show Q (.bl (!PyData.eqv (.list _) (.list _))) H; rw [PyData.eqv, eqv_none h]; exact q⟩
theorem w_eqE (h : ∀ x ∈ xs, Flat x) (ha : H a = some (.lst xs)) (hb : H b = some (.lst [])) (q : Q (.bl (decide (xs = []))) H) : uEq K (.ref a) (.ref b) H Q :=
  .inr ⟨_, _, .lst (SqL.of ha) (dp_plain h), .lst (SqL.of hb) .nil, shaped_plain h, shaped_ints [], by show Q (.bl (PyData.eqv (.list _) (.list _))) H; rw [PyData.eqv, eqv_none h]; exact q⟩
end
/-! ### an item of some ints; an item stored -/
theorem ixN_of {n : Nat} {k : Int} (h0 : 0 ≤ k) (h1 : k < n) : ixN n k = some k.toNat := by
  unfold ixN
  rw [if_pos h0, if_pos (by omega)]
section
variable {K : PySem.W.Frag} {H : Hp} {Q : VK} {p : Addr} {xs : List V} {ns : List Int} {i x : Int} {σ : L2.St} {nx : L2.St → Hp → Prop}
theorem w_ixAny (hp : H p = some (.lst xs)) (h0 : 0 ≤ i) (h1 : i < xs.length) (hi : ∀ x ∈ xs, ∃ c : Int, x = .int c) (h : ∀ c : Int, Q (.int c) H) : rIx K (.ref p) (.int i) H Q := by
  have hx : xs[i.toNat]? = some (xs[i.toNat]'(by omega)) := List.getElem?_eq_getElem (by omega)
  obtain ⟨c, e⟩ := hi _ (List.mem_of_getElem? hx)
  refine w_ixL (SqL.of hp) (atI_of h0 hx) ?_
  rw [e]; exact h c
theorem n_ksubM (hp : H p = some (.lst (ns.map V.int))) (h0 : 0 ≤ i) (h1 : i < ns.length) (h : nx σ (upd H p (.lst ((ns.set i.toNat x).map V.int)))) : kSub2 rSetL (.ref p) (.int x) σ nx (.int i) H :=
  w_ksubL hp (by rw [List.length_map]; exact ixN_of h0 h1) (by rw [← List.map_set]; exact h)
end
/-- [told, got] twice -/
theorem alike_pair {H : Hp} {d : Nat} {a a' t t' : Addr} {b : V} {xs : List V} (ha : H a = some (.lst [.ref t, b])) (ha' : H a' = some (.lst [.ref t', b])) (ht : H t = some (.lst xs)) (ht' : H t' = some (.lst xs)) (hx : ∀ x ∈ xs, Plain x) (hb : Plain b) (hl : xs.length ≤ 1000000) : Alike H (d + 3) (.ref a) (.ref a') :=
  alike_lst ha ha' rfl (Nat.le_of_ble_eq_true rfl) fun i x y hx' hy => match i with
    | 0 => by cases hx'; cases hy; exact alike_plst ht ht' hl hx
    | 1 => by cases hx'; cases hy; exact alike_plain hb
    | _ + 2 => by cases hx'
theorem w_cut {t u : TS} {nx bk ct : L2.St → Hp → Prop} {rt : VK} {σ : L2.St} {H : Hp} (Mid : L2.St → Hp → Prop) (h1 : t ⟨Mid, rt, bk, ct⟩ σ H) (h2 : ∀ σ' H', Mid σ' H' → u ⟨nx, rt, bk, ct⟩ σ' H') : C8.tCut t u ⟨nx, rt, bk, ct⟩ σ H := ⟨Mid, h1, h2⟩
/-! ### K given ahead -/
theorem pg_unlK {X : Cx} {pos : Pos} {es : List Expr} {k : Nat} {t : TGs} {n : Nat} (K : PySem.W.Frag) (e : X.K = K) (hc : X.calm = true) (h : PGs X es t) (hn : (assignEach es X.env).length = n := by rfl) (hst : (assignEach es X.env).findIdx? (·.1) = none := by rfl) : PG X (.Tuple es k pos) (gUnl K n t) := e ▸ pg_unl hc h hn hst
end Rd
/-! Comp: list comprehensions by what they leave. -/
namespace Rd
open PySem PySem.Spec PyProof.Rows L2
/-- how a heap may go on: what stood stands (Same), or all but the pool (Drawn p) -/
structure GoesOn (G : Hp → Hp → Prop) (H : Hp) : Prop where
  refl : G H H
  trans : ∀ {H1 H2}, G H H1 → G H1 H2 → G H H2
  put : ∀ {H1 : Hp} {D : Addr} {o : HO}, G H H1 → H D = none → G H (upd H1 D o)
theorem goes_same (H : Hp) : GoesOn Same H := ⟨Same.refl H, Same.trans, fun s hD => fun b u hb => by rw [upd_ne (ne_of_none hb hD)]; exact s b u hb⟩
theorem goes_drawn {p : Addr} {H : Hp} (h : PoolAt H p) : GoesOn (Drawn p) H := ⟨.refl h, .trans, .put⟩
/-- the list so far -/
def LcP (G : Hp → Hp → Prop) (H : Hp) (D : Addr) (R : Nat → List V → Prop) (i : Nat) (H' : Hp) : Prop := ∃ acc, H' D = some (.lst acc) ∧ G H H' ∧ R i acc
/-- an element is there -/
def kElt (G : Hp → Hp → Prop) (H : Hp) (D : Addr) (R : Nat → List V → Prop) (i : Nat) : VK := fun y H4 => ∃ acc, H4 D = some (.lst acc) ∧ acc.length < sizeLine ∧ LcP G H D R (i + 1) (upd H4 D (.lst (acc ++ [y])))
section
variable {K : PySem.W.Frag} {G : Hp → Hp → Prop} {g : TG} {tt : TT} {te : TE} {vs : List Nat} {σ : L2.St} {H H4 : Hp} {Q : VK} {p D : Addr} {xs acc : List V} {R : Nat → List V → Prop} {i : Nat} {y : V}
theorem elt_done (gs : GoesOn G H) (hD : H D = none) (ha : H4 D = some (.lst acc)) (hz : acc.length ≤ 1000000) (s : G H H4) (r : R (i + 1) (acc ++ [y])) : kElt G H D R i y H4 := ⟨acc, ha, by rw [sizeLine_eq]; omega, _, upd_same, gs.put s hD, r⟩
theorem elt_not (ha : H4 D = some (.lst acc)) (s : G H H4) (r : R (i + 1) acc) : LcP G H D R (i + 1) H4 := ⟨acc, ha, s, r⟩
/-- one turn -/
abbrev LcStep (G : Hp → Hp → Prop) (H : Hp) (D : Addr) (R : Nat → List V → Prop) (g : TG) (tt : TT) (te : TE) (vs : List Nat) (σ : L2.St) (i : Nat) (x : V) (H1 : Hp) : Prop :=
  g x (wipe σ vs) H1 fun σ2 H2 => wipe σ2 vs = wipe σ vs ∧ tt σ2 H2 fun b H3 => if b = true then te σ2 H3 (kElt G H D R i) else LcP G H D R (i + 1) H3
theorem lc_L (gs : GoesOn G H) (hp : H p = some (.lst xs)) (hx : ∀ H', G H H' → H' p = some (.lst xs)) (R : Nat → List V → Prop) (r0 : R 0 [])
    (step : ∀ (D : Addr) i x acc H1, H D = none → xs[i]? = some x → R i acc → G H H1 → H1 D = some (.lst acc) → LcStep G H D R g tt te vs σ i x H1)
    (done : ∀ (l : Addr) (acc : List V) (H' : Hp), H l = none → G H H' → H' l = some (.lst acc) → R xs.length acc → Q (.ref l) H') : kCL K g tt te vs σ Q (.ref p) H := by
  refine ⟨p, rfl, ⟨_, SqL.of hp⟩, fun D hD => lc_list (xs := xs) (LcP G H D R) ⟨[], upd_same, gs.put gs.refl hD, r0⟩ ?_ ?_ ?_⟩
  · rintro i H' _ ⟨acc, _, s, _⟩
    exact SqL.of (hx H' s)
  · rintro i x H' hxi ⟨acc, ha, s, r⟩
    exact step D i x acc H' hD hxi r s ha
  · rintro H' ⟨acc, ha, s, r⟩
    exact done D acc H' hD s ha r
theorem lc_T (gs : GoesOn G H) (hp : H p = some (.tup xs)) (hx : ∀ H', G H H' → H' p = some (.tup xs)) (R : Nat → List V → Prop) (r0 : R 0 [])
    (step : ∀ (D : Addr) i x acc H1, H D = none → xs[i]? = some x → R i acc → G H H1 → H1 D = some (.lst acc) → LcStep G H D R g tt te vs σ i x H1)
    (done : ∀ (l : Addr) (acc : List V) (H' : Hp), H l = none → G H H' → H' l = some (.lst acc) → R xs.length acc → Q (.ref l) H') : kCT K g tt te vs σ Q (.ref p) H := by
  refine ⟨p, rfl, ⟨_, SqT.of hp⟩, fun D hD => lc_tup (xs := xs) (LcP G H D R) ⟨[], upd_same, gs.put gs.refl hD, r0⟩ ?_ ?_ ?_⟩
  · rintro i H' _ ⟨acc, _, s, _⟩
    exact SqT.of (hx H' s)
  · rintro i x H' hxi ⟨acc, ha, s, r⟩
    exact step D i x acc H' hD hxi r s ha
  · rintro H' ⟨acc, ha, s, r⟩
    exact done D acc H' hD s ha r
theorem lc_R1 {n : Int} (gs : GoesOn G H) (h0 : -(2 ^ 62) ≤ n) (h1 : n < 2 ^ 62) (R : Nat → List V → Prop) (r0 : R 0 [])
    (step : ∀ (D : Addr) i acc H1, H D = none → i < n.toNat → R i acc → G H H1 → H1 D = some (.lst acc) → LcStep G H D R g tt te vs σ i (.int (0 + (i : Int))) H1)
    (done : ∀ (l : Addr) (acc : List V) (H' : Hp), H l = none → G H H' → H' l = some (.lst acc) → R n.toNat acc → Q (.ref l) H') : kCR1 g tt te vs σ Q [.int n] H := by
  refine ⟨n, rfl, h0, h1, fun D hD => lc_range (n := n.toNat) (LcP G H D R) ⟨[], upd_same, gs.put gs.refl hD, r0⟩ ?_ ?_⟩
  · rintro i H' hi ⟨acc, ha, s, r⟩
    exact step D i acc H' hD hi r s ha
  · rintro H' ⟨acc, ha, s, r⟩
    exact done D acc H' hD s ha r
theorem lc_R2 {m n : Int} (gs : GoesOn G H) (hb : -(2 ^ 62) ≤ m ∧ m < 2 ^ 62 ∧ -(2 ^ 62) ≤ n ∧ n < 2 ^ 62) (R : Nat → List V → Prop) (r0 : R 0 [])
    (step : ∀ (D : Addr) i acc H1, H D = none → i < (n - m).toNat → R i acc → G H H1 → H1 D = some (.lst acc) → LcStep G H D R g tt te vs σ i (.int (m + (i : Int))) H1)
    (done : ∀ (l : Addr) (acc : List V) (H' : Hp), H l = none → G H H' → H' l = some (.lst acc) → R (n - m).toNat acc → Q (.ref l) H') : kCR2 g tt te vs σ Q [.int m, .int n] H := by
  refine ⟨m, n, rfl, hb, fun D hD => lc_range (n := (n - m).toNat) (LcP G H D R) ⟨[], upd_same, gs.put gs.refl hD, r0⟩ ?_ ?_⟩
  · rintro i H' hi ⟨acc, ha, s, r⟩
    exact step D i acc H' hD hi r s ha
  · rintro H' ⟨acc, ha, s, r⟩
    exact done D acc H' hD s ha r
end
end Rd
/-! More: x += e, while, extend, xs[::-1], sorted ints, x not in ints, xs[-k]. -/
namespace Rd
open PySem PySem.Spec PyProof.Rows L2
def kAug (n : Nat) (ti : TIp) (x : V) (σ : L2.St) (nx : L2.St → Hp → Prop) : VK := fun y H1 => ti x y H1 fun z H2 => nx (σ.set n (some z)) H2
def kWh (W : Nat → L2.St → Hp → Prop) (m : Nat) (tb : TS) (nx : L2.St → Hp → Prop) (rt : VK) (σ : L2.St) : Bool → Hp → Prop := fun b H1 =>
  if b = true then ∃ N : L2.St → Hp → Prop, (∀ σ' H', N σ' H' → ∃ m', m' < m ∧ W m' σ' H') ∧ tb ⟨N, rt, nx, N⟩ σ H1 else nx σ H1
def kRevL (K : PySem.W.Frag) (Q : VK) : VK := fun x H => tRevL K (tC x) [] H Q
/-- one turn less -/
def Less (W : Nat → L2.St → Hp → Prop) (m : Nat) : L2.St → Hp → Prop := fun σ H => ∃ m', m' < m ∧ W m' σ H
section
variable {K : PySem.W.Frag} {σ : L2.St} {H : Hp} {te : TE} {tc : TT} {tb : TS} {ti : TIp} {x : V} {Q : VK} {nx bk ct : L2.St → Hp → Prop} {rt : VK} {i j : Int} {n m : Nat} {p q : Addr} {xs ys : List V} {ns : List Int} {W : Nat → L2.St → Hp → Prop}
theorem w_aug (hv : σ[n]? = some (some x)) (h : te σ H (kAug n ti x σ nx)) : tAug n te ti ⟨nx, rt, bk, ct⟩ σ H := ⟨x, hv, h⟩
theorem w_kasgU {k : Nat} {t : TGs} (h : gUnl K k t x σ H nx) : kAsg (gUnl K k t) σ nx x H := h
theorem w_kasgT {k : Nat} {t : TGs} (h : gTup K k t x σ H nx) : kAsg (gTup K k t) σ nx x H := h
theorem w_kor_nt {t : TT} {QB : Bool → Hp → Prop} (h : t σ H QB) : kOr t σ QB (!true) H := h
theorem w_kor_nf {t : TT} {QB : Bool → Hp → Prop} (h : QB true H) : kOr t σ QB (!false) H := h
theorem w_kand_nt {t : TT} {QB : Bool → Hp → Prop} (h : QB false H) : kAnd t σ QB (!true) H := h
theorem w_kand_nf {t : TT} {QB : Bool → Hp → Prop} (h : t σ H QB) : kAnd t σ QB (!false) H := h
theorem w_augAdd (h : nx (σ.set n (some (.int (i + j)))) H) : kAug n (ipI fun i j => i + j) (.int i) σ nx (.int j) H := ⟨i, j, rfl, rfl, h⟩
theorem w_augSub (h : nx (σ.set n (some (.int (i - j)))) H) : kAug n (ipI fun i j => i - j) (.int i) σ nx (.int j) H := ⟨i, j, rfl, rfl, h⟩
theorem w_while (W : Nat → L2.St → Hp → Prop) (m : Nat) (h0 : W m σ H) (hs : ∀ m σ H, W m σ H → tc σ H (kWh W m tb nx rt σ)) : tWhile tc tb ⟨nx, rt, bk, ct⟩ σ H := ⟨W, ⟨m, h0⟩, hs⟩
theorem w_kwh_t (h : tb ⟨Less W m, rt, nx, Less W m⟩ σ H) : kWh W m tb nx rt σ true H := by
  show (if true = true then _ else _)
  rw [if_pos rfl]; exact ⟨_, fun _ _ z => z, h⟩
theorem w_kwh_f (h : nx σ H) : kWh W m tb nx rt σ false H := by
  show (if false = true then _ else _)
  rw [if_neg (fun z => nomatch z)]; exact h
theorem w_kwh {c : Prop} {dc : Decidable c} (h1 : c → tb ⟨Less W m, rt, nx, Less W m⟩ σ H) (h2 : ¬ c → nx σ H) : kWh W m tb nx rt σ (decide c) H := by
  by_cases hc : c
  · rw [decide_eq_true hc]; exact w_kwh_t (h1 hc)
  · rw [decide_eq_false hc]; exact w_kwh_f (h2 hc)
theorem less_of {m' : Nat} (h : W m' σ H) (hm : m' < m) : Less W m σ H := ⟨m', hm, h⟩
theorem w_revL (h : te σ H (kRevL K Q)) : tRevL K te σ H Q := h
theorem n_revL (hs : H p = some (.lst xs)) (h : ∀ (l : Addr) (H' : Hp), H l = none → Same H H' → H' l = some (.lst xs.reverse) → Q (.ref l) H') : kRevL K Q (.ref p) H := ⟨p, xs, rfl, SqL.of hs, fun q hq => h q _ hq (same_new hq) upd_same⟩
theorem w_ext (hp : H p = some (.lst xs)) (hq : H q = some (.lst ys)) (hl : xs.length + ys.length ≤ sizeLine) (h : Q .non (upd H p (.lst (xs ++ ys)))) : rExtend (.ref p) [.ref q] H Q := ⟨p, q, xs, ys, rfl, rfl, hp, hq, hl, h⟩
theorem n_sorted (hp : H p = some (.lst (ns.map V.int))) (h : ∀ (ms : List Int) (l : Addr) (H' : Hp), ms.Perm ns → ms.Pairwise (· ≤ ·) → H l = none → Same H H' → H' l = some (.lst (ms.map V.int)) → Q (.ref l) H') : rSortedI K [.ref p] H Q := ⟨p, ns, rfl, SqL.of hp, fun ms l h1 h2 h3 => h ms l _ h1 h2 h3 (same_new h3) upd_same⟩
theorem w_notInI (hp : H p = some (.lst (ns.map V.int))) (h : Q (.bl (!decide (i ∈ ns))) H) : rIn K true (.int i) (.ref p) H Q :=
  ⟨p, _, rfl, .inl (SqL.of hp), rfl, flat_ints ns, by rw [if_pos rfl, in_ints]; exact h⟩
theorem atI_neg {k : Int} (h0 : 0 < k) (h1 : k ≤ ns.length) : atI (ns.map V.int) (-k) = some (.int (ns.getD (ns.length - k.toNat) 0)) := by
  unfold atI ixN
  rw [if_neg (by omega), List.length_map, if_pos (by omega)]
  show (ns.map V.int)[_]? = _
  rw [List.getElem?_map, show (-k + (ns.length : Int)).toNat = ns.length - k.toNat by omega, List.getD_eq_getElem?_getD, List.getElem?_eq_getElem (by omega)]
  rfl
theorem w_ixNeg {k : Int} (hp : H p = some (.lst (ns.map V.int))) (h0 : 0 < k) (h1 : k ≤ ns.length) (h : Q (.int (ns.getD (ns.length - k.toNat) 0)) H) : rIx K (.ref p) (.int (-k)) H Q := w_ixL (SqL.of hp) (atI_neg h0 h1) h
/-- a tuple of two -/
theorem w_lenT2 {y : V} (hs : SqT K H p [x, y]) (h : Q (.int 2) H) : rLen K [.ref p] H Q := w_lenT hs h
end
/-! ### for over one of two kinds -/
def iOr (a b : TI) : TI := fun σ H R => a σ H R ∨ b σ H R
theorem PI.or {X : Cx} {tg l : Expr} {a b : TI} (h1 : PI X tg l a) (h2 : PI X tg l b) : PI X tg l (iOr a b) := ⟨fun pins s σ H R I h => h.elim (h1.run pins s σ H R I) (h2.run pins s σ H R I)⟩
section
variable {a b : TI} {g : TG} {tb : TS} {D : Ends} {σ : L2.St} {H : Hp}
theorem w_forA (h : tFor a g tb D σ H) : tFor (iOr a b) g tb D σ H := .inl h
theorem w_forB (h : tFor b g tb D σ H) : tFor (iOr a b) g tb D σ H := .inr h
end
end Rd
/-! PairL: lists of tuples of two ints. -/
namespace Rd
open PySem PySem.Spec PyProof.Rows L2
def PairP (R : Int → Int → Prop) (H : Hp) (xs : List V) : Prop := ∀ x ∈ xs, ∃ (t : Addr) (f l : Int), x = .ref t ∧ H t = some (.tup [.int f, .int l]) ∧ R f l
/-- tuples of two ints, by place -/
structure Pairs (H : Hp) (ts : List Addr) (gs : List (Int × Int)) : Prop where
  len : ts.length = gs.length
  at_ : ∀ (j : Nat) (t : Addr) (f l : Int), ts[j]? = some t → gs[j]? = some (f, l) → H t = some (.tup [.int f, .int l])
section
variable {R S : Int → Int → Prop} {H H' : Hp} {xs ys : List V} {p : Addr} {K : PySem.W.Frag} {Q : VK} {i : Int} {x : V} {σ : L2.St} {nx : L2.St → Hp → Prop}
theorem PairP.keep (h : PairP R H xs) (k : Same H H') : PairP R H' xs := fun x hx => let ⟨t, f, l, e, ht, r⟩ := h x hx; ⟨t, f, l, e, k _ _ ht, r⟩
theorem PairP.drawn (h : PairP R H xs) (k : Drawn p H H') : PairP R H' xs := fun x hx => let ⟨t, f, l, e, ht, r⟩ := h x hx; ⟨t, f, l, e, k.tup ht, r⟩
theorem PairP.put (h : PairP R H xs) (hp : H p = some (.lst ys)) {zs : List V} : PairP R (upd H p (.lst zs)) xs := fun x hx => let ⟨t, f, l, e, ht, r⟩ := h x hx; ⟨t, f, l, e, by rw [upd_ne fun z => by rw [z, hp] at ht; cases ht]; exact ht, r⟩
theorem PairP.weak (h : PairP R H xs) (w : ∀ f l, R f l → S f l) : PairP S H xs := fun x hx => let ⟨t, f, l, e, ht, r⟩ := h x hx; ⟨t, f, l, e, ht, w f l r⟩
theorem PairP.nil : PairP R H [] := fun _ hx => absurd hx List.not_mem_nil
theorem PairP.cons {t : Addr} {f l : Int} (ht : H t = some (.tup [.int f, .int l])) (r : R f l) (h : PairP R H xs) : PairP R H (.ref t :: xs) := fun x hx => (List.mem_cons.mp hx).elim (fun e => ⟨t, f, l, e, ht, r⟩) (h x)
theorem PairP.app (h : PairP R H xs) (k : PairP R H ys) : PairP R H (xs ++ ys) := fun x hx => (List.mem_append.mp hx).elim (h x) (k x)
theorem PairP.sub (h : PairP R H xs) (s : ∀ x ∈ ys, x ∈ xs) : PairP R H ys := fun x hx => h x (s x hx)
theorem PairP.set (h : PairP R H xs) {k : Nat} {t : Addr} {f l : Int} (ht : H t = some (.tup [.int f, .int l])) (r : R f l) : PairP R H (xs.set k (.ref t)) := fun y hy => (List.mem_or_eq_of_mem_set hy).elim (h y) (fun e => ⟨t, f, l, e, ht, r⟩)
theorem cut_mem {lo hi : Option Int} (hx : x ∈ cutV xs lo hi) : x ∈ xs := by
  unfold cutV at hx
  exact List.mem_of_mem_drop (List.mem_of_mem_take hx)
theorem cut_len {lo hi : Option Int} : (cutV xs lo hi).length ≤ xs.length := by
  unfold cutV
  rw [List.length_take, List.length_drop]; omega
theorem PairP.cut (h : PairP R H xs) {lo hi : Option Int} : PairP R H (cutV xs lo hi) := h.sub fun _ => cut_mem
theorem PairP.pairs : ∀ {xs : List V}, PairP R H xs → ∃ ts gs, xs = ts.map V.ref ∧ Pairs H ts gs
  | [], _ => ⟨[], [], rfl, rfl, fun j t f l h => by cases h⟩
  | x :: r, h => by
    obtain ⟨t, f, l, rfl, ht, _⟩ := h x List.mem_cons_self
    obtain ⟨ts, gs, rfl, P⟩ := PairP.pairs fun y hy => h y (List.mem_cons_of_mem _ hy)
    refine ⟨t :: ts, (f, l) :: gs, rfl, by rw [List.length_cons, List.length_cons, P.len], fun j q a b h1 h2 => ?_⟩
    cases j with
    | zero => cases h1; cases h2; exact ht
    | succ j => exact P.at_ j q a b h1 h2
/-- an item, whatever it is -/
theorem n_ixMem (hp : H p = some (.lst xs)) (h0 : 0 ≤ i) (h1 : i < xs.length) (h : ∀ v, v ∈ xs → Q v H) : rIx K (.ref p) (.int i) H Q := by
  have hx : xs[i.toNat]? = some (xs[i.toNat]'(by omega)) := List.getElem?_eq_getElem (by omega)
  exact w_ixL (SqL.of hp) (atI_of h0 hx) (h _ (List.mem_of_getElem? hx))
theorem n_ixPair (P : PairP R H xs) (hp : H p = some (.lst xs)) (h0 : 0 ≤ i) (h1 : i < xs.length) (h : ∀ (t : Addr) (f l : Int), xs[i.toNat]? = some (.ref t) → H t = some (.tup [.int f, .int l]) → R f l → Q (.ref t) H) : rIx K (.ref p) (.int i) H Q := by
  have hx : xs[i.toNat]? = some (xs[i.toNat]'(by omega)) := List.getElem?_eq_getElem (by omega)
  obtain ⟨t, f, l, e, ht, r⟩ := P _ (List.mem_of_getElem? hx)
  rw [e] at hx
  exact w_ixL (SqL.of hp) (atI_of h0 hx) (h t f l hx ht r)
theorem same_pair {a b : Addr} {f l f' l' : Int} {k : Nat} (h1 : xs[k]? = some (.ref a)) (h2 : xs[k]? = some (.ref b)) (h3 : H a = some (.tup [.int f, .int l])) (h4 : H b = some (.tup [.int f', .int l'])) : f = f' ∧ l = l' := by
  rw [h1] at h2
  cases h2
  rw [h3] at h4
  cases h4
  exact ⟨rfl, rfl⟩
theorem n_addA {q : Addr} (h1 : H p = some (.lst xs)) (h2 : H q = some (.lst ys)) (l1 : xs.length ≤ 500) (l2 : ys.length ≤ 500) (h : ∀ (l : Addr) (H' : Hp), H l = none → Same H H' → H' l = some (.lst (xs ++ ys)) → Q (.ref l) H') : uAdd (.ref p) (.ref q) H Q := n_addL h1 h2 (by rw [sizeLine_eq]; omega) h
theorem len_app {a b : Nat} (h1 : xs.length ≤ a) (h2 : ys.length ≤ b) : (xs ++ ys).length ≤ a + b := by rw [List.length_append]; omega
theorem len_cut {a : Nat} {lo hi : Option Int} (h1 : xs.length ≤ a) : (cutV xs lo hi).length ≤ a := Nat.le_trans cut_len h1
theorem len_set {a k : Nat} (h1 : xs.length ≤ a) : (xs.set k x).length ≤ a := by rw [List.length_set]; exact h1
theorem n_setAny (hp : H p = some (.lst xs)) (h0 : 0 ≤ i) (h1 : i < xs.length) (h : nx σ (upd H p (.lst (xs.set i.toNat x)))) : kSub2 rSetL (.ref p) x σ nx (.int i) H := w_ksubL hp (ixN_of h0 h1) h
end
theorem Pairs.keep {H H' : Hp} {ts : List Addr} {gs : List (Int × Int)} (h : Pairs H ts gs) (k : Same H H') : Pairs H' ts gs := ⟨h.len, fun j t f l h1 h2 => k _ _ (h.at_ j t f l h1 h2)⟩
theorem Pairs.drawn {H H' : Hp} {p : Addr} {ts : List Addr} {gs : List (Int × Int)} (h : Pairs H ts gs) (k : Drawn p H H') : Pairs H' ts gs := ⟨h.len, fun j t f l h1 h2 => k.tup (h.at_ j t f l h1 h2)⟩
theorem Pairs.put {H : Hp} {p : Addr} {xs ys : List V} {ts : List Addr} {gs : List (Int × Int)} (h : Pairs H ts gs) (hp : H p = some (.lst xs)) : Pairs (upd H p (.lst ys)) ts gs := ⟨h.len, fun j t f l h1 h2 => by
  have e := h.at_ j t f l h1 h2
  rw [upd_ne fun z => by rw [z, hp] at e; cases e]
  exact e⟩
theorem Pairs.snoc {H : Hp} {t : Addr} {f l : Int} {ts : List Addr} {gs : List (Int × Int)} (h : Pairs H ts gs) (ht : H t = some (.tup [.int f, .int l])) : Pairs H (ts ++ [t]) (gs ++ [(f, l)]) := by
  refine ⟨by rw [List.length_append, List.length_append, h.len]; rfl, fun j q a b hq hg => ?_⟩
  rcases Nat.lt_or_ge j ts.length with lt | ge
  · rw [List.getElem?_append_left lt] at hq
    rw [List.getElem?_append_left (by rw [← h.len]; exact lt)] at hg
    exact h.at_ j q a b hq hg
  · have hj := (List.getElem?_eq_some_iff.mp hq).1
    rw [List.length_append, List.length_singleton] at hj
    have ej : j = ts.length := by omega
    subst ej
    rw [List.getElem?_append_right (Nat.le_refl _), Nat.sub_self] at hq
    rw [h.len, List.getElem?_append_right (Nat.le_refl _), Nat.sub_self] at hg
    cases hq
    cases hg
    exact ht
theorem Pairs.rev {H : Hp} {ts : List Addr} {gs : List (Int × Int)} (h : Pairs H ts gs) : Pairs H ts.reverse gs.reverse := by
  refine ⟨by rw [List.length_reverse, List.length_reverse, h.len], fun j t f l h1 h2 => ?_⟩
  have hj := (List.getElem?_eq_some_iff.mp h1).1
  rw [List.length_reverse] at hj
  rw [List.getElem?_reverse hj] at h1
  rw [List.getElem?_reverse (by rw [← h.len]; exact hj), ← h.len] at h2
  exact h.at_ _ t f l h1 h2
theorem alike_pairs {H : Hp} {d : Nat} {a b : Addr} {ts ss : List Addr} {gs : List (Int × Int)} (ha : H a = some (.lst (ts.map V.ref))) (hb : H b = some (.lst (ss.map V.ref))) (A : Pairs H ts gs) (B : Pairs H ss gs) (h : gs.length ≤ 1000000) : Alike H (d + 3) (.ref a) (.ref b) := by
  refine alike_lst ha hb (by rw [List.length_map, List.length_map, A.len, B.len]) (by rw [List.length_map, A.len]; exact h) fun i x y hx hy => ?_
  obtain ⟨r, hr, rfl⟩ := ref_at hx
  obtain ⟨q, hq, rfl⟩ := ref_at hy
  have hi : i < gs.length := by rw [← A.len]; exact (List.getElem?_eq_some_iff.mp hr).1
  have hc : gs[i]? = some (gs[i].1, gs[i].2) := List.getElem?_eq_getElem hi
  exact alike_ptup (A.at_ i r _ _ hr hc) (B.at_ i q _ _ hq hc) (Nat.le_of_ble_eq_true rfl) (plain_ints [_, _])
end Rd
/-! Stat: C.m(..) of a staticmethod; a + b by an own method. -/
namespace Rd
open PySem PySem.Spec PyProof.Rows L2
/-- C.m is a staticmethod around the def at g -/
structure SMet (K : PySem.W.Frag) (C : Addr) (m : Str) (g : Addr) : Prop where
  rd : PySem.W.readsIn K C (.type "type") = true
  ga : PySem.W.specialIn K (.ref C) "__getattribute__" = some (some (.builtin "type.__getattribute__"))
  at_ : ∃ p rest, PySem.W.findCls K (.ref C) (.type "type") m = some (.get (.builtin "staticmethod.__get__") (.ref p) .none (.ref C)) ∧ PySem.W.recIn K p "staticmethod" = some (.ref g :: rest)
  kp : PySem.W.keepIn K (.ref g) = true
theorem Tx.stat {fa : List He.Fa} {fn : List He.DefD} {xa : List Xa} {fs : Fs} {P : Program} {K : PySem.W.Frag} {mg : Str → Option Value} (T : Tx fa fn xa fs P K mg) (i : Nat) {x m : Str} (h : xa[i]? = some (.stat x m) := by rfl) : SMet K (He.ga K x) m (wrapAt "staticmethod" x m K) := by
  obtain ⟨a, r⟩ := He.ba (T.all.own i h)
  obtain ⟨b, r⟩ := He.ba r
  obtain ⟨c, r⟩ := He.ba r
  have e : ∃ g rest, PySem.W.recIn K (He.ma K (He.ga K x) m) "staticmethod" = some (.ref g :: rest) ∧ PySem.W.keepIn K (.ref g) = true := by
    split at r
    · exact ⟨_, _, by assumption, r⟩
    · cases r
  obtain ⟨g, rest, e1, e2⟩ := e
  have w : wrapAt "staticmethod" x m K = g := by
    unfold wrapAt
    rw [e1]
  rw [w]
  exact ⟨a, He.eqO_ok b, ⟨_, rest, cf_ok c, e1⟩, e2⟩
theorem Tx.self1 {fa : List He.Fa} {fn : List He.DefD} {xa : List Xa} {fs : Fs} {P : Program} {K : PySem.W.Frag} {mg : Str → Option Value} (T : Tx fa fn xa fs P K mg) (i : Nat) {x : Str} (h : xa[i]? = some (.self1 x) := by rfl) : PySem.W.selfFirst K (He.ga K x) = true := T.all.own i h
structure StG (P : Program) (w : World) (K : PySem.W.Frag) (mg : Str → Option Value) (base : Heap) (CX : CXT) (k : Nat) (x m : Str) (ps : List Str) (sp : Sp) : Prop where
  ex : ∃ g fd, SMet K (He.ga K x) m g ∧ FnOk P w K mg base CX k g fd ps sp ∧ Binds K fd ps []
theorem Passes.at_ {CX : CXT} {X : Cx} {E : XK} (h : Passes CX X E) (σ : L2.St) : PassesAt CX X σ E := fun pins H s e s' I c => h pins σ H s e s' I c
/-- C.m(..) -/
def tStS (C : Addr) (sp : Sp) (E : L2.St → XK) (ta : TE) (t : TA) : TE := fun σ H Q => ta σ H fun x H1 => x = .ref C ∧ t σ H1 fun vs H2 => sp vs H2 Q (E σ)
/-- a + b, both of the class at C -/
def tBinS (C : Addr) (sp : Sp) (E : L2.St → XK) (ta tb : TE) : TE := fun σ H Q => ta σ H fun x H1 => tb σ H1 fun y H2 => ∃ a b dx fs dy gs, x = .ref a ∧ y = .ref b ∧ H2 a = some (.ins C dx fs) ∧ H2 b = some (.ins C dy gs) ∧ sp [x, y] H2 Q (E σ)
section
variable {X : Cx} {CX : CXT} {k : Nat} {C : Addr} {x m : Str} {ps : List Str} {sp : Sp} {E : L2.St → XK} {o e a b : Expr} {es : List Expr} {ta tb : TE} {t : TA} {p pos apos : Pos} {pl : Sem Bool}
theorem pe_stS (G : StG X.prog X.w X.K X.mg X.base CX k x m ps sp) (hr : Room k X.A) (hx : ∀ σ, PassesAt CX X σ (E σ)) (ho : PE X o ta) (ha : PA X (e :: es) t) (h1 : starEach (e :: es) X.env = (false, eval e X.env) :: starEach es X.env := by rfl) (h2 : (backTo pos (starEach es X.env)).any (·.1) = false := by rfl)
    (h3 : eval (.Call (.Attribute o m apos) (e :: es) [] pos) X.env = (eval o X.env >>= fun ov => standAt apos.atName >>= fun _ => holding [ov] (getMethod ov m pl) >>= fun fx => callWith pos fx.1 fx.2 (backTo pos (starEach (e :: es) X.env)) (backToKw pos (keywordEach [] X.env))) := by rfl) : PE X (.Call (.Attribute o m apos) (e :: es) [] pos) (tStS (He.ga X.K x) sp E ta t) where
  run := fun pins s σ H Q I h => by
    obtain ⟨g, fd, S, F, bd⟩ := G.ex
    obtain ⟨q, rest, f1, f2⟩ := S.at_
    refine PySem.W.methodCall_KW (pl := pl) (wpAny_mono (ho.run pins s σ H _ I h) (fun u s1 z => ?_) fun _ _ w => w) h3
    obtain ⟨y, H1, I1, ry, rfl, z⟩ := z
    cases (show u = Value.ref (He.ga X.K x) from ry)
    refine PySem.W.method_cls I1.kIn S.ga (PySem.W.cls_bind I1.kIn S.rd f1 (wpAny_call (PySem.W.sm_get (s := { s1 with toks := s1.toks + 1 }) I1.kIn f2 (PySem.W.handed_on rfl ?_))))
    have J := I1.tok (s1.toks + 1)
    refine PySem.W.callWith_K (first := []) (h₀ := X.base) I.ok.mod.kin S.kp (wpAny_mono (ha.run pos pins _ σ H1 _ J z) (fun us s2 y => ?_) fun _ _ w => w) h1 h2
    obtain ⟨vs, H2, I2, rv, q2⟩ := y
    exact ⟨I2.kIn, run_fnS (us := us) (vs := vs) F hr bd (hx σ) I2 rv q2⟩
theorem pe_stC (C : Addr) (hC : He.ga X.K x = C) (G : StG X.prog X.w X.K X.mg X.base CX k x m ps sp) (hr : Room k X.A) (hx : ∀ σ, PassesAt CX X σ (E σ)) (ho : PE X o ta) (ha : PA X (e :: es) t) (h1 : starEach (e :: es) X.env = (false, eval e X.env) :: starEach es X.env := by rfl) (h2 : (backTo pos (starEach es X.env)).any (·.1) = false := by rfl)
    (h3 : eval (.Call (.Attribute o m apos) (e :: es) [] pos) X.env = (eval o X.env >>= fun ov => standAt apos.atName >>= fun _ => holding [ov] (getMethod ov m pl) >>= fun fx => callWith pos fx.1 fx.2 (backTo pos (starEach (e :: es) X.env)) (backToKw pos (keywordEach [] X.env))) := by rfl) : PE X (.Call (.Attribute o m apos) (e :: es) [] pos) (tStS C sp E ta t) := hC ▸ pe_stS G hr hx ho ha h1 h2 h3
theorem pe_binS {op : Operator} (G : MtG X.prog X.w X.K X.mg X.base CX k C (PySem.dunder op.info.2) ps sp) (hs : PySem.W.selfFirst X.K C = true) (hr : Room k X.A) (hx : ∀ σ, PassesAt CX X σ (E σ)) (ha : PE X a ta) (hb : PE X b tb) : PE X (.BinOp a op b pos) (tBinS C sp E ta tb) where
  run := fun pins s σ H Q I h => wpAny_BinOp (binT ha hb I h fun v u s2 x y H2 I2 rx ry q => by
    obtain ⟨p1, p2, dx, fs, dy, gs, rfl, rfl, e1, e2, q⟩ := q
    obtain ⟨f, fd, mt, F, bd⟩ := G.ex
    obtain ⟨od, i1⟩ := inst_of I2 e1
    obtain ⟨od2, i2⟩ := inst_of I2 e2
    obtain ⟨_, fr⟩ := I2.fr
    cases rx
    cases ry
    refine PySem.W.binop_K fr I2.mod.kin i1 i2.type hs mt.at_ mt.fn (wpAny_mono (run_fnS (us := [.ref p1, .ref p2]) (vs := [.ref p1, .ref p2]) F hr bd (hx σ) I2 (.cons rfl (.cons rfl .nil)) q) (fun r s3 w => ?_) fun _ _ w => w)
    obtain ⟨z, H3, I3, rz, q3⟩ := w
    have ok : ∀ r', r' ≠ Value.notImplemented → PySem.W.CmpBack (EP X pins σ Q) r' s3 = EP X pins σ Q r' s3 := fun r' hn => by
      cases r' <;> first | rfl | exact absurd rfl hn
    rw [ok r (fun e => by subst e; cases z <;> first | (obtain ⟨_, e⟩ := rz; cases e) | cases rz)]
    exact ⟨z, H3, I3, rz, q3⟩)
end
def kSt (C : Addr) (sp : Sp) (E : XK) (t : TA) (σ : L2.St) (Q : VK) : VK := fun x H => x = .ref C ∧ t σ H fun vs H2 => sp vs H2 Q E
def kBin1 (C : Addr) (sp : Sp) (E : L2.St → XK) (tb : TE) (σ : L2.St) (Q : VK) : VK := fun x H => tBinS C sp E (tC x) tb σ H Q
def kBin2 (C : Addr) (sp : Sp) (E : XK) (x : V) (Q : VK) : VK := fun y H2 => ∃ a b dx fs dy gs, x = .ref a ∧ y = .ref b ∧ H2 a = some (.ins C dx fs) ∧ H2 b = some (.ins C dy gs) ∧ sp [x, y] H2 Q E
section
variable {C : Addr} {sp : Sp} {E : L2.St → XK} {E1 : XK} {ta tb : TE} {t : TA} {σ : L2.St} {H : Hp} {Q : VK} {x : V} {a b dx dy : Addr} {fs gs : List (Str × V)}
theorem w_stS (h : ta σ H (kSt C sp (E σ) t σ Q)) : tStS C sp E ta t σ H Q := h
theorem w_kst (h : t σ H (kCall sp [] E1 Q)) : kSt C sp E1 t σ Q (.ref C) H := ⟨rfl, by
  have e : kCall sp [] E1 Q = fun vs H1 => sp vs H1 Q E1 := funext fun vs => funext fun H1 => by
    show sp (vs ++ []) H1 Q E1 = _
    rw [List.append_nil]
  rw [e] at h; exact h⟩
theorem w_binS (h : ta σ H (kBin1 C sp E tb σ Q)) : tBinS C sp E ta tb σ H Q := h
theorem w_kbin1 (h : tb σ H (kBin2 C sp (E σ) x Q)) : kBin1 C sp E tb σ Q x H := h
theorem w_kbin2 (h1 : H a = some (.ins C dx fs)) (h2 : H b = some (.ins C dy gs)) (h : sp [.ref a, .ref b] H Q E1) : kBin2 C sp E1 (.ref a) Q (.ref b) H := ⟨a, b, dx, fs, dy, gs, rfl, rfl, h1, h2, h⟩
end
end Rd
/-! SeqA: slices, zip and for of a list or a tuple. -/
namespace Rd
open PySem PySem.Spec PyProof.Rows L2
def uSl (K : PySem.W.Frag) : V → Option Int → Option Int → Hp → VK → Prop := fun x lo hi H Q => rSlL K x lo hi H Q ∨ rSlA K x lo hi H Q
theorem oSl {X : Cx} : SlR X (uSl X.K) := SlR.or sl_list sl_tupA
theorem oSlK {X : Cx} (K : PySem.W.Frag) (e : X.K = K) : SlR X (uSl K) := e ▸ oSl
theorem cut_whole {xs : List V} {lo hi : Option Int} (h : HT.sIx xs.length 0 lo = 0 ∧ HT.sIx xs.length xs.length hi = xs.length) : cutV xs lo hi = xs := by
  unfold cutV
  rw [h.1, h.2, List.drop_zero, Nat.sub_zero, List.take_length]
def kZA (K : PySem.W.Frag) (g : TG) (tb : TS) (D : Ends) (σ : L2.St) : List V → Hp → Prop := fun vs H => tFor (RZ.iZipA K (tAc vs)) g tb D σ H
section
variable {K : PySem.W.Frag} {H : Hp} {Q : VK} {p : Addr} {xs : List V} {lo hi : Option Int} {g : TG} {tb : TS} {D : Ends} {σ : L2.St} {tl : TA}
theorem n_usL (hs : H p = some (.lst xs)) (h : ∀ (l : Addr) (H' : Hp), H l = none → Same H H' → H' l = some (.lst (cutV xs lo hi)) → Q (.ref l) H') : uSl K (.ref p) lo hi H Q := .inl ⟨p, xs, rfl, SqL.of hs, fun q hq => h q _ hq (same_new hq) upd_same⟩
theorem n_usT (hs : H p = some (.tup xs)) (h : ∀ (l : Addr) (H' : Hp), Same H H' → H' l = some (.tup (cutV xs lo hi)) → Q (.ref l) H') : uSl K (.ref p) lo hi H Q :=
  .inr ⟨p, xs, rfl, SqT.of hs, fun w => h p H (Same.refl H) (by rw [cut_whole w]; exact hs), fun _ q hq => h q _ (same_new hq) upd_same⟩
theorem w_forZA (h : tl σ H (kZA K g tb D σ)) : tFor (RZ.iZipA K tl) g tb D σ H := h
theorem w_lcA {a b : TI} {tt : TT} {te : TE} {vs : List Nat} (h : tLc a g tt te vs σ H Q) : tLc (iOr a b) g tt te vs σ H Q := .inl h
theorem w_lcB {a b : TI} {tt : TT} {te : TE} {vs : List Nat} (h : tLc b g tt te vs σ H Q) : tLc (iOr a b) g tt te vs σ H Q := .inr h
end
theorem walk_zipT {K : PySem.W.Frag} {a b : Addr} {xs ys : List V} {n : Nat} (hn : n = min xs.length ys.length) : Walk (RZ.ItzT K a b) n (fun H => SqT K H a xs ∧ SqT K H b ys) (YPair (fun i => xs[i]?) (fun i => ys[i]?)) where
  goes := fun i _ hi h => by
    have l1 : i < xs.length := by omega
    have l2 : i < ys.length := by omega
    exact ⟨xs, ys, _, _, h.1, h.2, List.getElem?_eq_getElem l1, List.getElem?_eq_getElem l2⟩
  stops := fun _ h => ⟨xs, ys, h.1, h.2, by omega⟩
  yields := fun i _ _ _ _ h y => let ⟨T, x, z, e1, e2, e3, e4, e5⟩ := y; ⟨T, x, z, e1, e2, e3, e4 xs h.1, e5 ys h.2⟩
/-! ### for x in reversed(range(n)) -/
def kRv1 (g : TG) (tb : TS) (D : Ends) (σ : L2.St) : VK := fun x H => tFor (iRevR (tRg1 (tC x))) g tb D σ H
section
variable {g : TG} {tb : TS} {D : Ends} {σ : L2.St} {H : Hp} {te : TE}
theorem w_forRv (h : te σ H (kRv1 g tb D σ)) : tFor (iRevR (tRg1 te)) g tb D σ H := h
theorem for_rev {n : Nat} (Pv : Nat → L2.St → Hp → Prop) (h62 : (n : Int) < 2 ^ 62) (h0 : Pv 0 σ H) (hs : ∀ i σ H, i < n → Pv i σ H → g (.int ((n : Int) - 1 - i)) σ H fun σ2 H2 => tb { D with nx := Pv (i + 1), ct := Pv (i + 1), bk := D.nx } σ2 H2) (hd : ∀ σ H, Pv n σ H → D.nx σ H) : kRv1 g tb D σ (.int n) H := by
  refine ⟨n, rfl, by omega, by omega, by omega, h62, ?_⟩
  have e : ((n : Int) - 0).toNat = n := by omega
  rw [e]
  refine for_rangeC (n := n) Pv h0 (fun i σ H hi p => ?_) hd
  rw [show (0 : Int) + (n : Int) - 1 + (i : Nat) * (-1) = (n : Int) - 1 - i by omega]
  exact hs i σ H hi p
end
end Rd
/-! BandM: plain maths of bands. -/
namespace BandM
/-- the ends so far, of c things -/
def EndsTo (c : Int) (ns : List Int) : Prop := ∀ j : Nat, j < ns.length → (j : Int) ≤ ns.getD j 0 ∧ ns.getD j 0 < c ∧ ∀ k : Nat, k + 1 = j → ns.getD k 0 ≤ ns.getD j 0
theorem getD_app {ns : List Int} {x : Int} {j : Nat} (h : j < ns.length) : (ns ++ [x]).getD j 0 = ns.getD j 0 := by
  rw [List.getD_eq_getElem?_getD, List.getD_eq_getElem?_getD, List.getElem?_append_left h]
theorem getD_end {ns : List Int} {x : Int} {j : Nat} (h : j = ns.length) : (ns ++ [x]).getD j 0 = x := by
  subst h
  rw [List.getD_eq_getElem?_getD, List.getElem?_append_right (Nat.le_refl _)]
  simp
theorem EndsTo.nil {c : Int} : EndsTo c [] := fun j h => absurd h (Nat.not_lt_zero j)
theorem EndsTo.snoc {c : Int} {ns : List Int} {x : Int} (h : EndsTo c ns) (h1 : (ns.length : Int) ≤ x) (h2 : x < c) (h3 : ∀ k : Nat, k + 1 = ns.length → ns.getD k 0 ≤ x) : EndsTo c (ns ++ [x]) := by
  intro j hj
  rw [List.length_append, List.length_singleton] at hj
  by_cases e : j = ns.length
  · rw [getD_end e]
    refine ⟨by omega, h2, fun k hk => ?_⟩
    rw [getD_app (by omega)]
    exact h3 k (by omega)
  · have hj' : j < ns.length := by omega
    rw [getD_app hj']
    obtain ⟨a, b, d⟩ := h j hj'
    refine ⟨a, b, fun k hk => ?_⟩
    rw [getD_app (by omega)]
    exact d k hk
/-- the ends of a band of c things -/
structure FitEnds (c : Int) (ns : List Int) : Prop where
  len : (ns.length : Int) = c
  all : EndsTo c ns
theorem FitEnds.mono {c : Int} {ns : List Int} (h : EndsTo c ns) : ∀ {i j : Nat}, i ≤ j → j < ns.length → ns.getD i 0 ≤ ns.getD j 0 := by
  intro i j hij
  induction j with
  | zero => intro _; rw [show i = 0 by omega]; exact Int.le_refl _
  | succ j ih =>
    intro hj
    by_cases e : i = j + 1
    · rw [e]; exact Int.le_refl _
    · exact Int.le_trans (ih (by omega) (by omega)) ((h (j + 1) hj).2.2 j rfl)
/-- the end at j fits -/
def OkAt (ns : List Int) (j : Nat) : Prop := (j : Int) ≤ ns.getD j 0 ∧ ns.getD j 0 < ns.length ∧ ∀ k : Nat, k + 1 = j → ns.getD k 0 ≤ ns.getD j 0
/-- j is the first place whose end doesn't fit -/
structure BadAt (ns : List Int) (j : Nat) : Prop where
  lt : j < ns.length
  pre : ∀ k, k < j → OkAt ns k
  bad : ¬ OkAt ns j
theorem ends_ok {ns : List Int} (h : ∀ j, j < ns.length → OkAt ns j) : FitEnds ns.length ns := ⟨rfl, h⟩
theorem FitEnds.ok {c : Int} {ns : List Int} (h : FitEnds c ns) {j : Nat} (hj : j < ns.length) : OkAt ns j := let ⟨a, b, d⟩ := h.all j hj; ⟨a, h.len ▸ b, d⟩
/-- are the things i and k near -/
def nearB (ns : List Int) (i k : Int) : Prop := max i k ≤ ns.getD (min i k).toNat 0
instance (ns : List Int) (i k : Int) : Decidable (nearB ns i k) := inferInstanceAs (Decidable (_ ≤ _))
/-- may the thing t be put behind the chain c -/
def Fits (ns : List Int) (c : List Int) (t : Int) : Prop := c = [] ∨ ns.getD (c.getLastD 0).toNat 0 < t
instance (ns c : List Int) (t : Int) : Decidable (Fits ns c t) := inferInstanceAs (Decidable (_ ∨ _))
/-- t into the first chain that takes it -/
def fit (ns : List Int) (t : Int) : List (List Int) → List (List Int)
  | [] => []
  | c :: r => if Fits ns c t then (c ++ [t]) :: r else c :: fit ns t r
theorem fit_no {ns : List Int} {t : Int} : ∀ {cs : List (List Int)}, (∀ c ∈ cs, ¬ Fits ns c t) → fit ns t cs = cs
  | [], _ => rfl
  | c :: r, h => by rw [fit, if_neg (h c List.mem_cons_self), fit_no fun c' hc => h c' (List.mem_cons_of_mem _ hc)]
theorem fit_at {ns : List Int} {t : Int} : ∀ {cs : List (List Int)} {j : Nat} {c : List Int}, cs[j]? = some c → Fits ns c t → (∀ (j' : Nat) (c' : List Int), j' < j → cs[j']? = some c' → ¬ Fits ns c' t) → fit ns t cs = cs.set j (c ++ [t])
  | [], _, _, h, _, _ => by simp at h
  | d :: r, 0, c, h, hf, _ => by
    cases h
    rw [fit, if_pos hf]; rfl
  | d :: r, j + 1, c, h, hf, hn => by
    rw [fit, if_neg (hn 0 d (Nat.succ_pos j) rfl), fit_at (cs := r) (j := j) h hf fun j' c' hj hc => hn (j' + 1) c' (Nat.succ_lt_succ hj) hc]; rfl
/-- the chains after the things before t -/
def chainsTo (ns : List Int) (m : Nat) : Nat → List (List Int)
  | 0 => List.replicate m []
  | t + 1 => fit ns t (chainsTo ns m t)
theorem fit_len {ns : List Int} {t : Int} : ∀ cs : List (List Int), (fit ns t cs).length = cs.length
  | [] => rfl
  | c :: r => by
    rw [fit]
    split
    · rfl
    · rw [List.length_cons, List.length_cons, fit_len r]
theorem chainsTo_len (ns : List Int) (m : Nat) : ∀ t, (chainsTo ns m t).length = m
  | 0 => List.length_replicate
  | t + 1 => by rw [chainsTo, fit_len, chainsTo_len ns m t]
theorem fit_mem {ns : List Int} {t : Int} : ∀ {cs : List (List Int)} {c : List Int}, c ∈ fit ns t cs → c ∈ cs ∨ ∃ d ∈ cs, Fits ns d t ∧ c = d ++ [t]
  | [], _, h => by cases h
  | d :: r, c, h => by
    rw [fit] at h
    split at h
    · rename_i hf
      rcases List.mem_cons.mp h with rfl | h
      · exact .inr ⟨d, List.mem_cons_self, hf, rfl⟩
      · exact .inl (List.mem_cons_of_mem _ h)
    · rcases List.mem_cons.mp h with rfl | h
      · exact .inl List.mem_cons_self
      · rcases fit_mem h with h | ⟨e, he, hf, rfl⟩
        · exact .inl (List.mem_cons_of_mem _ h)
        · exact .inr ⟨e, List.mem_cons_of_mem _ he, hf, rfl⟩
theorem chains_lt {ns : List Int} {m : Nat} : ∀ {t : Nat} {c : List Int}, c ∈ chainsTo ns m t → ∀ x ∈ c, 0 ≤ x ∧ x < (t : Int)
  | 0, c, h, x, hx => by
    rw [chainsTo] at h
    rw [List.eq_of_mem_replicate h] at hx
    cases hx
  | t + 1, c, h, x, hx => by
    rw [chainsTo] at h
    rcases fit_mem h with h | ⟨d, hd, _, rfl⟩
    · have := chains_lt h x hx
      omega
    · rcases List.mem_append.mp hx with hx | hx
      · have := chains_lt hd x hx
        omega
      · rw [List.mem_singleton.mp hx]; omega
theorem chains_len {ns : List Int} {m : Nat} : ∀ {t : Nat} {c : List Int}, c ∈ chainsTo ns m t → c.length ≤ t
  | 0, c, h => by
    rw [chainsTo] at h
    rw [List.eq_of_mem_replicate h]; exact Nat.le_refl 0
  | t + 1, c, h => by
    rw [chainsTo] at h
    rcases fit_mem h with h | ⟨d, hd, _, rfl⟩
    · exact Nat.le_succ_of_le (chains_len h)
    · rw [List.length_append]
      exact Nat.succ_le_succ (chains_len hd)
/-- how many things the chains hold -/
def size (cs : List (List Int)) : Int := (cs.map fun c => (c.length : Int)).sum
/-- how wide each thing's group is -/
def wides (ns : List Int) : List Int := (List.range ns.length).map fun (i : Nat) => ns.getD i 0 - i + 1
theorem take_snoc {α : Type} {l : List α} {i : Nat} {x : α} (h : l[i]? = some x) : l.take (i + 1) = l.take i ++ [x] := by
  rw [List.take_add_one, h]; rfl
end BandM
/-! BandF: first fit, plainly: what the chains are, that wide enough they hold all, that too few they don't. -/
namespace BandM
/-- at most b - a different numbers from a on and before b -/
theorem few : ∀ (n : Nat) {l : List Int} {a : Int}, l.Nodup → (∀ x ∈ l, a ≤ x ∧ x < a + n) → l.length ≤ n
  | 0, [], _, _, _ => Nat.le_refl 0
  | 0, x :: _, a, _, h => by
    have := h x List.mem_cons_self
    omega
  | n + 1, l, a, hn, h => by
    by_cases e : a + (n : Int) ∈ l
    · have h1 := few n (l := l.erase (a + n)) (a := a) (hn.erase _) fun x hx => by
        have hx' := (hn.mem_erase_iff).mp hx
        have := h x hx'.2
        have : x ≠ a + n := hx'.1
        omega
      have := List.length_erase_of_mem e
      omega
    · have h1 := few n (l := l) (a := a) hn fun x hx => by
        have := h x hx
        have : x ≠ a + n := fun z => e (z ▸ hx)
        omega
      omega
theorem few' {l : List Int} {a b : Int} (hn : l.Nodup) (h : ∀ x ∈ l, a ≤ x ∧ x < b) (hab : a ≤ b) : (l.length : Int) ≤ b - a := by
  have := few (b - a).toNat hn (a := a) fun x hx => by have := h x hx; omega
  omega
/-- one thing more, or none -/
theorem fit_flat {ns : List Int} {t : Int} : ∀ cs : List (List Int), (fit ns t cs = cs ∧ ∀ c ∈ cs, ¬ Fits ns c t) ∨ List.Perm (fit ns t cs).flatten (t :: cs.flatten)
  | [] => .inl ⟨rfl, fun _ h => by cases h⟩
  | c :: r => by
    rw [fit]
    split
    · right
      show List.Perm ((c ++ [t]) ++ r.flatten) (t :: (c ++ r.flatten))
      rw [List.append_assoc]
      exact List.perm_middle
    · rename_i hc
      rcases fit_flat (ns := ns) (t := t) r with ⟨h1, h2⟩ | h
      · left
        refine ⟨by rw [h1], fun d hd => ?_⟩
        rcases List.mem_cons.mp hd with rfl | hd
        · exact hc
        · exact h2 d hd
      · right
        show List.Perm (c ++ (fit ns t r).flatten) (t :: (c ++ r.flatten))
        exact (h.append_left c).trans List.perm_middle
theorem flat_lt {ns : List Int} {m t : Nat} {x : Int} (h : x ∈ (chainsTo ns m t).flatten) : 0 ≤ x ∧ x < t := by
  obtain ⟨c, hc, hx⟩ := List.mem_flatten.mp h
  exact chains_lt hc x hx
theorem flat_nodup (ns : List Int) (m : Nat) : ∀ t, (chainsTo ns m t).flatten.Nodup
  | 0 => by
    have : (chainsTo ns m 0).flatten = [] := by
      rw [chainsTo, List.flatten_eq_nil_iff]
      exact fun l hl => List.eq_of_mem_replicate hl
    rw [this]
    exact List.nodup_nil
  | t + 1 => by
    rw [chainsTo]
    rcases fit_flat (ns := ns) (t := t) (chainsTo ns m t) with ⟨h1, _⟩ | h
    · rw [h1]; exact flat_nodup ns m t
    · refine h.nodup_iff.mpr (List.nodup_cons.mpr ⟨fun z => ?_, flat_nodup ns m t⟩)
      have := flat_lt z
      omega
theorem size_flat : ∀ cs : List (List Int), size cs = (cs.flatten.length : Int)
  | [] => rfl
  | c :: r => by
    have := size_flat r
    show (c.length : Int) + size r = _
    rw [List.flatten_cons, List.length_append, this]
    omega
/-- a chain as it is to be -/
structure GoodChain (ns c : List Int) : Prop where
  lt : ∀ x ∈ c, 0 ≤ x ∧ x < ns.length
  far : ∀ k : Nat, k + 1 < c.length → ns.getD (c.getD k 0).toNat 0 < c.getD (k + 1) 0
theorem good_chains {ns : List Int} {m : Nat} : ∀ {t : Nat}, t ≤ ns.length → ∀ c ∈ chainsTo ns m t, GoodChain ns c
  | 0, _, c, h => by
    rw [chainsTo] at h
    rw [List.eq_of_mem_replicate h]
    exact ⟨fun x hx => (List.not_mem_nil hx).elim, fun k hk => absurd hk (Nat.not_lt_zero _)⟩
  | t + 1, ht, c, h => by
    have ih := good_chains (ns := ns) (m := m) (t := t) (by omega)
    rw [chainsTo] at h
    rcases fit_mem h with h | ⟨d, hd, hf, rfl⟩
    · exact ih c h
    · have g := ih d hd
      refine ⟨fun x hx => ?_, fun k hk => ?_⟩
      · rcases List.mem_append.mp hx with hx | hx
        · exact g.lt x hx
        · rw [List.mem_singleton.mp hx]; omega
      · rw [List.length_append, List.length_singleton] at hk
        by_cases e : k + 1 = d.length
        · have dn : d ≠ [] := fun z => by rw [z] at e; cases e
          rw [getD_end e, getD_app (by omega)]
          have el : d.getD k 0 = d.getLastD 0 := by
            rw [List.getLastD_eq_getLast?, List.getLast?_eq_getElem?, List.getD_eq_getElem?_getD, show k = d.length - 1 by omega]
          rw [el]
          exact hf.elim (fun z => absurd z dn) id
        · rw [getD_app (by omega), getD_app (by omega)]
          exact g.far k (by omega)
theorem last_mem : ∀ {c : List Int}, c ≠ [] → c.getLastD 0 ∈ c
  | [], h => absurd rfl h
  | a :: r, h => by
    rw [List.getLastD_cons, ← List.getLast_eq_getLastD (h := h)]
    exact List.getLast_mem h
theorem lasts_nodup : ∀ {cs : List (List Int)}, cs.flatten.Nodup → (∀ c ∈ cs, c ≠ []) → (cs.map fun c => c.getLastD 0).Nodup
  | [], _, _ => List.nodup_nil
  | c :: r, h, hn => by
    rw [List.flatten_cons] at h
    have h' := List.nodup_append.mp h
    refine List.nodup_cons.mpr ⟨fun z => ?_, lasts_nodup h'.2.1 fun d hd => hn d (List.mem_cons_of_mem _ hd)⟩
    obtain ⟨d, hd, e⟩ := List.mem_map.mp z
    have m1 := last_mem (hn c List.mem_cons_self)
    have m2 := last_mem (hn d (List.mem_cons_of_mem _ hd))
    rw [e] at m2
    exact h'.2.2 _ m1 _ (List.mem_flatten.mpr ⟨d, hd, m2⟩) rfl
/-- the least of some numbers -/
theorem least_of : ∀ {l : List Int}, l ≠ [] → ∃ x ∈ l, ∀ y ∈ l, x ≤ y
  | [], h => absurd rfl h
  | [a], _ => ⟨a, List.mem_singleton.mpr rfl, fun y hy => by rw [List.mem_singleton.mp hy]; exact Int.le_refl a⟩
  | a :: b :: r, _ => by
    obtain ⟨x, hx, hm⟩ := least_of (l := b :: r) (List.cons_ne_nil b r)
    by_cases c : a ≤ x
    · refine ⟨a, List.mem_cons_self, fun y hy => ?_⟩
      rcases List.mem_cons.mp hy with rfl | hy
      · exact Int.le_refl _
      · exact Int.le_trans c (hm y hy)
    · refine ⟨x, List.mem_cons_of_mem _ hx, fun y hy => ?_⟩
      rcases List.mem_cons.mp hy with rfl | hy
      · omega
      · exact hm y hy
/-- wide enough: every thing finds its chain -/
theorem all_in {ns : List Int} {m : Nat} (hw : ∀ i : Nat, i < ns.length → ns.getD i 0 - i + 1 ≤ m) (hE : ∀ i : Nat, i < ns.length → (i : Int) ≤ ns.getD i 0) : ∀ {t : Nat}, t ≤ ns.length → size (chainsTo ns m t) = t
  | 0, _ => by
    rw [size_flat]
    have : (chainsTo ns m 0).flatten = [] := by
      rw [chainsTo, List.flatten_eq_nil_iff]
      exact fun l hl => List.eq_of_mem_replicate hl
    rw [this]; rfl
  | t + 1, ht => by
    have ih := all_in hw hE (t := t) (by omega)
    rw [size_flat] at ih ⊢
    rw [chainsTo]
    rcases fit_flat (ns := ns) (t := t) (chainsTo ns m t) with ⟨_, no⟩ | h
    · exfalso
      have ne : ∀ c ∈ chainsTo ns m t, c ≠ [] := fun c hc z => no c hc (.inl z)
      have nd := lasts_nodup (flat_nodup ns m t) ne
      have ln : ((chainsTo ns m t).map fun c => c.getLastD 0).length = m := by rw [List.length_map, chainsTo_len]
      have mp : 0 < m := by
        have := hw t (by omega)
        have := hE t (by omega)
        omega
      obtain ⟨x, hx, hm⟩ := least_of (l := (chainsTo ns m t).map fun c => c.getLastD 0) (fun z => by rw [z] at ln; simp at ln; omega)
      have big : ∀ y : Int, y ∈ (chainsTo ns m t).map (fun c => c.getLastD 0) → (0 ≤ y ∧ y < t) ∧ (t : Int) ≤ ns.getD y.toNat 0 := fun y hy => by
        obtain ⟨c, hc, rfl⟩ := List.mem_map.mp hy
        exact ⟨chains_lt hc _ (last_mem (ne c hc)), Int.not_lt.mp fun z => no c hc (.inr z)⟩
      obtain ⟨⟨x0, x1⟩, x2⟩ := big x hx
      have cnt := few' nd (fun y hy => ⟨hm y hy, (big y hy).1.2⟩) (by omega)
      rw [ln] at cnt
      have := hw x.toNat (by omega)
      omega
    · rw [h.length_eq, List.length_cons]
      omega
theorem filter_flat_le {p : Int → Bool} : ∀ {cs : List (List Int)}, (∀ c ∈ cs, (c.filter p).length ≤ 1) → (cs.flatten.filter p).length ≤ cs.length
  | [], _ => Nat.le_refl 0
  | c :: r, h => by
    have h1 := h c List.mem_cons_self
    have h2 := filter_flat_le (cs := r) fun d hd => h d (List.mem_cons_of_mem _ hd)
    rw [List.flatten_cons, List.filter_append, List.length_append, List.length_cons]
    omega
/-- a chain goes up -/
theorem GoodChain.up {ns c : List Int} (g : GoodChain ns c) (hE : ∀ i : Nat, i < ns.length → (i : Int) ≤ ns.getD i 0) : ∀ {i j : Nat}, i < j → j < c.length → ns.getD (c.getD i 0).toNat 0 < c.getD j 0 := by
  intro i j
  induction j with
  | zero => intro h; omega
  | succ j ih =>
    intro h hj
    have f := g.far j hj
    by_cases e : i = j
    · rw [e]; exact f
    · have a := ih (by omega) (by omega)
      have mem : c.getD j 0 ∈ c := by
        rw [List.getD_eq_getElem?_getD, List.getElem?_eq_getElem (by omega)]
        exact List.getElem_mem _
      have b := g.lt _ mem
      have d := hE (c.getD j 0).toNat (by omega)
      omega
/-- two different items of a list: one before the other -/
theorem two_in {p : Int → Bool} : ∀ {c : List Int}, 1 < (c.filter p).length → ∃ i j : Nat, i < j ∧ j < c.length ∧ p (c.getD i 0) = true ∧ p (c.getD j 0) = true
  | [], h => by simp at h
  | a :: r, h => by
    by_cases pa : p a = true
    · rw [List.filter_cons_of_pos pa, List.length_cons] at h
      obtain ⟨x, hx⟩ : ∃ x, x ∈ r.filter p := List.exists_mem_of_length_pos (by omega)
      obtain ⟨xr, px⟩ := List.mem_filter.mp hx
      obtain ⟨j, hj, e⟩ := List.getElem_of_mem xr
      refine ⟨0, j + 1, by omega, by rw [List.length_cons]; omega, pa, ?_⟩
      rw [List.getD_cons_succ, List.getD_eq_getElem?_getD, List.getElem?_eq_getElem hj, Option.getD_some, e]
      exact px
    · rw [List.filter_cons_of_neg pa] at h
      obtain ⟨i, j, h1, h2, h3, h4⟩ := two_in h
      exact ⟨i + 1, j + 1, by omega, by rw [List.length_cons]; omega, by rw [List.getD_cons_succ]; exact h3, by rw [List.getD_cons_succ]; exact h4⟩
theorem three_len {p q r : Int → Bool} (h : ∀ a, p a = true ∨ q a = true ∨ r a = true) : ∀ l : List Int, l.length ≤ (l.filter p).length + (l.filter q).length + (l.filter r).length
  | [] => Nat.zero_le _
  | a :: t => by
    have ih := three_len h t
    have e : ∀ s : Int → Bool, ((a :: t).filter s).length = (if s a = true then 1 else 0) + (t.filter s).length := fun s => by
      by_cases z : s a = true
      · rw [List.filter_cons_of_pos z, if_pos z, List.length_cons]; omega
      · rw [List.filter_cons_of_neg z, if_neg z]; omega
    rw [e p, e q, e r, List.length_cons]
    rcases h a with z | z | z
    · rw [if_pos z]; omega
    · rw [if_pos z]; omega
    · rw [if_pos z]; omega
/-- too few chains: some thing is left out -/
theorem not_all {ns : List Int} {m i : Nat} (hE : EndsTo ns.length ns) (hi : i < ns.length) (hm : (m : Int) < ns.getD i 0 - i + 1) : size (chainsTo ns m ns.length) < ns.length := by
  have hle : ∀ j : Nat, j < ns.length → (j : Int) ≤ ns.getD j 0 := fun j hj => (hE j hj).1
  have one : ∀ c ∈ chainsTo ns m ns.length, (c.filter fun x => decide ((i : Int) ≤ x ∧ x ≤ ns.getD i 0)).length ≤ 1 := fun c hc => Nat.le_of_not_lt fun h => by
    have g := good_chains (m := m) (Nat.le_refl ns.length) c hc
    obtain ⟨a, b, ab, bl, pa, pb⟩ := two_in h
    have pa := of_decide_eq_true pa
    have pb := of_decide_eq_true pb
    have u := g.up hle ab bl
    have mem : c.getD a 0 ∈ c := by
      rw [List.getD_eq_getElem?_getD, List.getElem?_eq_getElem (by omega)]
      exact List.getElem_mem _
    have q := g.lt _ mem
    have mono := FitEnds.mono hE (i := i) (j := (c.getD a 0).toNat) (by omega) (by omega)
    omega
  have nd := flat_nodup ns m ns.length
  have inn := filter_flat_le one
  rw [chainsTo_len] at inn
  have lt : ∀ x ∈ (chainsTo ns m ns.length).flatten, 0 ≤ x ∧ x < (ns.length : Int) := fun x hx => flat_lt hx
  have lo := few' (l := (chainsTo ns m ns.length).flatten.filter fun x => decide (x < (i : Int))) (a := 0) (b := i) (nd.filter _) (fun x hx => by
    obtain ⟨h1, h2⟩ := List.mem_filter.mp hx
    exact ⟨(lt x h1).1, of_decide_eq_true h2⟩) (by omega)
  have eb := (hE i hi).2.1
  have hi2 := few' (l := (chainsTo ns m ns.length).flatten.filter fun x => decide (ns.getD i 0 < x)) (a := ns.getD i 0 + 1) (b := ns.length) (nd.filter _) (fun x hx => by
    obtain ⟨h1, h2⟩ := List.mem_filter.mp hx
    have := of_decide_eq_true h2
    exact ⟨by omega, (lt x h1).2⟩) (by omega)
  rw [size_flat]
  have := three_len (p := fun x => decide (x < (i : Int))) (q := fun x => decide ((i : Int) ≤ x ∧ x ≤ ns.getD i 0)) (r := fun x => decide (ns.getD i 0 < x)) (fun a => by simp only [decide_eq_true_eq]; omega) (chainsTo ns m ns.length).flatten
  omega
/-- the greatest by folding -/
theorem fold_max : ∀ (r : List Int) (n : Int), (n ≤ r.foldl max n ∧ ∀ x ∈ r, x ≤ r.foldl max n) ∧ (r.foldl max n = n ∨ r.foldl max n ∈ r)
  | [], n => ⟨⟨Int.le_refl n, fun x hx => (List.not_mem_nil hx).elim⟩, .inl rfl⟩
  | a :: r, n => by
    obtain ⟨⟨h1, h2⟩, h3⟩ := fold_max r (max n a)
    rw [List.foldl_cons]
    refine ⟨⟨by omega, fun x hx => ?_⟩, ?_⟩
    · rcases List.mem_cons.mp hx with rfl | hx
      · omega
      · exact h2 x hx
    · rcases h3 with h3 | h3
      · rw [h3]
        by_cases c : n ≤ a
        · right; rw [show max n a = a by omega]; exact List.mem_cons_self
        · left; omega
      · exact .inr (List.mem_cons_of_mem _ h3)
/-- a thing is not among those before it -/
theorem fresh_at {cs : List (List Int)} {i j : Nat} {c : List Int} (hnd : cs.flatten.Nodup) (hc : cs[i]? = some c) (hj : j < c.length) : c.getD j 0 ∉ (cs.take i).flatten ++ c.take j := by
  have e1 : cs.flatten = (cs.take (i + 1)).flatten ++ (cs.drop (i + 1)).flatten := by rw [← List.flatten_append, List.take_append_drop]
  have e2 : (cs.take (i + 1)).flatten = (cs.take i).flatten ++ c := by rw [take_snoc hc, List.flatten_append]; simp
  have e3 : c = c.take j ++ c.getD j 0 :: c.drop (j + 1) := by
    rw [List.getD_eq_getElem?_getD, List.getElem?_eq_getElem hj, Option.getD_some, ← List.drop_eq_getElem_cons hj, List.take_append_drop]
  rw [e1] at hnd
  have h1 := (List.nodup_append.mp hnd).1
  rw [e2] at h1
  have h2 : ((cs.take i).flatten ++ c.take j ++ c.getD j 0 :: c.drop (j + 1)).Nodup := by rw [List.append_assoc, ← e3]; exact h1
  exact fun z => (List.nodup_append.mp h2).2.2 _ z _ List.mem_cons_self rfl
theorem pre_len {cs : List (List Int)} {i j : Nat} {c : List Int} (hc : cs[i]? = some c) : ((cs.take i).flatten ++ c.take j).length ≤ cs.flatten.length := by
  have e1 : cs.flatten = (cs.take (i + 1)).flatten ++ (cs.drop (i + 1)).flatten := by rw [← List.flatten_append, List.take_append_drop]
  have e2 : (cs.take (i + 1)).flatten = (cs.take i).flatten ++ c := by rw [take_snoc hc, List.flatten_append]; simp
  rw [e1, e2, List.length_append, List.length_append, List.length_append, List.length_take]
  omega
/-- the things from i to its end -/
def groupAt (ns : List Int) (i : Nat) : List Int := (List.range (ns.getD i 0 - i + 1).toNat).map fun (j : Nat) => (i : Int) + j
/-- a widest group -/
def GroupOf (ns g : List Int) : Prop := (ns = [] ∧ g = []) ∨ ∃ i, i < ns.length ∧ g = groupAt ns i ∧ ∀ j : Nat, j < ns.length → ns.getD j 0 - j + 1 ≤ (g.length : Int)
theorem group_len {ns : List Int} {i : Nat} (h : (i : Int) ≤ ns.getD i 0) : ((groupAt ns i).length : Int) = ns.getD i 0 - i + 1 := by
  rw [groupAt, List.length_map, List.length_range]; omega
theorem wides_mem {ns : List Int} {x : Int} : x ∈ wides ns ↔ ∃ i : Nat, i < ns.length ∧ x = ns.getD i 0 - i + 1 := by
  rw [wides, List.mem_map]
  exact ⟨fun ⟨i, hi, e⟩ => ⟨i, List.mem_range.mp hi, e.symm⟩, fun ⟨i, hi, e⟩ => ⟨i, List.mem_range.mpr hi, e.symm⟩⟩
/-- the size of the greatest group -/
theorem widest {ns g : List Int} (hE : EndsTo ns.length ns) (h : GroupOf ns g) : Rd.maxDef 0 (wides ns) = (g.length : Int) := by
  rcases h with ⟨rfl, rfl⟩ | ⟨i, hi, rfl, hw⟩
  · rfl
  · have gl := group_len (hE i hi).1
    have key : (∀ x ∈ wides ns, x ≤ Rd.maxDef 0 (wides ns)) ∧ Rd.maxDef 0 (wides ns) ∈ wides ns := by
      cases e : wides ns with
      | nil =>
        have : ns.getD i 0 - i + 1 ∈ wides ns := wides_mem.mpr ⟨i, hi, rfl⟩
        rw [e] at this; cases this
      | cons a r =>
        obtain ⟨⟨h1, h2⟩, h3⟩ := fold_max r a
        refine ⟨fun x hx => ?_, ?_⟩
        · rcases List.mem_cons.mp hx with rfl | hx
          · exact h1
          · exact h2 x hx
        · rcases h3 with h3 | h3
          · show r.foldl max a ∈ _
            rw [h3]; exact List.mem_cons_self
          · exact List.mem_cons_of_mem _ h3
    have k1 := key.1 _ (wides_mem.mpr ⟨i, hi, rfl⟩)
    obtain ⟨j, hj, e⟩ := wides_mem.mp key.2
    have := hw j hj
    omega
theorem group_last {ns : List Int} {i : Nat} (h : (i : Int) ≤ ns.getD i 0) : (groupAt ns i).getLastD 0 = ns.getD i 0 := by
  obtain ⟨n, hn⟩ : ∃ n : Nat, (ns.getD i 0 - i + 1).toNat = n + 1 := ⟨(ns.getD i 0 - i).toNat, by omega⟩
  unfold groupAt
  generalize ns.getD i 0 = z at h hn ⊢
  rw [hn, List.range_succ, List.map_append, List.getLastD_eq_getLast?]
  simp
  omega
end BandM
/-! ChainM: first fit, chain by chain. -/
namespace BandM
/-- one thing for the chain, or for what is left -/
def grabS (ns : List Int) (g : List Int × List Int) (t : Int) : List Int × List Int := if Fits ns g.1 t then (g.1 ++ [t], g.2) else (g.1, g.2 ++ [t])
def grab (ns l : List Int) : List Int × List Int := l.foldl (grabS ns) ([], [])
def fitAll (ns : List Int) (cs : List (List Int)) (l : List Int) : List (List Int) := l.foldl (fun cs t => fit ns t cs) cs
theorem fitAll_snoc {ns : List Int} {cs : List (List Int)} {l : List Int} {t : Int} : fitAll ns cs (l ++ [t]) = fit ns t (fitAll ns cs l) := by
  unfold fitAll; rw [List.foldl_append]; rfl
theorem fitAll_cons {ns : List Int} : ∀ (l c r : List Int) (cs : List (List Int)), fitAll ns (c :: fitAll ns cs r) l = (l.foldl (grabS ns) (c, r)).1 :: fitAll ns cs (l.foldl (grabS ns) (c, r)).2
  | [], _, _, _ => rfl
  | t :: l, c, r, cs => by
    show fitAll ns (fit ns t (c :: fitAll ns cs r)) l = (l.foldl (grabS ns) (grabS ns (c, r) t)).1 :: fitAll ns cs (l.foldl (grabS ns) (grabS ns (c, r) t)).2
    by_cases h : Fits ns c t
    · rw [fit, if_pos h, grabS, if_pos h]
      exact fitAll_cons l (c ++ [t]) r cs
    · rw [fit, if_neg h, grabS, if_neg h, ← fitAll_snoc]
      exact fitAll_cons l c (r ++ [t]) cs
def ups (n : Nat) : List Int := (List.range n).map fun (i : Nat) => (i : Int)
theorem chainsTo_all (ns : List Int) (m : Nat) : ∀ t, chainsTo ns m t = fitAll ns (List.replicate m []) (ups t)
  | 0 => rfl
  | t + 1 => by
    have e : ups (t + 1) = ups t ++ [(t : Int)] := by unfold ups; rw [List.range_succ, List.map_append]; rfl
    rw [e, fitAll_snoc, ← chainsTo_all ns m t]; rfl
/-- the chains and what is left, after k chains -/
def peelN (ns : List Int) : Nat → List (List Int) × List Int
  | 0 => ([], ups ns.length)
  | k + 1 => ((peelN ns k).1 ++ [(grab ns (peelN ns k).2).1], (grab ns (peelN ns k).2).2)
theorem peel_all (ns : List Int) : ∀ (k : Nat) (cs : List (List Int)), fitAll ns (List.replicate k [] ++ cs) (ups ns.length) = (peelN ns k).1 ++ fitAll ns cs (peelN ns k).2
  | 0, _ => rfl
  | k + 1, cs => by
    have e : List.replicate (k + 1) ([] : List Int) ++ cs = List.replicate k [] ++ ([] :: cs) := by
      rw [List.replicate_succ', List.append_assoc]; rfl
    rw [e, peel_all ns k]
    have h := fitAll_cons (ns := ns) (peelN ns k).2 [] [] cs
    show (peelN ns k).1 ++ fitAll ns ([] :: cs) (peelN ns k).2 = (peelN ns k).1 ++ [(grab ns (peelN ns k).2).1] ++ fitAll ns cs (grab ns (peelN ns k).2).2
    rw [List.append_assoc]
    exact congrArg _ h
theorem fitAll_nil {ns : List Int} : ∀ l, fitAll ns [] l = []
  | [] => rfl
  | _ :: l => fitAll_nil (ns := ns) l
theorem peel_chains (ns : List Int) (m : Nat) : (peelN ns m).1 = chainsTo ns m ns.length := by
  have h := peel_all ns m []
  rw [fitAll_nil, List.append_nil, List.append_nil] at h
  rw [chainsTo_all, h]
theorem peel_take (ns : List Int) (k : Nat) : ∀ d, (peelN ns (k + d)).1.take k = (peelN ns k).1
  | 0 => List.take_of_length_le (by rw [peel_chains, chainsTo_len]; exact Nat.le_refl _)
  | d + 1 => by
    have e : (peelN ns (k + (d + 1))).1 = (peelN ns (k + d)).1 ++ [(grab ns (peelN ns (k + d)).2).1] := rfl
    rw [e, List.take_append_of_le_length (by rw [peel_chains, chainsTo_len]; omega), peel_take ns k d]
theorem chains_take (ns : List Int) {k m : Nat} (h : k ≤ m) : (chainsTo ns m ns.length).take k = chainsTo ns k ns.length := by
  obtain ⟨d, rfl⟩ : ∃ d, m = k + d := ⟨m - k, by omega⟩
  rw [← peel_chains, ← peel_chains, peel_take]
theorem grab_mem {ns : List Int} {x : Int} : ∀ (l c r : List Int), (x ∈ (l.foldl (grabS ns) (c, r)).1 ∨ x ∈ (l.foldl (grabS ns) (c, r)).2) → x ∈ c ∨ x ∈ r ∨ x ∈ l
  | [], c, r, h => h.elim .inl (fun z => .inr (.inl z))
  | t :: l, c, r, h => by
    have h : x ∈ (l.foldl (grabS ns) (grabS ns (c, r) t)).1 ∨ x ∈ (l.foldl (grabS ns) (grabS ns (c, r) t)).2 := h
    by_cases hf : Fits ns c t
    · rw [grabS, if_pos hf] at h
      rcases grab_mem l _ _ h with z | z | z
      · rcases List.mem_append.mp z with z | z
        · exact .inl z
        · exact .inr (.inr (List.mem_singleton.mp z ▸ List.mem_cons_self))
      · exact .inr (.inl z)
      · exact .inr (.inr (List.mem_cons_of_mem _ z))
    · rw [grabS, if_neg hf] at h
      rcases grab_mem l _ _ h with z | z | z
      · exact .inl z
      · rcases List.mem_append.mp z with z | z
        · exact .inr (.inl z)
        · exact .inr (.inr (List.mem_singleton.mp z ▸ List.mem_cons_self))
      · exact .inr (.inr (List.mem_cons_of_mem _ z))
theorem grab_len {ns : List Int} : ∀ (l c r : List Int), (l.foldl (grabS ns) (c, r)).1.length + (l.foldl (grabS ns) (c, r)).2.length = c.length + r.length + l.length
  | [], _, _ => rfl
  | t :: l, c, r => by
    show (l.foldl (grabS ns) (grabS ns (c, r) t)).1.length + (l.foldl (grabS ns) (grabS ns (c, r) t)).2.length = _
    by_cases hf : Fits ns c t
    · rw [grabS, if_pos hf, grab_len l]
      simp only [List.length_append, List.length_cons, List.length_nil]; omega
    · rw [grabS, if_neg hf, grab_len l]
      simp only [List.length_append, List.length_cons, List.length_nil]; omega
theorem peel_left (ns : List Int) : ∀ k, (∀ x ∈ (peelN ns k).2, 0 ≤ x ∧ x < ns.length) ∧ (peelN ns k).2.length ≤ ns.length
  | 0 => ⟨fun x hx => by
      obtain ⟨i, hi, rfl⟩ := List.mem_map.mp hx
      have := List.mem_range.mp hi
      omega, by show (ups ns.length).length ≤ _; unfold ups; rw [List.length_map, List.length_range]; exact Nat.le_refl _⟩
  | k + 1 => by
    have ih := peel_left ns k
    refine ⟨fun x hx => ?_, ?_⟩
    · rcases grab_mem _ _ _ (.inr hx) with z | z | z
      · cases z
      · cases z
      · exact ih.1 x z
    · have := grab_len (ns := ns) (peelN ns k).2 [] []
      have e : (peelN ns (k + 1)).2 = ((peelN ns k).2.foldl (grabS ns) ([], [])).2 := rfl
      rw [e]
      simp only [List.length_nil] at this
      omega
end BandM
/-! CoverM: covers of a band and the things in the chains. -/
namespace BandM
/-- the bound of the groups from due on -/
def boundFrom (ns : List Int) (m : Int) : Int → Int → List (Int × Int) → Option Int
  | due, tot, [] => if due = ns.length then some tot else none
  | due, tot, (f, l) :: r => if f = due ∧ f ≤ l ∧ l < ns.length ∧ l ≤ ns.getD f.toNat 0 then boundFrom ns m (l + 1) (tot + min m (l - f + 1)) r else none
theorem bound_add {ns : List Int} {m : Int} : ∀ (gs : List (Int × Int)) (due a b c : Int), boundFrom ns m due a gs = some c → boundFrom ns m due (a + b) gs = some (c + b)
  | [], due, a, b, c, h => by
    unfold boundFrom at h ⊢
    by_cases e : due = (ns.length : Int)
    · rw [if_pos e] at h ⊢
      cases h; rfl
    · rw [if_neg e] at h; cases h
  | (f, l) :: r, due, a, b, c, h => by
    unfold boundFrom at h ⊢
    by_cases e : f = due ∧ f ≤ l ∧ l < ns.length ∧ l ≤ ns.getD f.toNat 0
    · rw [if_pos e] at h ⊢
      have := bound_add r (l + 1) (a + min m (l - f + 1)) b c h
      rw [show a + b + min m (l - f + 1) = a + min m (l - f + 1) + b by omega]
      exact this
    · rw [if_neg e] at h; cases h
theorem bound_pos {ns : List Int} {m : Int} (hm : 0 ≤ m) : ∀ (gs : List (Int × Int)) (due a c : Int), 0 ≤ a → boundFrom ns m due a gs = some c → 0 ≤ c
  | [], due, a, c, h0, h => by
    unfold boundFrom at h
    by_cases e : due = (ns.length : Int)
    · rw [if_pos e] at h; cases h; exact h0
    · rw [if_neg e] at h; cases h
  | (f, l) :: r, due, a, c, h0, h => by
    unfold boundFrom at h
    by_cases e : f = due ∧ f ≤ l ∧ l < ns.length ∧ l ≤ ns.getD f.toNat 0
    · rw [if_pos e] at h
      exact bound_pos hm r (l + 1) _ c (by omega) h
    · rw [if_neg e] at h; cases h
/-- how many from a on -/
def cnt (T : List Int) (a : Int) : Nat := (T.filter fun x => decide (a ≤ x)).length
/-- a group ahead -/
theorem bound_cons {ns : List Int} {m f l : Int} {gs : List (Int × Int)} {T : List Int} (h : boundFrom ns m (l + 1) 0 gs = some ((cnt T (l + 1) : Nat) : Int)) (h1 : f ≤ l) (h2 : l < ns.length) (h3 : l ≤ ns.getD f.toNat 0) (h4 : (cnt T f : Int) = cnt T (l + 1) + min m (l - f + 1)) : boundFrom ns m f 0 ((f, l) :: gs) = some ((cnt T f : Nat) : Int) := by
  unfold boundFrom
  rw [if_pos ⟨rfl, h1, h2, h3⟩, show (0 : Int) + min m (l - f + 1) = 0 + min m (l - f + 1) from rfl, bound_add gs (l + 1) 0 (min m (l - f + 1)) _ h, h4]
theorem cnt_all {T : List Int} (h : ∀ x ∈ T, 0 ≤ x) : cnt T 0 = T.length := by
  unfold cnt
  rw [List.filter_eq_self.mpr fun x hx => decide_eq_true (h x hx)]
theorem cnt_none {T : List Int} {a : Int} (h : ∀ x ∈ T, x < a) : cnt T a = 0 := by
  unfold cnt
  rw [List.filter_eq_nil_iff.mpr fun x hx => by have := h x hx; simp; omega]; rfl
/-- split at b -/
theorem cnt_split {T : List Int} {a b : Int} (hab : a ≤ b) : cnt T a = cnt T b + (T.filter fun x => decide (a ≤ x ∧ x < b)).length := by
  unfold cnt
  induction T with
  | nil => rfl
  | cons x r ih =>
    rw [List.filter_cons, List.filter_cons, List.filter_cons]
    by_cases c1 : b ≤ x
    · rw [if_pos (decide_eq_true (show a ≤ x by omega)), if_pos (decide_eq_true c1), if_neg (by simp; omega), List.length_cons, List.length_cons, ih]
      omega
    · by_cases c2 : a ≤ x
      · rw [if_pos (decide_eq_true c2), if_neg (by simp; omega), if_pos (decide_eq_true ⟨c2, by omega⟩), List.length_cons, List.length_cons, ih]
        omega
      · rw [if_neg (by simp; omega), if_neg (by simp; omega), if_neg (by simp; omega), ih]
theorem one_of {T : List Int} {t : Int} (hn : T.Nodup) (h : t ∈ T) : (T.filter fun x => decide (t ≤ x ∧ x < t + 1)).length = 1 := by
  have e : (fun x : Int => decide (t ≤ x ∧ x < t + 1)) = fun x => x == t := funext fun x => by
    rw [Bool.eq_iff_iff]; simp; omega
  rw [e]
  have := List.Nodup.count (a := t) hn
  rw [if_pos h] at this
  rw [← List.countP_eq_length_filter]; exact this
/-- in first fit: what is in at last and before t was in at t -/
theorem mem_flat {ns : List Int} {m : Nat} {x : Int} {t : Nat} (hx : x < t) : ∀ d, x ∈ (chainsTo ns m (t + d)).flatten ↔ x ∈ (chainsTo ns m t).flatten
  | 0 => Iff.rfl
  | d + 1 => by
    rw [← mem_flat hx d]
    show x ∈ (fit ns ((t + d : Nat) : Int) (chainsTo ns m (t + d))).flatten ↔ _
    rcases fit_flat (ns := ns) (t := ((t + d : Nat) : Int)) (chainsTo ns m (t + d)) with ⟨e, _⟩ | p
    · rw [e]
    · rw [p.mem_iff, List.mem_cons]
      constructor
      · rintro (z | z)
        · omega
        · exact z
      · exact .inr
theorem not_in {ns : List Int} {m t d : Nat} (h : (t : Int) ∉ (chainsTo ns m (t + 1 + d)).flatten) : ∀ c ∈ chainsTo ns m t, ¬ Fits ns c t := by
  rw [mem_flat (by omega)] at h
  rcases fit_flat (ns := ns) (t := (t : Int)) (chainsTo ns m t) with ⟨_, n⟩ | p
  · exact n
  · exact absurd (p.mem_iff.mpr List.mem_cons_self) h
/-- the many-th last of the sorted ones -/
theorem cut_at {l : List Int} (hs : l.Pairwise (· ≤ ·)) (hn : l.Nodup) {k : Nat} (hk : k < l.length) : (l.filter fun x => decide (l.getD k 0 ≤ x)).length = l.length - k ∧ (l.filter fun x => decide (l.getD k 0 < x)).length = l.length - k - 1 := by
  have lt : l.Pairwise (· < ·) := by
    have := hs.and hn
    exact this.imp fun h => by omega
  clear hs hn
  induction l generalizing k with
  | nil => exact absurd hk (Nat.not_lt_zero k)
  | cons a r ih =>
    obtain ⟨h1, h2⟩ := List.pairwise_cons.mp lt
    cases k with
    | zero =>
      have e : (a :: r).getD 0 0 = a := rfl
      rw [e]
      have f1 : (r.filter fun x => decide (a ≤ x)) = r := List.filter_eq_self.mpr fun x hx => decide_eq_true (by have := h1 x hx; omega)
      have f2 : (r.filter fun x => decide (a < x)) = r := List.filter_eq_self.mpr fun x hx => decide_eq_true (h1 x hx)
      constructor
      · rw [List.filter_cons, if_pos (by simp), f1]; simp
      · rw [List.filter_cons, if_neg (by simp), f2]; simp
    | succ k =>
      have hk' : k < r.length := by simpa using hk
      have e : (a :: r).getD (k + 1) 0 = r.getD k 0 := rfl
      have m : r.getD k 0 ∈ r := by
        rw [List.getD_eq_getElem?_getD, List.getElem?_eq_getElem hk']
        exact List.getElem_mem _
      have := h1 _ m
      obtain ⟨i1, i2⟩ := ih hk' h2
      rw [e]
      constructor
      · rw [List.filter_cons, if_neg (fun z => absurd (of_decide_eq_true z) (by omega)), i1]; simp
      · rw [List.filter_cons, if_neg (fun z => absurd (of_decide_eq_true z) (by omega)), i2]; simp
theorem sub_le {l k : List Int} (hn : l.Nodup) (h : ∀ x ∈ l, x ∈ k) : l.length ≤ k.length := by
  induction l generalizing k with
  | nil => exact Nat.zero_le _
  | cons a r ih =>
    obtain ⟨n1, n2⟩ := List.nodup_cons.mp hn
    have ha := h a List.mem_cons_self
    have := ih (k := k.erase a) n2 fun x hx => (List.mem_erase_of_ne (fun e : x = a => n1 (e ▸ hx))).mpr (h x (List.mem_cons_of_mem _ hx))
    rw [List.length_erase_of_mem ha] at this
    have := List.length_pos_of_mem ha
    simp only [List.length_cons]
    omega
theorem perm_filter_len {l k : List Int} (h : l.Perm k) (p : Int → Bool) : (l.filter p).length = (k.filter p).length := (h.filter p).length_eq
/-- a thing left out: the m last taken ones before it are near to it -/
theorem left_out {ns : List Int} {m t d : Nat} {T l : List Int} (hE : EndsTo ns.length ns) (hm : 0 < m) (ht : t + 1 + d = ns.length) (hT : T = (chainsTo ns m ns.length).flatten) (hout : (t : Int) ∉ T) (hp : l.Perm (T.filter fun x => decide (x < (t : Int)))) (hs : l.Pairwise (· ≤ ·)) :
    m ≤ l.length ∧ 0 ≤ l.getD (l.length - m) 0 ∧ l.getD (l.length - m) 0 < t ∧ (t : Int) ≤ ns.getD (l.getD (l.length - m) 0).toNat 0 ∧ (cnt T (l.getD (l.length - m) 0) : Int) = cnt T ((t : Int) + 1) + min (m : Int) (t - l.getD (l.length - m) 0 + 1) := by
  have Tn : T.Nodup := hT ▸ flat_nodup ns m ns.length
  have hE' : ∀ i : Nat, i < ns.length → (i : Int) ≤ ns.getD i 0 := fun i hi => (hE i hi).1
  have hTt : ∀ x, (x ∈ T ∧ x < (t : Int)) ↔ x ∈ (chainsTo ns m t).flatten := fun x => by
    constructor
    · rintro ⟨h1, h2⟩
      rw [hT, ← ht, Nat.add_assoc, mem_flat h2] at h1
      exact h1
    · intro h
      have h2 := (flat_lt h).2
      refine ⟨?_, h2⟩
      rw [hT, ← ht, Nat.add_assoc, mem_flat h2]
      exact h
  have lm : ∀ x, x ∈ l ↔ x ∈ T ∧ x < (t : Int) := fun x => by rw [hp.mem_iff, List.mem_filter]; simp
  have ln : l.Nodup := hp.nodup_iff.mpr (Tn.filter _)
  have no : ∀ c ∈ chainsTo ns m t, ¬ Fits ns c t := by
    refine not_in (d := d) ?_
    rw [ht, ← hT]; exact hout
  have ne : ∀ c ∈ chainsTo ns m t, c ≠ [] := fun c hc z => no c hc (.inl z)
  have lasts : ((chainsTo ns m t).map fun c => c.getLastD 0).Nodup := lasts_nodup (flat_nodup ns m t) ne
  have llen : ((chainsTo ns m t).map fun c => c.getLastD 0).length = m := by rw [List.length_map, chainsTo_len]
  have lin : ∀ x ∈ (chainsTo ns m t).map (fun c => c.getLastD 0), x ∈ l ∧ (t : Int) ≤ ns.getD x.toNat 0 := fun x hx => by
    obtain ⟨c, hc, rfl⟩ := List.mem_map.mp hx
    refine ⟨(lm _).mpr ((hTt _).mpr (List.mem_flatten.mpr ⟨c, hc, last_mem (ne c hc)⟩)), ?_⟩
    exact Int.not_lt.mp fun z => no c hc (.inr z)
  have ml : m ≤ l.length := by
    rw [← llen]; exact sub_le lasts fun x hx => (lin x hx).1
  obtain ⟨mn, hmn, least⟩ := least_of (l := (chainsTo ns m t).map fun c => c.getLastD 0) (by intro z; rw [z] at llen; simp at llen; omega)
  have hk : l.length - m < l.length := by omega
  obtain ⟨c1, c2⟩ := cut_at hs ln hk
  have fm : l.getD (l.length - m) 0 ∈ l := by
    rw [List.getD_eq_getElem?_getD, List.getElem?_eq_getElem hk]; exact List.getElem_mem _
  generalize l.getD (l.length - m) 0 = f at c1 c2 fm
  obtain ⟨fT, ft⟩ := (lm f).mp fm
  have f0 : 0 ≤ f := (flat_lt ((hTt f).mp ⟨fT, ft⟩)).1
  have fge : mn ≤ f := by
    refine Int.not_lt.mp fun z => ?_
    have : ((chainsTo ns m t).map fun c => c.getLastD 0).length ≤ (l.filter fun x => decide (f < x)).length := sub_le lasts fun x hx => List.mem_filter.mpr ⟨(lin x hx).1, decide_eq_true (by have := least x hx; omega)⟩
    rw [llen, c2] at this
    omega
  have mnlt : mn < t := ((lm mn).mp (lin mn hmn).1).2
  have mn0 : 0 ≤ mn := (flat_lt ((hTt mn).mp ((lm mn).mp (lin mn hmn).1))).1
  have mon : ns.getD mn.toNat 0 ≤ ns.getD f.toNat 0 := FitEnds.mono hE (by omega) (by omega)
  have near := (lin mn hmn).2
  have fl : (T.filter fun x => decide (f ≤ x ∧ x < (t : Int) + 1)).length = m := by
    have e : (T.filter fun x => decide (f ≤ x ∧ x < (t : Int) + 1)) = (T.filter fun x => decide (x < (t : Int))).filter fun x => decide (f ≤ x) := by
      rw [List.filter_filter]
      refine List.filter_congr fun x hx => ?_
      have : x ≠ t := fun z => hout (z ▸ hx)
      rw [Bool.eq_iff_iff]; simp; omega
    rw [e, ← perm_filter_len hp, c1]; omega
  have wide : (m : Int) ≤ t - f := by
    have := few' (l := l.filter fun x => decide (f ≤ x)) (a := f) (b := t) (ln.filter _) (fun x hx => by
      obtain ⟨h1, h2⟩ := List.mem_filter.mp hx
      exact ⟨of_decide_eq_true h2, ((lm x).mp h1).2⟩) (by omega)
    rw [c1] at this
    omega
  have sp := cnt_split (T := T) (a := f) (b := (t : Int) + 1) (by omega)
  exact ⟨ml, f0, ft, by omega, by omega⟩
/-- a thing that is taken, or no chains -/
theorem taken_one {m : Int} {t : Int} {T : List Int} (hn : T.Nodup) (h : (m = 0 ∧ T = []) ∨ (0 < m ∧ t ∈ T)) : (cnt T t : Int) = cnt T (t + 1) + min m (t - t + 1) := by
  rcases h with ⟨rfl, rfl⟩ | ⟨hm, h⟩
  · simp [cnt]; omega
  · have := cnt_split (T := T) (a := t) (b := t + 1) (by omega)
    rw [one_of hn h] at this
    omega
theorem none_taken (ns : List Int) : ∀ t, (chainsTo ns 0 t).flatten = []
  | 0 => rfl
  | t + 1 => by
    have : chainsTo ns 0 (t + 1) = [] := List.eq_nil_of_length_eq_zero (chainsTo_len ns 0 (t + 1))
    rw [this]; rfl
end BandM
/-! ShowM: bands that show which things are close; part, mirror, join. -/
namespace BandM
def closeB (Ls : List (List Int)) (a b : Int × Int) : Prop := a.1 = b.1 ∧ nearB (Ls.getD a.1.toNat []) a.2 b.2
instance (Ls : List (List Int)) (a b : Int × Int) : Decidable (closeB Ls a b) := inferInstanceAs (Decidable (_ ∧ _))
theorem near_comm {ns : List Int} {i k : Int} : nearB ns i k ↔ nearB ns k i := by unfold nearB; rw [Int.max_comm, Int.min_comm]
theorem close_comm {Ls : List (List Int)} {a b : Int × Int} : closeB Ls a b ↔ closeB Ls b a := by
  unfold closeB
  constructor
  · rintro ⟨e, h⟩
    exact ⟨e.symm, by rw [← e]; exact near_comm.mp h⟩
  · rintro ⟨e, h⟩
    exact ⟨e.symm, by rw [← e]; exact near_comm.mp h⟩
structure ThingOk (Ls : List (List Int)) (g : Int × Int) : Prop where
  l0 : 0 ≤ g.1
  l1 : g.1 < Ls.length
  t0 : 0 ≤ g.2
  t1 : g.2 < (Ls.getD g.1.toNat []).length
/-- the band es tells which of the things gs are close -/
structure Shows (Ls : List (List Int)) (gs : List (Int × Int)) (es : List Int) : Prop where
  len : es.length = gs.length
  fit : EndsTo es.length es
  ok : ∀ g ∈ gs, ThingOk Ls g
  near : ∀ (i k : Nat) (a b : Int × Int), i ≤ k → gs[i]? = some a → gs[k]? = some b → ((k : Int) ≤ es.getD i 0 ↔ closeB Ls a b)
theorem Shows.nearB {Ls : List (List Int)} {gs : List (Int × Int)} {es : List Int} (h : Shows Ls gs es) {i k : Nat} {a b : Int × Int} (ha : gs[i]? = some a) (hb : gs[k]? = some b) : BandM.nearB es i k ↔ closeB Ls a b := by
  rcases Nat.le_total i k with z | z
  · have e1 : min (i : Int) k = i := by omega
    have e2 : max (i : Int) k = k := by omega
    unfold BandM.nearB
    rw [e1, e2, Int.toNat_natCast]
    exact h.near i k a b z ha hb
  · have e1 : min (i : Int) k = k := by omega
    have e2 : max (i : Int) k = i := by omega
    unfold BandM.nearB
    rw [e1, e2, Int.toNat_natCast, close_comm]
    exact h.near k i b a z hb ha
/-! ### a list by itself -/
def thingsOf (a : Int) (n : Nat) : List (Int × Int) := (List.range n).map fun (k : Nat) => (a, (k : Int))
theorem things_at {a : Int} {n i : Nat} {g : Int × Int} (h : (thingsOf a n)[i]? = some g) : i < n ∧ g = (a, (i : Int)) := by
  unfold thingsOf at h
  rw [List.getElem?_map] at h
  cases e : (List.range n)[i]? with
  | none => rw [e] at h; cases h
  | some k =>
    rw [e] at h
    obtain ⟨hi, hk⟩ := List.getElem?_eq_some_iff.mp e
    rw [List.length_range] at hi
    rw [List.getElem_range] at hk
    subst hk
    exact ⟨hi, (Option.some.inj h).symm⟩
theorem shows_list {Ls : List (List Int)} {a : Nat} {ns : List Int} (h : Ls[a]? = some ns) (hE : EndsTo ns.length ns) : Shows Ls (thingsOf a ns.length) ns := by
  have hg : Ls.getD a [] = ns := by rw [List.getD_eq_getElem?_getD, h]; rfl
  refine ⟨by unfold thingsOf; rw [List.length_map, List.length_range], hE, fun g hg' => ?_, fun i k x y hik hx hy => ?_⟩
  · obtain ⟨i, hi, e⟩ := List.getElem_of_mem hg'
    obtain ⟨q, rfl⟩ := things_at (by rw [List.getElem?_eq_getElem hi, e])
    have := (List.getElem?_eq_some_iff.mp h).1
    refine ⟨by simp, by simpa using this, by simp, ?_⟩
    show ((i : Int)) < ((Ls.getD ((a : Int)).toNat []).length : Int)
    rw [Int.toNat_natCast, hg]; omega
  · obtain ⟨q1, rfl⟩ := things_at hx
    obtain ⟨q2, rfl⟩ := things_at hy
    unfold closeB nearB
    simp only [true_and]
    rw [Int.toNat_natCast, hg, show min (i : Int) k = i by omega, show max (i : Int) k = k by omega, Int.toNat_natCast]
/-! ### a part -/
def partOf (es : List Int) (lo hi : Nat) : List Int := ((es.drop lo).take (hi - lo)).map fun e => min e ((hi : Int) - 1) - lo
theorem part_len {es : List Int} {lo hi : Nat} (h : hi ≤ es.length) : (partOf es lo hi).length = hi - lo := by
  unfold partOf
  rw [List.length_map, List.length_take, List.length_drop]; omega
theorem part_at {es : List Int} {lo hi j : Nat} (h : hi ≤ es.length) (hj : j < hi - lo) : (partOf es lo hi).getD j 0 = min (es.getD (lo + j) 0) ((hi : Int) - 1) - lo := by
  unfold partOf
  rw [List.getD_eq_getElem?_getD, List.getElem?_map, List.getElem?_take_of_lt hj, List.getElem?_drop, List.getD_eq_getElem?_getD, List.getElem?_eq_getElem (by omega)]; rfl
theorem Shows.part {Ls : List (List Int)} {gs : List (Int × Int)} {es : List Int} (h : Shows Ls gs es) {lo hi : Nat} (h1 : lo ≤ hi) (h2 : hi ≤ gs.length) : Shows Ls ((gs.drop lo).take (hi - lo)) (partOf es lo hi) := by
  have hl : hi ≤ es.length := by rw [h.len]; exact h2
  have pl := part_len (lo := lo) hl
  refine ⟨by rw [pl, List.length_take, List.length_drop]; omega, fun j hj => ?_, fun g hg => h.ok g (List.mem_of_mem_drop (List.mem_of_mem_take hg)), fun i k a b hik ha hb => ?_⟩
  · rw [pl] at hj ⊢
    obtain ⟨E1, E2, E3⟩ := h.fit (lo + j) (by omega)
    rw [part_at hl hj]
    refine ⟨by omega, by omega, fun k hk => ?_⟩
    rw [part_at hl (by omega)]
    have := E3 (lo + k) (by omega)
    omega
  · have hk := (List.getElem?_eq_some_iff.mp hb).1
    rw [List.length_take, List.length_drop] at hk
    rw [List.getElem?_take_of_lt (by omega), List.getElem?_drop] at ha hb
    have := h.near (lo + i) (lo + k) a b (by omega) ha hb
    rw [part_at hl (by omega), ← this]
    omega
theorem part_fit {es : List Int} {lo hi : Nat} (hE : EndsTo es.length es) (h1 : lo ≤ hi) (hl : hi ≤ es.length) : EndsTo (partOf es lo hi).length (partOf es lo hi) := fun j hj => by
  have pl := part_len (lo := lo) hl
  rw [pl] at hj ⊢
  obtain ⟨E1, E2, E3⟩ := hE (lo + j) (by omega)
  rw [part_at hl hj]
  refine ⟨by omega, by omega, fun k hk => ?_⟩
  rw [part_at hl (by omega)]
  have := E3 (lo + k) (by omega)
  omega
/-! ### the mirror -/
def firsts (es : List Int) (t : Nat) : List Nat := (List.range (t + 1)).filter fun e => decide ((t : Int) ≤ es.getD e 0)
def firstOf (es : List Int) (t : Nat) : Nat := (firsts es t).headD 0
def mirrorOf (es : List Int) : List Int := (List.range es.length).map fun (i : Nat) => (es.length : Int) - 1 - firstOf es (es.length - 1 - i)
theorem firsts_ne {es : List Int} {t : Nat} (hE : EndsTo es.length es) (ht : t < es.length) : firsts es t ≠ [] := fun z => by
  have : t ∈ firsts es t := List.mem_filter.mpr ⟨List.mem_range.mpr (by omega), decide_eq_true (hE t ht).1⟩
  rw [z] at this; cases this
theorem first_mem {es : List Int} {t : Nat} (hE : EndsTo es.length es) (ht : t < es.length) : firstOf es t ∈ firsts es t := by
  have := firsts_ne hE ht
  unfold firstOf
  cases e : firsts es t with
  | nil => exact absurd e this
  | cons a r => exact List.mem_cons_self
theorem first_le {es : List Int} {t : Nat} (hE : EndsTo es.length es) (ht : t < es.length) : firstOf es t ≤ t ∧ (t : Int) ≤ es.getD (firstOf es t) 0 := by
  obtain ⟨a, b⟩ := List.mem_filter.mp (first_mem hE ht)
  exact ⟨by have := List.mem_range.mp a; omega, of_decide_eq_true b⟩
theorem first_least {es : List Int} {t e : Nat} (he : e ≤ t) (h : (t : Int) ≤ es.getD e 0) : firstOf es t ≤ e := by
  have m : e ∈ firsts es t := List.mem_filter.mpr ⟨List.mem_range.mpr (by omega), decide_eq_true h⟩
  have p : (firsts es t).Pairwise (· < ·) := List.Pairwise.filter _ List.pairwise_lt_range
  unfold firstOf
  cases q : firsts es t with
  | nil => rw [q] at m; cases m
  | cons a r =>
    rw [q] at m p
    rcases List.mem_cons.mp m with rfl | m
    · exact Nat.le_refl _
    · exact Nat.le_of_lt ((List.pairwise_cons.mp p).1 e m)
theorem first_iff {es : List Int} {t e : Nat} (hE : EndsTo es.length es) (ht : t < es.length) (he : e ≤ t) : (t : Int) ≤ es.getD e 0 ↔ firstOf es t ≤ e := by
  refine ⟨first_least he, fun h => ?_⟩
  have := (first_le hE ht).2
  have := FitEnds.mono hE h (by omega)
  omega
theorem mirror_len {es : List Int} : (mirrorOf es).length = es.length := by unfold mirrorOf; rw [List.length_map, List.length_range]
theorem mirror_at {es : List Int} {i : Nat} (hi : i < es.length) : (mirrorOf es).getD i 0 = (es.length : Int) - 1 - firstOf es (es.length - 1 - i) := by
  unfold mirrorOf
  rw [List.getD_eq_getElem?_getD, List.getElem?_map, List.getElem?_range hi]; rfl
theorem mirror_fit {es : List Int} (hE : EndsTo es.length es) : EndsTo (mirrorOf es).length (mirrorOf es) := fun j hj => by
  rw [mirror_len] at hj ⊢
  have f := (first_le hE (t := es.length - 1 - j) (by omega)).1
  rw [mirror_at hj]
  refine ⟨by omega, by omega, fun k hk => ?_⟩
  rw [mirror_at (by omega)]
  have f2 := first_le hE (t := es.length - 1 - k) (by omega)
  by_cases c : firstOf es (es.length - 1 - k) ≤ es.length - 1 - j
  · have := first_least (es := es) (t := es.length - 1 - j) c (by omega)
    omega
  · omega
theorem Shows.mirror {Ls : List (List Int)} {gs : List (Int × Int)} {es : List Int} (h : Shows Ls gs es) : Shows Ls gs.reverse (mirrorOf es) := by
  refine ⟨by rw [mirror_len, List.length_reverse, h.len], mirror_fit h.fit, fun g hg => h.ok g (List.mem_reverse.mp hg), fun i k a b hik ha hb => ?_⟩
  have hk := (List.getElem?_eq_some_iff.mp hb).1
  rw [List.length_reverse] at hk
  rw [List.getElem?_reverse (by omega)] at ha hb
  have len := h.len
  rw [mirror_at (by omega), close_comm]
  have n1 := h.near (gs.length - 1 - k) (gs.length - 1 - i) b a (by omega) hb ha
  rw [← n1, len]
  have f := first_iff h.fit (t := gs.length - 1 - i) (e := gs.length - 1 - k) (by omega) (by omega)
  rw [f]
  omega
/-! ### two bands -/
def joinOf (es fs : List Int) : List Int := es ++ fs.map fun e => (es.length : Int) + e
theorem join_len {es fs : List Int} : (joinOf es fs).length = es.length + fs.length := by unfold joinOf; rw [List.length_append, List.length_map]
theorem join_l {es fs : List Int} {i : Nat} (h : i < es.length) : (joinOf es fs).getD i 0 = es.getD i 0 := by
  unfold joinOf
  rw [List.getD_eq_getElem?_getD, List.getElem?_append_left h, ← List.getD_eq_getElem?_getD]
theorem join_r {es fs : List Int} {i : Nat} (h : i < fs.length) : (joinOf es fs).getD (es.length + i) 0 = es.length + fs.getD i 0 := by
  unfold joinOf
  rw [List.getD_eq_getElem?_getD, List.getElem?_append_right (by omega), show es.length + i - es.length = i by omega, List.getElem?_map, List.getD_eq_getElem?_getD, List.getElem?_eq_getElem h]; rfl
theorem join_fit {es fs : List Int} (h1 : EndsTo es.length es) (h2 : EndsTo fs.length fs) : EndsTo (joinOf es fs).length (joinOf es fs) := fun j hj => by
  rw [join_len] at hj ⊢
  rcases Nat.lt_or_ge j es.length with lt | ge
  · obtain ⟨a, b, c⟩ := h1 j lt
    rw [join_l lt]
    refine ⟨a, by omega, fun k hk => ?_⟩
    rw [join_l (by omega)]
    exact c k hk
  · obtain ⟨d, rfl⟩ : ∃ d, j = es.length + d := ⟨j - es.length, by omega⟩
    obtain ⟨a, b, c⟩ := h2 d (by omega)
    rw [join_r (by omega)]
    refine ⟨by omega, by omega, fun k hk => ?_⟩
    rcases Nat.lt_or_ge k es.length with lt | ge2
    · rw [join_l lt]
      have := (h1 k lt).2.1
      omega
    · obtain ⟨q, rfl⟩ : ∃ q, k = es.length + q := ⟨k - es.length, by omega⟩
      rw [join_r (by omega)]
      have := c q (by omega)
      omega
theorem Shows.join {Ls : List (List Int)} {gs ks : List (Int × Int)} {es fs : List Int} (h : Shows Ls gs es) (g : Shows Ls ks fs) (cross : ∀ a ∈ gs, ∀ b ∈ ks, a.1 ≠ b.1) : Shows Ls (gs ++ ks) (joinOf es fs) := by
  refine ⟨by rw [join_len, List.length_append, h.len, g.len], join_fit h.fit g.fit, fun x hx => (List.mem_append.mp hx).elim (h.ok x) (g.ok x), fun i k a b hik ha hb => ?_⟩
  have len := h.len
  rcases Nat.lt_or_ge i gs.length with li | gi
  · rw [List.getElem?_append_left li] at ha
    rw [join_l (by omega)]
    rcases Nat.lt_or_ge k gs.length with lk | gk
    · rw [List.getElem?_append_left lk] at hb
      exact h.near i k a b hik ha hb
    · rw [List.getElem?_append_right gk] at hb
      have e := (h.fit i (by omega)).2.1
      constructor
      · intro z; omega
      · intro z
        exact absurd z.1 (cross a (List.mem_of_getElem? ha) b (List.mem_of_getElem? hb))
  · rw [List.getElem?_append_right gi] at ha
    rw [List.getElem?_append_right (by omega)] at hb
    have l2 := (List.getElem?_eq_some_iff.mp hb).1
    have := g.near (i - gs.length) (k - gs.length) a b (by omega) ha hb
    have q := join_r (es := es) (fs := fs) (i := i - gs.length) (by have := g.len; omega)
    rw [show es.length + (i - gs.length) = i by omega] at q
    rw [q, ← this]
    omega
end BandM
/-! OptM: no chains hold more than those of first fit; joined, mirrored and cut bands. -/
namespace BandM
structure PChain (ns c : List Int) : Prop where
  lt : ∀ x ∈ c, 0 ≤ x ∧ x < (ns.length : Int)
  far : c.Pairwise fun a b => ns.getD a.toNat 0 < b
structure Fam (ns : List Int) (k : Nat) (fs : List (List Int)) : Prop where
  len : fs.length = k
  ok : ∀ c ∈ fs, PChain ns c
  nod : fs.flatten.Nodup
theorem GoodChain.pairs {ns c : List Int} (g : GoodChain ns c) (hE : ∀ i : Nat, i < ns.length → (i : Int) ≤ ns.getD i 0) : PChain ns c :=
  ⟨g.lt, List.pairwise_iff_getElem.mpr fun i j hi hj hij => by
    have := g.up hE hij hj
    have e1 : c.getD i 0 = c[i] := by rw [List.getD_eq_getElem?_getD, List.getElem?_eq_getElem hi]; rfl
    have e2 : c.getD j 0 = c[j] := by rw [List.getD_eq_getElem?_getD, List.getElem?_eq_getElem hj]; rfl
    rw [← e1, ← e2]
    exact this⟩
theorem chains_fam {ns : List Int} (hE : EndsTo ns.length ns) (k : Nat) : Fam ns k (chainsTo ns k ns.length) :=
  ⟨chainsTo_len ns k ns.length, fun c hc => (good_chains (Nat.le_refl _) c hc).pairs fun i hi => (hE i hi).1, flat_nodup ns k ns.length⟩
/-! ### a cover is there -/
theorem cover_is {ns : List Int} (hE : EndsTo ns.length ns) (m : Nat) : ∀ (d th : Nat), th ≤ d → th ≤ ns.length → (∃ gs, boundFrom ns m th 0 gs = some ((cnt (chainsTo ns m ns.length).flatten th : Nat) : Int)) → ∃ gs, boundFrom ns m 0 0 gs = some (size (chainsTo ns m ns.length)) := by
  intro d
  induction d with
  | zero =>
    rintro th h0 _ ⟨gs, h⟩
    obtain rfl : th = 0 := by omega
    rw [show ((0 : Nat) : Int) = 0 from rfl, cnt_all (fun x hx => (flat_lt hx).1)] at h
    exact ⟨gs, by rw [h, size_flat]⟩
  | succ d ih =>
    rintro th h1 h2 ⟨gs, h⟩
    cases th with
    | zero =>
      rw [show ((0 : Nat) : Int) = 0 from rfl, cnt_all (fun x hx => (flat_lt hx).1)] at h
      exact ⟨gs, by rw [h, size_flat]⟩
    | succ t =>
      have Tn := flat_nodup ns m ns.length
      have e : (((t + 1 : Nat)) : Int) = (t : Int) + 1 := by omega
      rw [e] at h
      have E := hE t (by omega)
      by_cases c : m = 0 ∨ (t : Int) ∈ (chainsTo ns m ns.length).flatten
      · refine ih t (by omega) (by omega) ⟨((t : Int), (t : Int)) :: gs, ?_⟩
        refine bound_cons h (Int.le_refl _) (by omega) (by rw [Int.toNat_natCast]; exact E.1) ?_
        refine taken_one (m := (m : Int)) Tn ?_
        rcases c with rfl | c
        · exact .inl ⟨rfl, none_taken ns _⟩
        · by_cases z : m = 0
          · subst z; exact .inl ⟨rfl, none_taken ns _⟩
          · exact .inr ⟨by omega, c⟩
      · have m0 : 0 < m := by omega
        have hout : (t : Int) ∉ (chainsTo ns m ns.length).flatten := fun z => c (.inr z)
        obtain ⟨l, lp, ls⟩ : ∃ l : List Int, l.Perm ((chainsTo ns m ns.length).flatten.filter fun x => decide (x < (t : Int))) ∧ l.Pairwise (· ≤ ·) := by
          refine ⟨((chainsTo ns m ns.length).flatten.filter fun x => decide (x < (t : Int))).mergeSort (fun a b => decide (a ≤ b)), List.mergeSort_perm _ _, ?_⟩
          have := List.pairwise_mergeSort (le := fun a b : Int => decide (a ≤ b)) (fun a b c h1 h2 => decide_eq_true (Int.le_trans (of_decide_eq_true h1) (of_decide_eq_true h2))) (fun a b => by simp; omega) ((chainsTo ns m ns.length).flatten.filter fun x => decide (x < (t : Int)))
          exact this.imp fun h => of_decide_eq_true h
        obtain ⟨q1, q2, q3, q4, q5⟩ := left_out (ns := ns) (m := m) (t := t) (d := ns.length - 1 - t) (l := l) hE m0 (by omega) rfl hout lp ls
        refine ih (l.getD (l.length - m) 0).toNat (by omega) (by omega) ⟨(l.getD (l.length - m) 0, (t : Int)) :: gs, ?_⟩
        rw [show (((l.getD (l.length - m) 0).toNat : Nat) : Int) = l.getD (l.length - m) 0 by omega]
        exact bound_cons h (by omega) (by omega) q4 q5
theorem cover_ex {ns : List Int} (hE : EndsTo ns.length ns) (m : Nat) : ∃ gs, boundFrom ns m 0 0 gs = some (size (chainsTo ns m ns.length)) := by
  refine cover_is hE m ns.length ns.length (Nat.le_refl _) (Nat.le_refl _) ⟨[], ?_⟩
  rw [boundFrom, if_pos rfl, cnt_none (fun x hx => (flat_lt hx).2)]; rfl
/-! ### no more than a cover's bound -/
theorem fam_group {ns : List Int} {k : Nat} {fs : List (List Int)} (F : Fam ns k fs) (hE : EndsTo ns.length ns) {f l : Int} (h0 : 0 ≤ f) (h1 : f ≤ l) (h2 : l < ns.length) (h3 : l ≤ ns.getD f.toNat 0) : ((fs.flatten.filter fun x => decide (f ≤ x ∧ x < l + 1)).length : Int) ≤ min (k : Int) (l - f + 1) := by
  have a : ((fs.flatten.filter fun x => decide (f ≤ x ∧ x < l + 1)).length : Int) ≤ l + 1 - f := few' (F.nod.filter _) (fun x hx => of_decide_eq_true (List.mem_filter.mp hx).2) (by omega)
  have b : (fs.flatten.filter fun x => decide (f ≤ x ∧ x < l + 1)).length ≤ fs.length := by
    refine filter_flat_le fun c hc => ?_
    refine Nat.le_of_not_lt fun z => ?_
    obtain ⟨i, j, hij, hj, p1, p2⟩ := two_in z
    have p1 := of_decide_eq_true p1
    have p2 := of_decide_eq_true p2
    have far := List.pairwise_iff_getElem.mp (F.ok c hc).far i j (by omega) hj hij
    have e1 : c.getD i 0 = c[i] := by rw [List.getD_eq_getElem?_getD, List.getElem?_eq_getElem (by omega)]; rfl
    have e2 : c.getD j 0 = c[j] := by rw [List.getD_eq_getElem?_getD, List.getElem?_eq_getElem hj]; rfl
    rw [← e1, ← e2] at far
    have mono := FitEnds.mono hE (i := f.toNat) (j := (c.getD i 0).toNat) (by omega) (by omega)
    omega
  have := F.len
  omega
theorem fam_bound {ns : List Int} {k : Nat} {fs : List (List Int)} (F : Fam ns k fs) (hE : EndsTo ns.length ns) : ∀ (gs : List (Int × Int)) (due tot c : Int), 0 ≤ due → boundFrom ns k due tot gs = some c → (cnt fs.flatten due : Int) + tot ≤ c
  | [], due, tot, c, h0, h => by
    unfold boundFrom at h
    by_cases e : due = (ns.length : Int)
    · rw [if_pos e] at h
      cases h
      have : cnt fs.flatten due = 0 := cnt_none fun x hx => by
        obtain ⟨d, hd, hx⟩ := List.mem_flatten.mp hx
        have := (F.ok d hd).lt x hx
        omega
      omega
    · rw [if_neg e] at h; cases h
  | (f, l) :: r, due, tot, c, h0, h => by
    unfold boundFrom at h
    by_cases e : f = due ∧ f ≤ l ∧ l < ns.length ∧ l ≤ ns.getD f.toNat 0
    · rw [if_pos e] at h
      obtain ⟨rfl, e1, e2, e3⟩ := e
      have := fam_bound F hE r (l + 1) _ c (by omega) h
      have g := fam_group F hE h0 e1 e2 e3
      have s := cnt_split (T := fs.flatten) (a := f) (b := l + 1) (by omega)
      omega
    · rw [if_neg e] at h; cases h
theorem fam_le {ns : List Int} {k : Nat} {fs : List (List Int)} (F : Fam ns k fs) (hE : EndsTo ns.length ns) : (fs.flatten.length : Int) ≤ size (chainsTo ns k ns.length) := by
  obtain ⟨gs, h⟩ := cover_ex hE k
  have := fam_bound F hE gs 0 0 _ (Int.le_refl _) h
  rw [cnt_all (fun x hx => by
    obtain ⟨d, hd, hx⟩ := List.mem_flatten.mp hx
    exact ((F.ok d hd).lt x hx).1)] at this
  omega
/-! ### carried over -/
theorem flat_map_map {f : Int → Int} : ∀ fs : List (List Int), (fs.map fun c => c.map f).flatten = fs.flatten.map f
  | [] => rfl
  | c :: r => by rw [List.map_cons, List.flatten_cons, flat_map_map r, List.flatten_cons, List.map_append]
theorem nodup_map_on {f : Int → Int} : ∀ {l : List Int}, l.Nodup → (∀ x ∈ l, ∀ y ∈ l, f x = f y → x = y) → (l.map f).Nodup
  | [], _, _ => List.nodup_nil
  | a :: r, h, hf => by
    obtain ⟨h1, h2⟩ := List.nodup_cons.mp h
    rw [List.map_cons, List.nodup_cons]
    refine ⟨fun z => ?_, nodup_map_on h2 fun x hx y hy => hf x (List.mem_cons_of_mem _ hx) y (List.mem_cons_of_mem _ hy)⟩
    obtain ⟨x, hx, e⟩ := List.mem_map.mp z
    have := hf x (List.mem_cons_of_mem _ hx) a List.mem_cons_self e
    exact h1 (this ▸ hx)
theorem flat_filter {p : Int → Bool} : ∀ fs : List (List Int), (fs.map fun c => c.filter p).flatten = fs.flatten.filter p
  | [] => rfl
  | c :: r => by rw [List.map_cons, List.flatten_cons, flat_filter r, List.flatten_cons, List.filter_append]
/-- shift -/
theorem Fam.map {ns ms : List Int} {k : Nat} {fs : List (List Int)} {f : Int → Int} (F : Fam ns k fs) (hl : ∀ x, 0 ≤ x → x < (ns.length : Int) → 0 ≤ f x ∧ f x < (ms.length : Int)) (hi : ∀ x y, f x = f y → x = y) (hf : ∀ a b, 0 ≤ a → a < (ns.length : Int) → 0 ≤ b → b < (ns.length : Int) → ns.getD a.toNat 0 < b → ms.getD (f a).toNat 0 < f b) : Fam ms k (fs.map fun c => c.map f) := by
  refine ⟨by rw [List.length_map]; exact F.len, fun c hc => ?_, by rw [flat_map_map]; exact nodup_map_on F.nod fun x _ y _ e => hi x y e⟩
  obtain ⟨d, hd, rfl⟩ := List.mem_map.mp hc
  obtain ⟨lt, far⟩ := F.ok d hd
  refine ⟨fun x hx => ?_, ?_⟩
  · obtain ⟨y, hy, rfl⟩ := List.mem_map.mp hx
    exact hl y (lt y hy).1 (lt y hy).2
  · rw [List.pairwise_map]
    refine far.imp_of_mem fun {a b} ha hb h => hf a b (lt a ha).1 (lt a ha).2 (lt b hb).1 (lt b hb).2 h
theorem Fam.flip {ns ms : List Int} {k : Nat} {fs : List (List Int)} {f : Int → Int} (F : Fam ns k fs) (hl : ∀ x, 0 ≤ x → x < (ns.length : Int) → 0 ≤ f x ∧ f x < (ms.length : Int)) (hi : ∀ x y, f x = f y → x = y) (hf : ∀ a b, 0 ≤ a → a < (ns.length : Int) → 0 ≤ b → b < (ns.length : Int) → ns.getD a.toNat 0 < b → ms.getD (f b).toNat 0 < f a) : ∃ gs, Fam ms k gs ∧ gs.flatten.length = fs.flatten.length := by
  have hp : ((fs.map fun c => (c.map f).reverse).flatten).Perm ((fs.map fun c => c.map f).flatten) := by
    clear F hl hi hf
    induction fs with
    | nil => exact List.Perm.refl _
    | cons c r ih =>
      rw [List.map_cons, List.map_cons, List.flatten_cons, List.flatten_cons]
      exact (List.reverse_perm _).append ih
  refine ⟨fs.map fun c => (c.map f).reverse, ⟨by rw [List.length_map]; exact F.len, fun c hc => ?_, ?_⟩, ?_⟩
  · obtain ⟨d, hd, rfl⟩ := List.mem_map.mp hc
    obtain ⟨lt, far⟩ := F.ok d hd
    refine ⟨fun x hx => ?_, ?_⟩
    · obtain ⟨y, hy, rfl⟩ := List.mem_map.mp (List.mem_reverse.mp hx)
      exact hl y (lt y hy).1 (lt y hy).2
    · rw [List.pairwise_reverse, List.pairwise_map]
      exact far.imp_of_mem fun {a b} ha hb h => hf a b (lt a ha).1 (lt a ha).2 (lt b hb).1 (lt b hb).2 h
  · rw [hp.nodup_iff, flat_map_map]
    exact nodup_map_on F.nod fun x _ y _ e => hi x y e
  · rw [hp.length_eq, flat_map_map, List.length_map]
theorem Fam.filter {ns : List Int} {k : Nat} {fs : List (List Int)} (F : Fam ns k fs) (p : Int → Bool) : Fam ns k (fs.map fun c => c.filter p) := by
  refine ⟨by rw [List.length_map]; exact F.len, fun c hc => ?_, by rw [flat_filter]; exact F.nod.filter p⟩
  obtain ⟨d, hd, rfl⟩ := List.mem_map.mp hc
  exact ⟨fun x hx => (F.ok d hd).lt x (List.mem_filter.mp hx).1, (F.ok d hd).far.filter p⟩
/-! ### the mirror -/
theorem mirror_lt {es : List Int} (hE : EndsTo es.length es) {a b : Nat} (hb : b < es.length) (hab : a < b) : es.getD a 0 < (b : Int) ↔ (mirrorOf es).getD (es.length - 1 - b) 0 < (es.length : Int) - 1 - a := by
  rw [mirror_at (by omega), show es.length - 1 - (es.length - 1 - b) = b by omega]
  have := first_iff hE (t := b) (e := a) hb (by omega)
  omega
theorem fam_up {ns : List Int} (hE : EndsTo ns.length ns) {a b : Int} (ha : 0 ≤ a) (hn : a < (ns.length : Int)) (h : ns.getD a.toNat 0 < b) : a < b := by
  have := (hE a.toNat (by omega)).1
  omega
theorem mirror_size {ns : List Int} (hE : EndsTo ns.length ns) (k : Nat) : size (chainsTo (mirrorOf ns) k (mirrorOf ns).length) = size (chainsTo ns k ns.length) := by
  have hM := mirror_fit hE
  have ml := mirror_len (es := ns)
  refine Int.le_antisymm ?_ ?_
  · obtain ⟨gs, G, e⟩ := (chains_fam hM k).flip (ms := ns) (f := fun x => (ns.length : Int) - 1 - x) (fun x h0 h1 => by constructor <;> omega) (fun x y h => by omega) (fun a b a0 a1 b0 b1 h => by
      have ab := fam_up hM a0 a1 h
      have := (mirror_lt hE (a := ((ns.length : Int) - 1 - b).toNat) (b := ((ns.length : Int) - 1 - a).toNat) (by omega) (by omega)).mpr (by
        rw [show ns.length - 1 - ((ns.length : Int) - 1 - a).toNat = a.toNat by omega]
        omega)
      omega)
    have := fam_le G hE
    rw [size_flat (chainsTo (mirrorOf ns) k (mirrorOf ns).length)]
    omega
  · obtain ⟨gs, G, e⟩ := (chains_fam hE k).flip (ms := mirrorOf ns) (f := fun x => (ns.length : Int) - 1 - x) (fun x h0 h1 => by constructor <;> omega) (fun x y h => by omega) (fun a b a0 a1 b0 b1 h => by
      have ab := fam_up hE a0 a1 h
      have := (mirror_lt hE (a := a.toNat) (b := b.toNat) (by omega) (by omega)).mp (by omega)
      rw [show ((ns.length : Int) - 1 - b).toNat = ns.length - 1 - b.toNat by omega]
      omega)
    have := fam_le G hM
    rw [size_flat (chainsTo ns k ns.length)]
    omega
/-! ### parts -/
theorem part_fam {ns : List Int} {lo hi k : Nat} (h1 : lo ≤ hi) (h2 : hi ≤ ns.length) {fs : List (List Int)} (F : Fam ns k fs) (hin : ∀ x ∈ fs.flatten, (lo : Int) ≤ x ∧ x < hi) : Fam (partOf ns lo hi) k (fs.map fun c => c.map fun x => x - lo) := by
  have pl := part_len (es := ns) (lo := lo) h2
  refine ⟨by rw [List.length_map]; exact F.len, fun c hc => ?_, by rw [flat_map_map]; exact nodup_map_on F.nod fun x _ y _ e => by omega⟩
  obtain ⟨d, hd, rfl⟩ := List.mem_map.mp hc
  have dn : ∀ x ∈ d, (lo : Int) ≤ x ∧ x < hi := fun x hx => hin x (List.mem_flatten.mpr ⟨d, hd, hx⟩)
  refine ⟨fun x hx => ?_, ?_⟩
  · obtain ⟨y, hy, rfl⟩ := List.mem_map.mp hx
    have := dn y hy
    omega
  · rw [List.pairwise_map]
    refine (F.ok d hd).far.imp_of_mem fun {a b} ha hb h => ?_
    have a1 := dn a ha
    have b1 := dn b hb
    rw [part_at h2 (by omega), show lo + (a - (lo : Int)).toNat = a.toNat by omega]
    omega
theorem part_up {ns : List Int} {lo hi k : Nat} (hE : EndsTo ns.length ns) (h1 : lo ≤ hi) (h2 : hi ≤ ns.length) : size (chainsTo (partOf ns lo hi) k (partOf ns lo hi).length) ≤ size (chainsTo ns k ns.length) := by
  have pl := part_len (es := ns) (lo := lo) h2
  have F := chains_fam (part_fit hE h1 h2) k
  have G := F.map (ms := ns) (f := fun x => x + lo) (fun x h0 h3 => by constructor <;> omega) (fun x y h => by omega) (fun a b a0 a1 b0 b1 h => by
    rw [part_at h2 (by omega)] at h
    rw [show (a + (lo : Int)).toNat = lo + a.toNat by omega]
    omega)
  have := fam_le G hE
  rw [flat_map_map, List.length_map] at this
  rw [size_flat (chainsTo (partOf ns lo hi) k (partOf ns lo hi).length)]; exact this
theorem part_down {ns : List Int} {lo hi k : Nat} (hE : EndsTo ns.length ns) (h1 : lo ≤ hi) (h2 : hi ≤ ns.length) : (((chainsTo ns k ns.length).flatten.filter fun x => decide ((lo : Int) ≤ x ∧ x < hi)).length : Int) ≤ size (chainsTo (partOf ns lo hi) k (partOf ns lo hi).length) := by
  have F := (chains_fam hE k).filter fun x => decide ((lo : Int) ≤ x ∧ x < hi)
  have G := part_fam h1 h2 F fun x hx => by
    rw [flat_filter] at hx
    exact of_decide_eq_true (List.mem_filter.mp hx).2
  have := fam_le G (part_fit hE h1 h2)
  rw [flat_map_map, List.length_map, flat_filter] at this
  exact this
theorem filter_two {p : Int → Bool} : ∀ l : List Int, l.length = (l.filter p).length + (l.filter fun x => !p x).length
  | [] => rfl
  | a :: r => by
    have := filter_two (p := p) r
    rw [List.filter_cons, List.filter_cons]
    cases p a <;> simp only [List.length_cons, Bool.not_true, Bool.not_false, if_true, if_false, Bool.false_eq_true] <;> omega
theorem part_most {ns : List Int} {lo hi k : Nat} (hE : EndsTo ns.length ns) (h1 : lo ≤ hi) (h2 : hi ≤ ns.length) : size (chainsTo ns k ns.length) - (ns.length - ((hi : Int) - lo)) ≤ size (chainsTo (partOf ns lo hi) k (partOf ns lo hi).length) := by
  have d := part_down (k := k) hE h1 h2
  have two := filter_two (p := fun x => decide ((lo : Int) ≤ x ∧ x < hi)) (chainsTo ns k ns.length).flatten
  have nd := flat_nodup ns k ns.length
  have out : (((chainsTo ns k ns.length).flatten.filter fun x => !decide ((lo : Int) ≤ x ∧ x < hi)).length : Int) ≤ ns.length - ((hi : Int) - lo) := by
    have t2 := filter_two (p := fun x => decide (x < (lo : Int))) ((chainsTo ns k ns.length).flatten.filter fun x => !decide ((lo : Int) ≤ x ∧ x < hi))
    have A := few' (l := ((chainsTo ns k ns.length).flatten.filter fun x => !decide ((lo : Int) ≤ x ∧ x < hi)).filter fun x => decide (x < (lo : Int))) (a := 0) (b := lo) ((nd.filter _).filter _) (fun x hx => by
      obtain ⟨q1, q2⟩ := List.mem_filter.mp hx
      have := (flat_lt (List.mem_filter.mp q1).1).1
      have := of_decide_eq_true q2
      omega) (by omega)
    have B := few' (l := ((chainsTo ns k ns.length).flatten.filter fun x => !decide ((lo : Int) ≤ x ∧ x < hi)).filter fun x => !decide (x < (lo : Int))) (a := hi) (b := ns.length) ((nd.filter _).filter _) (fun x hx => by
      obtain ⟨q1, q2⟩ := List.mem_filter.mp hx
      obtain ⟨q3, q4⟩ := List.mem_filter.mp q1
      have := (flat_lt q3).2
      simp only [Bool.not_eq_true', decide_eq_false_iff_not] at q2 q4
      omega) (by omega)
    omega
  have := size_flat (chainsTo ns k ns.length)
  omega
theorem part_two {ns : List Int} {cut k : Nat} (hE : EndsTo ns.length ns) (h : cut ≤ ns.length) : size (chainsTo ns k ns.length) ≤ size (chainsTo (partOf ns 0 cut) k (partOf ns 0 cut).length) + size (chainsTo (partOf ns cut ns.length) k (partOf ns cut ns.length).length) := by
  have a := part_down (k := k) (lo := 0) (hi := cut) hE (Nat.zero_le _) h
  have b := part_down (k := k) (lo := cut) (hi := ns.length) hE h (Nat.le_refl _)
  have two := filter_two (p := fun x => decide (((0 : Nat) : Int) ≤ x ∧ x < (cut : Int))) (chainsTo ns k ns.length).flatten
  have e : ((chainsTo ns k ns.length).flatten.filter fun x => !decide (((0 : Nat) : Int) ≤ x ∧ x < (cut : Int))) = (chainsTo ns k ns.length).flatten.filter fun x => decide ((cut : Int) ≤ x ∧ x < (ns.length : Int)) := List.filter_congr fun x hx => by
    have := flat_lt hx
    rw [Bool.eq_iff_iff]
    simp only [Bool.not_eq_true', decide_eq_false_iff_not, decide_eq_true_eq]
    omega
  rw [e] at two
  have := size_flat (chainsTo ns k ns.length)
  omega
/-! ### joined -/
def behind (n : Nat) (c d : List Int) : List Int := c ++ d.map fun x => (n : Int) + x
theorem behind_len {n : Nat} : ∀ {C D : List (List Int)}, C.length = D.length → size (List.zipWith (behind n) C D) = size C + size D
  | [], [], _ => rfl
  | c :: C, d :: D, h => by
    have ih := behind_len (n := n) (C := C) (D := D) (by simpa using h)
    unfold size at ih ⊢
    rw [List.zipWith_cons_cons, List.map_cons, List.map_cons, List.map_cons, List.sum_cons, List.sum_cons, List.sum_cons, ih]
    unfold behind
    rw [List.length_append, List.length_map]
    omega
theorem last_app {n : Nat} : ∀ {c d : List Int}, d ≠ [] → (behind n c d).getLastD 0 = (n : Int) + d.getLastD 0 := by
  intro c d hd
  unfold behind
  rw [List.getLastD_eq_getLast?, List.getLast?_append, List.getLast?_map, List.getLastD_eq_getLast?]
  cases e : d.getLast? with
  | none => exact absurd (List.getLast?_eq_none_iff.mp e) hd
  | some x => rfl
theorem fits_join {ns ms c d : List Int} {t : Nat} (h1 : EndsTo ns.length ns) (hc : ∀ x ∈ c, 0 ≤ x ∧ x < (ns.length : Int)) (hd : ∀ x ∈ d, 0 ≤ x ∧ x < (ms.length : Int)) : Fits (joinOf ns ms) (behind ns.length c d) ((ns.length + t : Nat) : Int) ↔ Fits ms d t := by
  by_cases dn : d = []
  · subst dn
    refine ⟨fun _ => .inl rfl, fun _ => ?_⟩
    by_cases cn : c = []
    · subst cn; exact .inl rfl
    · right
      have e : behind ns.length c [] = c := by unfold behind; rw [List.map_nil, List.append_nil]
      have m := hc _ (last_mem cn)
      rw [e, join_l (by omega)]
      have := (h1 (c.getLastD 0).toNat (by omega)).2.1
      omega
  · have m := hd _ (last_mem dn)
    have ne : behind ns.length c d ≠ [] := fun z => by
      unfold behind at z
      rw [List.append_eq_nil_iff, List.map_eq_nil_iff] at z
      exact dn z.2
    have v : (joinOf ns ms).getD ((behind ns.length c d).getLastD 0).toNat 0 = ns.length + ms.getD (d.getLastD 0).toNat 0 := by
      rw [last_app dn, show ((ns.length : Int) + d.getLastD 0).toNat = ns.length + (d.getLastD 0).toNat by omega, join_r (by omega)]
    constructor
    · rintro (z | z)
      · exact absurd z ne
      · right; rw [v] at z; omega
    · rintro (z | z)
      · exact absurd z dn
      · right; rw [v]; omega
theorem fit_join {ns ms : List Int} {t : Nat} (h1 : EndsTo ns.length ns) : ∀ {C D : List (List Int)}, C.length = D.length → (∀ c ∈ C, ∀ x ∈ c, 0 ≤ x ∧ x < (ns.length : Int)) → (∀ d ∈ D, ∀ x ∈ d, 0 ≤ x ∧ x < (ms.length : Int)) → fit (joinOf ns ms) ((ns.length + t : Nat) : Int) (List.zipWith (behind ns.length) C D) = List.zipWith (behind ns.length) C (fit ms t D)
  | [], [], _, _, _ => rfl
  | c :: C, d :: D, hl, hC, hD => by
    have k := fits_join (t := t) h1 (hC c List.mem_cons_self) (hD d List.mem_cons_self)
    rw [List.zipWith_cons_cons, fit, fit]
    by_cases f : Fits ms d t
    · rw [if_pos f, if_pos (k.mpr f), List.zipWith_cons_cons]
      refine congrArg (· :: _) ?_
      unfold behind
      rw [List.map_append, List.append_assoc, List.map_singleton]
      congr 2
    · rw [if_neg f, if_neg (fun z => f (k.mp z)), List.zipWith_cons_cons, fit_join h1 (by simpa using hl) (fun e he => hC e (List.mem_cons_of_mem _ he)) (fun e he => hD e (List.mem_cons_of_mem _ he))]
theorem fit_same {ns ms : List Int} {t : Int} (h1 : ∀ x : Int, 0 ≤ x → x < (ns.length : Int) → ms.getD x.toNat 0 = ns.getD x.toNat 0) : ∀ {C : List (List Int)}, (∀ c ∈ C, ∀ x ∈ c, 0 ≤ x ∧ x < (ns.length : Int)) → fit ms t C = fit ns t C
  | [], _ => rfl
  | c :: C, hC => by
    have k : Fits ms c t ↔ Fits ns c t := by
      unfold Fits
      by_cases cn : c = []
      · simp [cn]
      · have m := hC c List.mem_cons_self _ (last_mem cn)
        rw [h1 _ m.1 m.2]
    rw [fit, fit, fit_same h1 fun e he => hC e (List.mem_cons_of_mem _ he)]
    by_cases f : Fits ns c t
    · rw [if_pos f, if_pos (k.mpr f)]
    · rw [if_neg f, if_neg fun z => f (k.mp z)]
theorem chains_pre {ns ms : List Int} {k : Nat} (h1 : ∀ x : Int, 0 ≤ x → x < (ns.length : Int) → ms.getD x.toNat 0 = ns.getD x.toNat 0) : ∀ t : Nat, t ≤ ns.length → chainsTo ms k t = chainsTo ns k t
  | 0, _ => rfl
  | t + 1, h => by
    rw [chainsTo, chains_pre h1 t (by omega), fit_same h1 fun c hc x hx => by
      have := chains_lt hc x hx
      omega]
    rfl
theorem zip_nil {n : Nat} : ∀ (C : List (List Int)), List.zipWith (behind n) C (List.replicate C.length []) = C
  | [] => rfl
  | c :: C => by
    rw [List.length_cons, List.replicate_succ, List.zipWith_cons_cons, zip_nil C]
    unfold behind
    rw [List.map_nil, List.append_nil]
theorem join_chains {ns ms : List Int} (h1 : EndsTo ns.length ns) (k : Nat) : ∀ t : Nat, t ≤ ms.length → chainsTo (joinOf ns ms) k (ns.length + t) = List.zipWith (behind ns.length) (chainsTo ns k ns.length) (chainsTo ms k t)
  | 0, _ => by
    rw [Nat.add_zero, chains_pre (ns := ns) (fun x h0 h2 => join_l (by omega)) _ (Nat.le_refl _)]
    have := zip_nil (n := ns.length) (chainsTo ns k ns.length)
    rw [chainsTo_len] at this
    exact this.symm
  | t + 1, h => by
    show fit (joinOf ns ms) ((ns.length + t : Nat) : Int) (chainsTo (joinOf ns ms) k (ns.length + t)) = _
    rw [join_chains h1 k t (by omega), fit_join h1 (by rw [chainsTo_len, chainsTo_len]) (fun c hc x hx => by have := chains_lt hc x hx; omega) (fun c hc x hx => by have := chains_lt hc x hx; omega)]
    rfl
theorem join_all {ns ms : List Int} (h1 : EndsTo ns.length ns) (k : Nat) : chainsTo (joinOf ns ms) k (joinOf ns ms).length = List.zipWith (behind ns.length) (chainsTo ns k ns.length) (chainsTo ms k ms.length) := by
  rw [join_len]; exact join_chains h1 k ms.length (Nat.le_refl _)
theorem join_size {ns ms : List Int} (h1 : EndsTo ns.length ns) (k : Nat) : size (chainsTo (joinOf ns ms) k (joinOf ns ms).length) = size (chainsTo ns k ns.length) + size (chainsTo ms k ms.length) := by
  rw [join_all h1, behind_len (by rw [chainsTo_len, chainsTo_len])]
/-! ### the widest group -/
structure GroupMax (ns : List Int) (M : Int) : Prop where
  le : ∀ i : Nat, i < ns.length → ns.getD i 0 - i + 1 ≤ M
  is : (ns.length = 0 ∧ M = 0) ∨ ∃ i : Nat, i < ns.length ∧ M = ns.getD i 0 - i + 1
theorem GroupMax.same {ns : List Int} {M N : Int} (h : GroupMax ns M) (g : GroupMax ns N) : M = N := by
  rcases h.is with ⟨z, rfl⟩ | ⟨i, hi, rfl⟩
  · rcases g.is with ⟨_, rfl⟩ | ⟨j, hj, _⟩
    · rfl
    · omega
  · rcases g.is with ⟨z, _⟩ | ⟨j, hj, rfl⟩
    · omega
    · have := h.le j hj
      have := g.le i hi
      omega
theorem GroupMax.join {ns ms : List Int} {M N : Int} (h1 : EndsTo ns.length ns) (h2 : EndsTo ms.length ms) (h : GroupMax ns M) (g : GroupMax ms N) : GroupMax (joinOf ns ms) (max M N) := by
  have M0 : 0 ≤ M := by
    rcases h.is with ⟨_, rfl⟩ | ⟨i, hi, rfl⟩
    · exact Int.le_refl _
    · have := (h1 i hi).1; omega
  have N0 : 0 ≤ N := by
    rcases g.is with ⟨_, rfl⟩ | ⟨i, hi, rfl⟩
    · exact Int.le_refl _
    · have := (h2 i hi).1; omega
  refine ⟨fun i hi => ?_, ?_⟩
  · rw [join_len] at hi
    rcases Nat.lt_or_ge i ns.length with lt | ge
    · rw [join_l lt]
      have := h.le i lt
      omega
    · have q := join_r (es := ns) (fs := ms) (i := i - ns.length) (by omega)
      rw [show ns.length + (i - ns.length) = i by omega] at q
      rw [q]
      have := g.le (i - ns.length) (by omega)
      omega
  · rw [join_len]
    have A : ∀ i : Nat, i < ns.length → M = ns.getD i 0 - i + 1 → N ≤ M → ∃ i : Nat, i < ns.length + ms.length ∧ max M N = (joinOf ns ms).getD i 0 - i + 1 := fun i hi e le => ⟨i, by omega, by rw [join_l hi]; omega⟩
    have B : ∀ i : Nat, i < ms.length → N = ms.getD i 0 - i + 1 → M ≤ N → ∃ i : Nat, i < ns.length + ms.length ∧ max M N = (joinOf ns ms).getD i 0 - i + 1 := fun i hi e le => ⟨ns.length + i, by omega, by rw [join_r hi]; omega⟩
    rcases h.is with ⟨z, e1⟩ | ⟨i, hi, e1⟩
    · rcases g.is with ⟨y, e2⟩ | ⟨j, hj, e2⟩
      · exact .inl ⟨by omega, by omega⟩
      · exact .inr (B j hj e2 (by omega))
    · rcases g.is with ⟨y, e2⟩ | ⟨j, hj, e2⟩
      · exact .inr (A i hi e1 (by omega))
      · rcases Int.le_total N M with le | le
        · exact .inr (A i hi e1 le)
        · exact .inr (B j hj e2 le)
theorem GroupMax.mirror {ns : List Int} {M : Int} (hE : EndsTo ns.length ns) (h : GroupMax ns M) : GroupMax (mirrorOf ns) M := by
  have ml := mirror_len (es := ns)
  refine ⟨fun j hj => ?_, ?_⟩
  · rw [ml] at hj
    rw [mirror_at hj]
    have f := first_le hE (t := ns.length - 1 - j) (by omega)
    have := h.le (firstOf ns (ns.length - 1 - j)) (by omega)
    omega
  · rw [ml]
    rcases h.is with z | ⟨i, hi, e⟩
    · exact .inl z
    · right
      have E := hE i hi
      refine ⟨ns.length - 1 - (ns.getD i 0).toNat, by omega, ?_⟩
      rw [mirror_at (by omega), show ns.length - 1 - (ns.length - 1 - (ns.getD i 0).toNat) = (ns.getD i 0).toNat by omega]
      have a := first_least (es := ns) (t := (ns.getD i 0).toNat) (e := i) (by omega) (by omega)
      have f := first_le hE (t := (ns.getD i 0).toNat) (by omega)
      have := h.le (firstOf ns (ns.getD i 0).toNat) (by omega)
      omega
theorem GroupMax.part {ns : List Int} {M N : Int} {lo hi : Nat} (hE : EndsTo ns.length ns) (h1 : lo ≤ hi) (h2 : hi ≤ ns.length) (h : GroupMax ns M) (g : GroupMax (partOf ns lo hi) N) : 0 ≤ N ∧ N ≤ M := by
  have pl := part_len (es := ns) (lo := lo) h2
  have M0 : 0 ≤ M := by
    rcases h.is with ⟨_, rfl⟩ | ⟨i, hi, rfl⟩
    · exact Int.le_refl _
    · have := (hE i hi).1; omega
  rcases g.is with ⟨_, rfl⟩ | ⟨i, hi', e⟩
  · exact ⟨Int.le_refl _, M0⟩
  · rw [pl] at hi'
    rw [part_at h2 hi'] at e
    have a := (hE (lo + i) (by omega)).1
    have b := h.le (lo + i) (by omega)
    omega
theorem few_max {ns : List Int} : GroupMax ns (Rd.maxDef 0 (wides ns)) := by
  have wl : (wides ns).length = ns.length := by unfold wides; rw [List.length_map, List.length_range]
  cases e : wides ns with
  | nil =>
    rw [e] at wl
    have z : ns.length = 0 := wl.symm
    exact ⟨fun i hi => by omega, .inl ⟨z, rfl⟩⟩
  | cons a r =>
    obtain ⟨⟨h1, h2⟩, h3⟩ := fold_max r a
    have all : ∀ x ∈ wides ns, x ≤ Rd.maxDef 0 (a :: r) := fun x hx => by
      rw [e] at hx
      rcases List.mem_cons.mp hx with rfl | hx
      · exact h1
      · exact h2 x hx
    have mem : Rd.maxDef 0 (a :: r) ∈ wides ns := by
      rw [e]
      rcases h3 with h3 | h3
      · show r.foldl max a ∈ a :: r
        rw [h3]; exact List.mem_cons_self
      · exact List.mem_cons_of_mem _ h3
    refine ⟨fun i hi => all _ (wides_mem.mpr ⟨i, hi, rfl⟩), .inr ?_⟩
    obtain ⟨i, hi, z⟩ := wides_mem.mp mem
    exact ⟨i, hi, z⟩
end BandM
namespace My
open PySem PySem.Spec PyProof.Rows L2 Rd
def top (i : Nat) : Stmt := PySem.Challenge.pw_barbreaks_k48_bands_joined.main.body.getD i (.Pass ⟨0, 0, 0, 0⟩)
abbrev R : PySem.W.OpenRow := PySem.W.OpenLaw.row PySem.Challenge.rw_barbreaks_k48_bands_joined
def d__law_is_int : He.DefD := ⟨("_law_is_int", none), "_law_is_int", "_law_is_int", defArgs (top 17), defBody (top 17), defScope (top 17), [], []⟩
def d__law_pool : He.DefD := ⟨("_law_pool", none), "_law_pool", "_law_pool", defArgs (top 18), defBody (top 18), defScope (top 18), [], []⟩
def d__law_take : He.DefD := ⟨("_law_take", none), "_law_take", "_law_take", defArgs (top 19), defBody (top 19), defScope (top 19), [], []⟩
def d__law_same : He.DefD := ⟨("_law_same", none), "_law_same", "_law_same", defArgs (top 22), defBody (top 22), defScope (top 22), [], []⟩
def d__law_ends : He.DefD := ⟨("_law_ends", none), "_law_ends", "_law_ends", defArgs (top 20), defBody (top 20), defScope (top 20), [], []⟩
def d__law_near : He.DefD := ⟨("_law_near", none), "_law_near", "_law_near", defArgs (top 21), defBody (top 21), defScope (top 21), [], []⟩
def d_check_size : He.DefD := ⟨("check_size", none), "check_size", "check_size", defArgs (top 14), defBody (top 14), defScope (top 14), [], []⟩
def d_Band___init__ : He.DefD := ⟨("Band", some "__init__"), "__init__", "Band.__init__", defArgs (inClass (top 15) 0), defBody (inClass (top 15) 0), defScope (inClass (top 15) 0), [], []⟩
def d_Band___len__ : He.DefD := ⟨("Band", some "__len__"), "__len__", "Band.__len__", defArgs (inClass (top 15) 1), defBody (inClass (top 15) 1), defScope (inClass (top 15) 1), [], []⟩
def d_Band___add__ : He.DefD := ⟨("Band", some "__add__"), "__add__", "Band.__add__", defArgs (inClass (top 15) 2), defBody (inClass (top 15) 2), defScope (inClass (top 15) 2), [], []⟩
def d_Band_part : He.DefD := ⟨("Band", some "part"), "part", "Band.part", defArgs (inClass (top 15) 5), defBody (inClass (top 15) 5), defScope (inClass (top 15) 5), [], []⟩
def d_Band_mirrored : He.DefD := ⟨("Band", some "mirrored"), "mirrored", "Band.mirrored", defArgs (inClass (top 15) 6), defBody (inClass (top 15) 6), defScope (inClass (top 15) 6), [], []⟩
def d_check_many : He.DefD := ⟨("check_many", none), "check_many", "check_many", defArgs (top 8), defBody (top 8), defScope (top 8), [], []⟩
def d_chains : He.DefD := ⟨("chains", none), "chains", "chains", defArgs (top 9), defBody (top 9), defScope (top 9), [], []⟩
def d_most : He.DefD := ⟨("most", none), "most", "most", defArgs (top 10), defBody (top 10), defScope (top 10), [], []⟩
def d_fewest : He.DefD := ⟨("fewest", none), "fewest", "fewest", defArgs (top 11), defBody (top 11), defScope (top 11), [], []⟩
def d__law_peeled : He.DefD := ⟨("_law_peeled", none), "_law_peeled", "_law_peeled", defArgs (top 23), defBody (top 23), defScope (top 23), [], []⟩
def d__law_size : He.DefD := ⟨("_law_size", none), "_law_size", "_law_size", defArgs (top 24), defBody (top 24), defScope (top 24), [], []⟩
def d__law_group : He.DefD := ⟨("_law_group", none), "_law_group", "_law_group", defArgs (top 25), defBody (top 25), defScope (top 25), [], []⟩
def d__law_between : He.DefD := ⟨("_law_between", none), "_law_between", "_law_between", defArgs (top 27), defBody (top 27), defScope (top 27), [], []⟩
def d__law_behind : He.DefD := ⟨("_law_behind", none), "_law_behind", "_law_behind", defArgs (top 26), defBody (top 26), defScope (top 26), [], []⟩
def d__law_joined_kept : He.DefD := ⟨("_law_joined_kept", none), "_law_joined_kept", "_law_joined_kept", defArgs (top 28), defBody (top 28), defScope (top 28), [], []⟩
def d__law_parts_kept : He.DefD := ⟨("_law_parts_kept", none), "_law_parts_kept", "_law_parts_kept", defArgs (top 29), defBody (top 29), defScope (top 29), [], []⟩
def d_law : He.DefD := ⟨("law", none), "law", "law", defArgs (top 30), defBody (top 30), defScope (top 30), [], []⟩
def fn : List He.DefD := [d__law_is_int, d__law_pool, d__law_take, d__law_same, d__law_ends, d__law_near, d_check_size, d_Band___init__, d_Band___len__, d_Band___add__, d_Band_part, d_Band_mirrored, d_check_many, d_chains, d_most, d_fewest, d__law_peeled, d__law_size, d__law_group, d__law_between, d__law_behind, d__law_joined_kept, d__law_parts_kept, d_law]
def fa : List He.Fa := [.free "isinstance", .free "bool", .free "int", .glo "_law_is_int", .free "list", .glo "_law_pool", .free "len", .glo "_law_take", .free "range", .free "tuple", .free "dict", .free "str", .glo "_law_same", .free "max", .free "min", .glo "_law_ends", .glo "_law_near", .noat "TooMany" "what", .noat "TooMany" "most", .free "super", .glo "TooMany", .int "MOST_THINGS" 60, .glo "check_size", .noat "BadEnd" "index", .glo "BadEnd", .cls "Band", .noat "Band" "ends", .free "enumerate", .glo "Band", .mkr "Band", .meth "Band" "__len__", .noat "BadNumber" "number", .glo "BadNumber", .meth "Band" "__add__", .meth "Band" "part", .free "reversed", .meth "Band" "mirrored", .int "MOST_CHAINS" 60, .glo "check_many", .glo "chains", .free "sum", .glo "most", .glo "fewest", .glo "_law_peeled", .glo "_law_size", .glo "_law_group", .glo "_law_between", .glo "_law_behind", .glo "_law_joined_kept", .glo "_law_parts_kept", .glo "law"]
def xa : List Xa := [.exc "TooMany", .exc "BadEnd", .exc "BadNumber", .self1 "Band"]
def s_TooMany : DefS := ⟨"TooMany", "__init__", "TooMany.__init__", (inClass (top 4) 0), [], []⟩
def s_BadEnd : DefS := ⟨"BadEnd", "__init__", "BadEnd.__init__", (inClass (top 5) 0), [], []⟩
def s_BadNumber : DefS := ⟨"BadNumber", "__init__", "BadNumber.__init__", (inClass (top 3) 0), [], []⟩
def fs : Fs := ⟨[s_TooMany, s_BadEnd, s_BadNumber], []⟩
def names0 : List PySem.Str := ["_wall", "BarbreaksError", "BadNumber", "TooMany", "BadEnd", "MOST_CHAINS", "check_many", "chains", "most", "fewest", "MOST_THINGS", "check_size", "Band", "_law_is_int", "_law_pool", "_law_take", "_law_ends", "_law_near", "_law_same", "_law_peeled", "_law_size", "_law_group", "_law_behind", "_law_between", "_law_joined_kept", "_law_parts_kept"]
def names : List PySem.Str := names0
end My
namespace My
open PySem PySem.Spec PyProof.Rows L2 Rd
abbrev hk : PySem.W.Hook := Rd.hookE 5 fa fn xa fs
def ob (s : PySem.W.SharedT) : Rd.AlE := Rd.obsEG 5 fa fn xa fs (HandSHeadRun.getT s)
theorem ob_eq (s : PySem.W.SharedT) : ob s = hk.obs s.abs := Rd.obsEG_eq (HandSHeadRun.getT_eq s)
set_option maxHeartbeats 0 in
theorem run (w : World) : HandSHeadRun.RunEq R (PySem.W.view R.prog [30]) hk ob 6000 names w := by
  intro os
  kernel_rfl
end My
local macro_rules | `(tactic| walk_at "len") => `(tactic| (simp only [List.length_cons, List.length_nil]; decide))
local macro_rules | `(tactic| walk_at "pool") => `(tactic| first | assumption | (refine' Rd.pool_drawn ?hd; (case hd => assumption)) | (refine' Rd.PoolAt.same ?hs ?hh; (case hs => assumption); (case hh => walk_at "pool")))
local macro_rules | `(tactic| walk_at "xat") => `(tactic| first | assumption | (refine' Rd.XcAt.same ?hs ?hh; (case hs => assumption); (case hh => walk_at "xat")))
local macro_rules | `(tactic| walk_at "same") => `(tactic| first | assumption | exact L2.Same.refl _ | (refine' L2.Same.trans ?ha ?hb; (case hb => assumption); (case ha => walk_at "same")))
local macro_rules | `(tactic| walk_at "drawn") => `(tactic| first | assumption | (refine' Rd.Drawn.refl ?hp; (case hp => walk_at "pool")) | (refine' Rd.Drawn.trans ?ha ?hb; (case hb => assumption); (case ha => walk_at "drawn")) | (refine' Rd.Drawn.same ?ha ?hb; (case hb => assumption); (case ha => walk_at "drawn")))
local macro_rules | `(tactic| walk_at "ne") => `(tactic| first | assumption | exact Ne.symm (by assumption) | omega | (refine' Rd.ne_pool ?hp ?hl; (case hl => assumption); (case hp => walk_at "pool")) | (refine' L2.ne_of_none ?hh ?hl; (case hl => assumption); (case hh => walk_at "hp")))
local macro_rules | `(tactic| walk_at "cls") => `(tactic| assumption)
local macro_rules | `(tactic| walk_at "hp") => `(tactic| first | assumption | exact L2.upd_same | (refine' (L2.upd_ne ?hn).trans ?hh; (case hn => walk_at "ne"); (case hh => walk_at "hp")) | (refine' Rd.sameAt ?hs ?hh; (case hs => assumption); (case hh => walk_at "hp")) | (refine' Rd.Drawn.tup ?hs ?hh; (case hs => assumption); (case hh => walk_at "hp")) | (refine' Rd.Drawn.ins ?hs ?hh; (case hs => assumption); (case hh => walk_at "hp")) | (refine' Rd.Drawn.lst ?hs ?hn ?hh; (case hs => assumption); (case hh => walk_at "hp"); (case hn => walk_at "ne")))
local macro_rules | `(tactic| walk_at "side") => `(tactic| first | assumption | (with_reducible rfl) | omega | exact rfl | decide)
local macro_rules | `(tactic| walk_at "mulside") => `(tactic| first | (left; left; constructor <;> omega) | (left; right; constructor <;> omega) | skip)
local macro_rules | `(tactic| walk_at "isb") => `(tactic| first
  | (with_reducible refine' Rd.w_isb_NoneType_bool ?_)
  | (with_reducible refine' Rd.w_isb_NoneType_int ?_)
  | (with_reducible refine' Rd.w_isb_NoneType_str ?_)
  | (with_reducible refine' Rd.w_isb_NoneType_dict ?_)
  | (with_reducible refine' Rd.w_isb_NoneType_list ?_)
  | (with_reducible refine' Rd.w_isb_NoneType_tuple ?_)
  | (with_reducible refine' Rd.w_isb_bool_bool ?_)
  | (with_reducible refine' Rd.w_isb_bool_int ?_)
  | (with_reducible refine' Rd.w_isb_bool_str ?_)
  | (with_reducible refine' Rd.w_isb_bool_dict ?_)
  | (with_reducible refine' Rd.w_isb_bool_list ?_)
  | (with_reducible refine' Rd.w_isb_bool_tuple ?_)
  | (with_reducible refine' Rd.w_isb_int_str ?_)
  | (with_reducible refine' Rd.w_isb_int_dict ?_)
  | (with_reducible refine' Rd.w_isb_int_list ?_)
  | (with_reducible refine' Rd.w_isb_int_tuple ?_)
  | (with_reducible refine' Rd.w_isb_str_bool ?_)
  | (with_reducible refine' Rd.w_isb_str_int ?_)
  | (with_reducible refine' Rd.w_isb_str_str ?_)
  | (with_reducible refine' Rd.w_isb_str_dict ?_)
  | (with_reducible refine' Rd.w_isb_str_list ?_)
  | (with_reducible refine' Rd.w_isb_str_tuple ?_)
  | ((with_reducible refine' Rd.w_isb_list_bool ?wa ?_); (case wa => walk_at "hp"))
  | ((with_reducible refine' Rd.w_isb_list_int ?wa ?_); (case wa => walk_at "hp"))
  | ((with_reducible refine' Rd.w_isb_list_str ?wa ?_); (case wa => walk_at "hp"))
  | ((with_reducible refine' Rd.w_isb_list_dict ?wa ?_); (case wa => walk_at "hp"))
  | ((with_reducible refine' Rd.w_isb_list_list ?wa ?_); (case wa => walk_at "hp"))
  | ((with_reducible refine' Rd.w_isb_list_tuple ?wa ?_); (case wa => walk_at "hp"))
  | ((with_reducible refine' Rd.w_isb_tuple_bool ?wa ?_); (case wa => walk_at "hp"))
  | ((with_reducible refine' Rd.w_isb_tuple_int ?wa ?_); (case wa => walk_at "hp"))
  | ((with_reducible refine' Rd.w_isb_tuple_str ?wa ?_); (case wa => walk_at "hp"))
  | ((with_reducible refine' Rd.w_isb_tuple_dict ?wa ?_); (case wa => walk_at "hp"))
  | ((with_reducible refine' Rd.w_isb_tuple_list ?wa ?_); (case wa => walk_at "hp"))
  | ((with_reducible refine' Rd.w_isb_tuple_tuple ?wa ?_); (case wa => walk_at "hp"))
  | (with_reducible refine' Rd.w_neB_tt ?_)
  | (with_reducible refine' Rd.w_neB_ff ?_)
  | (with_reducible refine' Rd.w_neB_tf ?_)
  | (with_reducible refine' Rd.w_neB_ft ?_))
local macro_rules | `(tactic| walk_at "rd1") => `(tactic| first
  | (with_reducible refine' Rd.w_seq ?_)
  | ((with_reducible refine' Rd.w_var ?wv ?_); (case wv => exact rfl))
  | (with_reducible refine' Rd.w_c ?_)
  | (with_reducible refine' Rd.w_op ?_)
  | (with_reducible refine' Rd.w_op1 ?_)
  | (with_reducible refine' Rd.w_op2 ?_)
  | (with_reducible refine' Rd.w_asg ?_)
  | (with_reducible refine' Rd.w_kname ?_)
  | (with_reducible refine' Rd.w_gname ?_)
  | (with_reducible refine' Rd.w_ret ?_)
  | (with_reducible refine' Rd.w_drop ?_)
  | (with_reducible refine' Rd.w_kdrop ?_)
  | (with_reducible refine' Rd.w_ifS ?_)
  | (with_reducible refine' Rd.w_test ?_)
  | (with_reducible refine' Rd.w_tB ?_)
  | (with_reducible refine' Rd.w_ktest ?_)
  | (with_reducible refine' Rd.w_and ?_)
  | (with_reducible refine' Rd.w_or ?_)
  | (with_reducible refine' Rd.w_not ?_)
  | (with_reducible refine' Rd.w_knot_t ?_)
  | (with_reducible refine' Rd.w_knot_f ?_)
  | (with_reducible refine' Rd.w_knot ?_)
  | (with_reducible refine' Rd.w_kif_n ?_)
  | (with_reducible refine' Rd.w_kif_t ?_)
  | (with_reducible refine' Rd.w_kif_f ?_)
  | (with_reducible refine' Rd.w_kand_t ?_)
  | (with_reducible refine' Rd.w_kand_f ?_)
  | (with_reducible refine' Rd.w_kor_t ?_)
  | (with_reducible refine' Rd.w_kor_f ?_)
  | (with_reducible refine' Rd.w_andV ?_)
  | (with_reducible refine' Rd.w_orV ?_)
  | (with_reducible refine' Rd.w_notV ?_)
  | (with_reducible refine' Rd.w_knotV_t ?_)
  | (with_reducible refine' Rd.w_knotV_f ?_)
  | (with_reducible refine' Rd.w_knotV ?_)
  | (with_reducible refine' Rd.w_kandV_t ?_)
  | (with_reducible refine' Rd.w_kandV_f ?_)
  | (with_reducible refine' Rd.w_korV_t ?_)
  | (with_reducible refine' Rd.w_korV_f ?_)
  | (with_reducible refine' Rd.w_addI ?_)
  | (with_reducible refine' Rd.w_sub ?_)
  | ((with_reducible refine' Rd.w_mul ?wm ?_); (case wm => walk_at "mulside"))
  | ((with_reducible refine' Rd.w_mod ?wm ?_); (case wm => first | omega | assumption))
  | (with_reducible refine' Rd.w_lt ?_)
  | (with_reducible refine' Rd.w_le ?_)
  | (with_reducible refine' Rd.w_gt ?_)
  | (with_reducible refine' Rd.w_ge ?_)
  | (with_reducible refine' Rd.w_neg ?_)
  | (with_reducible refine' Rd.w_eqI ?_)
  | (with_reducible refine' Rd.w_neI ?_)
  | (with_reducible refine' Rd.w_eqS ?_)
  | (with_reducible refine' Rd.w_neS ?_)
  | (with_reducible refine' Rd.w_isN_n ?_)
  | (with_reducible refine' Rd.w_isN_i ?_)
  | (with_reducible refine' Rd.w_isN_r ?_)
  | (with_reducible refine' Rd.w_isN_b ?_)
  | (with_reducible refine' Rd.w_isN_s ?_)
  | (with_reducible refine' Rd.w_notN_n ?_)
  | (with_reducible refine' Rd.w_notN_i ?_)
  | (with_reducible refine' Rd.w_notN_r ?_)
  | (with_reducible refine' Rd.w_nil ?_)
  | (with_reducible refine' Rd.w_cons ?_)
  | (with_reducible refine' Rd.w_kcons1 ?_)
  | (with_reducible refine' Rd.w_kcons2 ?_)
  | (with_reducible refine' Rd.w_cb ?_)
  | (with_reducible refine' Rd.w_kcb ?_)
  | (with_reducible refine' Rd.w_call ?_)
  | (with_reducible refine' Rd.w_kcall ?_)
  | (with_reducible refine' Rd.w_lst ?_)
  | (with_reducible refine' Rd.w_tup ?_)
  | (with_reducible refine' Rd.w_fld ?_)
  | (with_reducible refine' Rd.w_sfld ?_)
  | (with_reducible refine' Rd.w_ksf1 ?_)
  | (with_reducible refine' Rd.w_meth ?_)
  | (with_reducible refine' Rd.w_kmeth2 ?_)
  | (with_reducible refine' Rd.w_make ?_)
  | (with_reducible refine' Rd.w_mko ?_)
  | (with_reducible refine' Rd.w_mkS ?_)
  | (with_reducible refine' Rd.w_ksub ?_)
  | (with_reducible refine' Rd.w_ksub1 ?_)
  | (with_reducible refine' Rd.w_un ?_)
  | (with_reducible refine' Rd.w_kun ?_)
  | (with_reducible refine' Rd.w_ch ?_)
  | (with_reducible refine' Rd.w_ch1 ?_)
  | (with_reducible refine' Rd.w_ch2 ?_)
  | (with_reducible refine' Rd.w_tru ?_)
  | (with_reducible refine' Rd.w_ktru_b ?_)
  | (with_reducible refine' Rd.w_bm ?_)
  | (with_reducible refine' Rd.w_kbm2 ?_)
  | (with_reducible refine' Rd.w_par ?_)
  | (with_reducible refine' Rd.w_kpar ?_)
  | (with_reducible refine' Rd.w_int ?_)
  | (with_reducible refine' Rd.w_isi_int ?_)
  | (with_reducible refine' Rd.w_isi_bool ?_)
  | (with_reducible refine' Rd.w_two ?_)
  | (with_reducible refine' Rd.w_one ?_)
  | ((with_reducible refine' Rd.w_ixL (L2.SqL.of ?wa) ?wb ?_); (case wa => walk_at "hp"); (case wb => exact rfl))
  | ((with_reducible refine' Rd.w_ksubL ?wa ?wb ?_); (case wa => walk_at "hp"); (case wb => exact rfl))
  | ((with_reducible refine' Rd.w_lenM (L2.SqL.of ?wa) ?_); (case wa => walk_at "hp"))
  | ((with_reducible refine' Rd.w_ixM (L2.SqL.of ?wa) ?wb ?wc ?_); (case wa => walk_at "hp"); (case wb => omega); (case wc => omega))
  | ((with_reducible refine' Rd.w_lenL (L2.SqL.of ?wa) ?_); (case wa => walk_at "hp"))
  | ((with_reducible refine' Rd.w_kfld ?wa ?wb ?wc ?wd ?_); (case wa => walk_at "hp"); (case wb => walk_at "cls"); (case wc => walk_at "cls"); (case wd => exact rfl))
  | ((with_reducible refine' Rd.w_ksf2 ?wa ?wb ?wc ?wd ?_); (case wa => walk_at "hp"); (case wb => walk_at "cls"); (case wc => walk_at "cls"); (case wd => exact Nat.le_of_ble_eq_true rfl))
  | ((with_reducible refine' Rd.w_kmeth ?wa ?wb ?_); (case wa => walk_at "hp"); (case wb => exact rfl))
  | ((with_reducible refine' Rd.w_div ?wa ?_); (case wa => first | exact Rd.Small.div (by assumption) (by omega) | exact L2.wide_div (b := 64) (by omega) (by omega) (by decide) (by decide)))
  | ((with_reducible refine' Rd.w_pow (k := 1000000000000000000) ?wa ?wb ?_); (case wa => exact ⟨by decide, by decide, by decide⟩); (case wb => exact (by decide : (10 : Int) ^ (18 : Int).toNat = 1000000000000000000)))
  | ((with_reducible refine' Rd.w_pow (k := 1000000000) ?wa ?wb ?_); (case wa => exact ⟨by decide, by decide, by decide⟩); (case wb => exact (by decide : (10 : Int) ^ (9 : Int).toNat = 1000000000)))
  | (with_reducible refine' Rd.w_ifE ?_)
  | ((with_reducible refine' Rd.w_aug ?wv ?_); (case wv => exact rfl))
  | (with_reducible refine' Rd.w_kasgU ?_)
  | (with_reducible refine' Rd.w_forZA ?_)
  | (with_reducible refine' Rd.w_forRv ?_)
  | (with_reducible refine' Rd.w_stS ?_)
  | (with_reducible refine' Rd.w_kst ?_)
  | (with_reducible refine' Rd.w_binS ?_)
  | (with_reducible refine' Rd.w_kbin1 ?_)
  | ((with_reducible refine' Rd.w_kbin2 ?wa ?wb ?_); (case wa => walk_at "hp"); (case wb => walk_at "hp"))
  | (with_reducible refine' Rd.w_kor_nt ?_)
  | (with_reducible refine' Rd.w_kor_nf ?_)
  | (with_reducible refine' Rd.w_kand_nt ?_)
  | (with_reducible refine' Rd.w_kand_nf ?_)
  | (with_reducible refine' Rd.w_kasgT ?_)
  | (with_reducible refine' Rd.w_augAdd ?_)
  | (with_reducible refine' Rd.w_augSub ?_)
  | (with_reducible refine' Rd.w_kwh_t ?_)
  | (with_reducible refine' Rd.w_kwh_f ?_)
  | (with_reducible refine' Rd.w_revL ?_)
  | (with_reducible refine' Rd.w_next ?_)
  | (with_reducible refine' Rd.w_brk ?_)
  | (with_reducible refine' Rd.w_cont ?_)
  | (with_reducible refine' Rd.w_retN ?_)
  | (with_reducible refine' Rd.w_forEA ?_)
  | (with_reducible refine' Rd.w_ckw ?_)
  | (with_reducible refine' Rd.w_kkw1 ?_)
  | (with_reducible refine' Rd.w_kkw2 ?_)
  | (with_reducible refine' Rd.w_lcEA ?_)
  | (with_reducible refine' Rd.w_forR1 ?_)
  | (with_reducible refine' Rd.w_forR2 ?_)
  | (with_reducible refine' Rd.w_forL ?_)
  | (with_reducible refine' Rd.w_forT ?_)
  | (with_reducible refine' Rd.w_forE ?_)
  | (with_reducible refine' Rd.w_lcR1 ?_)
  | (with_reducible refine' Rd.w_lcR2 ?_)
  | (with_reducible refine' Rd.w_lcL ?_)
  | (with_reducible refine' Rd.w_lcT ?_)
  | (with_reducible refine' Rd.w_lcE ?_)
  | ((with_reducible refine' Rd.w_lenMT (L2.SqT.of ?wa) ?_); (case wa => walk_at "hp"))
  | ((with_reducible refine' Rd.w_ixMT (L2.SqT.of ?wa) ?wb ?wc ?_); (case wa => walk_at "hp"); (case wb => omega); (case wc => omega))
  | ((with_reducible refine' Rd.w_lenT2 (L2.SqT.of ?wa) ?_); (case wa => walk_at "hp"))
  | ((with_reducible refine' Rd.w_lenT (L2.SqT.of ?wa) ?_); (case wa => walk_at "hp"))
  | ((with_reducible refine' Rd.w_ixT (L2.SqT.of ?wa) ?wb ?_); (case wa => walk_at "hp"); (case wb => exact rfl))
  | ((with_reducible refine' Rd.w_kbmL ?wa ?_); (case wa => walk_at "hp"))
  | walk_at "isb")
local macro_rules | `(tactic| walk_at "rd") => `(tactic| (walk_at "rd1"; repeat (walk_at "rd1")))
local macro_rules | `(tactic| walk_at "rs1") => `(tactic| first
  | ((with_reducible refine' Rd.w_kif (fun hc => ?_) (fun hc => ?_)) <;> try (exfalso; omega))
  | ((with_reducible refine' Rd.w_kand (fun hc => ?_) (fun hc => ?_)) <;> try (exfalso; omega))
  | ((with_reducible refine' Rd.w_kor (fun hc => ?_) (fun hc => ?_)) <;> try (exfalso; omega))
  | ((with_reducible refine' Rd.w_kor_n (fun hc => ?_) (fun hc => ?_)) <;> try (exfalso; omega))
  | ((with_reducible refine' Rd.w_kand_n (fun hc => ?_) (fun hc => ?_)) <;> try (exfalso; omega))
  | ((with_reducible refine' Rd.w_kandV (fun hc => ?_) (fun hc => ?_)) <;> try (exfalso; omega))
  | ((with_reducible refine' Rd.w_korV (fun hc => ?_) (fun hc => ?_)) <;> try (exfalso; omega))
  | ((with_reducible refine' Rd.w_kifE (fun hc => ?_) (fun hc => ?_)) <;> try (exfalso; omega))
  | ((with_reducible refine' Rd.w_kwh (fun hc => ?_) (fun hc => ?_)) <;> try (exfalso; omega))
  | ((with_reducible refine' Rd.w_ch3 (fun hc => ?_) (fun hc => ?_)) <;> try (exfalso; omega)))
local macro_rules | `(tactic| walk_at "ra") => `(tactic| repeat' (first | walk_at "rd1" | walk_at "rs1"))
local macro_rules | `(tactic| walk_at "rn1") => `(tactic| first
  | ((with_reducible refine' Rd.n_klst ?wl (fun l H2 hl hs he => ?_)); (case wl => walk_at "len"))
  | ((with_reducible refine' Rd.n_ktup ?wl (fun l H2 hl hs he => ?_)); (case wl => walk_at "len"))
  | ((with_reducible refine' Rd.n_addL ?wa ?wb ?wl (fun l H2 hl hs he => ?_)); (case wa => walk_at "hp"); (case wb => walk_at "hp"); (case wl => walk_at "len"))
  | ((with_reducible refine' Rd.n_listL ?wa (fun l H2 hl hs he => ?_)); (case wa => walk_at "hp"))
  | ((with_reducible refine' Rd.n_listT ?wa (fun l H2 hl hs he => ?_)); (case wa => walk_at "hp"))
  | ((with_reducible refine' Rd.n_tupL ?wa (fun l H2 hl hs he => ?_)); (case wa => walk_at "hp"))
  | ((with_reducible refine' Rd.n_tupT ?wa ?_); (case wa => walk_at "hp"))
  | ((with_reducible refine' Rd.w_isx ?wx ?wc ?wk ?_); (case wx => walk_at "xat"); (case wc => assumption); (case wk => assumption))
  | ((with_reducible refine' Rd.w_isxT ?wx ?wc ?wk ?_); (case wx => walk_at "xat"); (case wc => assumption); (case wk => assumption))
  | ((with_reducible refine' Rd.w_xk ?wv ?wx ?wc ?wn ?wl ?_); (case wv => exact rfl); (case wx => walk_at "xat"); (case wc => assumption); (case wn => assumption); (case wl => exact rfl))
  | (with_reducible refine' Rd.w_callS ?_)
  | (with_reducible refine' Rd.w_lrg ?_)
  | (with_reducible refine' Rd.w_lrg0 ?_)
  | (with_reducible refine' Rd.w_krg1 ?_)
  | ((with_reducible refine' Rd.n_krg2 ?wo (fun l H2 hl hs he => ?_)); (case wo => exact ⟨by omega, by omega, by omega, by omega, by omega⟩))
  | ((with_reducible refine' Rd.n_krg0 ?wo (fun l H2 hl hs he => ?_)); (case wo => exact ⟨by omega, by omega, by omega, by omega, by omega⟩))
  | (with_reducible refine' Rd.w_sl ?_)
  | (with_reducible refine' Rd.w_sl_u ?_)
  | (with_reducible refine' Rd.w_sl_l ?_)
  | (with_reducible refine' Rd.w_sl_ln ?_)
  | (with_reducible refine' Rd.w_sl_lu ?_)
  | (with_reducible refine' Rd.w_sl3 ?_)
  | ((with_reducible refine' Rd.n_revL ?wa (fun l H2 hl hs he => ?_)); (case wa => walk_at "hp"))
  | ((with_reducible refine' Rd.n_usL ?wa (fun l H2 hl hs he => ?_)); (case wa => walk_at "hp"))
  | ((with_reducible refine' Rd.n_usT ?wa (fun l H2 hs he => ?_)); (case wa => walk_at "hp"))
  | ((with_reducible refine' Rd.n_slL ?wa (fun l H2 hl hs he => ?_)); (case wa => walk_at "hp"))
  | ((with_reducible refine' Rd.n_ksubM ?wa ?wb ?wc ?_); (case wa => walk_at "hp"); (case wb => omega); (case wc => omega))
  | ((with_reducible refine' Rd.w_gl2 (L2.SqL.of ?wa) ?_); (case wa => walk_at "hp"))
  | ((with_reducible refine' Rd.w_gt2 (L2.SqT.of ?wa) ?_); (case wa => walk_at "hp"))
  | ((with_reducible refine' Rd.w_gt3 (L2.SqT.of ?wa) ?_); (case wa => walk_at "hp"))
  | ((with_reducible refine' Rd.w_gl3 (L2.SqL.of ?wa) ?_); (case wa => walk_at "hp"))
  | (with_reducible refine' Rd.w_methS ?_)
  | (with_reducible refine' Rd.w_unb ?_)
  | (with_reducible refine' Rd.use_isint ?_)
  | ((with_reducible refine' Rd.use_take ?wp ?w0 ?ws (fun d H2 h0 h1 hd => ?_)); (case wp => walk_at "pool"); (case w0 => omega); (case ws => exact Rd.small_of (by omega))))
local macro_rules | `(tactic| walk_at "rw") => `(tactic| repeat' (first | walk_at "rd1" | walk_at "rn1" | walk_at "rs1"))
local macro_rules | `(tactic| walk_at "pp") => `(tactic| first
  | assumption
  | exact Rd.PairP.nil
  | (refine' Rd.PairP.app ?pa ?pb; (case pa => walk_at "pp"); (case pb => walk_at "pp"))
  | (refine' Rd.PairP.cut ?pa; (case pa => walk_at "pp"))
  | (refine' Rd.PairP.set ?pa ?pb trivial; (case pb => walk_at "hp"); (case pa => walk_at "pp"))
  | (refine' Rd.PairP.cons ?pa trivial ?pb; (case pa => walk_at "hp"); (case pb => walk_at "pp"))
  | (refine' Rd.PairP.put ?pa ?pb; (case pb => walk_at "hp"); (case pa => walk_at "pp"))
  | (refine' Rd.PairP.keep ?pa ?pb; (case pb => assumption); (case pa => walk_at "pp"))
  | (refine' Rd.PairP.drawn ?pa ?pb; (case pb => assumption); (case pa => walk_at "pp")))
local macro_rules | `(tactic| walk_at "free") => `(tactic| (refine' Rd.Drawn.free ?fa ?fb; (case fb => assumption); (case fa => walk_at "drawn")))
local macro_rules | `(tactic| walk_at "lb") => `(tactic| first
  | assumption
  | (refine' Rd.len_app ?la ?lb; (case la => walk_at "lb"); (case lb => walk_at "lb"))
  | (refine' Rd.len_cut ?la; (case la => walk_at "lb"))
  | (refine' Rd.len_set ?la; (case la => walk_at "lb"))
  | exact Nat.le_refl _)
local macro_rules | `(tactic| walk_at "lenb") => `(tactic| (refine' Nat.le_trans ?l1 ?l2; (case l1 => walk_at "lb"); (case l2 => exact Nat.le_of_ble_eq_true rfl)))
local macro_rules | `(tactic| walk_at "rx1") => `(tactic| first
  | ((with_reducible refine' Rd.n_ixPair ?wp ?wa ?wb ?wc (fun t f l hv ht hr => ?_)); (case wa => walk_at "hp"); (case wp => walk_at "pp"); (case wb => omega); (case wc => omega))
  | ((with_reducible refine' Rd.n_ixMem ?wa ?wb ?wc (fun v hv => ?_)); (case wa => walk_at "hp"); (case wb => omega); (case wc => omega))
  | ((with_reducible refine' Rd.n_setAny ?wa ?wb ?wc ?_); (case wa => walk_at "hp"); (case wb => omega); (case wc => omega))
  | ((with_reducible refine' Rd.n_addA ?wa ?wb ?wl ?wm (fun l H2 hl hs he => ?_)); (case wa => walk_at "hp"); (case wb => walk_at "hp"); (case wl => walk_at "lenb"); (case wm => walk_at "lenb"))
  | ((with_reducible refine' Rd.use_draw0 ?wp ?wq (fun d H2 hq hd => ?_)); (case wp => walk_at "pool"); (case wq => exact trivial)))
local macro_rules | `(tactic| walk_at "rx") => `(tactic| repeat' (first | walk_at "rd1" | walk_at "rn1" | walk_at "rs1" | walk_at "rx1"))
namespace My
open PySem PySem.Spec PyProof.Rows L2 Rd
section
variable {P : Program} {w : World} {K : PySem.W.Frag} {mg : Str → Option Value} {base : Heap}

theorem sc__law_is_int : FnScope ["_law_x"] ["_law_x"] (defScope (top 17)) := ⟨rfl, rfl, rfl, by decide +kernel, rfl, by decide +kernel, by decide +kernel⟩
theorem g__law_is_int (T : Tx fa fn xa fs P K mg) : FnG P w K mg base CX0 1 "_law_is_int" ["_law_x"] spIsInt := by
  obtain ⟨fd, F⟩ := T.says.def_ 0 (d := d__law_is_int) rfl
  have sc := sc__law_is_int
  refine ⟨_, fd, T.glo 3, F.kp, F.ok sc (fun vs H Q E h => ?len) (fun cdv A outer s H vs Q E hr h => ⟨_, PSs.nox (pss_one (ps_ret (pe_and (pe_callB cIsi (by rfl) (T.free 0) (by decide +kernel) (pa_cons (pv 0) (pa_cons (pe_bltn (v := .ty "int") (u := .type "int") rfl (T.free 2) (by decide +kernel) rfl) pa_nil))) (pe_one (pe_not (pe_callB cIsi (by rfl) (T.free 0) (by decide +kernel) (pa_cons (pv 0) (pa_cons (pe_bltn (v := .ty "bool") (u := .type "bool") rfl (T.free 1) (by decide +kernel) rfl) pa_nil)))))))), ?rd⟩), F.bindsN fun _ _ _ _ _ _ us hl => match us, hl with | [_], _ => rfl⟩
  case len =>
    obtain ⟨i, rfl, _⟩ := h
    rfl
  case rd =>
    obtain ⟨i, rfl, hQ⟩ := h
    show tRet _ ⟨_, _, _, _⟩ [some (.int i)] H
    try dsimp only [cxOf]
    walk_at "ra"
    exact hQ

end
end My
namespace My
open PySem PySem.Spec PyProof.Rows L2 Rd
section
variable {P : Program} {w : World} {K : PySem.W.Frag} {mg : Str → Option Value} {base : Heap}

theorem sc__law_pool : FnScope ["_law_script", "_law_seed", "_law_cell"] ["_law_script"] (defScope (top 18)) := ⟨rfl, rfl, rfl, by decide +kernel, rfl, by decide +kernel, by decide +kernel⟩
theorem g__law_pool (T : Tx fa fn xa fs P K mg) : FnG P w K mg base CX0 1 "_law_pool" ["_law_script"] (spPool K) := by
  obtain ⟨fd, F⟩ := T.says.def_ 1 (d := d__law_pool) rfl
  have sc := sc__law_pool
  refine ⟨_, fd, T.glo 5, F.kp, F.ok sc (fun vs H Q E h => ?len) (fun cdv A outer s H vs Q E hr h => ⟨_, PSs.nox (pss_cons (ps_set (i := 1) sc.nd rfl (by first | exact Or.inl rfl | exact Or.inr rfl) pe_int)
    (pss_cons (ps_for PassesOwn.never rfl (pi_list (pv 0)) (pg_name (i := 2) sc.nd rfl (by first | exact Or.inl rfl | exact Or.inr rfl)) (pss_one (ps_set (i := 1) sc.nd rfl (by first | exact Or.inl rfl | exact Or.inr rfl) (pe_op oMod (pe_callTy cInt (by rfl) (T.free 2) (by decide +kernel) (pa_cons (pe_op oAdd (pe_op oAdd (pe_op oMul (pv 1) pe_int) (pe_op oMul (pe_callTy cInt (by rfl) (T.free 2) (by decide +kernel) (pa_cons (pv 2) pa_nil)) pe_int)) pe_int) pa_nil)) pe_int))))
    (pss_one (ps_ret (pe_lst (pa_cons pe_int (pa_cons pe_int (pa_cons pe_int (pa_cons (pv 1) (pa_cons (pe_callTy cList (by rfl) (T.free 4) (by decide +kernel) (pa_cons (pv 0) pa_nil)) pa_nil)))))))))), ?rd⟩), F.bindsN fun _ _ _ _ _ _ us hl => match us, hl with | [_], _ => rfl⟩
  case len =>
    obtain ⟨a, ns, rfl, _⟩ := h
    rfl
  case rd =>
    obtain ⟨a, ns, rfl, hs, hQ⟩ := h
    show tSeq _ _ ⟨_, _, _, _⟩ [some (.ref a), none, none] H
    try dsimp only [cxOf]
    walk_at "rd"
    refine ⟨a, rfl, ⟨_, hs⟩, for_list (xs := ns.map V.int) (fun i σ H' => H' = H ∧ ∃ sd v, 0 ≤ sd ∧ sd < 2147483647 ∧ σ = [some (.ref a), some (.int sd), v]) ⟨rfl, 7, none, by decide, by decide, rfl⟩ ?_ ?_ ?_⟩
    · rintro i σ H' _ ⟨rfl, _⟩
      exact hs
    · rintro i x σ H' hx ⟨rfl, sd, v, h0, h1, rfl⟩
      obtain ⟨c, rfl⟩ : ∃ c : Int, x = .int c := by
        obtain ⟨c, _, e⟩ := List.mem_map.mp (List.mem_of_getElem? hx)
        exact ⟨c, e.symm⟩
      walk_at "ra"
      exact ⟨rfl, _, _, Int.emod_nonneg _ (by decide), Int.emod_lt_of_pos _ (by decide), rfl⟩
    · rintro σ H' ⟨rfl, sd, v, h0, h1, rfl⟩
      walk_at "ra"
      refine w_listL hs fun l hl => ?_
      walk_at "ra"
      refine w_klst (by walk_at "len") fun p hp => ?_
      have hpl : l ≠ p := fun e => by rw [e, upd_same] at hp; cases hp
      refine hQ p _ ?_ ?_ ?_
      · rw [upd_ne (Ne.symm hpl)] at hp; exact hp
      · intro b o hb
        have h1 : b ≠ l := ne_of_none hb hl
        have h2 : b ≠ p := fun e => by rw [e] at hb; rw [upd_ne (Ne.symm hpl), hb] at hp; cases hp
        rw [upd_ne h2, upd_ne h1]; exact hb
      · exact ⟨l, _, ns, upd_same, ⟨0, 0, 0, sd, rfl, by decide, by decide, h0, h1⟩, by rw [upd_ne hpl, upd_same], hpl⟩

end
end My
namespace My
open PySem PySem.Spec PyProof.Rows L2 Rd
section
variable {P : Program} {w : World} {K : PySem.W.Frag} {mg : Str → Option Value} {base : Heap}

theorem sc__law_take : FnScope ["_law_pool_here", "_law_size_here", "_law_cells", "_law_mixed", "_law_cell", "_law_digit"] ["_law_pool_here", "_law_size_here"] (defScope (top 19)) := ⟨rfl, rfl, rfl, by decide +kernel, rfl, by decide +kernel, by decide +kernel⟩
theorem g__law_take (T : Tx fa fn xa fs P K mg) : FnG P w K mg base CX0 1 "_law_take" ["_law_pool_here", "_law_size_here"] spTake := by
  obtain ⟨fd, F⟩ := T.says.def_ 2 (d := d__law_take) rfl
  have sc := sc__law_take
  refine ⟨_, fd, T.glo 7, F.kp, F.ok sc (fun vs H Q E h => ?len) (fun cdv A outer s H vs Q E hr h => ⟨_, PSs.nox (pss_cons (ps_set (i := 2) sc.nd rfl (by first | exact Or.inl rfl | exact Or.inr rfl) (pe_ix ix_seq (pv 0) pe_int (fun _ _ => rfl)))
    (pss_cons (ps_asg (pe_op oAdd (pe_ix ix_seq (pv 0) pe_int (fun _ _ => rfl)) pe_int) (pg_sub (pv 0) pe_int set_list))
    (pss_cons (ps_set (i := 3) sc.nd rfl (by first | exact Or.inl rfl | exact Or.inr rfl) (pe_op oMod (pe_callTy cInt (by rfl) (T.free 2) (by decide +kernel) (pa_cons (pe_op oAdd (pe_op oAdd (pe_op oMul (pe_ix ix_seq (pv 0) pe_int (fun _ _ => rfl)) pe_int) (pe_op oMul (pe_ix ix_seq (pv 0) pe_int (fun _ _ => rfl)) pe_int)) pe_int) pa_nil)) pe_int))
    (pss_cons (ps_if (PW.pt (pw_and (pt_cmpR op_eq (pe_ix ix_seq (pv 0) pe_int (fun _ _ => rfl)) pe_int (nomark _)) (pw_and1 (pt_cmpR oLt (pe_ix ix_seq (pv 0) pe_int (fun _ _ => rfl)) (pe_callB cLen (by rfl) (T.free 6) (by decide +kernel) (pa_cons (pv 2) pa_nil)) (nomark _))))) (pss_cons (ps_set (i := 4) sc.nd rfl (by first | exact Or.inl rfl | exact Or.inr rfl) (pe_callTy cInt (by rfl) (T.free 2) (by decide +kernel) (pa_cons (pe_ix ix_seq (pv 2) (pe_ix ix_seq (pv 0) pe_int (fun _ _ => rfl)) (fun _ _ => rfl)) pa_nil)))
    (pss_cons (ps_asg (pe_op oAdd (pe_ix ix_seq (pv 0) pe_int (fun _ _ => rfl)) pe_int) (pg_sub (pv 0) pe_int set_list))
    (pss_cons (ps_set (i := 3) sc.nd rfl (by first | exact Or.inl rfl | exact Or.inr rfl) (pe_op oMod (pe_callTy cInt (by rfl) (T.free 2) (by decide +kernel) (pa_cons (pe_op oAdd (pe_op oAdd (pe_op oMul (pv 4) pe_int) (pe_ix ix_seq (pv 0) pe_int (fun _ _ => rfl))) (pe_op oMul (pe_ix ix_seq (pv 0) pe_int (fun _ _ => rfl)) pe_int)) pa_nil)) pe_int))
    (pss_one (ps_if (pt_cmpR oGe (pv 4) (pe_op oPow pe_int pe_int) (nomark _)) (pss_one (ps_asg (pv 4) (pg_sub (pv 0) pe_int set_list))) pss_nil))))) pss_nil)
    (pss_cons (ps_if (pt_cmpR oGt (pe_ix ix_seq (pv 0) pe_int (fun _ _ => rfl)) pe_int (nomark _)) (pss_cons (ps_set (i := 5) sc.nd rfl (by first | exact Or.inl rfl | exact Or.inr rfl) (pe_op oMod (pe_callTy cInt (by rfl) (T.free 2) (by decide +kernel) (pa_cons (pe_ix ix_seq (pv 0) pe_int (fun _ _ => rfl)) pa_nil)) (pv 1)))
    (pss_cons (ps_asg (pe_op oDiv (pe_ix ix_seq (pv 0) pe_int (fun _ _ => rfl)) (pv 1)) (pg_sub (pv 0) pe_int set_list))
    (pss_one (ps_ret (pv 5))))) pss_nil)
    (pss_cons (ps_set (i := 3) sc.nd rfl (by first | exact Or.inl rfl | exact Or.inr rfl) (pe_op oMod (pe_callTy cInt (by rfl) (T.free 2) (by decide +kernel) (pa_cons (pe_op oAdd (pe_op oMul (pv 3) pe_int) (pe_op oDiv (pv 3) pe_int)) pa_nil)) pe_int))
    (pss_one (ps_ret (pe_op oMod (pe_callTy cInt (by rfl) (T.free 2) (by decide +kernel) (pa_cons (pv 3) pa_nil)) (pv 1)))))))))), ?rd⟩), F.bindsN fun _ _ _ _ _ _ us hl => match us, hl with | [_, _], _ => rfl⟩
  case len =>
    obtain ⟨p, n, rfl, _⟩ := h
    rfl
  case rd =>
    obtain ⟨p, n, rfl, h0, hs, hp, hQ⟩ := h
    obtain ⟨q, l, ns, h1, ⟨a, b, c, s, rfl, ha, hb, hs0, hs1⟩, h3, h4⟩ := hp
    show tSeq _ _ ⟨_, _, _, _⟩ [some (.ref p), some (.int n), none, none, none, none] H
    try dsimp only [cxOf]
    walk_at "ra"
    all_goals repeat rw [upd_upd]
    all_goals (refine hQ _ _ (Int.emod_nonneg _ (by omega)) (Int.emod_lt_of_pos _ h0) (drawn_put h1 ⟨a, b, c, s, rfl, ha, hb, hs0, hs1⟩ h3 h4 ?_ ?_ ?_ ?_) <;> first | omega | exact Int.ediv_nonneg (by omega) (by omega))

end
end My
namespace My
open PySem PySem.Spec PyProof.Rows L2 Rd
section
variable {P : Program} {w : World} {K : PySem.W.Frag} {mg : Str → Option Value} {base : Heap}

theorem sc__law_same : FnScope ["_law_got", "_law_due", "_law_key", "_law_k"] ["_law_got", "_law_due"] (defScope (top 22)) := ⟨rfl, rfl, rfl, by decide +kernel, rfl, by decide +kernel, by decide +kernel⟩
theorem s__law_same (T : Tx fa fn xa fs P K mg) (d : Nat) (ih : FnG P w K mg base CX0 (d + 1) "_law_same" ["_law_got", "_law_due"] (spSame d)) : FnG P w K mg base CX0 (d + 1 + 1) "_law_same" ["_law_got", "_law_due"] (spSame (d + 1)) := by
  obtain ⟨fd, F⟩ := T.says.def_ 3 (d := d__law_same) rfl
  have sc := sc__law_same
  refine ⟨_, fd, T.glo 12, F.kp, F.ok sc (fun vs H Q E h => ?len) (fun cdv A outer s H vs Q E hr h => ⟨_, PSs.nox (pss_cons (ps_if (pt_cmpR oIs (pv 1) pe_non (nomark _)) (pss_one (ps_ret (pe_cmpR oIs (pv 0) pe_non (nomark _)))) pss_nil)
    (pss_cons (ps_if (pt_val (pe_callB cIsi (by rfl) (T.free 0) (by decide +kernel) (pa_cons (pv 1) (pa_cons (pe_bltn (v := .ty "bool") (u := .type "bool") rfl (T.free 1) (by decide +kernel) rfl) pa_nil)))) (pss_one (ps_ret (pe_and (pe_callB cIsi (by rfl) (T.free 0) (by decide +kernel) (pa_cons (pv 0) (pa_cons (pe_bltn (v := .ty "bool") (u := .type "bool") rfl (T.free 1) (by decide +kernel) rfl) pa_nil))) (pe_one (pe_cmpR op_eq (pv 0) (pv 1) (nomark _)))))) pss_nil)
    (pss_cons (ps_if (pt_val (pe_callB cIsi (by rfl) (T.free 0) (by decide +kernel) (pa_cons (pv 1) (pa_cons (pe_bltn (v := .ty "int") (u := .type "int") rfl (T.free 2) (by decide +kernel) rfl) pa_nil)))) (pss_one (ps_ret (pe_and (pe_cg (g__law_is_int T) (hr.mono (by omega)) rfl (pa_cons (pv 0) pa_nil)) (pe_one (pe_cmpR op_eq (pv 0) (pv 1) (nomark _)))))) pss_nil)
    (pss_cons (ps_if (pt_val (pe_callB cIsi (by rfl) (T.free 0) (by decide +kernel) (pa_cons (pv 1) (pa_cons (pe_bltn (v := .ty "str") (u := .type "str") rfl (T.free 11) (by decide +kernel) rfl) pa_nil)))) (pss_one (ps_ret (pe_and (pe_callB cIsi (by rfl) (T.free 0) (by decide +kernel) (pa_cons (pv 0) (pa_cons (pe_bltn (v := .ty "str") (u := .type "str") rfl (T.free 11) (by decide +kernel) rfl) pa_nil))) (pe_one (pe_cmpR op_eq (pv 0) (pv 1) (nomark _)))))) pss_nil)
    (pss_cons (ps_if (pt_val (pe_callB cIsi (by rfl) (T.free 0) (by decide +kernel) (pa_cons (pv 1) (pa_cons (pe_bltn (v := .ty "dict") (u := .type "dict") rfl (T.free 10) (by decide +kernel) rfl) pa_nil)))) pss_never pss_nil)
    (pss_cons (ps_if (PW.pt (pw_or (pt_cmpR op_ne (pe_callB cIsi (by rfl) (T.free 0) (by decide +kernel) (pa_cons (pv 1) (pa_cons (pe_bltn (v := .ty "list") (u := .type "list") rfl (T.free 4) (by decide +kernel) rfl) pa_nil))) (pe_callB cIsi (by rfl) (T.free 0) (by decide +kernel) (pa_cons (pv 0) (pa_cons (pe_bltn (v := .ty "list") (u := .type "list") rfl (T.free 4) (by decide +kernel) rfl) pa_nil))) (nomark _)) (pw_or1 (pt_cmpR op_ne (pe_callB cIsi (by rfl) (T.free 0) (by decide +kernel) (pa_cons (pv 1) (pa_cons (pe_bltn (v := .ty "tuple") (u := .type "tuple") rfl (T.free 9) (by decide +kernel) rfl) pa_nil))) (pe_callB cIsi (by rfl) (T.free 0) (by decide +kernel) (pa_cons (pv 0) (pa_cons (pe_bltn (v := .ty "tuple") (u := .type "tuple") rfl (T.free 9) (by decide +kernel) rfl) pa_nil))) (nomark _))))) (pss_one (ps_ret pe_bl)) pss_nil)
    (pss_cons (ps_if (pt_cmpR op_ne (pe_callB cLen (by rfl) (T.free 6) (by decide +kernel) (pa_cons (pv 0) pa_nil)) (pe_callB cLen (by rfl) (T.free 6) (by decide +kernel) (pa_cons (pv 1) pa_nil)) (nomark _)) (pss_one (ps_ret pe_bl)) pss_nil)
    (pss_cons (ps_for PassesOwn.never rfl (pi_range1 (by rfl) (T.free 8) (pa_cons (pe_callB cLen (by rfl) (T.free 6) (by decide +kernel) (pa_cons (pv 1) pa_nil)) pa_nil)) (pg_name (i := 3) sc.nd rfl (by first | exact Or.inl rfl | exact Or.inr rfl)) (pss_one (ps_if (pt_not (pt_val (pe_cg ih (hr.mono (by omega)) rfl (pa_cons (pe_ix ix_seq (pv 0) (pv 3) (fun _ _ => rfl)) (pa_cons (pe_ix ix_seq (pv 1) (pv 3) (fun _ _ => rfl)) pa_nil))))) (pss_one (ps_ret pe_bl)) pss_nil)))
    (pss_one (ps_ret pe_bl)))))))))), ?rd⟩), F.bindsN fun _ _ _ _ _ _ us hl => match us, hl with | [_, _], _ => rfl⟩
  case len =>
    obtain ⟨v, u, rfl, _⟩ := h
    rfl
  case rd =>
    obtain ⟨v, u, rfl, ha, hQ⟩ := h
    show tSeq _ _ ⟨_, _, _, _⟩ [some v, some u, none, none] H
    try dsimp only [cxOf]
    rcases ha with ⟨rfl, rfl⟩ | ⟨x, rfl, rfl⟩ | ⟨x, rfl, rfl⟩ | ⟨x, rfl, rfl⟩ | ⟨a, b, xs, ys, rfl, rfl, ha, hl, hsz, hi⟩
    · walk_at "ra"
      exact hQ
    · walk_at "ra"
      refine w_eqB ?_
      rw [decide_eq_true rfl]
      exact hQ
    · walk_at "ra"
      refine use_isint ?_
      walk_at "ra"
      rw [decide_eq_true rfl]
      exact hQ
    · walk_at "ra"
      rw [decide_eq_true rfl]
      exact hQ
    · rcases ha with ⟨ha, hb⟩ | ⟨ha, hb⟩
      all_goals
        walk_at "ra"
        refine ⟨_, rfl, by omega, by omega, for_range (n := ys.length) (fun i σ H' => H' = H ∧ ∃ c, σ = [some (.ref a), some (.ref b), none, c]) ⟨rfl, _, rfl⟩ ?_ ?_⟩
        · rintro i σ H' hlt ⟨rfl, c, rfl⟩
          obtain ⟨x, hx⟩ : ∃ x, xs[i]? = some x := ⟨xs[i], List.getElem?_eq_getElem (by omega)⟩
          obtain ⟨y, hy⟩ : ∃ y, ys[i]? = some y := ⟨ys[i], List.getElem?_eq_getElem hlt⟩
          walk_at "ra"
          first | refine w_ixL (SqL.of ha) (atI_nat hx) ?_ | refine w_ixT (SqT.of ha) (atI_nat hx) ?_
          walk_at "ra"
          first | refine w_ixL (SqL.of hb) (atI_nat hy) ?_ | refine w_ixT (SqT.of hb) (atI_nat hy) ?_
          walk_at "ra"
          refine use_same (hi i x y hx hy) ?_
          walk_at "ra"
          exact ⟨rfl, _, rfl⟩
        · rintro σ H' ⟨rfl, c, rfl⟩
          walk_at "ra"
          exact hQ
theorem g__law_same (T : Tx fa fn xa fs P K mg) : ∀ d : Nat, FnG P w K mg base CX0 (d + 1) "_law_same" ["_law_got", "_law_due"] (spSame d)
  | 0 => by
    obtain ⟨fd, F⟩ := T.says.def_ 3 (d := d__law_same) rfl
    exact ⟨_, fd, T.glo 12, F.kp, ⟨fun _ _ _ _ h => (rec0 h).elim, fun _ _ _ _ _ _ _ _ _ _ _ _ _ h => (rec0 h).elim⟩, F.bindsN fun _ _ _ _ _ _ us hl => match us, hl with | [_, _], _ => rfl⟩
  | d + 1 => s__law_same T d (g__law_same T d)

end
end My
namespace My
open PySem PySem.Spec PyProof.Rows L2 Rd
section
variable {P : Program} {w : World} {K : PySem.W.Frag} {mg : Str → Option Value} {base : Heap}
open BandM
/-- a list of ends is drawn -/
def spEnds : Sp := fun vs H Q _ => ∃ (p : Addr) (c : Int), vs = [.ref p, .int c] ∧ 0 ≤ c ∧ c ≤ 100 ∧ PoolAt H p ∧ ∀ (e : Addr) (ns : List Int) (H' : Hp), H e = none → FitEnds c ns → H' e = some (.lst (ns.map V.int)) → Drawn p H H' → Q (.ref e) H'

theorem sc__law_ends : FnScope ["_law_pool_here", "_law_count", "_law_wide", "_law_ends_here", "_law_i", "_law_low"] ["_law_pool_here", "_law_count"] (defScope (top 20)) := ⟨rfl, rfl, rfl, by decide +kernel, rfl, by decide +kernel, by decide +kernel⟩
theorem g__law_ends (T : Tx fa fn xa fs P K mg) : FnG P w K mg base CX0 2 "_law_ends" ["_law_pool_here", "_law_count"] spEnds := by
  obtain ⟨fd, F⟩ := T.says.def_ 4 (d := d__law_ends) rfl
  have sc := sc__law_ends
  refine ⟨_, fd, T.glo 15, F.kp, F.ok sc (fun vs H Q E h => ?len) (fun cdv A outer s H vs Q E hr h => ⟨_, PSs.nox (pss_cons (ps_set (i := 2) sc.nd rfl (by first | exact Or.inl rfl | exact Or.inr rfl) (pe_ix ix_seq (pe_lst (pa_cons (pv 1) (pa_cons pe_int (pa_cons pe_int (pa_cons pe_int pa_nil))))) (pe_cg (g__law_take T) (hr.mono (by decide)) rfl (pa_cons (pv 0) (pa_cons pe_int pa_nil))) (fun _ _ => rfl)))
    (pss_cons (ps_set (i := 3) sc.nd rfl (by first | exact Or.inl rfl | exact Or.inr rfl) (pe_lst pa_nil))
    (pss_cons (ps_for PassesOwn.never rfl (pi_range1 (by rfl) (T.free 8) (pa_cons (pv 1) pa_nil)) (pg_name (i := 4) sc.nd rfl (by first | exact Or.inl rfl | exact Or.inr rfl)) (pss_cons (ps_set (i := 5) sc.nd rfl (by first | exact Or.inl rfl | exact Or.inr rfl) (pv 4))
    (pss_cons (ps_if (pt_cmpR oGt (pv 4) pe_int (nomark _)) (pss_one (ps_set (i := 5) sc.nd rfl (by first | exact Or.inl rfl | exact Or.inr rfl) (pe_callB (cMax2 rfl) (by rfl) (T.free 13) (by decide +kernel) (pa_cons (pv 4) (pa_cons (pe_ix ix_seq (pv 3) (pe_op oSub (pv 4) pe_int) (fun _ _ => rfl)) pa_nil))))) pss_nil)
    (pss_one (ps_expr (pe_bm PySem.F.plainAttrs_list PySem.F.slot_list_append PySem.F.type_list_append mt_append (pv 3) (pa_cons (pe_op oAdd (pv 5) (pe_cg (g__law_take T) (hr.mono (by decide)) rfl (pa_cons (pv 0) (pa_cons (pe_callB (cMax2 rfl) (by rfl) (T.free 13) (by decide +kernel) (pa_cons pe_int (pa_cons (pe_callB (cMin2 rfl) (by rfl) (T.free 14) (by decide +kernel) (pa_cons (pv 2) (pa_cons (pe_op oSub (pv 1) (pv 5)) pa_nil))) pa_nil))) pa_nil)))) pa_nil)))))))
    (pss_one (ps_ret (pv 3)))))), ?rd⟩), F.bindsN fun _ _ _ _ _ _ us hl => match us, hl with | [_, _], _ => rfl⟩
  case len =>
    obtain ⟨p, c, rfl, _⟩ := h
    rfl
  case rd =>
    obtain ⟨p, c, rfl, c0, c1, hp, hQ⟩ := h
    show tSeq _ _ ⟨_, _, _, _⟩ [some (.ref p), some (.int c), none, none, none, none] H
    try dsimp only [cxOf]
    walk_at "rd"
    refine w_klst (by walk_at "len") fun w hw => ?_
    walk_at "rd"
    have hpw : w ≠ p := (Drawn.refl hp).ne hw
    refine use_take (hp.new hw) (by decide) (small_of (by decide)) fun d H1 d0 d1 hd => ?_
    have hw1 := hd.grow _ _ hpw upd_same
    have hdr : Drawn p H H1 := ((Drawn.refl hp).new hw).trans hd
    refine w_op2 (w_ixM (ns := [c, 2, 3, 6]) (SqL.of hw1) d0 (show d < 4 by omega) ?_)
    generalize List.getD [c, 2, 3, 6] d.toNat 0 = wide
    walk_at "rd"
    refine w_klst (by walk_at "len") fun e he => ?_
    have hep : e ≠ p := hd.ne he
    have heH : H e = none := Option.eq_none_iff_forall_ne_some.mpr fun o z => by
      have z2 := hdr.grow e o hep z
      rw [he] at z2; cases z2
    walk_at "rd"
    refine ⟨_, rfl, by omega, by omega, for_range (n := c.toNat) (fun i σ H' => ∃ (ns : List Int) (v1 v2 : Option V), ns.length = i ∧ EndsTo c ns ∧ H' e = some (.lst (ns.map V.int)) ∧ Drawn p H H' ∧ σ = [some (.ref p), some (.int c), some (.int wide), some (.ref e), v1, v2]) ⟨[], _, _, rfl, .nil, upd_same, hdr.ints heH hep [], rfl⟩ ?_ ?_⟩
    · rintro i σ H' hi ⟨ns, v1, v2, hl, hE, hat, hdr, rfl⟩
      have step : ∀ low : Int, (i : Int) ≤ low → low < c → (∀ k : Nat, k + 1 = i → ns.getD k 0 ≤ low) → ∀ (t : Int) (H2 : Hp), 0 ≤ t → t < max 1 (min wide (c - low)) → Drawn p H' H2 → ∃ (ns' : List Int) (v1 v2 : Option V), ns'.length = i + 1 ∧ EndsTo c ns' ∧ upd H2 e (.lst (ns.map V.int ++ [.int (low + t)])) e = some (.lst (ns'.map V.int)) ∧ Drawn p H (upd H2 e (.lst (ns.map V.int ++ [.int (low + t)]))) ∧ [some (V.ref p), some (.int c), some (.int wide), some (.ref e), some (.int (0 + (i : Int))), some (.int low)] = [some (.ref p), some (.int c), some (.int wide), some (.ref e), v1, v2] := by
        intro low l1 l2 l3 t H2 t0 t1 hd2
        have z := (hdr.trans hd2).ints heH hep (ns ++ [low + t])
        rw [List.map_append] at z
        exact ⟨ns ++ [low + t], _, _, by rw [List.length_append, hl]; rfl, hE.snoc (by omega) (by omega) (fun k hk => Int.le_trans (l3 k (by omega)) (by omega)), by rw [upd_same, List.map_append]; rfl, z, rfl⟩
      walk_at "ra"
      · have e1 : (0 + (i : Int) - 1).toNat = i - 1 := by omega
        have hb := hE (i - 1) (by omega)
        refine use_take hdr.pool (by omega) (small_of (by omega)) fun t H2 t0 t1 hd2 => ?_
        walk_at "ra"
        refine w_app (hd2.grow _ _ hep hat) (by rw [List.length_map, hl, sizeLine_eq]; omega) ?_
        refine step _ (by omega) ?_ ?_ t H2 t0 t1 hd2
        · rw [e1]; omega
        · intro k hk
          rw [e1, show k = i - 1 by omega]; omega
      · refine use_take hdr.pool (by omega) (small_of (by omega)) fun t H2 t0 t1 hd2 => ?_
        walk_at "ra"
        refine w_app (hd2.grow _ _ hep hat) (by rw [List.length_map, hl, sizeLine_eq]; omega) ?_
        exact step _ (by omega) (by omega) (fun k hk => by omega) t H2 t0 t1 hd2
    · rintro σ H' ⟨ns, v1, v2, hl, hE, hat, hdr, rfl⟩
      walk_at "ra"
      exact hQ e ns H' heH ⟨by omega, hE⟩ hat hdr

end
end My
namespace My
open PySem PySem.Spec PyProof.Rows L2 Rd
section
variable {P : Program} {w : World} {K : PySem.W.Frag} {mg : Str → Option Value} {base : Heap}
open BandM
def spNear : Sp := fun vs H Q _ => ∃ (e : Addr) (ns : List Int) (i k : Int), vs = [.ref e, .int i, .int k] ∧ H e = some (.lst (ns.map V.int)) ∧ 0 ≤ i ∧ i < ns.length ∧ 0 ≤ k ∧ k < ns.length ∧ Q (.bl (decide (nearB ns i k))) H
theorem sc__law_near : FnScope ["_law_ends_here", "_law_i", "_law_k"] ["_law_ends_here", "_law_i", "_law_k"] (defScope (top 21)) := ⟨rfl, rfl, rfl, by decide +kernel, rfl, by decide +kernel, by decide +kernel⟩
theorem g__law_near (T : Tx fa fn xa fs P K mg) : FnG P w K mg base CX0 1 "_law_near" ["_law_ends_here", "_law_i", "_law_k"] spNear := by
  obtain ⟨fd, F⟩ := T.says.def_ 5 (d := d__law_near) rfl
  have sc := sc__law_near
  refine ⟨_, fd, T.glo 16, F.kp, F.ok sc (fun vs H Q E h => ?len) (fun cdv A outer s H vs Q E hr h => ⟨_, PSs.nox (pss_one (ps_ret (pe_cmpR oLe (pe_callB (cMax2 rfl) (by rfl) (T.free 13) (by decide +kernel) (pa_cons (pv 1) (pa_cons (pv 2) pa_nil))) (pe_ix ix_seq (pv 0) (pe_callB (cMin2 rfl) (by rfl) (T.free 14) (by decide +kernel) (pa_cons (pv 1) (pa_cons (pv 2) pa_nil))) (fun _ _ => rfl)) (nomark _)))), ?rd⟩), F.bindsN fun _ _ _ _ _ _ us hl => match us, hl with | [_, _, _], _ => rfl⟩
  case len =>
    obtain ⟨e, ns, i, k, rfl, _⟩ := h
    rfl
  case rd =>
    obtain ⟨e, ns, i, k, rfl, he, i0, i1, k0, k1, hQ⟩ := h
    show tRet _ ⟨_, _, _, _⟩ [some (.ref e), some (.int i), some (.int k)] H
    try dsimp only [cxOf]
    walk_at "ra"
    exact hQ

end
end My
namespace My
open PySem PySem.Spec PyProof.Rows L2 Rd
section
variable {P : Program} {w : World} {K : PySem.W.Frag} {mg : Str → Option Value} {base : Heap}
theorem x_TooMany (T : Tx fa fn xa fs P K mg) : ExcG P w K mg base 1 "TooMany" ["self", "what", "most"] (spX2 (He.ga K "TooMany") "what" "most") := by
  obtain ⟨fd, F⟩ := T.all.sdef 0 (d := s_TooMany) rfl
  exact exc_two T (T.free 19) (T.glo 20) (T.exc 0) F (T.noat 17) (T.noat 18) rfl rfl rfl
    (cls_scope ⟨rfl, rfl, rfl, by decide +kernel, rfl, by decide +kernel, by decide +kernel⟩ (by decide +kernel) (fun _ => rfl) rfl (by decide +kernel) (fun x h => h))
    (by decide +kernel) rfl (by decide +kernel) (by decide +kernel) (by decide +kernel) (fun _ _ _ _ => ⟨_, rfl⟩) (fun _ _ _ _ => rfl) (fun _ _ _ _ => rfl) (fun _ _ _ _ => rfl)
    (fun _ _ _ _ _ _ _ us hu => match us, hu with | [_, _, _], _ => rfl)

end
end My
namespace My
open PySem PySem.Spec PyProof.Rows L2 Rd
section
variable {P : Program} {w : World} {K : PySem.W.Frag} {mg : Str → Option Value} {base : Heap}
def spCheck (K : PySem.W.Frag) : Sp := fun vs H Q E => ∃ m : Int, vs = [.int m] ∧ (m ≤ 60 → Q .non H) ∧ (60 < m → ∀ d, H d = none → E (.ref (He.ga K "TooMany")) (some d) (upd H d (.xd [("most", .int 60), ("what", .str "things")])))
theorem sc_check_size : FnScope ["many"] ["many"] (defScope (top 14)) := ⟨rfl, rfl, rfl, by decide +kernel, rfl, by decide +kernel, by decide +kernel⟩
theorem g_check_size (T : Tx fa fn xa fs P K mg) : FnG P w K mg base (CX P w) 3 "check_size" ["many"] (spCheck K) := by
  obtain ⟨fd, F⟩ := T.says.def_ 6 (d := d_check_size) rfl
  have sc := sc_check_size
  refine ⟨_, fd, T.glo 22, F.kp, F.ok sc (fun vs H Q E h => ?len) (fun cdv A outer s H vs Q E hr h => ⟨_, (pss_one (ps_if (pt_cmpR oGt (pv 0) (pe_gint (T.int 21) rfl) (nomark _)) (pss_one (ps_raise rfl (takes_of rfl rfl rfl rfl) (pmk_g (x_TooMany T) (hr.mono (by decide)) rfl (pa_cons pe_str (pa_cons (pe_gint (T.int 21) rfl) pa_nil))))) pss_nil)), ?rd⟩), F.bindsN fun _ _ _ _ _ _ us hl => match us, hl with | [_], _ => rfl⟩
  case len =>
    obtain ⟨m, rfl, _⟩ := h
    rfl
  case rd =>
    obtain ⟨m, rfl, h1, h2⟩ := h
    show tIfS _ _ _ ⟨_, _, _, _⟩ [some (.int m)] H
    try dsimp only [cxOf]
    walk_at "ra"
    · refine use_raise2 fun d hd => ?_
      exact h2 (by omega) d hd
    · exact h1 (by omega)

end
end My
namespace My
open PySem PySem.Spec PyProof.Rows L2 Rd
section
variable {P : Program} {w : World} {K : PySem.W.Frag} {mg : Str → Option Value} {base : Heap}
theorem x_BadEnd (T : Tx fa fn xa fs P K mg) : ExcG P w K mg base 1 "BadEnd" ["self", "index"] (spX1 (He.ga K "BadEnd") "index") := by
  obtain ⟨fd, F⟩ := T.all.sdef 1 (d := s_BadEnd) rfl
  exact exc_one T (T.free 19) (T.glo 24) (T.exc 1) F (T.noat 23) rfl rfl rfl
    (cls_scope ⟨rfl, rfl, rfl, by decide +kernel, rfl, by decide +kernel, by decide +kernel⟩ (by decide +kernel) (fun _ => rfl) rfl (by decide +kernel) (fun x h => h))
    (by decide +kernel) rfl ⟨by decide, by decide⟩ ⟨by decide +kernel, by decide +kernel⟩ ⟨by decide +kernel, by decide +kernel⟩ (fun _ _ _ _ => ⟨_, rfl⟩) (fun _ _ _ _ => rfl) (fun _ _ _ _ => rfl)
    (fun _ _ _ _ _ _ _ us hu => match us, hu with | [_, _], _ => rfl)

end
end My
namespace My
open PySem PySem.Spec PyProof.Rows L2 Rd
section
variable {P : Program} {w : World} {K : PySem.W.Frag} {mg : Str → Option Value} {base : Heap}
open BandM
/-- a band stands at a, its ends at t -/
def bandF (t : Addr) : List (Str × V) := putF "ends" (.ref t) []
def BandAt (K : PySem.W.Frag) (H : Hp) (a : Addr) (ns : List Int) : Prop := ∃ dx t, H a = some (.ins (He.ga K "Band") dx (bandF t)) ∧ H t = some (.tup (ns.map V.int))
theorem BandAt.keep {H H' : Hp} {a : Addr} {ns : List Int} (h : BandAt K H a ns) (k : Same H H') : BandAt K H' a ns := let ⟨dx, t, e, f⟩ := h; ⟨dx, t, k _ _ e, k _ _ f⟩
/-- Band(ends), into the new instance x -/
def spBand (K : PySem.W.Frag) : Sp := fun vs H Q E => ∃ (x dx a : Addr) (ns : List Int), vs = [.ref x, .ref a] ∧ H x = some (.ins (He.ga K "Band") dx []) ∧ (H a = some (.lst (ns.map V.int)) ∨ H a = some (.tup (ns.map V.int))) ∧
  (ns.length ≤ 60 → FitEnds ns.length ns → ∀ t H', Same H H' → H' t = some (.tup (ns.map V.int)) → Q .non (upd H' x (.ins (He.ga K "Band") dx (bandF t)))) ∧
  (60 < ns.length → ∀ d, H d = none → E (.ref (He.ga K "TooMany")) (some d) (upd H d (.xd [("most", .int 60), ("what", .str "things")]))) ∧
  (ns.length ≤ 60 → ∀ i, BadAt ns i → ∀ d H', Same H H' → H' d = none → E (.ref (He.ga K "BadEnd")) (some d) (upd H' d (.xd [("index", .int i)])))
theorem sc_Band___init__ : FnScope ["self", "ends", "least", "thing", "end"] ["self", "ends"] (defScope (inClass (top 15) 0)) := ⟨rfl, rfl, rfl, by decide +kernel, rfl, by decide +kernel, by decide +kernel⟩
theorem f_Band___init__ (T : Tx fa fn xa fs P K mg) : ∃ fd, FunD K "__init__" "Band.__init__" (defArgs (inClass (top 15) 0)) (defBody (inClass (top 15) 0)) (defScope (inClass (top 15) 0)) (He.DefD.dvs K d_Band___init__) (He.DefD.kws K d_Band___init__) (He.ma K (He.ga K "Band") "__init__") fd ∧ FnOk P w K mg base (CX P w) 4 (He.ma K (He.ga K "Band") "__init__") fd ["self", "ends"] (spBand K) := by
  obtain ⟨fd, F⟩ := T.says.def_ 7 (d := d_Band___init__) rfl
  have sc := sc_Band___init__
  refine ⟨fd, F, F.ok sc (fun vs H Q E h => ?len) (fun cdv A outer s H vs Q E hr h => ⟨_, (pss_cons (ps_expr (pe_cgE (g_check_size T) (hr.mono (by decide)) rfl (passes_call (takes_of rfl rfl rfl rfl) (fun _ _ _ _ z => z)) (pa_cons (pe_callB cLen (by rfl) (T.free 6) (by decide +kernel) (pa_cons (pv 1) pa_nil)) pa_nil)))
    (pss_cons (ps_set (i := 2) sc.nd rfl (by first | exact Or.inl rfl | exact Or.inr rfl) pe_int)
    (pss_cons (ps_for (passes_of rfl) rfl (pi_enumA (by rfl) (T.free 27) (pa_cons (pv 1) pa_nil)) (pg_tup (n := 2) rfl (pgs_cons (pg_name (i := 3) sc.nd rfl (by first | exact Or.inl rfl | exact Or.inr rfl)) (pgs_cons (pg_name (i := 4) sc.nd rfl (by first | exact Or.inl rfl | exact Or.inr rfl)) pgs_nil))) (pss_cons (ps_if (PW.pt (pw_or (pt_cmpR oLt (pv 4) (pv 3) (nomark _)) (pw_or (pt_cmpR oGt (pv 4) (pe_op oSub (pe_callB cLen (by rfl) (T.free 6) (by decide +kernel) (pa_cons (pv 1) pa_nil)) pe_int) (nomark _)) (pw_or1 (pt_cmpR oLt (pv 4) (pv 2) (nomark _)))))) (pss_one (ps_raise rfl (takes_of rfl rfl rfl rfl) (pmk_g (x_BadEnd T) (hr.mono (by decide)) rfl (pa_cons (pv 3) pa_nil)))) pss_nil)
    (pss_one (ps_set (i := 2) sc.nd rfl (by first | exact Or.inl rfl | exact Or.inr rfl) (pv 4)))))
    (pss_one (ps_fld (pv 0) (pe_callTy cTuple (by rfl) (T.free 9) (by decide +kernel) (pa_cons (pv 1) pa_nil)) rfl))))), ?rd⟩)⟩
  case len =>
    obtain ⟨x, dx, a, ns, rfl, _⟩ := h
    rfl
  case rd =>
    obtain ⟨x, dx, a, ns, rfl, hx, ha, hq, hm, he⟩ := h
    have hcl : Cls K (He.ga K "Band") := T.cls 25
    have hn1 : NoAttr K (He.ga K "Band") "ends" := T.noat 26
    show tSeq _ _ ⟨_, _, _, _⟩ [some (.ref x), some (.ref a), none, none, none] H
    try dsimp only [cxOf]
    have stay : ∀ {H2 : Hp} {T : Addr} {o : HO}, Same H H2 → H2 T = none → Same H (upd H2 T o) := fun s hT => s.trans (same_new hT)
    have least : ∀ {i : Nat} {ls : Int}, i < ns.length → (i = 0 → ls = 0) → (∀ k : Nat, k + 1 = i → ls = ns.getD k 0) → ((ns.getD i 0 < (i : Int) ∨ ns.getD i 0 > (ns.length : Int) - 1 ∨ ns.getD i 0 < ls) ↔ ¬ OkAt ns i) := by
      intro i ls hi l0 l1
      constructor
      · rintro (z | z | z) ⟨o1, o2, o3⟩
        · omega
        · omega
        · rcases Nat.eq_zero_or_pos i with e | e
          · have := l0 e; omega
          · have := l1 (i - 1) (by omega); have := o3 (i - 1) (by omega); omega
      · intro z
        by_cases c1 : ns.getD i 0 < (i : Int)
        · exact .inl c1
        by_cases c2 : ns.getD i 0 > (ns.length : Int) - 1
        · exact .inr (.inl c2)
        by_cases c3 : ns.getD i 0 < ls
        · exact .inr (.inr c3)
        refine absurd ⟨by omega, by omega, fun k hk => ?_⟩ z
        have := l1 k hk
        omega
    rcases ha with ha | ha
    all_goals
      walk_at "ra"
      refine ⟨_, rfl, fun h60 => ?_, fun h60 d hd => hm (by omega) d hd⟩
      walk_at "ra"
      have start : Same H H ∧ (∀ j, j < 0 → OkAt ns j) ∧ ∃ (ls : Int) (v1 v2 : Option V), (0 = 0 → ls = 0) ∧ (∀ k : Nat, k + 1 = 0 → ls = ns.getD k 0) ∧ [some (V.ref x), some (.ref a), some (.int 0), none, none] = [some (.ref x), some (.ref a), some (.int ls), v1, v2] := ⟨Same.refl H, fun j hj => absurd hj (Nat.not_lt_zero j), 0, _, _, fun _ => rfl, fun k hk => absurd hk (Nat.succ_ne_zero k), rfl⟩
      first | refine .inl ⟨_, SqL.of ha, ?_⟩ | refine .inr ⟨_, SqT.of ha, ?_⟩
      first | refine for_it (walk_enum (xs := ns.map V.int)) (fun i σ H' => Same H H' ∧ (∀ j, j < i → OkAt ns j) ∧ ∃ (ls : Int) (v1 v2 : Option V), (i = 0 → ls = 0) ∧ (∀ k : Nat, k + 1 = i → ls = ns.getD k 0) ∧ σ = [some (.ref x), some (.ref a), some (.int ls), v1, v2]) start ?_ ?_ ?_ | refine for_it (walk_enumT (xs := ns.map V.int)) (fun i σ H' => Same H H' ∧ (∀ j, j < i → OkAt ns j) ∧ ∃ (ls : Int) (v1 v2 : Option V), (i = 0 → ls = 0) ∧ (∀ k : Nat, k + 1 = i → ls = ns.getD k 0) ∧ σ = [some (.ref x), some (.ref a), some (.int ls), v1, v2]) start ?_ ?_ ?_
      · rintro i σ H' _ ⟨hs, _⟩
        first | exact SqL.of (hs _ _ ha) | exact SqT.of (hs _ _ ha)
      · rintro i v σ H1 H2 hi ⟨hs, hok, ls, v1, v2, l0, l1, rfl⟩ ⟨T, u, e, rfl, hT, rfl, eu, ee⟩
        cases eu
        rw [List.length_map] at hi
        obtain rfl : e = .int (ns.getD i 0) := by
          have ee : (ns.map V.int)[i]? = some e := ee
          rw [List.getElem?_map, List.getElem?_eq_getElem hi] at ee
          rw [List.getD_eq_getElem?_getD, List.getElem?_eq_getElem hi]
          exact (Option.some.inj ee).symm
        have hs2 := stay (o := .tup [.int (i : Nat), .int (ns.getD i 0)]) hs hT
        have bad := least hi l0 l1
        have ha2 := hs2 _ _ ha
        refine w_gt2 (SqT.of upd_same) ?_
        walk_at "ra"
        all_goals first
          | (refine use_raise1 fun d hd => ?_
             exact he (by omega) i ⟨hi, hok, bad.mp (by omega)⟩ d _ hs2 hd)
          | (have okk : OkAt ns i := Classical.byContradiction fun z => by
               have := bad.mpr z
               omega
             exact ⟨hs2, fun j hj => (Nat.lt_succ_iff_lt_or_eq.mp hj).elim (hok j) (fun z => z ▸ okk), _, _, _, fun z => by omega, fun k hk => by rw [show k = i by omega], rfl⟩)
      · rintro σ H' ⟨hs, hok, ls, v1, v2, l0, l1, rfl⟩
        rw [List.length_map] at hok
        have hx2 := hs _ _ hx
        have n60 : ns.length ≤ 60 := by omega
        walk_at "ra"
        first
          | (refine w_tupL (SqL.of (hs _ _ ha)) fun t ht => ?_
             have hx3 := same_new (o := .tup (ns.map V.int)) ht _ _ hx2
             walk_at "ra"
             exact hq n60 (ends_ok hok) t _ (stay hs ht) upd_same)
          | (refine w_tupT (SqT.of (hs _ _ ha)) ?_
             walk_at "ra"
             exact hq n60 (ends_ok hok) a _ hs (hs _ _ ha))

end
end My
namespace My
open PySem PySem.Spec PyProof.Rows L2 Rd
section
variable {P : Program} {w : World} {K : PySem.W.Frag} {mg : Str → Option Value} {base : Heap}
open BandM
theorem made_same {H H' : Hp} {x dx : Addr} {o1 o2 o3 : HO} (hx : H x = none) (hd : H dx = none) (s : Same (upd (upd H dx o1) x o2) H') : Same H (upd H' x o3) := fun b o hb => by
  have h1 : b ≠ x := ne_of_none hb hx
  have h2 : b ≠ dx := ne_of_none hb hd
  rw [upd_ne h1]
  exact s b o (by rw [upd_ne h1, upd_ne h2]; exact hb)
theorem made_same0 {H : Hp} {x dx : Addr} {o1 o2 : HO} (hx : H x = none) (hd : H dx = none) : Same H (upd (upd H dx o1) x o2) := fun b o hb => by
  rw [upd_ne (ne_of_none hb hx), upd_ne (ne_of_none hb hd)]; exact hb
theorem use_band {H : Hp} {a : Addr} {ns : List Int} {Q : VK} {E : XK} (ha : H a = some (.lst (ns.map V.int)) ∨ H a = some (.tup (ns.map V.int))) (h60 : ns.length ≤ 60) (hf : FitEnds ns.length ns) (h : ∀ x H', H x = none → Same H H' → BandAt K H' x ns → Q (.ref x) H') : kMake (He.ga K "Band") (spBand K) [] E Q [.ref a] H := by
  refine w_kmake fun x dx hx hdx hne => ⟨x, dx, a, ns, rfl, upd_same, ?_, fun _ _ t H' hs ht => ⟨rfl, h x _ hx (made_same hx hdx hs) ⟨dx, t, upd_same, ?_⟩⟩, fun z => absurd z (by omega), fun _ i bad => absurd (hf.ok bad.lt) bad.bad⟩
  · rcases ha with ha | ha
    · left
      rw [upd_ne (ne_of_none ha hx), upd_ne (ne_of_none ha hdx)]; exact ha
    · right
      rw [upd_ne (ne_of_none ha hx), upd_ne (ne_of_none ha hdx)]; exact ha
  · have e := hs x _ upd_same
    rw [upd_ne fun z => by rw [z, e] at ht; cases ht]
    exact ht
theorem BandAt.drawn {H H' : Hp} {p a : Addr} {ns : List Int} (h : BandAt K H a ns) (hd : Drawn p H H') : BandAt K H' a ns := let ⟨dx, t, h1, h2⟩ := h; ⟨dx, t, hd.ins h1, hd.tup h2⟩

end
end My
namespace My
open PySem PySem.Spec PyProof.Rows L2 Rd
section
variable {P : Program} {w : World} {K : PySem.W.Frag} {mg : Str → Option Value} {base : Heap}
theorem mk_Band (T : Tx fa fn xa fs P K mg) : MkG P w K mg base (CX P w) 4 "Band" ["self", "ends"] [] (spBand K) := by
  obtain ⟨fd, F, ok⟩ := f_Band___init__ (w := w) (base := base) T
  have hb := F.bindsN (ps := ["self", "ends"]) fun _ _ _ _ _ _ us hl => match us, hl with | [_, _], _ => rfl
  exact ⟨_, fd, [], T.glo 28, T.mkr 29, ok, hb, .nil⟩

end
end My
namespace My
open PySem PySem.Spec PyProof.Rows L2 Rd
section
variable {P : Program} {w : World} {K : PySem.W.Frag} {mg : Str → Option Value} {base : Heap}
def spLenB (K : PySem.W.Frag) : Sp := fun vs H Q _ => ∃ (a : Addr) (ns : List Int), vs = [.ref a] ∧ BandAt K H a ns ∧ Q (.int ns.length) H
theorem sc_Band___len__ : FnScope ["self"] ["self"] (defScope (inClass (top 15) 1)) := ⟨rfl, rfl, rfl, by decide +kernel, rfl, by decide +kernel, by decide +kernel⟩
theorem g_Band___len__ (T : Tx fa fn xa fs P K mg) : MtG P w K mg base CX0 1 (He.ga K "Band") "__len__" ["self"] (spLenB K) := by
  obtain ⟨fd, F⟩ := T.says.def_ 8 (d := d_Band___len__) rfl
  have sc := sc_Band___len__
  refine ⟨⟨_, fd, T.meth 30, F.ok sc (fun vs H Q E h => ?len) (fun cdv A outer s H vs Q E hr h => ⟨_, PSs.nox (pss_one (ps_ret (pe_callB cLen (by rfl) (T.free 6) (by decide +kernel) (pa_cons (pe_fld (pv 0) rfl) pa_nil)))), ?rd⟩), F.bindsN fun _ _ _ _ _ _ us hl => match us, hl with | [_], _ => rfl⟩, T.cls 25⟩
  case len =>
    obtain ⟨a, ns, rfl, _⟩ := h
    rfl
  case rd =>
    obtain ⟨a, ns, rfl, ⟨dx, t, ha, ht⟩, hQ⟩ := h
    have hcl : Cls K (He.ga K "Band") := T.cls 25
    have hn1 : NoAttr K (He.ga K "Band") "ends" := T.noat 26
    show tRet _ ⟨_, _, _, _⟩ [some (.ref a)] H
    try dsimp only [cxOf]
    walk_at "ra"
    exact hQ

end
end My
namespace My
open PySem PySem.Spec PyProof.Rows L2 Rd
section
variable {P : Program} {w : World} {K : PySem.W.Frag} {mg : Str → Option Value} {base : Heap}
theorem x_BadNumber (T : Tx fa fn xa fs P K mg) : ExcG P w K mg base 1 "BadNumber" ["self", "number"] (spX1 (He.ga K "BadNumber") "number") := by
  obtain ⟨fd, F⟩ := T.all.sdef 2 (d := s_BadNumber) rfl
  exact exc_one T (T.free 19) (T.glo 32) (T.exc 2) F (T.noat 31) rfl rfl rfl
    (cls_scope ⟨rfl, rfl, rfl, by decide +kernel, rfl, by decide +kernel, by decide +kernel⟩ (by decide +kernel) (fun _ => rfl) rfl (by decide +kernel) (fun x h => h))
    (by decide +kernel) rfl ⟨by decide, by decide⟩ ⟨by decide +kernel, by decide +kernel⟩ ⟨by decide +kernel, by decide +kernel⟩ (fun _ _ _ _ => ⟨_, rfl⟩) (fun _ _ _ _ => rfl) (fun _ _ _ _ => rfl)
    (fun _ _ _ _ _ _ _ us hu => match us, hu with | [_, _], _ => rfl)

end
end My
namespace My
open PySem PySem.Spec PyProof.Rows L2 Rd
section
variable {P : Program} {w : World} {K : PySem.W.Frag} {mg : Str → Option Value} {base : Heap}
open BandM
def spAdd (K : PySem.W.Frag) : Sp := fun vs H Q E => ∃ (a b : Addr) (ns ms : List Int), vs = [.ref a, .ref b] ∧ BandAt K H a ns ∧ BandAt K H b ms ∧ EndsTo ns.length ns ∧ EndsTo ms.length ms ∧ ns.length ≤ 60 ∧ ms.length ≤ 60 ∧
  (ns.length + ms.length ≤ 60 → ∀ x H', H x = none → Same H H' → BandAt K H' x (joinOf ns ms) → Q (.ref x) H') ∧
  (60 < ns.length + ms.length → ∀ d, H d = none → E (.ref (He.ga K "TooMany")) (some d) (upd H d (.xd [("most", .int 60), ("what", .str "things")])))

theorem sc_Band___add__ : FnScope ["self", "other", "many", "end"] ["self", "other"] (defScope (inClass (top 15) 2)) := ⟨rfl, rfl, rfl, by decide +kernel, rfl, by decide +kernel, by decide +kernel⟩
theorem g_Band___add__ (T : Tx fa fn xa fs P K mg) : MtG P w K mg base (CX P w) 6 (He.ga K "Band") "__add__" ["self", "other"] (spAdd K) := by
  obtain ⟨fd, F⟩ := T.says.def_ 9 (d := d_Band___add__) rfl
  have sc := sc_Band___add__
  refine ⟨⟨_, fd, T.meth 33, F.ok sc (fun vs H Q E h => ?len) (fun cdv A outer s H vs Q E hr h => ⟨_, (pss_cons (ps_set (i := 2) sc.nd rfl (by first | exact Or.inl rfl | exact Or.inr rfl) (pe_callB cLen (by rfl) (T.free 6) (by decide +kernel) (pa_cons (pe_fld (pv 0) rfl) pa_nil)))
    (pss_cons (ps_expr (pe_cgE (g_check_size T) (hr.mono (by decide)) rfl (passes_call (takes_of rfl rfl rfl rfl) (fun _ _ _ _ z => z)) (pa_cons (pe_op oAdd (pv 2) (pe_callB cLen (by rfl) (T.free 6) (by decide +kernel) (pa_cons (pe_fld (pv 1) rfl) pa_nil))) pa_nil)))
    (pss_one (ps_ret (pe_mkE (mk_Band T) (hr.mono (by decide)) rfl (passes_call (takes_of rfl rfl rfl rfl) (fun _ _ _ _ z => z)) (pa_cons (pe_op oAdd (pe_callTy cList (by rfl) (T.free 4) (by decide +kernel) (pa_cons (pe_fld (pv 0) rfl) pa_nil)) (pe_lc (own := [("end", 3)]) rfl sc.nd (pi_tup (pe_fld (pv 1) rfl)) (blkOk_by (N := ["self", "other", "many", "end"]) (sc := defScope (inClass (top 15) 2)) (by decide +kernel)) (fun _ _ _ _ _ => (pg_name (i := 3) sc.nd rfl (by first | exact Or.inl rfl | exact Or.inr rfl))) (fun _ _ _ _ _ => pts_nil) (fun _ _ _ _ _ => (pe_op oAdd (pv 2) (pv 3))))) pa_nil)))))), ?rd⟩), F.bindsN fun _ _ _ _ _ _ us hl => match us, hl with | [_, _], _ => rfl⟩, T.cls 25⟩
  case len =>
    obtain ⟨a, b, ns, ms, rfl, _⟩ := h
    rfl
  case rd =>
    obtain ⟨a, b, ns, ms, rfl, ha, hb, f1, f2, n60, m60, hY, hM⟩ := h
    show tSeq _ _ ⟨_, _, _, _⟩ [some (.ref a), some (.ref b), none, none] H
    try dsimp only [cxOf]
    have hcl_Band : Cls K (He.ga K "Band") := T.cls 25
    have hn_Band_ends : NoAttr K (He.ga K "Band") "ends" := T.noat 26
    obtain ⟨dx, t, ha1, ht⟩ := id ha
    obtain ⟨dy, u, hb1, hu⟩ := id hb
    walk_at "rw"
    refine ⟨_, rfl, fun h60 => ?_, fun h60 d hd => hM (by omega) d hd⟩
    walk_at "rw"
    rename_i l H1 hl s1 hl1
    have hu1 := s1 _ _ hu
    refine lc_T (xs := ms.map V.int) (goes_same H1) hu1 (fun H' z => z _ _ hu1) (fun i acc => acc = ((ms.take i).map fun e => (ns.length : Int) + e).map V.int) (by rw [List.take_zero]; rfl) ?_ ?_
    · rintro D i x acc H2 hD hx rfl s2 hat
      have hi : i < ms.length := by
        have := (List.getElem?_eq_some_iff.mp hx).1
        rw [List.length_map] at this; exact this
      cases int_is hi hx
      have hii : ms[i]? = some (ms.getD i 0) := by rw [List.getD_eq_getElem?_getD, List.getElem?_eq_getElem hi]; rfl
      refine ⟨rfl, w_yes ?_⟩
      walk_at "rw"
      refine elt_done (goes_same H1) hD hat (by rw [List.length_map, List.length_map, List.length_take]; omega) s2 ?_
      rw [take_snoc hii, List.map_append, List.map_append]; rfl
    · rintro q acc H2 hq s2 hat rfl
      rw [List.length_map, List.take_length] at hat
      refine w_op2 (n_addL (s2 _ _ hl1) hat (by rw [List.length_map, List.length_map, List.length_map, sizeLine_eq]; omega) fun ls H3 hls s3 hls3 => ?_)
      rw [← List.map_append] at hls3
      have hls3 : H3 ls = some (.lst ((joinOf ns ms).map V.int)) := hls3
      walk_at "rw"
      refine use_band (.inl hls3) (by rw [join_len]; omega) ⟨rfl, join_fit f1 f2⟩ fun x H4 hx s4 hb4 => ?_
      exact hY (by omega) x H4 (((s1.trans s2).trans s3).free hx) (((s1.trans s2).trans s3).trans s4) hb4

end
end My
namespace My
open PySem PySem.Spec PyProof.Rows L2 Rd
section
variable {P : Program} {w : World} {K : PySem.W.Frag} {mg : Str → Option Value} {base : Heap}
open BandM
def spPart (K : PySem.W.Frag) : Sp := fun vs H Q E => ∃ (a : Addr) (ns : List Int) (lo hi : Int), vs = [.ref a, .int lo, .int hi] ∧ BandAt K H a ns ∧ EndsTo ns.length ns ∧ ns.length ≤ 60 ∧
  (0 ≤ lo → lo ≤ hi → hi ≤ ns.length → ∀ x H', H x = none → Same H H' → BandAt K H' x (partOf ns lo.toNat hi.toNat) → Q (.ref x) H') ∧
  (¬ (0 ≤ lo ∧ lo ≤ ns.length) → ∀ d, H d = none → E (.ref (He.ga K "BadNumber")) (some d) (upd H d (.xd [("number", .int lo)]))) ∧
  (0 ≤ lo ∧ lo ≤ ns.length → ¬ (lo ≤ hi ∧ hi ≤ ns.length) → ∀ d, H d = none → E (.ref (He.ga K "BadNumber")) (some d) (upd H d (.xd [("number", .int hi)])))

theorem sc_Band_part : FnScope ["self", "low", "high", "end"] ["self", "low", "high"] (defScope (inClass (top 15) 5)) := ⟨rfl, rfl, rfl, by decide +kernel, rfl, by decide +kernel, by decide +kernel⟩
theorem g_Band_part (T : Tx fa fn xa fs P K mg) : MtG P w K mg base (CX P w) 6 (He.ga K "Band") "part" ["self", "low", "high"] (spPart K) := by
  obtain ⟨fd, F⟩ := T.says.def_ 10 (d := d_Band_part) rfl
  have sc := sc_Band_part
  refine ⟨⟨_, fd, T.meth 34, F.ok sc (fun vs H Q E h => ?len) (fun cdv A outer s H vs Q E hr h => ⟨_, (pss_cons (ps_if (pt_not (pt_chain oLe oLe pe_int (pv 1) (pe_callB cLen (by rfl) (T.free 6) (by decide +kernel) (pa_cons (pe_fld (pv 0) rfl) pa_nil)))) (pss_one (ps_raise rfl (takes_of rfl rfl rfl rfl) (pmk_g (x_BadNumber T) (hr.mono (by decide)) rfl (pa_cons (pv 1) pa_nil)))) pss_nil)
    (pss_cons (ps_if (pt_not (pt_chain oLe oLe (pv 1) (pv 2) (pe_callB cLen (by rfl) (T.free 6) (by decide +kernel) (pa_cons (pe_fld (pv 0) rfl) pa_nil)))) (pss_one (ps_raise rfl (takes_of rfl rfl rfl rfl) (pmk_g (x_BadNumber T) (hr.mono (by decide)) rfl (pa_cons (pv 2) pa_nil)))) pss_nil)
    (pss_one (ps_ret (pe_mkE (mk_Band T) (hr.mono (by decide)) rfl (passes_call (takes_of rfl rfl rfl rfl) (fun _ _ _ _ z => z)) (pa_cons (pe_lc (own := [("end", 3)]) rfl sc.nd (pi_tup (pe_slice oSl (pe_fld (pv 0) rfl) (po_some (pv 1)) (po_some (pv 2)))) (blkOk_by (N := ["self", "low", "high", "end"]) (sc := defScope (inClass (top 15) 5)) (by decide +kernel)) (fun _ _ _ _ _ => (pg_name (i := 3) sc.nd rfl (by first | exact Or.inl rfl | exact Or.inr rfl))) (fun _ _ _ _ _ => pts_nil) (fun _ _ _ _ _ => (pe_op oSub (pe_callB (cMin2 rfl) (by rfl) (T.free 14) (by decide +kernel) (pa_cons (pv 3) (pa_cons (pe_op oSub (pv 2) pe_int) pa_nil))) (pv 1)))) pa_nil)))))), ?rd⟩), F.bindsN fun _ _ _ _ _ _ us hl => match us, hl with | [_, _, _], _ => rfl⟩, T.cls 25⟩
  case len =>
    obtain ⟨a, ns, lo, hi, rfl, _⟩ := h
    rfl
  case rd =>
    obtain ⟨a, ns, lo, hi, rfl, ha, hE, n60, hY, h1, h2⟩ := h
    show tSeq _ _ ⟨_, _, _, _⟩ [some (.ref a), some (.int lo), some (.int hi), none] H
    try dsimp only [cxOf]
    have hcl_Band : Cls K (He.ga K "Band") := T.cls 25
    have hn_Band_ends : NoAttr K (He.ga K "Band") "ends" := T.noat 26
    obtain ⟨dx, t, ha1, ht⟩ := id ha
    walk_at "rw"
    · rename_i c1 c2 c3 c4 sl H1 s1 hsl
      rw [cut_mid (by omega) (by omega)] at hsl
      have hsl : H1 sl = some (.tup (((ns.drop lo.toNat).take (hi.toNat - lo.toNat)).map V.int)) := by rw [List.map_take, List.map_drop]; exact hsl
      have sll : ((ns.drop lo.toNat).take (hi.toNat - lo.toNat)).length ≤ 60 := by rw [List.length_take, List.length_drop]; omega
      have eq : partOf ns lo.toNat hi.toNat = ((ns.drop lo.toNat).take (hi.toNat - lo.toNat)).map fun e => min e (hi - 1) - lo := by
        unfold partOf
        rw [show ((hi.toNat : Nat) : Int) = hi by omega, show ((lo.toNat : Nat) : Int) = lo by omega]
      have pl := part_len (es := ns) (lo := lo.toNat) (hi := hi.toNat) (by omega)
      have fit := part_fit (lo := lo.toNat) (hi := hi.toNat) hE (by omega) (by omega)
      rw [eq] at pl fit
      generalize (ns.drop lo.toNat).take (hi.toNat - lo.toNat) = ys at hsl sll eq pl fit
      refine lc_T (xs := ys.map V.int) (goes_same H1) hsl (fun H' z => z _ _ hsl) (fun i acc => acc = ((ys.take i).map fun e => min e (hi - 1) - lo).map V.int) (by rw [List.take_zero]; rfl) ?_ ?_
      · rintro D i x acc H2 hD hx rfl s2 hat
        have hi : i < ys.length := by
          have := (List.getElem?_eq_some_iff.mp hx).1
          rw [List.length_map] at this; exact this
        cases int_is hi hx
        have hii : ys[i]? = some (ys.getD i 0) := by rw [List.getD_eq_getElem?_getD, List.getElem?_eq_getElem hi]; rfl
        refine ⟨rfl, w_yes ?_⟩
        walk_at "rw"
        refine elt_done (goes_same H1) hD hat (by rw [List.length_map, List.length_map, List.length_take]; omega) s2 ?_
        rw [take_snoc hii, List.map_append, List.map_append]; rfl
      · rintro q acc H2 hq s2 hat rfl
        rw [List.length_map, List.take_length] at hat
        walk_at "rw"
        refine use_band (.inl hat) (by rw [List.length_map]; omega) ⟨rfl, fit⟩ fun x H3 hx s3 hb3 => ?_
        exact hY (by omega) (by omega) (by omega) x H3 ((s1.trans s2).free hx) ((s1.trans s2).trans s3) (eq ▸ hb3)
    all_goals
      refine use_raise1 fun d hd => ?_
      first
        | exact h2 ⟨by omega, by omega⟩ (fun z => by omega) d hd
        | exact h1 (fun z => by omega) d hd

end
end My
namespace My
open PySem PySem.Spec PyProof.Rows L2 Rd
section
variable {P : Program} {w : World} {K : PySem.W.Frag} {mg : Str → Option Value} {base : Heap}
open BandM
def spMir (K : PySem.W.Frag) : Sp := fun vs H Q _ => ∃ (a : Addr) (ns : List Int), vs = [.ref a] ∧ BandAt K H a ns ∧ EndsTo ns.length ns ∧ ns.length ≤ 60 ∧ ∀ x H', H x = none → Same H H' → BandAt K H' x (mirrorOf ns) → Q (.ref x) H'

theorem sc_Band_mirrored : FnScope ["self", "many", "ends", "thing", "near", "earlier"] ["self"] (defScope (inClass (top 15) 6)) := ⟨rfl, rfl, rfl, by decide +kernel, rfl, by decide +kernel, by decide +kernel⟩
theorem g_Band_mirrored (T : Tx fa fn xa fs P K mg) : MtG P w K mg base CX0 6 (He.ga K "Band") "mirrored" ["self"] (spMir K) := by
  obtain ⟨fd, F⟩ := T.says.def_ 11 (d := d_Band_mirrored) rfl
  have sc := sc_Band_mirrored
  refine ⟨⟨_, fd, T.meth 36, F.ok sc (fun vs H Q E h => ?len) (fun cdv A outer s H vs Q E hr h => ⟨_, PSs.nox (pss_cons (ps_set (i := 1) sc.nd rfl (by first | exact Or.inl rfl | exact Or.inr rfl) (pe_callB cLen (by rfl) (T.free 6) (by decide +kernel) (pa_cons (pe_fld (pv 0) rfl) pa_nil)))
    (pss_cons (ps_set (i := 2) sc.nd rfl (by first | exact Or.inl rfl | exact Or.inr rfl) (pe_lst pa_nil))
    (pss_cons (ps_for PassesOwn.never rfl (pi_revR (by rfl) (T.free 35) (prg_1 (by rfl) (T.free 8) (pv 1))) (pg_name (i := 3) sc.nd rfl (by first | exact Or.inl rfl | exact Or.inr rfl)) (pss_cons (ps_setLc (i := 4) (own := [("earlier", 5)]) rfl sc.nd rfl (by first | exact rfl | exact Or.inl rfl | exact Or.inr rfl) (sw_true rfl rfl rfl (by decide +kernel)) (pi_range1 (by rfl) (T.free 8) (pa_cons (pe_op oAdd (pv 3) pe_int) pa_nil)) (blkOk_by (N := ["self", "many", "ends", "thing", "near", "earlier"]) (sc := defScope (inClass (top 15) 6)) (by decide +kernel)) (fun _ _ _ _ _ => (pg_name (i := 5) sc.nd rfl (by first | exact Or.inl rfl | exact Or.inr rfl))) (fun _ _ _ _ _ => (pts_one (pt_cmpR oGe (pe_ix (ix_seqK K rfl) (pe_fldK K rfl (pv 0) rfl) (pv 5) (fun _ _ => rfl)) (pv 3) (nomark _)))) (fun _ _ _ _ _ => (pv 5)))
    (pss_one (ps_expr (pe_bm PySem.F.plainAttrs_list PySem.F.slot_list_append PySem.F.type_list_append mt_append (pv 2) (pa_cons (pe_op oSub (pe_op oSub (pv 1) pe_int) (pe_ix ix_seq (pv 4) pe_int (fun _ _ => rfl))) pa_nil))))))
    (pss_one (ps_ret (pe_mkE (mk_Band T) (hr.mono (by decide)) rfl passL (pa_cons (pv 2) pa_nil))))))), ?rd⟩), F.bindsN fun _ _ _ _ _ _ us hl => match us, hl with | [_], _ => rfl⟩, T.cls 25⟩
  case len =>
    obtain ⟨a, ns, rfl, _⟩ := h
    rfl
  case rd =>
    obtain ⟨a, ns, rfl, ha, hE, n60, hY⟩ := h
    show tSeq _ _ ⟨_, _, _, _⟩ [some (.ref a), none, none, none, none, none] H
    try dsimp only [cxOf]
    have hcl_Band : Cls K (He.ga K "Band") := T.cls 25
    have hn_Band_ends : NoAttr K (He.ga K "Band") "ends" := T.noat 26
    obtain ⟨dx, t, ha1, ht⟩ := id ha
    walk_at "rw"
    rename_i l H1 hl s1 hl1
    have ht1 := s1 _ _ ht
    refine for_rev (n := ns.length) (fun i σ H' => Same H H' ∧ H' l = some (.lst (((List.range i).map fun (j : Nat) => (ns.length : Int) - 1 - firstOf ns (ns.length - 1 - j)).map V.int)) ∧ ∃ v1 v2 v3, σ = [some (.ref a), some (.int ns.length), some (.ref l), v1, v2, v3]) (by omega) ⟨s1, hl1, _, _, _, rfl⟩ ?_ ?_
    · rintro i σ H2 hi ⟨s2, hl2, v1, v2, v3, rfl⟩
      have ha2 := s2 _ _ ha1
      have ht2 := s2 _ _ ht
      have tt : ((ns.length - 1 - i : Nat) : Int) = (ns.length : Int) - 1 - i := by omega
      walk_at "rw"
      refine lc_R1 (goes_same H2) (by omega) (by omega) (fun j acc => acc = (((List.range j).filter fun e => decide (((ns.length - 1 - i : Nat) : Int) ≤ ns.getD e 0)).map fun (e : Nat) => (e : Int)).map V.int) rfl ?_ ?_
      · rintro D j acc H3 hD hj rfl s3 hat
        have ha3 := s3 _ _ ha2
        have ht3 := s3 _ _ ht2
        have fl : ((List.range j).filter fun e => decide (((ns.length - 1 - i : Nat) : Int) ≤ ns.getD e 0)).length ≤ 60 := by
          have := List.length_filter_le (fun e => decide (((ns.length - 1 - i : Nat) : Int) ≤ ns.getD e 0)) (List.range j)
          rw [List.length_range] at this
          omega
        refine ⟨rfl, ?_⟩
        walk_at "rw"
        rw [show (0 + (j : Int)).toNat = j by omega, ← tt]
        refine ite2 (fun hc => ?_) (fun hc => ?_)
        · walk_at "rw"
          refine elt_done (goes_same H2) hD hat (by rw [List.length_map, List.length_map]; omega) s3 ?_
          rw [List.range_succ, List.filter_append, List.filter_cons, if_pos hc, List.map_append, List.map_append, show (0 + (j : Int)) = j by omega]; rfl
        · refine elt_not hat s3 ?_
          rw [List.range_succ, List.filter_append, List.filter_cons, if_neg hc]; simp
      · rintro q acc H3 hq s3 hat rfl
        rw [show ((ns.length : Int) - 1 - i + 1).toNat = ns.length - 1 - i + 1 by omega] at hat
        have hat : H3 q = some (.lst (((firsts ns (ns.length - 1 - i)).map fun (e : Nat) => (e : Int)).map V.int)) := hat
        have ne := firsts_ne hE (t := ns.length - 1 - i) (by omega)
        have fl : 0 < ((firsts ns (ns.length - 1 - i)).map fun (e : Nat) => (e : Int)).length := by rw [List.length_map]; exact List.length_pos_iff.mpr ne
        have f0 : ((firsts ns (ns.length - 1 - i)).map fun (e : Nat) => (e : Int)).getD (0 : Int).toNat 0 = firstOf ns (ns.length - 1 - i) := by
          unfold firstOf
          cases e : firsts ns (ns.length - 1 - i) with
          | nil => exact absurd e ne
          | cons x r => rfl
        have hl3 := s3 _ _ hl2
        walk_at "rw"
        rw [f0]
        refine w_app hl3 (by rw [List.length_map, List.length_map, List.length_range, sizeLine_eq]; omega) ?_
        refine ⟨same_put (s2.trans s3) hl, ?_, _, _, _, rfl⟩
        rw [upd_same, List.range_succ, List.map_append, List.map_append]; rfl
    · rintro σ H2 ⟨s2, hl2, v1, v2, v3, rfl⟩
      have hl2 : H2 l = some (.lst ((mirrorOf ns).map V.int)) := hl2
      walk_at "rw"
      refine use_band (.inl hl2) (by rw [mirror_len]; exact n60) ⟨rfl, mirror_fit hE⟩ fun x H3 hx s3 hb3 => ?_
      exact hY x H3 (s2.free hx) (s2.trans s3) hb3

end
end My
namespace My
open PySem PySem.Spec PyProof.Rows L2 Rd
section
variable {P : Program} {w : World} {K : PySem.W.Frag} {mg : Str → Option Value} {base : Heap}
def spMany (K : PySem.W.Frag) : Sp := fun vs H Q E => ∃ m : Int, vs = [.int m] ∧ (0 ≤ m ∧ m ≤ 60 → Q .non H) ∧ (¬ (0 ≤ m ∧ m ≤ 60) → ∀ d, H d = none → E (.ref (He.ga K "BadNumber")) (some d) (upd H d (.xd [("number", .int m)])))
theorem sc_check_many : FnScope ["many"] ["many"] (defScope (top 8)) := ⟨rfl, rfl, rfl, by decide +kernel, rfl, by decide +kernel, by decide +kernel⟩
theorem g_check_many (T : Tx fa fn xa fs P K mg) : FnG P w K mg base (CX P w) 3 "check_many" ["many"] (spMany K) := by
  obtain ⟨fd, F⟩ := T.says.def_ 12 (d := d_check_many) rfl
  have sc := sc_check_many
  refine ⟨_, fd, T.glo 38, F.kp, F.ok sc (fun vs H Q E h => ?len) (fun cdv A outer s H vs Q E hr h => ⟨_, (pss_one (ps_if (pt_not (pt_chain oLe oLe pe_int (pv 0) (pe_gint (T.int 37) rfl))) (pss_one (ps_raise rfl (takes_of rfl rfl rfl rfl) (pmk_g (x_BadNumber T) (hr.mono (by decide)) rfl (pa_cons (pv 0) pa_nil)))) pss_nil)), ?rd⟩), F.bindsN fun _ _ _ _ _ _ us hl => match us, hl with | [_], _ => rfl⟩
  case len =>
    obtain ⟨m, rfl, _⟩ := h
    rfl
  case rd =>
    obtain ⟨m, rfl, h1, h2⟩ := h
    show tIfS _ _ _ ⟨_, _, _, _⟩ [some (.int m)] H
    try dsimp only [cxOf]
    walk_at "ra"
    · exact h1 ⟨by omega, by omega⟩
    · refine use_raise1 fun d hd => ?_
      exact h2 (fun z => by omega) d hd
    · refine use_raise1 fun d hd => ?_
      exact h2 (fun z => by omega) d hd

end
end My
namespace My
open PySem PySem.Spec PyProof.Rows L2 Rd
section
variable {P : Program} {w : World} {K : PySem.W.Frag} {mg : Str → Option Value} {base : Heap}
open BandM
/-- lists of ints in a list -/
structure Rows (H : Hp) (m : Addr) (rs : List Addr) (cs : List (List Int)) : Prop where
  top : H m = some (.lst (rs.map V.ref))
  len : rs.length = cs.length
  nod : rs.Nodup
  off : m ∉ rs
  at_ : ∀ (j : Nat) (r : Addr) (c : List Int), rs[j]? = some r → cs[j]? = some c → H r = some (.lst (c.map V.int))
theorem Rows.keep {H H' : Hp} {m : Addr} {rs : List Addr} {cs : List (List Int)} (h : Rows H m rs cs) (k : Same H H') : Rows H' m rs cs := ⟨k _ _ h.top, h.len, h.nod, h.off, fun j r c hr hc => k _ _ (h.at_ j r c hr hc)⟩
theorem Rows.put {H : Hp} {m : Addr} {rs : List Addr} {cs : List (List Int)} {j : Nat} {r : Addr} {c' : List Int} (h : Rows H m rs cs) (hr : rs[j]? = some r) : Rows (upd H r (.lst (c'.map V.int))) m rs (cs.set j c') := by
  have hj := (List.getElem?_eq_some_iff.mp hr).1
  have mr : m ≠ r := fun e => h.off (e ▸ List.mem_of_getElem? hr)
  refine ⟨by rw [upd_ne mr]; exact h.top, by rw [List.length_set]; exact h.len, h.nod, h.off, fun i q c hq hc => ?_⟩
  by_cases e : i = j
  · subst e
    rw [hr] at hq
    cases hq
    rw [List.getElem?_set_self (by rw [← h.len]; exact hj)] at hc
    cases hc
    exact upd_same
  · rw [List.getElem?_set_ne (Ne.symm e)] at hc
    have ne : q ≠ r := fun z => e ((List.getElem?_inj (List.getElem?_eq_some_iff.mp hq).1 h.nod).mp (hq.trans (z ▸ hr.symm)))
    rw [upd_ne ne]
    exact h.at_ i q c hq hc
def spChains (K : PySem.W.Frag) : Sp := fun vs H Q E => ∃ (a : Addr) (ns : List Int) (m : Int), vs = [.ref a, .int m] ∧ BandAt K H a ns ∧ ns.length ≤ 60 ∧
  (0 ≤ m ∧ m ≤ 60 → ∀ (l : Addr) (rs : List Addr) (H' : Hp), Same H H' → H l = none → (∀ r ∈ rs, H r = none) → Rows H' l rs (chainsTo ns m.toNat ns.length) → Q (.ref l) H') ∧
  (¬ (0 ≤ m ∧ m ≤ 60) → ∀ d, H d = none → E (.ref (He.ga K "BadNumber")) (some d) (upd H d (.xd [("number", .int m)])))

theorem sc_chains : FnScope ["band", "many", "made", "_", "thing", "chain"] ["band", "many"] (defScope (top 9)) := ⟨rfl, rfl, rfl, by decide +kernel, rfl, by decide +kernel, by decide +kernel⟩
theorem g_chains (T : Tx fa fn xa fs P K mg) : FnG P w K mg base (CX P w) 4 "chains" ["band", "many"] (spChains K) := by
  obtain ⟨fd, F⟩ := T.says.def_ 13 (d := d_chains) rfl
  have sc := sc_chains
  refine ⟨_, fd, T.glo 39, F.kp, F.ok sc (fun vs H Q E h => ?len) (fun cdv A outer s H vs Q E hr h => ⟨_, (pss_cons (ps_expr (pe_cgE (g_check_many T) (hr.mono (by decide)) rfl (passes_call (takes_of rfl rfl rfl rfl) (fun _ _ _ _ z => z)) (pa_cons (pv 1) pa_nil)))
    (pss_cons (ps_setLc (i := 2) (own := [("_", 3)]) rfl sc.nd rfl (by first | exact rfl | exact Or.inl rfl | exact Or.inr rfl) (sw_true rfl rfl rfl (by decide +kernel)) (pi_range1 (by rfl) (T.free 8) (pa_cons (pv 1) pa_nil)) (blkOk_by (N := ["band", "many", "made", "_", "thing", "chain"]) (sc := defScope (top 9)) (by decide +kernel)) (fun _ _ _ _ _ => (pg_name (i := 3) sc.nd rfl (by first | exact Or.inl rfl | exact Or.inr rfl))) (fun _ _ _ _ _ => pts_nil) (fun _ _ _ _ _ => (pe_lst pa_nil)))
    (pss_cons (ps_for (passes_of rfl) rfl (pi_range1 (by rfl) (T.free 8) (pa_cons (pe_callB (cLenG (g_Band___len__ T) (hr.mono (by decide))) (by rfl) (T.free 6) (by decide +kernel) (pa_cons (pv 0) pa_nil)) pa_nil)) (pg_name (i := 4) sc.nd rfl (by first | exact Or.inl rfl | exact Or.inr rfl)) (pss_one (ps_for (passes_of rfl) rfl (pi_list (pv 2)) (pg_name (i := 5) sc.nd rfl (by first | exact Or.inl rfl | exact Or.inr rfl)) (pss_one (ps_if (PW.pt (pw_or (pt_cmpR (oEq hr) (pv 5) (pe_lst pa_nil) (nomark _)) (pw_or1 (pt_cmpR oLt (pe_ix ix_seq (pe_fld (pv 0) rfl) (pe_ix ix_seq (pv 5) (pe_un oNeg pe_int) (fun _ _ => rfl)) (fun _ _ => rfl)) (pv 4) (nomark _))))) (pss_cons (ps_expr (pe_bm PySem.F.plainAttrs_list PySem.F.slot_list_append PySem.F.type_list_append mt_append (pv 5) (pa_cons (pv 4) pa_nil)))
    (pss_one ps_break)) pss_nil)))))
    (pss_one (ps_ret (pv 2)))))), ?rd⟩), F.bindsN fun _ _ _ _ _ _ us hl => match us, hl with | [_, _], _ => rfl⟩
  case len =>
    obtain ⟨a, ns, m, rfl, _⟩ := h
    rfl
  case rd =>
    obtain ⟨a, ns, m, rfl, hb, hn, hq, he⟩ := h
    show tSeq _ _ ⟨_, _, _, _⟩ [some (.ref a), some (.int m), none, none, none, none] H
    try dsimp only [cxOf]
    walk_at "ra"
    refine ⟨m, rfl, fun hm => ?_, fun hm d hd => he hm d hd⟩
    walk_at "ra"
    refine ⟨_, rfl, by omega, by omega, fun D hD => ?_⟩
    refine lc_range (n := m.toNat) (fun i H' => ∃ rs : List Addr, rs.length = i ∧ H' D = some (.lst (rs.map V.ref)) ∧ rs.Nodup ∧ D ∉ rs ∧ (∀ r ∈ rs, H r = none ∧ H' r = some (.lst [])) ∧ Same H H') ⟨[], rfl, upd_same, List.nodup_nil, List.not_mem_nil, fun r hr => absurd hr List.not_mem_nil, same_new hD⟩ ?_ ?_
    · rintro i H' hi ⟨rs, hl, hat, hnd, hoff, hrs, hs⟩
      refine ⟨rfl, w_yes ?_⟩
      walk_at "ra"
      refine w_klst (by walk_at "len") fun l hl2 => ?_
      have lD : l ≠ D := fun e => by rw [e, hat] at hl2; cases hl2
      have lrs : l ∉ rs := fun e => by rw [(hrs l e).2] at hl2; cases hl2
      have lH : H l = none := hs.free hl2
      refine ⟨_, by rw [upd_ne (Ne.symm lD)]; exact hat, by rw [List.length_map, hl, sizeLine_eq]; omega, rs ++ [l], by rw [List.length_append, hl]; rfl, by rw [upd_same, List.map_append]; rfl, ?_, ?_, ?_, ?_⟩
      · rw [List.nodup_append]
        exact ⟨hnd, by simp, fun x hx y hy e => lrs (by rw [List.mem_singleton.mp hy] at e; exact e ▸ hx)⟩
      · intro z
        rcases List.mem_append.mp z with z | z
        · exact hoff z
        · exact lD (List.mem_singleton.mp z).symm
      · intro r hr
        rcases List.mem_append.mp hr with z | z
        · have rD : r ≠ D := fun e => hoff (e ▸ z)
          have rl : r ≠ l := fun e => lrs (e ▸ z)
          exact ⟨(hrs r z).1, by rw [upd_ne rD, upd_ne rl]; exact (hrs r z).2⟩
        · rw [List.mem_singleton.mp z]
          exact ⟨lH, by rw [upd_ne lD, upd_same]⟩
      · intro b o hb
        rw [upd_ne (ne_of_none hb hD), upd_ne (ne_of_none hb lH)]; exact hs b o hb
    · rintro H1 ⟨rs, hl, hat, hnd, hoff, hrs, hs⟩
      have R0 : Rows H1 D rs (chainsTo ns m.toNat 0) := ⟨hat, by rw [hl]; exact List.length_replicate.symm, hnd, hoff, fun j r c hr hc => by rw [List.eq_of_mem_replicate (List.mem_of_getElem? hc)]; exact (hrs r (List.mem_of_getElem? hr)).2⟩
      have fresh : ∀ r ∈ rs, H r = none := fun r hr => (hrs r hr).1
      clear hrs hat
      walk_at "ra"
      obtain ⟨dx, t, ha, ht⟩ := id (hb.keep hs)
      refine w_lenG ha ⟨a, ns, rfl, hb.keep hs, _, rfl, ⟨by omega, by omega⟩, ?_⟩
      walk_at "ra"
      refine ⟨_, rfl, by omega, by omega, for_range (n := ns.length) (fun i σ H' => ∃ v1 v2, Same H H' ∧ Rows H' D rs (chainsTo ns m.toNat i) ∧ σ = [some (.ref a), some (.int m), some (.ref D), none, v1, v2]) ⟨_, _, hs, R0, rfl⟩ ?_ ?_⟩
      · rintro i σ H2 hi ⟨v1, v2, hs2, R, rfl⟩
        walk_at "ra"
        refine ⟨D, rfl, ⟨_, SqL.of R.top⟩, for_list (xs := rs.map V.ref) (fun j σ H' => ∃ v2, Same H2 H' ∧ (∀ (j' : Nat) (c : List Int), j' < j → (chainsTo ns m.toNat i)[j']? = some c → ¬ Fits ns c i) ∧ σ = [some (.ref a), some (.int m), some (.ref D), none, some (.int (0 + (i : Int))), v2]) ⟨_, Same.refl _, fun j' c hj => absurd hj (Nat.not_lt_zero j'), rfl⟩ ?_ ?_ ?_⟩
        · rintro j σ H3 _ ⟨_, hs3, _⟩
          exact SqL.of (hs3 _ _ R.top)
        · rintro j x σ H3 hx ⟨v3, hs3, hnf, rfl⟩
          obtain ⟨r, hr, rfl⟩ : ∃ r, rs[j]? = some r ∧ x = .ref r := by
            rw [List.getElem?_map] at hx
            cases e : rs[j]? with
            | none => rw [e] at hx; cases hx
            | some r => rw [e] at hx; exact ⟨r, rfl, (Option.some.inj hx).symm⟩
          obtain ⟨c, hc⟩ : ∃ c, (chainsTo ns m.toNat i)[j]? = some c := ⟨_, List.getElem?_eq_getElem (by rw [← R.len]; exact (List.getElem?_eq_some_iff.mp hr).1)⟩
          have hr3 := hs3 _ _ (R.at_ j r c hr hc)
          have hlt := chains_lt (List.mem_of_getElem? hc)
          walk_at "ra"
          refine w_klst (by walk_at "len") fun em hem => ?_
          refine w_op2 ?_
          have hs4 := hs3.trans (same_new (o := .lst []) hem)
          have r4 := same_new (o := .lst []) hem _ _ hr3
          refine w_eqL (ns := c) (ms := []) r4 upd_same ?_
          obtain ⟨dx4, t4, ha4, ht4⟩ := hb.keep (hs2.trans hs4)
          generalize upd H3 em (.lst []) = H4 at hs4 r4 ha4 ht4 ⊢
          have hcl : Cls K (He.ga K "Band") := T.cls 25
          have hn1 : NoAttr K (He.ga K "Band") "ends" := T.noat 26
          have rH : H r = none := fresh r (List.mem_of_getElem? hr)
          have put : Fits ns c i → ∃ v1 v2, Same H (upd H4 r (.lst (c.map V.int ++ [.int (0 + (i : Int))]))) ∧ Rows (upd H4 r (.lst (c.map V.int ++ [.int (0 + (i : Int))]))) D rs (chainsTo ns m.toNat (i + 1)) ∧ [some (V.ref a), some (.int m), some (.ref D), none, some (.int (0 + (i : Int))), some (.ref r)] = [some (.ref a), some (.int m), some (.ref D), none, v1, v2] := fun hf => by
            refine ⟨_, _, fun b o hbb => ?_, ?_, rfl⟩
            · rw [upd_ne (ne_of_none hbb rH)]; exact (hs2.trans hs4) b o hbb
            · have z := (R.keep hs4).put (c' := c ++ [(i : Int)]) hr
              rw [List.map_append, ← fit_at hc hf hnf] at z
              rw [show (0 + (i : Int)) = i by omega]
              exact z
          have hlc : c.length ≤ 60 := by
            have := chains_len (List.mem_of_getElem? hc)
            omega
          walk_at "ra"
          · refine w_app r4 (by rw [List.length_map, sizeLine_eq]; omega) ?_
            walk_at "ra"
            exact put (.inl (by assumption))
          · refine w_ixLast r4 (by assumption) ?_
            have hm := hlt _ (getLastD_mem (by assumption))
            walk_at "ra"
            · refine w_app r4 (by rw [List.length_map, sizeLine_eq]; omega) ?_
              walk_at "ra"
              exact put (.inr (by omega))
            · refine ⟨_, hs4, fun j' c' hj hc' => ?_, rfl⟩
              rcases Nat.lt_succ_iff_lt_or_eq.mp hj with z | rfl
              · exact hnf j' c' z hc'
              · rw [hc] at hc'
                cases hc'
                rintro (z | z)
                · contradiction
                · omega
        · rintro σ H3 ⟨v3, hs3, hnf, rfl⟩
          refine ⟨_, _, hs2.trans hs3, ?_, rfl⟩
          rw [chainsTo, fit_no fun c hc => ?_]
          · exact R.keep hs3
          · obtain ⟨j, hj, rfl⟩ := List.getElem_of_mem hc
            exact hnf j _ (by rw [List.length_map, R.len]; exact hj) (List.getElem?_eq_getElem hj)
      · rintro σ H2 ⟨v1, v2, hs2, R, rfl⟩
        walk_at "ra"
        exact hq hm D rs H2 hs2 hD fresh R

end
end My
namespace My
open PySem PySem.Spec PyProof.Rows L2 Rd
section
variable {P : Program} {w : World} {K : PySem.W.Frag} {mg : Str → Option Value} {base : Heap}
open BandM
theorem Rows.snoc {H : Hp} {m r : Addr} {rs : List Addr} {cs : List (List Int)} {c : List Int} (h : Rows H m rs cs) (hr : H r = some (.lst (c.map V.int))) (n1 : r ∉ rs) (n2 : r ≠ m) : Rows (upd H m (.lst ((rs ++ [r]).map V.ref))) m (rs ++ [r]) (cs ++ [c]) := by
  refine ⟨upd_same, by rw [List.length_append, List.length_append, h.len]; rfl, ?_, ?_, fun j q d hq hd => ?_⟩
  · rw [List.nodup_append]
    exact ⟨h.nod, by simp, fun x hx y hy e => n1 (by rw [List.mem_singleton.mp hy] at e; exact e ▸ hx)⟩
  · intro z
    rcases List.mem_append.mp z with z | z
    · exact h.off z
    · exact n2 (List.mem_singleton.mp z).symm
  · rcases Nat.lt_or_ge j rs.length with lt | ge
    · rw [List.getElem?_append_left lt] at hq
      rw [List.getElem?_append_left (by rw [← h.len]; exact lt)] at hd
      have ne : q ≠ m := fun z => h.off (z ▸ List.mem_of_getElem? hq)
      rw [upd_ne ne]; exact h.at_ j q d hq hd
    · have hj := (List.getElem?_eq_some_iff.mp hq).1
      rw [List.length_append, List.length_singleton] at hj
      have ej : j = rs.length := by omega
      subst ej
      rw [List.getElem?_append_right (Nat.le_refl _), Nat.sub_self] at hq
      rw [h.len, List.getElem?_append_right (Nat.le_refl _), Nat.sub_self] at hd
      cases hq
      cases hd
      rw [upd_ne n2]; exact hr

end
end My
namespace My
open PySem PySem.Spec PyProof.Rows L2 Rd
section
variable {P : Program} {w : World} {K : PySem.W.Frag} {mg : Str → Option Value} {base : Heap}
open BandM
def spMost (K : PySem.W.Frag) : Sp := fun vs H Q E => ∃ (a : Addr) (ns : List Int) (m : Int), vs = [.ref a, .int m] ∧ BandAt K H a ns ∧ ns.length ≤ 60 ∧
  (0 ≤ m ∧ m ≤ 60 → ∀ H', Same H H' → Q (.int (size (chainsTo ns m.toNat ns.length))) H') ∧
  (¬ (0 ≤ m ∧ m ≤ 60) → ∀ d, H d = none → E (.ref (He.ga K "BadNumber")) (some d) (upd H d (.xd [("number", .int m)])))

theorem sc_most : FnScope ["band", "many", "chain"] ["band", "many"] (defScope (top 10)) := ⟨rfl, rfl, rfl, by decide +kernel, rfl, by decide +kernel, by decide +kernel⟩
theorem g_most (T : Tx fa fn xa fs P K mg) : FnG P w K mg base (CX P w) 5 "most" ["band", "many"] (spMost K) := by
  obtain ⟨fd, F⟩ := T.says.def_ 14 (d := d_most) rfl
  have sc := sc_most
  refine ⟨_, fd, T.glo 41, F.kp, F.ok sc (fun vs H Q E h => ?len) (fun cdv A outer s H vs Q E hr h => ⟨_, (pss_one (ps_ret (pe_callB (cr_sum rfl) (by rfl) (T.free 40) (by decide +kernel) (pa_cons (pe_lc (own := [("chain", 2)]) rfl sc.nd (pi_list (pe_cgE (g_chains T) (hr.mono (by decide)) rfl (passes_call (takes_of rfl rfl rfl rfl) (fun _ _ _ _ z => z)) (pa_cons (pv 0) (pa_cons (pv 1) pa_nil)))) (blkOk_by (N := ["band", "many", "chain"]) (sc := defScope (top 10)) (by decide +kernel)) (fun _ _ _ _ _ => (pg_name (i := 2) sc.nd rfl (by first | exact Or.inl rfl | exact Or.inr rfl))) (fun _ _ _ _ _ => pts_nil) (fun _ _ _ _ _ => (pe_callB (CallR.toK (r := Rd.rLen) (K := K) cLen rfl) (by rfl) (T.free 6) (by decide +kernel) (pa_cons (pv 2) pa_nil)))) pa_nil)))), ?rd⟩), F.bindsN fun _ _ _ _ _ _ us hl => match us, hl with | [_, _], _ => rfl⟩
  case len =>
    obtain ⟨a, ns, m, rfl, _⟩ := h
    rfl
  case rd =>
    obtain ⟨a, ns, m, rfl, hb, hn, hq, he⟩ := h
    show tRet _ ⟨_, _, _, _⟩ [some (.ref a), some (.int m), none] H
    try dsimp only [cxOf]
    walk_at "ra"
    refine ⟨a, ns, m, rfl, hb, hn, fun hm l rs H1 hs _ _ R => ?_, fun hm d hd => he hm d hd⟩
    refine ⟨l, rfl, ⟨_, SqL.of R.top⟩, fun D hD => ?_⟩
    have sz := chainsTo_len ns m.toNat ns.length
    refine lc_list (xs := rs.map V.ref) (fun i H' => H' D = some (.lst ((((chainsTo ns m.toNat ns.length).take i).map fun c => (c.length : Int)).map V.int)) ∧ Same H1 H') ⟨upd_same, same_new hD⟩ ?_ ?_ ?_
    · rintro i H' _ ⟨_, hs'⟩
      exact SqL.of (hs' _ _ R.top)
    · rintro i x H' hx ⟨hat, hs'⟩
      obtain ⟨r, hr, rfl⟩ := ref_at hx
      obtain ⟨c, hc⟩ : ∃ c, (chainsTo ns m.toNat ns.length)[i]? = some c := ⟨_, List.getElem?_eq_getElem (by rw [← R.len]; exact (List.getElem?_eq_some_iff.mp hr).1)⟩
      have hlt : i < m.toNat := by rw [← sz]; exact (List.getElem?_eq_some_iff.mp hc).1
      have hrr := hs' _ _ (R.at_ i r c hr hc)
      refine ⟨rfl, w_yes ?_⟩
      walk_at "ra"
      refine ⟨_, hat, ?_, ?_, ?_⟩
      · rw [List.length_map, List.length_map, List.length_take, sizeLine_eq]; omega
      · rw [upd_same, take_snoc hc, List.map_append, List.map_append]; rfl
      · intro b o hbb
        rw [upd_ne (ne_of_none hbb hD)]; exact hs' b o hbb
    · rintro H' ⟨hat, hs'⟩
      rw [List.length_map, R.len, List.take_length] at hat
      walk_at "ra"
      refine w_sum hat ?_
      walk_at "ra"
      exact hq hm H' (hs.trans hs')

end
end My
namespace My
open PySem PySem.Spec PyProof.Rows L2 Rd
section
variable {P : Program} {w : World} {K : PySem.W.Frag} {mg : Str → Option Value} {base : Heap}
open BandM
def spFew (K : PySem.W.Frag) : Sp := fun vs H Q _ => ∃ (a : Addr) (ns : List Int), vs = [.ref a] ∧ BandAt K H a ns ∧ ns.length ≤ 60 ∧ ∀ H', Same H H' → Q (.int (maxDef 0 (wides ns))) H'

theorem sc_fewest : FnScope ["band", "thing", "end"] ["band"] (defScope (top 11)) := ⟨rfl, rfl, rfl, by decide +kernel, rfl, by decide +kernel, by decide +kernel⟩
theorem g_fewest (T : Tx fa fn xa fs P K mg) : FnG P w K mg base CX0 1 "fewest" ["band"] (spFew K) := by
  obtain ⟨fd, F⟩ := T.says.def_ 15 (d := d_fewest) rfl
  have sc := sc_fewest
  refine ⟨_, fd, T.glo 42, F.kp, F.ok sc (fun vs H Q E h => ?len) (fun cdv A outer s H vs Q E hr h => ⟨_, PSs.nox (pss_one (ps_ret (pe_callBK (cMaxD rfl hr) (by rfl) (T.free 13) (by decide +kernel) (pa_cons (pe_lc (own := [("thing", 1), ("end", 2)]) rfl sc.nd (pi_enumA (by rfl) (T.free 27) (pa_cons (pe_fld (pv 0) rfl) pa_nil)) (blkOk_by (N := ["band", "thing", "end"]) (sc := defScope (top 11)) (by decide +kernel)) (fun _ _ _ _ _ => (pg_tupK K rfl (n := 2) rfl (pgs_cons (pg_name (i := 1) sc.nd rfl (by first | exact Or.inl rfl | exact Or.inr rfl)) (pgs_cons (pg_name (i := 2) sc.nd rfl (by first | exact Or.inl rfl | exact Or.inr rfl)) pgs_nil)))) (fun _ _ _ _ _ => pts_nil) (fun _ _ _ _ _ => (pe_op oAdd (pe_op oSub (pv 2) (pv 1)) pe_int))) pa_nil) (pk_cons pe_int pk_nil)))), ?rd⟩), F.bindsN fun _ _ _ _ _ _ us hl => match us, hl with | [_], _ => rfl⟩
  case len =>
    obtain ⟨a, ns, rfl, _⟩ := h
    rfl
  case rd =>
    obtain ⟨a, ns, rfl, ⟨dx, t, ha, ht⟩, hn, hq⟩ := h
    have hcl : Cls K (He.ga K "Band") := T.cls 25
    have hn1 : NoAttr K (He.ga K "Band") "ends" := T.noat 26
    show tRet _ ⟨_, _, _, _⟩ [some (.ref a), none, none] H
    try dsimp only [cxOf]
    walk_at "ra"
    refine .inr ⟨_, SqT.of ht, fun D hD => ?_⟩
    refine lc_it (walk_enumT (xs := ns.map V.int)) (fun i H' => H' D = some (.lst (((List.range i).map fun (j : Nat) => ns.getD j 0 - j + 1).map V.int)) ∧ Same H H') ⟨upd_same, same_new hD⟩ ?_ ?_ ?_
    · rintro i H' _ ⟨_, hs'⟩
      exact SqT.of (hs' _ _ ht)
    · rintro i v H1 H2 hi ⟨hat, hs'⟩ ⟨T, u, e, rfl, hT, rfl, eu, ee⟩
      cases eu
      rw [List.length_map] at hi
      cases int_is hi ee
      have tD : D ≠ T := ne_of_none hat hT
      refine w_gt2 (SqT.of upd_same) ?_
      refine ⟨rfl, w_yes ?_⟩
      walk_at "ra"
      refine ⟨_, by rw [upd_ne tD]; exact hat, ?_, ?_, ?_⟩
      · rw [List.length_map, List.length_map, List.length_range, sizeLine_eq]; omega
      · rw [upd_same, List.range_succ, List.map_append, List.map_append]; rfl
      · intro b o hbb
        rw [upd_ne (ne_of_none hbb hD), upd_ne (ne_of_none (hs' b o hbb) hT)]; exact hs' b o hbb
    · rintro H' ⟨hat, hs'⟩
      rw [List.length_map] at hat
      walk_at "ra"
      refine w_maxD hat ?_
      walk_at "ra"
      exact hq H' hs'

end
end My
namespace My
open PySem PySem.Spec PyProof.Rows L2 Rd
section
variable {P : Program} {w : World} {K : PySem.W.Frag} {mg : Str → Option Value} {base : Heap}
open BandM
theorem rg_ups (n : Nat) : rg 0 n = ups n := by
  unfold rg ups
  rw [show ((n : Int) - 0).toNat = n by omega]
  exact List.map_congr_left fun i _ => by omega
def spPeeled : Sp := fun vs H Q _ => ∃ (e : Addr) (ns : List Int) (m : Int), vs = [.ref e, .int m] ∧ H e = some (.lst (ns.map V.int)) ∧ ns.length ≤ 60 ∧ 0 ≤ m ∧ m ≤ 60 ∧ ∀ (l : Addr) (rs : List Addr) (H' : Hp), Same H H' → H l = none → (∀ r ∈ rs, H r = none) → Rows H' l rs (chainsTo ns m.toNat ns.length) → Q (.ref l) H'

theorem sc__law_peeled : FnScope ["_law_ends_here", "_law_many", "_law_left", "_law_lists", "_law_k", "_law_chain", "_law_rest", "_law_thing"] ["_law_ends_here", "_law_many"] (defScope (top 23)) := ⟨rfl, rfl, rfl, by decide +kernel, rfl, by decide +kernel, by decide +kernel⟩
theorem g__law_peeled (T : Tx fa fn xa fs P K mg) : FnG P w K mg base CX0 1 "_law_peeled" ["_law_ends_here", "_law_many"] spPeeled := by
  obtain ⟨fd, F⟩ := T.says.def_ 16 (d := d__law_peeled) rfl
  have sc := sc__law_peeled
  refine ⟨_, fd, T.glo 43, F.kp, F.ok sc (fun vs H Q E h => ?len) (fun cdv A outer s H vs Q E hr h => ⟨_, PSs.nox (pss_cons (ps_set (i := 2) sc.nd rfl (by first | exact Or.inl rfl | exact Or.inr rfl) (pe_listRg rfl (by rfl) (T.free 4) (prg_1 (by rfl) (T.free 8) (pe_callB cLen (by rfl) (T.free 6) (by decide +kernel) (pa_cons (pv 0) pa_nil)))))
    (pss_cons (ps_set (i := 3) sc.nd rfl (by first | exact Or.inl rfl | exact Or.inr rfl) (pe_lst pa_nil))
    (pss_cons (ps_for PassesOwn.never rfl (pi_range1 (by rfl) (T.free 8) (pa_cons (pv 1) pa_nil)) (pg_name (i := 4) sc.nd rfl (by first | exact Or.inl rfl | exact Or.inr rfl)) (pss_cons (ps_set (i := 5) sc.nd rfl (by first | exact Or.inl rfl | exact Or.inr rfl) (pe_lst pa_nil))
    (pss_cons (ps_set (i := 6) sc.nd rfl (by first | exact Or.inl rfl | exact Or.inr rfl) (pe_lst pa_nil))
    (pss_cons (ps_for PassesOwn.never rfl (pi_list (pv 2)) (pg_name (i := 7) sc.nd rfl (by first | exact Or.inl rfl | exact Or.inr rfl)) (pss_one (ps_if (PW.pt (pw_or (pt_cmpR op_eq (pe_callB cLen (by rfl) (T.free 6) (by decide +kernel) (pa_cons (pv 5) pa_nil)) pe_int (nomark _)) (pw_or1 (pt_cmpR oLt (pe_ix ix_seq (pv 0) (pe_ix ix_seq (pv 5) (pe_un oNeg pe_int) (fun _ _ => rfl)) (fun _ _ => rfl)) (pv 7) (nomark _))))) (pss_one (ps_expr (pe_bm PySem.F.plainAttrs_list PySem.F.slot_list_append PySem.F.type_list_append mt_append (pv 5) (pa_cons (pv 7) pa_nil)))) (pss_one (ps_expr (pe_bm PySem.F.plainAttrs_list PySem.F.slot_list_append PySem.F.type_list_append mt_append (pv 6) (pa_cons (pv 7) pa_nil)))))))
    (pss_cons (ps_expr (pe_bm PySem.F.plainAttrs_list PySem.F.slot_list_append PySem.F.type_list_append mt_append (pv 3) (pa_cons (pv 5) pa_nil)))
    (pss_one (ps_set (i := 2) sc.nd rfl (by first | exact Or.inl rfl | exact Or.inr rfl) (pe_callTy cList (by rfl) (T.free 4) (by decide +kernel) (pa_cons (pv 6) pa_nil)))))))))
    (pss_one (ps_ret (pv 3)))))), ?rd⟩), F.bindsN fun _ _ _ _ _ _ us hl => match us, hl with | [_, _], _ => rfl⟩
  case len =>
    obtain ⟨e, ns, m, rfl, _⟩ := h
    rfl
  case rd =>
    obtain ⟨e, ns, m, rfl, he, hn, m0, m1, hQ⟩ := h
    show tSeq _ _ ⟨_, _, _, _⟩ [some (.ref e), some (.int m), none, none, none, none, none, none] H
    try dsimp only [cxOf]
    walk_at "rw"
    rename_i lf H1 hlf s1 hlf1 L H2 hL s2 hL2
    rw [rg_ups] at hlf1
    have R0 : Rows H2 L [] (peelN ns 0).1 := ⟨hL2, rfl, List.nodup_nil, List.not_mem_nil, fun j r c hr => by cases hr⟩
    have LH : H L = none := s1.free hL
    refine ⟨_, rfl, by omega, by omega, for_range (n := m.toNat) (fun k σ H' => Same H H' ∧ ∃ (lf : Addr) (rs : List Addr) (v1 v2 v3 v4 : Option V), H' lf = some (.lst ((peelN ns k).2.map V.int)) ∧ Rows H' L rs (peelN ns k).1 ∧ (∀ r ∈ rs, H r = none) ∧ σ = [some (.ref e), some (.int m), some (.ref lf), some (.ref L), v1, v2, v3, v4]) ⟨s1.trans s2, lf, [], _, _, _, _, s2 _ _ hlf1, R0, fun r hr => absurd hr List.not_mem_nil, rfl⟩ ?_ ?_⟩
    · rintro k σ H3 hk ⟨s3, lf, rs, v1, v2, v3, v4, hlf, R, hrs, rfl⟩
      obtain ⟨pl, pn⟩ := peel_left ns k
      walk_at "rw"
      rename_i ch H4 hch s4 hch4 re H5 hre s5 hre5
      have hq6 := s5 _ _ (s4 _ _ hlf)
      have chH : H3 ch = none := hch
      have reH : H3 re = none := s4.free hre
      have chre : ch ≠ re := ne_of_none hch4 hre
      have qch : ch ≠ lf := (ne_of_none hlf chH).symm
      have qre : re ≠ lf := (ne_of_none hlf reH).symm
      generalize hLL : (peelN ns k).2 = ll at *
      refine ⟨lf, rfl, ⟨_, SqL.of hq6⟩, for_list (xs := ll.map V.int) (fun j σ H' => Same H3 H' ∧ H' lf = some (.lst (ll.map V.int)) ∧ ∃ v, H' ch = some (.lst (((ll.take j).foldl (grabS ns) ([], [])).1.map V.int)) ∧ H' re = some (.lst (((ll.take j).foldl (grabS ns) ([], [])).2.map V.int)) ∧ σ = [some (.ref e), some (.int m), some (.ref lf), some (.ref L), some (.int (0 + (k : Int))), some (.ref ch), some (.ref re), v]) ⟨s4.trans s5, hq6, _, s5 _ _ hch4, hre5, rfl⟩ ?_ ?_ ?_⟩
      · rintro j σ H' _ ⟨_, z, _⟩
        exact SqL.of z
      · rintro j x σ H7 hx ⟨s7, hq7, v, hch7, hre7, rfl⟩
        have hj : j < ll.length := by
          have := (List.getElem?_eq_some_iff.mp hx).1
          rw [List.length_map] at this; exact this
        cases int_is hj hx
        have hjj : ll[j]? = some (ll.getD j 0) := by rw [List.getD_eq_getElem?_getD, List.getElem?_eq_getElem hj]; rfl
        have nxt : (ll.take (j + 1)).foldl (grabS ns) ([], []) = grabS ns ((ll.take j).foldl (grabS ns) ([], [])) (ll.getD j 0) := by
          rw [take_snoc hjj, List.foldl_append]; rfl
        have mem : ∀ x ∈ ((ll.take j).foldl (grabS ns) ([], [])).1, 0 ≤ x ∧ x < (ns.length : Int) := fun x hx => by
          rcases grab_mem _ _ _ (.inl hx) with z | z | z
          · cases z
          · cases z
          · exact pl x (List.mem_of_mem_take z)
        have gl := grab_len (ns := ns) (ll.take j) [] []
        rw [List.length_take] at gl
        simp only [List.length_nil] at gl
        generalize (ll.take j).foldl (grabS ns) ([], []) = G at hch7 hre7 nxt mem gl
        obtain ⟨c, r⟩ := G
        dsimp only at hch7 hre7 mem gl
        have he7 := s7 _ _ (s3 _ _ he)
        have yes : Fits ns c (ll.getD j 0) → Same H3 (upd H7 ch (.lst (c.map V.int ++ [.int (ll.getD j 0)]))) ∧ upd H7 ch (.lst (c.map V.int ++ [.int (ll.getD j 0)])) lf = some (.lst (ll.map V.int)) ∧ ∃ v, upd H7 ch (.lst (c.map V.int ++ [.int (ll.getD j 0)])) ch = some (.lst (((ll.take (j + 1)).foldl (grabS ns) ([], [])).1.map V.int)) ∧ upd H7 ch (.lst (c.map V.int ++ [.int (ll.getD j 0)])) re = some (.lst (((ll.take (j + 1)).foldl (grabS ns) ([], [])).2.map V.int)) ∧ [some (V.ref e), some (.int m), some (.ref lf), some (.ref L), some (.int (0 + (k : Int))), some (.ref ch), some (.ref re), some (.int (ll.getD j 0))] = [some (.ref e), some (.int m), some (.ref lf), some (.ref L), some (.int (0 + (k : Int))), some (.ref ch), some (.ref re), v] := fun hf => by
          rw [nxt, grabS, if_pos hf]
          exact ⟨same_put s7 chH, by rw [upd_ne (Ne.symm qch)]; exact hq7, _, by rw [upd_same, List.map_append]; rfl, by rw [upd_ne (Ne.symm chre)]; exact hre7, rfl⟩
        walk_at "rw"
        · rename_i hc
          refine w_app hch7 (by rw [List.length_map, sizeLine_eq]; omega) ?_
          walk_at "rw"
          exact yes (.inl (List.eq_nil_of_length_eq_zero (by omega)))
        · rename_i hc
          have ne : c ≠ [] := fun z => hc (by rw [z]; rfl)
          refine w_ixLast hch7 ne ?_
          have hm := mem _ (getLastD_mem ne)
          walk_at "rw"
          · refine w_app hch7 (by rw [List.length_map, sizeLine_eq]; omega) ?_
            walk_at "rw"
            exact yes (.inr (by assumption))
          · rename_i hf
            refine w_app hre7 (by rw [List.length_map, sizeLine_eq]; omega) ?_
            walk_at "rw"
            rw [nxt, grabS, if_neg (fun z => z.elim ne hf)]
            exact ⟨same_put s7 reH, by rw [upd_ne (Ne.symm qre)]; exact hq7, _, by rw [upd_ne chre]; exact hch7, by rw [upd_same, List.map_append]; rfl, rfl⟩
      · rintro σ H7 ⟨s7, hq7, v, hch7, hre7, rfl⟩
        rw [List.length_map, List.take_length] at hch7 hre7
        have R7 := R.keep s7
        have hL7 := R7.top
        have chL : ch ≠ L := fun z => by rw [z, R.top] at chH; cases chH
        have reL : re ≠ L := fun z => by rw [z, R.top] at reH; cases reH
        have chr : ch ∉ rs := fun z => by
          obtain ⟨i, hi, hz⟩ := List.getElem_of_mem z
          have := R.at_ i ch _ (by rw [List.getElem?_eq_getElem hi, hz]) (List.getElem?_eq_getElem (by rw [← R.len]; exact hi))
          rw [chH] at this; cases this
        have rl : rs.length = k := by rw [R.len, peel_chains, chainsTo_len]
        have R8 := R7.snoc hch7 chr chL
        have s8 : Same H (upd H7 L (.lst ((rs ++ [ch]).map V.ref))) := same_put (s3.trans s7) LH
        have hre8 : upd H7 L (.lst ((rs ++ [ch]).map V.ref)) re = some (.lst ((ll.foldl (grabS ns) ([], [])).2.map V.int)) := by rw [upd_ne reL]; exact hre7
        walk_at "rw"
        refine w_app hL7 (by rw [List.length_map, sizeLine_eq]; omega) ?_
        rw [show rs.map V.ref ++ [.ref ch] = (rs ++ [ch]).map V.ref by rw [List.map_append]; rfl]
        walk_at "rw"
        rename_i nl H9 hnl s9 hnl9
        refine ⟨s8.trans s9, nl, rs ++ [ch], _, _, _, _, ?_, ?_, ?_, rfl⟩
        · show H9 nl = some (.lst (((grab ns (peelN ns k).2).2).map V.int))
          rw [hLL]; exact hnl9
        · show Rows H9 L (rs ++ [ch]) ((peelN ns k).1 ++ [(grab ns (peelN ns k).2).1])
          rw [hLL]; exact R8.keep s9
        · intro r hr
          rcases List.mem_append.mp hr with z | z
          · exact hrs r z
          · rw [List.mem_singleton.mp z]; exact s3.free chH
    · rintro σ H3 ⟨s3, lf, rs, v1, v2, v3, v4, hlf, R, hrs, rfl⟩
      walk_at "rw"
      rw [peel_chains] at R
      exact hQ L rs H3 s3 LH hrs R

end
end My
namespace My
open PySem PySem.Spec PyProof.Rows L2 Rd
section
variable {P : Program} {w : World} {K : PySem.W.Frag} {mg : Str → Option Value} {base : Heap}
open BandM
def spSize : Sp := fun vs H Q _ => ∃ (l : Addr) (rs : List Addr) (cs : List (List Int)), vs = [.ref l] ∧ Rows H l rs cs ∧ cs.length ≤ 60 ∧ ∀ H', Same H H' → Q (.int (size cs)) H'

theorem sc__law_size : FnScope ["_law_lists", "_law_chain"] ["_law_lists"] (defScope (top 24)) := ⟨rfl, rfl, rfl, by decide +kernel, rfl, by decide +kernel, by decide +kernel⟩
theorem g__law_size (T : Tx fa fn xa fs P K mg) : FnG P w K mg base CX0 1 "_law_size" ["_law_lists"] spSize := by
  obtain ⟨fd, F⟩ := T.says.def_ 17 (d := d__law_size) rfl
  have sc := sc__law_size
  refine ⟨_, fd, T.glo 44, F.kp, F.ok sc (fun vs H Q E h => ?len) (fun cdv A outer s H vs Q E hr h => ⟨_, PSs.nox (pss_one (ps_ret (pe_callB (cr_sum rfl) (by rfl) (T.free 40) (by decide +kernel) (pa_cons (pe_lc (own := [("_law_chain", 1)]) rfl sc.nd (pi_list (pv 0)) (blkOk_by (N := ["_law_lists", "_law_chain"]) (sc := defScope (top 24)) (by decide +kernel)) (fun _ _ _ _ _ => (pg_name (i := 1) sc.nd rfl (by first | exact Or.inl rfl | exact Or.inr rfl))) (fun _ _ _ _ _ => pts_nil) (fun _ _ _ _ _ => (pe_callB (CallR.toK (r := Rd.rLen) (K := K) cLen rfl) (by rfl) (T.free 6) (by decide +kernel) (pa_cons (pv 1) pa_nil)))) pa_nil)))), ?rd⟩), F.bindsN fun _ _ _ _ _ _ us hl => match us, hl with | [_], _ => rfl⟩
  case len =>
    obtain ⟨l, rs, cs, rfl, _⟩ := h
    rfl
  case rd =>
    obtain ⟨l, rs, cs, rfl, R, hc60, hQ⟩ := h
    show tRet _ ⟨_, _, _, _⟩ [some (.ref l), none] H
    try dsimp only [cxOf]
    walk_at "rw"
    refine lc_L (xs := rs.map V.ref) (goes_same H) R.top (fun H' z => z _ _ R.top) (fun i acc => acc = ((cs.take i).map fun c => (c.length : Int)).map V.int) (by rw [List.take_zero]; rfl) ?_ ?_
    · rintro D i x acc H1 hD hx rfl s1 hat
      obtain ⟨r, hr, rfl⟩ := ref_at hx
      obtain ⟨c, hc⟩ : ∃ c, cs[i]? = some c := ⟨_, List.getElem?_eq_getElem (by rw [← R.len]; exact (List.getElem?_eq_some_iff.mp hr).1)⟩
      have hrr := s1 _ _ (R.at_ i r c hr hc)
      refine ⟨rfl, w_yes ?_⟩
      walk_at "rw"
      refine elt_done (goes_same H) hD hat (by rw [List.length_map, List.length_map, List.length_take]; omega) s1 ?_
      rw [BandM.take_snoc hc, List.map_append, List.map_append]; rfl
    · rintro lt acc H1 hlt s1 hat rfl
      rw [List.length_map, R.len, List.take_length] at hat
      walk_at "rw"
      refine w_sum hat ?_
      exact hQ H1 s1

end
end My
namespace My
open PySem PySem.Spec PyProof.Rows L2 Rd
section
variable {P : Program} {w : World} {K : PySem.W.Frag} {mg : Str → Option Value} {base : Heap}
open BandM
def spGroupN : Sp := fun vs H Q _ => ∃ (e : Addr) (ns : List Int), vs = [.ref e] ∧ H e = some (.lst (ns.map V.int)) ∧ EndsTo ns.length ns ∧ ns.length ≤ 60 ∧ ∀ (M : Int) (H' : Hp), Same H H' → GroupMax ns M → Q (.int M) H'

theorem sc__law_group : FnScope ["_law_ends_here", "_law_best", "_law_i", "_law_k"] ["_law_ends_here"] (defScope (top 25)) := ⟨rfl, rfl, rfl, by decide +kernel, rfl, by decide +kernel, by decide +kernel⟩
theorem g__law_group (T : Tx fa fn xa fs P K mg) : FnG P w K mg base CX0 2 "_law_group" ["_law_ends_here"] spGroupN := by
  obtain ⟨fd, F⟩ := T.says.def_ 18 (d := d__law_group) rfl
  have sc := sc__law_group
  refine ⟨_, fd, T.glo 45, F.kp, F.ok sc (fun vs H Q E h => ?len) (fun cdv A outer s H vs Q E hr h => ⟨_, PSs.nox (pss_cons (ps_set (i := 1) sc.nd rfl (by first | exact Or.inl rfl | exact Or.inr rfl) pe_int)
    (pss_cons (ps_for PassesOwn.never rfl (pi_range1 (by rfl) (T.free 8) (pa_cons (pe_callB cLen (by rfl) (T.free 6) (by decide +kernel) (pa_cons (pv 0) pa_nil)) pa_nil)) (pg_name (i := 2) sc.nd rfl (by first | exact Or.inl rfl | exact Or.inr rfl)) (pss_one (ps_set (i := 1) sc.nd rfl (by first | exact Or.inl rfl | exact Or.inr rfl) (pe_callB (cMax2 rfl) (by rfl) (T.free 13) (by decide +kernel) (pa_cons (pv 1) (pa_cons (pe_callB cLen (by rfl) (T.free 6) (by decide +kernel) (pa_cons (pe_lc (own := [("_law_k", 3)]) rfl sc.nd (pi_range2 (by rfl) (T.free 8) (pa_cons (pv 2) (pa_cons (pe_callB cLen (by rfl) (T.free 6) (by decide +kernel) (pa_cons (pv 0) pa_nil)) pa_nil))) (blkOk_by (N := ["_law_ends_here", "_law_best", "_law_i", "_law_k"]) (sc := defScope (top 25)) (by decide +kernel)) (fun _ _ _ _ _ => (pg_name (i := 3) sc.nd rfl (by first | exact Or.inl rfl | exact Or.inr rfl))) (fun _ _ _ _ _ => (pts_one (pt_val (pe_cg (sp := spNear) (g__law_near T) (hr.mono (by decide)) (by rfl) (pa_cons (pv 0) (pa_cons (pv 2) (pa_cons (pv 3) pa_nil))))))) (fun _ _ _ _ _ => (pv 3))) pa_nil)) pa_nil))))))
    (pss_one (ps_ret (pv 1))))), ?rd⟩), F.bindsN fun _ _ _ _ _ _ us hl => match us, hl with | [_], _ => rfl⟩
  case len =>
    obtain ⟨e, ns, rfl, _⟩ := h
    rfl
  case rd =>
    obtain ⟨e, ns, rfl, he, hE, hn, hQ⟩ := h
    show tSeq _ _ ⟨_, _, _, _⟩ [some (.ref e), none, none, none] H
    try dsimp only [cxOf]
    walk_at "rw"
    refine ⟨_, rfl, by omega, by omega, for_range (n := ns.length) (fun i σ H' => Same H H' ∧ ∃ (best : Int) (v : Option V), (∀ j : Nat, j < i → ns.getD j 0 - j + 1 ≤ best) ∧ ((i = 0 ∧ best = 0) ∨ ∃ j : Nat, j < i ∧ best = ns.getD j 0 - j + 1) ∧ σ = [some (.ref e), some (.int best), v, none]) ⟨Same.refl _, 0, _, fun j hj => absurd hj (Nat.not_lt_zero j), .inl ⟨rfl, rfl⟩, rfl⟩ ?_ ?_⟩
    · rintro i σ H1 hi ⟨s1, best, v, hw, hb, rfl⟩
      have he1 := s1 _ _ he
      obtain ⟨E1, E2, _⟩ := hE i hi
      walk_at "rw"
      refine lc_R2 (goes_same H1) ⟨by omega, by omega, by omega, by omega⟩ (fun q acc => acc = ((List.range (min q (ns.getD i 0 - i + 1).toNat)).map fun (j : Nat) => (i : Int) + j).map V.int) (by rw [Nat.zero_min]; rfl) ?_ ?_
      · rintro D q acc H2 hD hq rfl s2 hat2
        have he2 := s2 _ _ he1
        refine ⟨rfl, ?_⟩
        walk_at "rw"
        refine ⟨e, ns, _, _, rfl, he2, by omega, by omega, by omega, by omega, ?_⟩
        have near : nearB ns (0 + (i : Int)) (0 + (i : Int) + q) ↔ q < (ns.getD i 0 - i + 1).toNat := by
          unfold nearB
          rw [show min (0 + (i : Int)) (0 + (i : Int) + q) = (i : Int) by omega, show max (0 + (i : Int)) (0 + (i : Int) + q) = (i : Int) + q by omega, Int.toNat_natCast]
          omega
        walk_at "rw"
        refine ite2 (fun hc => ?_) (fun hc => ?_)
        · have hc' := near.mp (of_decide_eq_true hc)
          walk_at "rw"
          refine elt_done (goes_same H1) hD hat2 (by rw [List.length_map, List.length_map, List.length_range]; omega) s2 ?_
          rw [show min (q + 1) (ns.getD i 0 - i + 1).toNat = q + 1 by omega, show min q (ns.getD i 0 - i + 1).toNat = q by omega, List.range_succ, List.map_append, List.map_append, show 0 + (i : Int) + q = i + q by omega]
          rfl
        · have hc' : ¬ q < (ns.getD i 0 - i + 1).toNat := fun z => hc (decide_eq_true (near.mpr z))
          refine elt_not hat2 s2 ?_
          rw [show min (q + 1) (ns.getD i 0 - i + 1).toNat = min q (ns.getD i 0 - i + 1).toNat by omega]
      · rintro l acc H2 hl s2 hat2 rfl
        have gl : (((List.range (min ((ns.length : Int) - (0 + (i : Int))).toNat (ns.getD i 0 - i + 1).toNat)).map fun (j : Nat) => (i : Int) + j).length : Int) = ns.getD i 0 - i + 1 := by rw [List.length_map, List.length_range]; omega
        walk_at "rw"
        rw [gl]
        refine ⟨s1.trans s2, _, _, fun j hj => ?_, .inr ?_, rfl⟩
        · rcases Nat.lt_succ_iff_lt_or_eq.mp hj with z | rfl
          · have := hw j z
            omega
          · omega
        · rcases Int.le_total best (ns.getD i 0 - i + 1) with le | le
          · exact ⟨i, by omega, by omega⟩
          · rcases hb with ⟨rfl, rfl⟩ | ⟨j, hj, e2⟩
            · omega
            · exact ⟨j, by omega, by omega⟩
    · rintro σ H1 ⟨s1, best, v, hw, hb, rfl⟩
      walk_at "rw"
      exact hQ best H1 s1 ⟨hw, hb⟩

end
end My
namespace My
open PySem PySem.Spec PyProof.Rows L2 Rd
section
variable {P : Program} {w : World} {K : PySem.W.Frag} {mg : Str → Option Value} {base : Heap}
def spBetw : Sp := fun vs H Q _ => ∃ a lo hi : Int, vs = [.int a, .int lo, .int hi] ∧ lo ≤ a ∧ a ≤ hi ∧ Q (.bl true) H

theorem sc__law_between : FnScope ["_law_got", "_law_low", "_law_high"] ["_law_got", "_law_low", "_law_high"] (defScope (top 27)) := ⟨rfl, rfl, rfl, by decide +kernel, rfl, by decide +kernel, by decide +kernel⟩
theorem g__law_between (T : Tx fa fn xa fs P K mg) : FnG P w K mg base CX0 2 "_law_between" ["_law_got", "_law_low", "_law_high"] spBetw := by
  obtain ⟨fd, F⟩ := T.says.def_ 19 (d := d__law_between) rfl
  have sc := sc__law_between
  refine ⟨_, fd, T.glo 46, F.kp, F.ok sc (fun vs H Q E h => ?len) (fun cdv A outer s H vs Q E hr h => ⟨_, PSs.nox (pss_one (ps_ret (pe_and (pe_cg (g__law_is_int T) (hr.mono (by decide)) rfl (pa_cons (pv 0) pa_nil)) (pe_one (pe_chain oLe oLe (pv 1) (pv 0) (pv 2)))))), ?rd⟩), F.bindsN fun _ _ _ _ _ _ us hl => match us, hl with | [_, _, _], _ => rfl⟩
  case len =>
    obtain ⟨a, lo, hi, rfl, _⟩ := h
    rfl
  case rd =>
    obtain ⟨a, lo, hi, rfl, h1, h2, hQ⟩ := h
    show tRet _ ⟨_, _, _, _⟩ [some (.int a), some (.int lo), some (.int hi)] H
    try dsimp only [cxOf]
    walk_at "rw"
    rw [decide_eq_true h2]
    exact hQ

end
end My
namespace My
open PySem PySem.Spec PyProof.Rows L2 Rd
section
variable {P : Program} {w : World} {K : PySem.W.Frag} {mg : Str → Option Value} {base : Heap}
open BandM
def spBehind : Sp := fun vs H Q _ => ∃ (l1 l2 : Addr) (n : Nat) (r1 r2 : List Addr) (C D : List (List Int)), vs = [.ref l1, .ref l2, .int n] ∧ Rows H l1 r1 C ∧ Rows H l2 r2 D ∧ C.length = D.length ∧ C.length ≤ 60 ∧ (∀ c ∈ C, c.length ≤ 60) ∧ (∀ d ∈ D, d.length ≤ 60) ∧ ∀ (l : Addr) (rs : List Addr) (H' : Hp), Same H H' → Rows H' l rs (List.zipWith (behind n) C D) → Q (.ref l) H'
theorem zip_take {n : Nat} {C D : List (List Int)} {i : Nat} {c d : List Int} (hc : C[i]? = some c) (hd : D[i]? = some d) : (List.zipWith (behind n) C D)[i]? = some (behind n c d) := by
  rw [List.getElem?_zipWith, hc, hd]

theorem sc__law_behind : FnScope ["_law_first", "_law_second", "_law_shift", "_law_joined", "_law_k", "_law_thing"] ["_law_first", "_law_second", "_law_shift"] (defScope (top 26)) := ⟨rfl, rfl, rfl, by decide +kernel, rfl, by decide +kernel, by decide +kernel⟩
theorem g__law_behind (T : Tx fa fn xa fs P K mg) : FnG P w K mg base CX0 1 "_law_behind" ["_law_first", "_law_second", "_law_shift"] spBehind := by
  obtain ⟨fd, F⟩ := T.says.def_ 20 (d := d__law_behind) rfl
  have sc := sc__law_behind
  refine ⟨_, fd, T.glo 47, F.kp, F.ok sc (fun vs H Q E h => ?len) (fun cdv A outer s H vs Q E hr h => ⟨_, PSs.nox (pss_cons (ps_set (i := 3) sc.nd rfl (by first | exact Or.inl rfl | exact Or.inr rfl) (pe_lst pa_nil))
    (pss_cons (ps_for PassesOwn.never rfl (pi_range1 (by rfl) (T.free 8) (pa_cons (pe_callB cLen (by rfl) (T.free 6) (by decide +kernel) (pa_cons (pv 0) pa_nil)) pa_nil)) (pg_name (i := 4) sc.nd rfl (by first | exact Or.inl rfl | exact Or.inr rfl)) (pss_one (ps_expr (pe_bm PySem.F.plainAttrs_list PySem.F.slot_list_append PySem.F.type_list_append mt_append (pv 3) (pa_cons (pe_op oAdd (pe_ix ix_seq (pv 0) (pv 4) (fun _ _ => rfl)) (pe_lc (own := [("_law_thing", 5)]) rfl sc.nd (pi_list (pe_ix ix_seq (pv 1) (pv 4) (fun _ _ => rfl))) (blkOk_by (N := ["_law_first", "_law_second", "_law_shift", "_law_joined", "_law_k", "_law_thing"]) (sc := defScope (top 26)) (by decide +kernel)) (fun _ _ _ _ _ => (pg_name (i := 5) sc.nd rfl (by first | exact Or.inl rfl | exact Or.inr rfl))) (fun _ _ _ _ _ => pts_nil) (fun _ _ _ _ _ => (pe_op oAdd (pv 2) (pv 5))))) pa_nil)))))
    (pss_one (ps_ret (pv 3))))), ?rd⟩), F.bindsN fun _ _ _ _ _ _ us hl => match us, hl with | [_, _, _], _ => rfl⟩
  case len =>
    obtain ⟨l1, l2, n, r1, r2, C, D, rfl, _⟩ := h
    rfl
  case rd =>
    obtain ⟨l1, l2, n, r1, r2, C, D, rfl, R1, R2, hl, h60, hC, hD, hQ⟩ := h
    show tSeq _ _ ⟨_, _, _, _⟩ [some (.ref l1), some (.ref l2), some (.int n), none, none, none] H
    try dsimp only [cxOf]
    have htop := R1.top
    have htop2 := R2.top
    have rl : (r1.map V.ref).length = C.length := by rw [List.length_map, R1.len]
    walk_at "rw"
    rename_i L H1 hL s1 hL1
    rw [rl]
    refine ⟨_, rfl, by omega, by omega, for_range (n := C.length) (fun i σ H' => Same H H' ∧ ∃ (rs : List Addr) (v : Option V), Rows H' L rs ((List.zipWith (behind n) C D).take i) ∧ (∀ r ∈ rs, H r = none) ∧ σ = [some (.ref l1), some (.ref l2), some (.int n), some (.ref L), v, none]) ⟨s1, [], _, by rw [List.take_zero]; exact ⟨hL1, rfl, List.nodup_nil, List.not_mem_nil, fun j r c hr => by cases hr⟩, fun r hr => absurd hr List.not_mem_nil, rfl⟩ ?_ ?_⟩
    · rintro i σ H2 hi ⟨s2, rs, v, R, hrs, rfl⟩
      obtain ⟨a, ha⟩ : ∃ a, r1[i]? = some a := ⟨_, List.getElem?_eq_getElem (by rw [R1.len]; exact hi)⟩
      obtain ⟨bb, hb⟩ : ∃ a, r2[i]? = some a := ⟨_, List.getElem?_eq_getElem (by rw [R2.len]; omega)⟩
      obtain ⟨cc, hc⟩ : ∃ c, C[i]? = some c := ⟨_, List.getElem?_eq_getElem hi⟩
      obtain ⟨dd, hd⟩ : ∃ c, D[i]? = some c := ⟨_, List.getElem?_eq_getElem (by omega)⟩
      have c60 := hC cc (List.mem_of_getElem? hc)
      have d60 := hD dd (List.mem_of_getElem? hd)
      have at1 := s2 _ _ (R1.at_ i a cc ha hc)
      have at2 := s2 _ _ (R2.at_ i bb dd hb hd)
      have t0 : (0 + (i : Int)).toNat = i := by omega
      have hL2 := R.top
      walk_at "rw"
      refine w_ixL (SqL.of (s2 _ _ htop)) (atI_of (by omega) (by rw [t0, List.getElem?_map, ha]; rfl)) ?_
      walk_at "rw"
      refine w_ixL (SqL.of (s2 _ _ htop2)) (atI_of (by omega) (by rw [t0, List.getElem?_map, hb]; rfl)) ?_
      refine lc_L (xs := dd.map V.int) (goes_same H2) at2 (fun H' z => z _ _ at2) (fun j acc => acc = ((dd.take j).map fun x => (n : Int) + x).map V.int) (by rw [List.take_zero]; rfl) ?_ ?_
      · rintro Dn j x acc H3 hDn hx rfl s3 hat
        have hj : j < dd.length := by
          have := (List.getElem?_eq_some_iff.mp hx).1
          rw [List.length_map] at this; exact this
        cases int_is hj hx
        have hjj : dd[j]? = some (dd.getD j 0) := by rw [List.getD_eq_getElem?_getD, List.getElem?_eq_getElem hj]; rfl
        refine ⟨rfl, w_yes ?_⟩
        walk_at "rw"
        refine elt_done (goes_same H2) hDn hat (by rw [List.length_map, List.length_map, List.length_take]; omega) s3 ?_
        rw [take_snoc hjj, List.map_append, List.map_append]; rfl
      · rintro q acc H3 hq s3 hat rfl
        rw [List.length_map, List.take_length] at hat
        refine w_op2 (n_addL (s3 _ _ at1) hat (by rw [List.length_map, List.length_map, List.length_map, sizeLine_eq]; omega) fun nl H4 hnl s4 hnl4 => ?_)
        rw [← List.map_append] at hnl4
        have hnl4 : H4 nl = some (.lst ((behind n cc dd).map V.int)) := hnl4
        have R4 := (R.keep s3).keep s4
        have s24 := s3.trans s4
        have nlH : H nl = none := (s2.trans s3).free hnl
        have nlL : nl ≠ L := fun z => by rw [z, s3 _ _ R.top] at hnl; cases hnl
        have nlr : nl ∉ rs := fun z => by
          obtain ⟨k, hk, hz⟩ := List.getElem_of_mem z
          have := (R.keep s3).at_ k nl _ (by rw [List.getElem?_eq_getElem hk, hz]) (List.getElem?_eq_getElem (by rw [← R.len]; exact hk))
          rw [hnl] at this; cases this
        have RS := R4.snoc hnl4 nlr nlL
        have LH : H L = none := hL
        have rs60 : rs.length ≤ 60 := by rw [R.len, List.length_take]; omega
        walk_at "rw"
        try refine w_kcons1 (w_nil (w_kcons2 ?_))
        try walk_at "rw"
        refine w_app R4.top (by rw [List.length_map, sizeLine_eq]; omega) ?_
        rw [show rs.map V.ref ++ [.ref nl] = (rs ++ [nl]).map V.ref by rw [List.map_append]; rfl]
        refine ⟨same_put (s2.trans s24) LH, rs ++ [nl], _, ?_, fun r hr => ?_, rfl⟩
        · rw [take_snoc (zip_take hc hd)]; exact RS
        · rcases List.mem_append.mp hr with z | z
          · exact hrs r z
          · rw [List.mem_singleton.mp z]; exact nlH
    · rintro σ H2 ⟨s2, rs, v, R, hrs, rfl⟩
      rw [List.take_of_length_le (by rw [List.length_zipWith]; omega)] at R
      walk_at "rw"
      exact hQ L rs H2 s2 R

end
end My
namespace My
open PySem PySem.Spec PyProof.Rows L2 Rd
section
variable {P : Program} {w : World} {K : PySem.W.Frag} {mg : Str → Option Value} {base : Heap}
open BandM
theorem alike_rows {H : Hp} {d : Nat} {a b : Addr} {rs qs : List Addr} {cs : List (List Int)} (A : Rows H a rs cs) (B : Rows H b qs cs) (h1 : cs.length ≤ 60) (h2 : ∀ c ∈ cs, c.length ≤ 1000) : Alike H (d + 3) (.ref a) (.ref b) := by
  refine alike_lst A.top B.top (by rw [List.length_map, List.length_map, A.len, B.len]) (by rw [List.length_map, A.len]; omega) fun i x y hx hy => ?_
  obtain ⟨r, hr, rfl⟩ := ref_at hx
  obtain ⟨q, hq, rfl⟩ := ref_at hy
  have hi : i < cs.length := by rw [← A.len]; exact (List.getElem?_eq_some_iff.mp hr).1
  have hc : cs[i]? = some cs[i] := List.getElem?_eq_getElem hi
  exact alike_plst (A.at_ i r _ hr hc) (B.at_ i q _ hq hc) (by rw [List.length_map]; have := h2 _ (List.getElem_mem hi); omega) (plain_ints _)
theorem zip60 {k n : Nat} (ns ms : List Int) (h1 : ns.length ≤ 60) (h2 : ms.length ≤ 60) : ∀ c ∈ List.zipWith (behind n) (chainsTo ns k ns.length) (chainsTo ms k ms.length), c.length ≤ 1000 := fun c hc => by
  obtain ⟨i, hi, rfl⟩ := List.getElem_of_mem hc
  rw [List.length_zipWith] at hi
  rw [List.getElem_zipWith]
  unfold behind
  rw [List.length_append, List.length_map]
  have a := chains_len (List.getElem_mem (l := chainsTo ns k ns.length) (n := i) (by omega))
  have b := chains_len (List.getElem_mem (l := chainsTo ms k ms.length) (n := i) (by omega))
  omega
def spJK (K : PySem.W.Frag) : Sp := fun vs H Q _ => ∃ (bs ll l0 l1 b0 b1 : Addr) (ns ms : List Int) (m : Int), vs = [.ref bs, .ref ll, .int m] ∧ H bs = some (.lst [.ref b0, .ref b1]) ∧ H ll = some (.lst [.ref l0, .ref l1]) ∧ H l0 = some (.lst (ns.map V.int)) ∧ H l1 = some (.lst (ms.map V.int)) ∧ BandAt K H b0 ns ∧ BandAt K H b1 ms ∧ EndsTo ns.length ns ∧ EndsTo ms.length ms ∧ ns.length + ms.length ≤ 60 ∧ 0 ≤ m ∧ m ≤ 60 ∧ ∀ H', Same H H' → Q (.bl true) H'

theorem sc__law_joined_kept : FnScope ["_law_bands", "_law_lists", "_law_many", "_law_one", "_law_two", "_law_both", "_law_at", "_law_joined", "_law_due"] ["_law_bands", "_law_lists", "_law_many"] (defScope (top 28)) := ⟨rfl, rfl, rfl, by decide +kernel, rfl, by decide +kernel, by decide +kernel⟩
theorem g__law_joined_kept (T : Tx fa fn xa fs P K mg) : FnG P w K mg base CX0 8 "_law_joined_kept" ["_law_bands", "_law_lists", "_law_many"] (spJK K) := by
  obtain ⟨fd, F⟩ := T.says.def_ 21 (d := d__law_joined_kept) rfl
  have sc := sc__law_joined_kept
  refine ⟨_, fd, T.glo 48, F.kp, F.ok sc (fun vs H Q E h => ?len) (fun cdv A outer s H vs Q E hr h => ⟨_, PSs.nox (pss_cons (ps_set (i := 3) sc.nd rfl (by first | exact Or.inl rfl | exact Or.inr rfl) (pe_cg (g__law_peeled T) (hr.mono (by decide)) rfl (pa_cons (pe_ix ix_seq (pv 1) pe_int (fun _ _ => rfl)) (pa_cons (pv 2) pa_nil))))
    (pss_cons (ps_set (i := 4) sc.nd rfl (by first | exact Or.inl rfl | exact Or.inr rfl) (pe_cg (g__law_peeled T) (hr.mono (by decide)) rfl (pa_cons (pe_ix ix_seq (pv 1) pe_int (fun _ _ => rfl)) (pa_cons (pv 2) pa_nil))))
    (pss_cons (ps_set (i := 5) sc.nd rfl (by first | exact Or.inl rfl | exact Or.inr rfl) (pe_op oAdd (pe_cg (g__law_size T) (hr.mono (by decide)) rfl (pa_cons (pv 3) pa_nil)) (pe_cg (g__law_size T) (hr.mono (by decide)) rfl (pa_cons (pv 4) pa_nil))))
    (pss_cons (ps_for PassesOwn.never rfl (pi_list (pe_lst (pa_cons pe_int (pa_cons pe_int pa_nil)))) (pg_name (i := 6) sc.nd rfl (by first | exact Or.inl rfl | exact Or.inr rfl)) (pss_cons (ps_set (i := 7) sc.nd rfl (by first | exact Or.inl rfl | exact Or.inr rfl) (pe_binS (op := .Add) (C := He.ga K "Band") (sp := (spAdd K)) (E := fun _ => _) (g_Band___add__ T) (T.self1 3) (hr.mono (by decide)) (fun σ => Passes.at_ passL σ) (pe_ix ix_seq (pv 0) (pv 6) (fun _ _ => rfl)) (pe_ix ix_seq (pv 0) (pe_op oSub pe_int (pv 6)) (fun _ _ => rfl))))
    (pss_cons (ps_set (i := 8) sc.nd rfl (by first | exact Or.inl rfl | exact Or.inr rfl) (pe_cg (g__law_behind T) (hr.mono (by decide)) rfl (pa_cons (pv 3) (pa_cons (pv 4) (pa_cons (pe_callB cLen (by rfl) (T.free 6) (by decide +kernel) (pa_cons (pe_ix ix_seq (pv 1) pe_int (fun _ _ => rfl)) pa_nil)) pa_nil)))))
    (pss_cons (ps_if (pt_cmpR op_eq (pv 6) pe_int (nomark _)) (pss_one (ps_set (i := 8) sc.nd rfl (by first | exact Or.inl rfl | exact Or.inr rfl) (pe_cg (g__law_behind T) (hr.mono (by decide)) rfl (pa_cons (pv 4) (pa_cons (pv 3) (pa_cons (pe_callB cLen (by rfl) (T.free 6) (by decide +kernel) (pa_cons (pe_ix ix_seq (pv 1) pe_int (fun _ _ => rfl)) pa_nil)) pa_nil)))))) pss_nil)
    (pss_cons (ps_if (PW.pt (pw_or (pt_not (pt_val (pe_cg (g__law_same T 3) (hr.mono (by decide)) rfl (pa_cons (pe_cgE (g_most T) (hr.mono (by decide)) rfl passL (pa_cons (pv 7) (pa_cons (pv 2) pa_nil))) (pa_cons (pv 5) pa_nil))))) (pw_or1 (pt_not (pt_val (pe_cg (g__law_same T 3) (hr.mono (by decide)) rfl (pa_cons (pe_cgE (g_chains T) (hr.mono (by decide)) rfl passL (pa_cons (pv 7) (pa_cons (pv 2) pa_nil))) (pa_cons (pv 8) pa_nil)))))))) (pss_one (ps_ret pe_bl)) pss_nil)
    (pss_cons (ps_if (pt_not (pt_val (pe_cg (g__law_same T 3) (hr.mono (by decide)) rfl (pa_cons (pe_cgE (g_most T) (hr.mono (by decide)) rfl passL (pa_cons (pe_mg0 (g_Band_mirrored T) (hr.mono (by decide)) (pv 7) ) (pa_cons (pv 2) pa_nil))) (pa_cons (pv 5) pa_nil))))) (pss_one (ps_ret pe_bl)) pss_nil)
    (pss_one (ps_if (pt_not (pt_val (pe_cg (g__law_same T 3) (hr.mono (by decide)) rfl (pa_cons (pe_cg (g_fewest T) (hr.mono (by decide)) rfl (pa_cons (pv 7) pa_nil)) (pa_cons (pe_callB (cMax2 rfl) (by rfl) (T.free 13) (by decide +kernel) (pa_cons (pe_cg (g__law_group T) (hr.mono (by decide)) rfl (pa_cons (pe_ix ix_seq (pv 1) pe_int (fun _ _ => rfl)) pa_nil)) (pa_cons (pe_cg (g__law_group T) (hr.mono (by decide)) rfl (pa_cons (pe_ix ix_seq (pv 1) pe_int (fun _ _ => rfl)) pa_nil)) pa_nil))) pa_nil))))) (pss_one (ps_ret pe_bl)) pss_nil))))))))
    (pss_cons (ps_for PassesOwn.never rfl (pi_list (pe_lst (pa_cons pe_int (pa_cons pe_int pa_nil)))) (pg_name (i := 6) sc.nd rfl (by first | exact Or.inl rfl | exact Or.inr rfl)) (pss_cons (ps_set (i := 8) sc.nd rfl (by first | exact Or.inl rfl | exact Or.inr rfl) (pe_cg (g__law_size T) (hr.mono (by decide)) rfl (pa_cons (pe_ix ix_seq (pe_lst (pa_cons (pv 3) (pa_cons (pv 4) pa_nil))) (pv 6) (fun _ _ => rfl)) pa_nil)))
    (pss_one (ps_if (PW.pt (pw_or (pt_not (pt_val (pe_cg (g__law_same T 3) (hr.mono (by decide)) rfl (pa_cons (pe_cgE (g_most T) (hr.mono (by decide)) rfl passL (pa_cons (pe_ix ix_seq (pv 0) (pv 6) (fun _ _ => rfl)) (pa_cons (pv 2) pa_nil))) (pa_cons (pv 8) pa_nil))))) (pw_or1 (pt_not (pt_val (pe_cg (g__law_same T 3) (hr.mono (by decide)) rfl (pa_cons (pe_cgE (g_most T) (hr.mono (by decide)) rfl passL (pa_cons (pe_mg0 (g_Band_mirrored T) (hr.mono (by decide)) (pe_ix ix_seq (pv 0) (pv 6) (fun _ _ => rfl)) ) (pa_cons (pv 2) pa_nil))) (pa_cons (pv 8) pa_nil)))))))) (pss_one (ps_ret pe_bl)) pss_nil))))
    (pss_cons (ps_set (i := 7) sc.nd rfl (by first | exact Or.inl rfl | exact Or.inr rfl) (pe_binS (op := .Add) (C := He.ga K "Band") (sp := (spAdd K)) (E := fun _ => _) (g_Band___add__ T) (T.self1 3) (hr.mono (by decide)) (fun σ => Passes.at_ passL σ) (pe_mg0 (g_Band_mirrored T) (hr.mono (by decide)) (pe_ix ix_seq (pv 0) pe_int (fun _ _ => rfl))) (pe_ix ix_seq (pv 0) pe_int (fun _ _ => rfl))))
    (pss_one (ps_ret (pe_cg (g__law_same T 3) (hr.mono (by decide)) rfl (pa_cons (pe_cgE (g_most T) (hr.mono (by decide)) rfl passL (pa_cons (pv 7) (pa_cons (pv 2) pa_nil))) (pa_cons (pv 5) pa_nil))))))))))), ?rd⟩), F.bindsN fun _ _ _ _ _ _ us hl => match us, hl with | [_, _, _], _ => rfl⟩
  case len =>
    obtain ⟨bs, ll, l0, l1, b0, b1, ns, ms, m, rfl, _⟩ := h
    rfl
  case rd =>
    obtain ⟨bs, ll, l0, l1, b0, b1, ns, ms, m, rfl, hbs, hll, hl0, hl1, hb0, hb1, f1, f2, le, m0, m1, hQ⟩ := h
    show tSeq _ _ ⟨_, _, _, _⟩ [some (.ref bs), some (.ref ll), some (.int m), none, none, none, none, none, none] H
    try dsimp only [cxOf]
    have cl1 := chainsTo_len ns m.toNat ns.length
    have cl2 := chainsTo_len ms m.toNat ms.length
    have c60 : ∀ c ∈ chainsTo ns m.toNat ns.length, c.length ≤ 60 := fun c hc => by have := chains_len hc; omega
    have d60 : ∀ c ∈ chainsTo ms m.toNat ms.length, c.length ≤ 60 := fun c hc => by have := chains_len hc; omega
    walk_at "rw"
    refine ⟨l0, ns, m, rfl, hl0, by omega, m0, m1, fun o r1 H1 s1 ho hr1 R1 => ?_⟩
    have hll1 := s1 _ _ hll
    walk_at "rw"
    refine ⟨l1, ms, m, rfl, s1 _ _ hl1, by omega, m0, m1, fun w r2 H2 s2 hw hr2 R2 => ?_⟩
    walk_at "rw"
    refine ⟨o, r1, _, rfl, R1.keep s2, by rw [cl1]; omega, fun H3 s3 => ?_⟩
    walk_at "rw"
    refine ⟨w, r2, _, rfl, R2.keep s3, by rw [cl2]; omega, fun H4 s4 => ?_⟩
    walk_at "rw"
    rename_i lt H5 hlt s5 hlt5
    have s25 : Same H2 H5 := (s3.trans s4).trans s5
    have s15 : Same H1 H5 := s2.trans s25
    have s05 : Same H H5 := s1.trans s15
    refine ⟨lt, rfl, ⟨_, SqL.of hlt5⟩, for_list (xs := [.int 0, .int 1]) (fun i σ H' => Same H5 H' ∧ ∃ v6 v7 v8, σ = [some (.ref bs), some (.ref ll), some (.int m), some (.ref o), some (.ref w), some (.int (size (chainsTo ns m.toNat ns.length) + size (chainsTo ms m.toNat ms.length))), v6, v7, v8]) ⟨Same.refl _, _, _, _, rfl⟩ ?_ ?_ ?_⟩
    · rintro i σ H' _ ⟨z, _⟩
      exact SqL.of (z _ _ hlt5)
    · rintro i x σ H6 hx ⟨s6, v6, v7, v8, rfl⟩
      have s06 : Same H H6 := s05.trans s6
      have s16 : Same H1 H6 := s15.trans s6
      have s26 : Same H2 H6 := s25.trans s6
      have hbs6 := s06 _ _ hbs
      have hll6 := s06 _ _ hll
      have hl06 := s06 _ _ hl0
      have hl16 := s06 _ _ hl1
      obtain ⟨dy0, ty0, hi0, _⟩ := id (hb0.keep s06)
      obtain ⟨dy1, ty1, hi1, _⟩ := id (hb1.keep s06)
      rcases i with _ | _ | i
      · cases hx
        walk_at "rw"
        refine ⟨b0, b1, ns, ms, rfl, hb0.keep s06, hb1.keep s06, f1, f2, by omega, by omega, fun _ x H7 hx7 s7 hbx => ?_, fun z => absurd z (by omega)⟩
        have jl := join_len (es := ns) (fs := ms)
        have jf := join_fit f1 f2
        have hll7 := s7 _ _ (s06 _ _ hll)
        have hl07 := s7 _ _ (s06 _ _ hl0)
        have hl17 := s7 _ _ (s06 _ _ hl1)
        obtain ⟨dx, tt, hxi, _⟩ := id hbx
        walk_at "rw"
        refine ⟨o, w, ns.length, r1, r2, _, _, rfl, R1.keep (s16.trans s7), R2.keep (s26.trans s7), by rw [cl1, cl2], by rw [cl1]; omega, c60, d60, fun dl0 rs0 H8 s8 RD0 => ?_⟩
        have hll8 := s8 _ _ hll7
        have hl08 := s8 _ _ hl07
        have hl18 := s8 _ _ hl17
        walk_at "rw"
        have RD := RD0
        have sD := s8
        refine ⟨x, _, m, rfl, hbx.keep sD, by omega, fun _ H10 s10 => ?_, fun z => absurd ⟨m0, m1⟩ z⟩
        rw [join_size f1]
        walk_at "rw"
        refine use_same (alike_int) ?_
        walk_at "rw"
        have sE := sD.trans s10
        refine ⟨x, _, m, rfl, hbx.keep sE, by omega, fun _ l3 rs3 H11 s11 _ _ R3 => ?_, fun z => absurd ⟨m0, m1⟩ z⟩
        rw [join_all f1] at R3
        walk_at "rw"
        refine use_same (alike_rows R3 ((RD.keep s10).keep s11) (by rw [List.length_zipWith, cl1, cl2]; omega) fun c hc => zip60 ns ms (by omega) (by omega) c hc) ?_
        have sF := sE.trans s11
        have hxi11 := sF _ _ hxi
        walk_at "rw"
        refine ⟨x, _, rfl, hbx.keep sF, jf, by omega, fun y H12 hy s12 hby => ?_⟩
        walk_at "rw"
        refine ⟨y, _, m, rfl, hby, by rw [mirror_len]; omega, fun _ H13 s13 => ?_, fun z => absurd ⟨m0, m1⟩ z⟩
        rw [mirror_size jf, join_size f1]
        walk_at "rw"
        refine use_same (alike_int) ?_
        have sG := (sF.trans s12).trans s13
        walk_at "rw"
        refine ⟨x, _, rfl, hbx.keep sG, by omega, fun H14 s14 => ?_⟩
        have sH := sG.trans s14
        have sI : Same H H14 := (s06.trans s7).trans sH
        have hll14 := sI _ _ hll
        walk_at "rw"
        refine ⟨l0, ns, rfl, sI _ _ hl0, f1, by omega, fun M H15 s15 GM => ?_⟩
        have hll15 := s15 _ _ hll14
        walk_at "rw"
        refine ⟨l1, ms, rfl, s15 _ _ (sI _ _ hl1), f2, by omega, fun N H16 s16 GN => ?_⟩
        rw [few_max.same (GroupMax.join f1 f2 GM GN)]
        walk_at "rw"
        refine use_same alike_int ?_
        walk_at "rw"
        exact ⟨(s6.trans s7).trans ((sH.trans s15).trans s16), _, _, _, rfl⟩
      · cases hx
        walk_at "rw"
        refine ⟨b1, b0, ms, ns, rfl, hb1.keep s06, hb0.keep s06, f2, f1, by omega, by omega, fun _ x H7 hx7 s7 hbx => ?_, fun z => absurd z (by omega)⟩
        have jl := join_len (es := ms) (fs := ns)
        have jf := join_fit f2 f1
        have hll7 := s7 _ _ (s06 _ _ hll)
        have hl07 := s7 _ _ (s06 _ _ hl0)
        have hl17 := s7 _ _ (s06 _ _ hl1)
        obtain ⟨dx, tt, hxi, _⟩ := id hbx
        walk_at "rw"
        refine ⟨o, w, ns.length, r1, r2, _, _, rfl, R1.keep (s16.trans s7), R2.keep (s26.trans s7), by rw [cl1, cl2], by rw [cl1]; omega, c60, d60, fun dl0 rs0 H8 s8 RD0 => ?_⟩
        have hll8 := s8 _ _ hll7
        have hl08 := s8 _ _ hl07
        have hl18 := s8 _ _ hl17
        walk_at "rw"
        refine ⟨w, o, ms.length, r2, r1, _, _, rfl, (R2.keep (s26.trans s7)).keep s8, (R1.keep (s16.trans s7)).keep s8, by rw [cl1, cl2], by rw [cl2]; omega, d60, c60, fun dl rs9 H9 s9 RD => ?_⟩
        have sD := s8.trans s9
        walk_at "rw"
        refine ⟨x, _, m, rfl, hbx.keep sD, by omega, fun _ H10 s10 => ?_, fun z => absurd ⟨m0, m1⟩ z⟩
        rw [join_size f2]
        walk_at "rw"
        refine use_same (by rw [Int.add_comm]; exact alike_int) ?_
        walk_at "rw"
        have sE := sD.trans s10
        refine ⟨x, _, m, rfl, hbx.keep sE, by omega, fun _ l3 rs3 H11 s11 _ _ R3 => ?_, fun z => absurd ⟨m0, m1⟩ z⟩
        rw [join_all f2] at R3
        walk_at "rw"
        refine use_same (alike_rows R3 ((RD.keep s10).keep s11) (by rw [List.length_zipWith, cl2, cl1]; omega) fun c hc => zip60 ms ns (by omega) (by omega) c hc) ?_
        have sF := sE.trans s11
        have hxi11 := sF _ _ hxi
        walk_at "rw"
        refine ⟨x, _, rfl, hbx.keep sF, jf, by omega, fun y H12 hy s12 hby => ?_⟩
        walk_at "rw"
        refine ⟨y, _, m, rfl, hby, by rw [mirror_len]; omega, fun _ H13 s13 => ?_, fun z => absurd ⟨m0, m1⟩ z⟩
        rw [mirror_size jf, join_size f2]
        walk_at "rw"
        refine use_same (by rw [Int.add_comm]; exact alike_int) ?_
        have sG := (sF.trans s12).trans s13
        walk_at "rw"
        refine ⟨x, _, rfl, hbx.keep sG, by omega, fun H14 s14 => ?_⟩
        have sH := sG.trans s14
        have sI : Same H H14 := (s06.trans s7).trans sH
        have hll14 := sI _ _ hll
        walk_at "rw"
        refine ⟨l0, ns, rfl, sI _ _ hl0, f1, by omega, fun M H15 s15 GM => ?_⟩
        have hll15 := s15 _ _ hll14
        walk_at "rw"
        refine ⟨l1, ms, rfl, s15 _ _ (sI _ _ hl1), f2, by omega, fun N H16 s16 GN => ?_⟩
        rw [few_max.same (show GroupMax (joinOf ms ns) (max M N) by rw [Int.max_comm]; exact GroupMax.join f2 f1 GN GM)]
        walk_at "rw"
        refine use_same alike_int ?_
        walk_at "rw"
        exact ⟨(s6.trans s7).trans ((sH.trans s15).trans s16), _, _, _, rfl⟩
      · cases hx
    · rintro σ H6 ⟨s6, v6, v7, v8, rfl⟩
      walk_at "rw"
      rename_i lt2 H7 hlt2 s7 hlt27
      have s57 := s6.trans s7
      clear s6 s7
      refine ⟨lt2, rfl, ⟨_, SqL.of hlt27⟩, for_list (xs := [.int 0, .int 1]) (fun i σ H' => Same H7 H' ∧ Same H5 H' ∧ ∃ v6 v7 v8, σ = [some (.ref bs), some (.ref ll), some (.int m), some (.ref o), some (.ref w), some (.int (size (chainsTo ns m.toNat ns.length) + size (chainsTo ms m.toNat ms.length))), v6, v7, v8]) ⟨Same.refl _, s57, _, _, _, rfl⟩ ?_ ?_ ?_⟩
      · rintro i σ H' _ ⟨z, _⟩
        exact SqL.of (z _ _ hlt27)
      · rintro i x σ H6 hx ⟨s76, s6, v6, v7, v8, rfl⟩
        have s06 : Same H H6 := s05.trans s6
        have s16 : Same H1 H6 := s15.trans s6
        have s26 : Same H2 H6 := s25.trans s6
        have hbs6 := s06 _ _ hbs
        have hll6 := s06 _ _ hll
        have hl06 := s06 _ _ hl0
        have hl16 := s06 _ _ hl1
        obtain ⟨dy0, ty0, hi0, _⟩ := id (hb0.keep s06)
        obtain ⟨dy1, ty1, hi1, _⟩ := id (hb1.keep s06)
        rcases i with _ | _ | i
        · cases hx
          walk_at "rw"
          rename_i pl H7 hpl s7 hpl7
          refine ⟨o, r1, _, rfl, R1.keep (s16.trans s7), by rw [cl1]; omega, fun H8 s8 => ?_⟩
          have s08 : Same H H8 := (s06.trans s7).trans s8
          have hbs8 := s08 _ _ hbs
          obtain ⟨dx, tt, hxi, _⟩ := id (hb0.keep s08)
          walk_at "rw"
          refine ⟨b0, ns, m, rfl, hb0.keep s08, by omega, fun _ H9 s9 => ?_, fun z => absurd ⟨m0, m1⟩ z⟩
          walk_at "rw"
          refine use_same alike_int ?_
          have hbs9 := s9 _ _ hbs8
          have hxi9 := s9 _ _ hxi
          walk_at "rw"
          refine ⟨b0, ns, rfl, (hb0.keep s08).keep s9, f1, by omega, fun y H10 hy s10 hby => ?_⟩
          walk_at "rw"
          refine ⟨y, _, m, rfl, hby, by rw [mirror_len]; omega, fun _ H11 s11 => ?_, fun z => absurd ⟨m0, m1⟩ z⟩
          rw [mirror_size f1]
          walk_at "rw"
          refine use_same alike_int ?_
          walk_at "rw"
          exact ⟨((((s76.trans s7).trans s8).trans s9).trans s10).trans s11, ((((s6.trans s7).trans s8).trans s9).trans s10).trans s11, _, _, _, rfl⟩
        · cases hx
          walk_at "rw"
          rename_i pl H7 hpl s7 hpl7
          refine ⟨w, r2, _, rfl, R2.keep (s26.trans s7), by rw [cl2]; omega, fun H8 s8 => ?_⟩
          have s08 : Same H H8 := (s06.trans s7).trans s8
          have hbs8 := s08 _ _ hbs
          obtain ⟨dx, tt, hxi, _⟩ := id (hb1.keep s08)
          walk_at "rw"
          refine ⟨b1, ms, m, rfl, hb1.keep s08, by omega, fun _ H9 s9 => ?_, fun z => absurd ⟨m0, m1⟩ z⟩
          walk_at "rw"
          refine use_same alike_int ?_
          have hbs9 := s9 _ _ hbs8
          have hxi9 := s9 _ _ hxi
          walk_at "rw"
          refine ⟨b1, ms, rfl, (hb1.keep s08).keep s9, f2, by omega, fun y H10 hy s10 hby => ?_⟩
          walk_at "rw"
          refine ⟨y, _, m, rfl, hby, by rw [mirror_len]; omega, fun _ H11 s11 => ?_, fun z => absurd ⟨m0, m1⟩ z⟩
          rw [mirror_size f2]
          walk_at "rw"
          refine use_same alike_int ?_
          walk_at "rw"
          exact ⟨((((s76.trans s7).trans s8).trans s9).trans s10).trans s11, ((((s6.trans s7).trans s8).trans s9).trans s10).trans s11, _, _, _, rfl⟩
        · cases hx
      · rintro σ H6 ⟨s76, s6, v6, v7, v8, rfl⟩
        have s06 : Same H H6 := s05.trans s6
        have hbs6 := s06 _ _ hbs
        obtain ⟨dy0, ty0, hi0, _⟩ := id (hb0.keep s06)
        walk_at "rw"
        refine ⟨b0, ns, rfl, hb0.keep s06, f1, by omega, fun y H8 hy s8 hby => ?_⟩
        have s08 := s06.trans s8
        have hbs8 := s08 _ _ hbs
        obtain ⟨dz, tz, hiy, _⟩ := id hby
        obtain ⟨dz1, tz1, hi1, _⟩ := id (hb1.keep s08)
        have ml := mirror_len (es := ns)
        walk_at "rw"
        refine ⟨y, b1, _, ms, rfl, hby, hb1.keep s08, mirror_fit f1, f2, by omega, by omega, fun _ x H9 hx s9 hbx => ?_, fun z => absurd z (by omega)⟩
        walk_at "rw"
        refine ⟨x, _, m, rfl, hbx, by rw [join_len]; omega, fun _ H10 s10 => ?_, fun z => absurd ⟨m0, m1⟩ z⟩
        rw [join_size (mirror_fit f1), mirror_size f1]
        walk_at "rw"
        refine use_same alike_int ?_
        exact hQ _ ((s08.trans s9).trans s10)

end
end My
namespace My
open PySem PySem.Spec PyProof.Rows L2 Rd
section
variable {P : Program} {w : World} {K : PySem.W.Frag} {mg : Str → Option Value} {base : Heap}
open BandM
def spPsK (K : PySem.W.Frag) : Sp := fun vs H Q _ => ∃ (bn e bd : Addr) (ns : List Int) (m lo hi cut : Int), vs = [.ref bn, .ref e, .int m, .ref bd] ∧ BandAt K H bn ns ∧ H e = some (.lst (ns.map V.int)) ∧ H bd = some (.lst [.int lo, .int hi, .int cut]) ∧ EndsTo ns.length ns ∧ ns.length ≤ 60 ∧ 0 ≤ m ∧ m ≤ 60 ∧ 0 ≤ lo ∧ lo ≤ hi ∧ hi ≤ ns.length ∧ 0 ≤ cut ∧ cut ≤ ns.length ∧ ∀ H', Same H H' → Q (.bl true) H'

theorem sc__law_parts_kept : FnScope ["_law_band", "_law_ends_here", "_law_many", "_law_bounds", "_law_low", "_law_high", "_law_cut", "_law_whole", "_law_part", "_law_left", "_law_right"] ["_law_band", "_law_ends_here", "_law_many", "_law_bounds"] (defScope (top 29)) := ⟨rfl, rfl, rfl, by decide +kernel, rfl, by decide +kernel, by decide +kernel⟩
theorem g__law_parts_kept (T : Tx fa fn xa fs P K mg) : FnG P w K mg base CX0 8 "_law_parts_kept" ["_law_band", "_law_ends_here", "_law_many", "_law_bounds"] (spPsK K) := by
  obtain ⟨fd, F⟩ := T.says.def_ 22 (d := d__law_parts_kept) rfl
  have sc := sc__law_parts_kept
  refine ⟨_, fd, T.glo 49, F.kp, F.ok sc (fun vs H Q E h => ?len) (fun cdv A outer s H vs Q E hr h => ⟨_, PSs.nox (pss_cons (ps_asg (pv 3) (pg_unl (n := 3) rfl (pgs_cons (pg_name (i := 4) sc.nd rfl (by first | exact Or.inl rfl | exact Or.inr rfl)) (pgs_cons (pg_name (i := 5) sc.nd rfl (by first | exact Or.inl rfl | exact Or.inr rfl)) (pgs_cons (pg_name (i := 6) sc.nd rfl (by first | exact Or.inl rfl | exact Or.inr rfl)) pgs_nil)))))
    (pss_cons (ps_set (i := 7) sc.nd rfl (by first | exact Or.inl rfl | exact Or.inr rfl) (pe_cg (g__law_size T) (hr.mono (by decide)) rfl (pa_cons (pe_cg (g__law_peeled T) (hr.mono (by decide)) rfl (pa_cons (pv 1) (pa_cons (pv 2) pa_nil))) pa_nil)))
    (pss_cons (ps_set (i := 8) sc.nd rfl (by first | exact Or.inl rfl | exact Or.inr rfl) (pe_mgE (g_Band_part T) (hr.mono (by decide)) passL (pv 0) (pa_cons (pv 4) (pa_cons (pv 5) pa_nil))))
    (pss_cons (ps_if (pt_not (pt_val (pe_cg (g__law_between T) (hr.mono (by decide)) rfl (pa_cons (pe_cgE (g_most T) (hr.mono (by decide)) rfl passL (pa_cons (pv 8) (pa_cons (pv 2) pa_nil))) (pa_cons (pe_op oSub (pv 7) (pe_op oSub (pe_callB cLen (by rfl) (T.free 6) (by decide +kernel) (pa_cons (pv 1) pa_nil)) (pe_op oSub (pv 5) (pv 4)))) (pa_cons (pv 7) pa_nil)))))) (pss_one (ps_ret pe_bl)) pss_nil)
    (pss_cons (ps_if (pt_not (pt_val (pe_cg (g__law_between T) (hr.mono (by decide)) rfl (pa_cons (pe_cg (g_fewest T) (hr.mono (by decide)) rfl (pa_cons (pv 8) pa_nil)) (pa_cons pe_int (pa_cons (pe_cg (g__law_group T) (hr.mono (by decide)) rfl (pa_cons (pv 1) pa_nil)) pa_nil)))))) (pss_one (ps_ret pe_bl)) pss_nil)
    (pss_cons (ps_set (i := 9) sc.nd rfl (by first | exact Or.inl rfl | exact Or.inr rfl) (pe_cgE (g_most T) (hr.mono (by decide)) rfl passL (pa_cons (pe_mgE (g_Band_part T) (hr.mono (by decide)) passL (pv 0) (pa_cons pe_int (pa_cons (pv 6) pa_nil))) (pa_cons (pv 2) pa_nil))))
    (pss_cons (ps_set (i := 10) sc.nd rfl (by first | exact Or.inl rfl | exact Or.inr rfl) (pe_cgE (g_most T) (hr.mono (by decide)) rfl passL (pa_cons (pe_mgE (g_Band_part T) (hr.mono (by decide)) passL (pv 0) (pa_cons (pv 6) (pa_cons (pe_callB cLen (by rfl) (T.free 6) (by decide +kernel) (pa_cons (pv 1) pa_nil)) pa_nil))) (pa_cons (pv 2) pa_nil))))
    (pss_cons (ps_if (PW.pt (pw_or (pt_not (pt_val (pe_cg (g__law_between T) (hr.mono (by decide)) rfl (pa_cons (pv 9) (pa_cons pe_int (pa_cons (pv 7) pa_nil)))))) (pw_or (pt_not (pt_val (pe_cg (g__law_between T) (hr.mono (by decide)) rfl (pa_cons (pv 10) (pa_cons pe_int (pa_cons (pv 7) pa_nil)))))) (pw_or1 (pt_cmpR oLt (pe_op oAdd (pv 9) (pv 10)) (pv 7) (nomark _)))))) (pss_one (ps_ret pe_bl)) pss_nil)
    (pss_one (ps_ret (pe_cg (g__law_same T 3) (hr.mono (by decide)) rfl (pa_cons (pe_cg (g_fewest T) (hr.mono (by decide)) rfl (pa_cons (pe_mg0 (g_Band_mirrored T) (hr.mono (by decide)) (pv 0) ) pa_nil)) (pa_cons (pe_cg (g__law_group T) (hr.mono (by decide)) rfl (pa_cons (pv 1) pa_nil)) pa_nil))))))))))))), ?rd⟩), F.bindsN fun _ _ _ _ _ _ us hl => match us, hl with | [_, _, _, _], _ => rfl⟩
  case len =>
    obtain ⟨bn, e, bd, ns, m, lo, hi, cut, rfl, _⟩ := h
    rfl
  case rd =>
    obtain ⟨bn, e, bd, ns, m, lo, hi, cut, rfl, hb, he, hbd, hE, n60, m0, m1, lo0, lohi, hin, cut0, cutn, hQ⟩ := h
    show tSeq _ _ ⟨_, _, _, _⟩ [some (.ref bn), some (.ref e), some (.int m), some (.ref bd), none, none, none, none, none, none, none] H
    try dsimp only [cxOf]
    have cl1 := chainsTo_len ns m.toNat ns.length
    obtain ⟨dx, tt, hbi, _⟩ := id hb
    have P1 := part_len (es := ns) (lo := lo.toNat) (hi := hi.toNat) (by omega)
    have P2 := part_len (es := ns) (lo := (0 : Int).toNat) (hi := cut.toNat) (by omega)
    have P3 := part_len (es := ns) (lo := cut.toNat) (hi := (ns.length : Int).toNat) (by omega)
    have up1 := part_up (k := m.toNat) (lo := lo.toNat) (hi := hi.toNat) hE (by omega) (by omega)
    have dn1 := part_most (k := m.toNat) (lo := lo.toNat) (hi := hi.toNat) hE (by omega) (by omega)
    have up2 := part_up (k := m.toNat) (lo := (0 : Int).toNat) (hi := cut.toNat) hE (by omega) (by omega)
    have up3 := part_up (k := m.toNat) (lo := cut.toNat) (hi := (ns.length : Int).toNat) hE (by omega) (by omega)
    have two := part_two (k := m.toNat) (cut := cut.toNat) hE (by omega)
    have sz : ∀ cs : List (List Int), 0 ≤ size cs := fun cs => by rw [size_flat]; omega
    have z2 := sz (chainsTo (partOf ns (0 : Int).toNat cut.toNat) m.toNat (partOf ns (0 : Int).toNat cut.toNat).length)
    have z3 := sz (chainsTo (partOf ns cut.toNat (ns.length : Int).toNat) m.toNat (partOf ns cut.toNat (ns.length : Int).toNat).length)
    rw [show ((lo.toNat : Nat) : Int) = lo by omega, show ((hi.toNat : Nat) : Int) = hi by omega] at dn1
    have nl : (ns.length : Int).toNat = ns.length := by omega
    have t2 : size (chainsTo ns m.toNat ns.length) ≤ size (chainsTo (partOf ns (0 : Int).toNat cut.toNat) m.toNat (partOf ns (0 : Int).toNat cut.toNat).length) + size (chainsTo (partOf ns cut.toNat (ns.length : Int).toNat) m.toNat (partOf ns cut.toNat (ns.length : Int).toNat).length) := by rw [nl]; exact two
    walk_at "rw"
    refine ⟨e, ns, m, rfl, he, n60, m0, m1, fun o r1 H1 s1 ho hr1 R1 => ?_⟩
    walk_at "rw"
    refine ⟨o, r1, _, rfl, R1, by rw [cl1]; omega, fun H2 s2 => ?_⟩
    have s02 := s1.trans s2
    have hbi2 := s02 _ _ hbi
    walk_at "rw"
    refine ⟨bn, ns, lo, hi, rfl, hb.keep s02, hE, n60, fun _ _ _ x H3 hx s3 hbx => ?_, fun z => absurd ⟨lo0, by omega⟩ z, fun _ z => absurd ⟨lohi, hin⟩ z⟩
    have s03 := s02.trans s3
    have he3 := s03 _ _ he
    walk_at "rw"
    refine ⟨x, _, m, rfl, hbx, by omega, fun _ H4 s4 => ?_, fun z => absurd ⟨m0, m1⟩ z⟩
    have s04 := s03.trans s4
    have he4 := s04 _ _ he
    walk_at "rw"
    refine ⟨_, _, _, rfl, by omega, up1, ?_⟩
    walk_at "rw"
    refine ⟨x, _, rfl, hbx.keep s4, by omega, fun H5 s5 => ?_⟩
    walk_at "rw"
    refine ⟨e, ns, rfl, s5 _ _ he4, hE, n60, fun M H6 s6 GM => ?_⟩
    have gp := GM.part (lo := lo.toNat) (hi := hi.toNat) hE (by omega) (by omega) few_max
    walk_at "rw"
    refine ⟨_, _, _, rfl, gp.1, gp.2, ?_⟩
    have s06 := (s04.trans s5).trans s6
    have hbi6 := s06 _ _ hbi
    walk_at "rw"
    refine ⟨bn, ns, _, _, rfl, hb.keep s06, hE, n60, fun _ _ _ y H7 hy s7 hby => ?_, fun z => absurd ⟨by omega, by omega⟩ z, fun _ z => absurd ⟨by omega, by omega⟩ z⟩
    walk_at "rw"
    refine ⟨y, _, m, rfl, hby, by omega, fun _ H8 s8 => ?_, fun z => absurd ⟨m0, m1⟩ z⟩
    have s08 := (s06.trans s7).trans s8
    have hbi8 := s08 _ _ hbi
    have he8 := s08 _ _ he
    walk_at "rw"
    refine ⟨bn, ns, _, _, rfl, hb.keep s08, hE, n60, fun _ _ _ u H9 hu s9 hbu => ?_, fun z => absurd ⟨by omega, by omega⟩ z, fun _ z => absurd ⟨by omega, by omega⟩ z⟩
    walk_at "rw"
    refine ⟨u, _, m, rfl, hbu, by omega, fun _ H10 s10 => ?_, fun z => absurd ⟨m0, m1⟩ z⟩
    have s010 := (s08.trans s9).trans s10
    have hbi10 := s010 _ _ hbi
    have he10 := s010 _ _ he
    walk_at "rw"
    refine ⟨_, _, _, rfl, z2, up2, ?_⟩
    walk_at "rw"
    refine ⟨_, _, _, rfl, z3, up3, ?_⟩
    walk_at "rw"
    refine ⟨bn, ns, rfl, hb.keep s010, hE, n60, fun v H11 hv s11 hbv => ?_⟩
    have s011 := s010.trans s11
    walk_at "rw"
    refine ⟨v, _, rfl, hbv, by rw [mirror_len]; exact n60, fun H12 s12 => ?_⟩
    walk_at "rw"
    refine ⟨e, ns, rfl, s12 _ _ (s011 _ _ he), hE, n60, fun N H13 s13 GN => ?_⟩
    rw [few_max.same (GN.mirror hE)]
    walk_at "rw"
    refine use_same alike_int ?_
    exact hQ _ ((s011.trans s12).trans s13)

end
end My
namespace My
open PySem PySem.Spec PyProof.Rows L2 Rd
section
variable {P : Program} {w : World} {K : PySem.W.Frag} {mg : Str → Option Value} {base : Heap}
open BandM
def spLaw (K : PySem.W.Frag) : Sp := fun vs H Q _ => ∃ (a : Addr) (ns : List Int), vs = [.ref a] ∧ ns.length ≤ 63 ∧ SqL K H a (ns.map V.int) ∧ ∀ H', Q (.bl true) H'
theorem sc_law : FnScope ["_law_script", "_law_pool_here", "_law_counts", "_law_lists", "_law_bands", "_law_first", "_law_second", "_law_low", "_law_high", "_law_cut", "_law_many"] ["_law_script"] (defScope (top 30)) := ⟨rfl, rfl, rfl, by decide +kernel, rfl, by decide +kernel, by decide +kernel⟩
theorem ok_law (T : Tx fa fn xa fs P K mg) {f : Addr} {fd : FuncData} (F : FunD K "law" "law" (defArgs (top 30)) (defBody (top 30)) (defScope (top 30)) [] [] f fd) : FnOk P w K mg base CX0 9 f fd ["_law_script"] (spLaw K) := by
  have sc := sc_law
  refine F.ok sc (fun vs H Q E h => ?len) (fun cdv A outer s H vs Q E hr h => ⟨_, PSs.nox (pss_cons (ps_set (i := 1) sc.nd rfl (by first | exact Or.inl rfl | exact Or.inr rfl) (pe_cg (g__law_pool T) (hr.mono (by decide)) rfl (pa_cons (pv 0) pa_nil)))
    (pss_cons (ps_set (i := 2) sc.nd rfl (by first | exact Or.inl rfl | exact Or.inr rfl) (pe_lst (pa_cons (pe_cg (g__law_take T) (hr.mono (by decide)) rfl (pa_cons (pv 1) (pa_cons pe_int pa_nil))) (pa_cons (pe_cg (g__law_take T) (hr.mono (by decide)) rfl (pa_cons (pv 1) (pa_cons pe_int pa_nil))) pa_nil))))
    (C8.pss_cut (ps_if (pt_cmpR op_eq (pe_cg (g__law_take T) (hr.mono (by decide)) rfl (pa_cons (pv 1) (pa_cons pe_int pa_nil))) pe_int (nomark _)) (pss_cons (ps_asg (pe_cg (g__law_take T) (hr.mono (by decide)) rfl (pa_cons (pv 1) (pa_cons pe_int pa_nil))) (pg_sub (pv 2) pe_int set_list))
    (pss_one (ps_asg (pe_cg (g__law_take T) (hr.mono (by decide)) rfl (pa_cons (pv 1) (pa_cons (pe_op oSub pe_int (pe_ix ix_seq (pv 2) pe_int (fun _ _ => rfl))) pa_nil))) (pg_sub (pv 2) pe_int set_list)))) pss_nil)
    (pss_cons (ps_set (i := 3) sc.nd rfl (by first | exact Or.inl rfl | exact Or.inr rfl) (pe_lst (pa_cons (pe_cg (g__law_ends T) (hr.mono (by decide)) rfl (pa_cons (pv 1) (pa_cons (pe_ix ix_seq (pv 2) pe_int (fun _ _ => rfl)) pa_nil))) (pa_cons (pe_cg (g__law_ends T) (hr.mono (by decide)) rfl (pa_cons (pv 1) (pa_cons (pe_ix ix_seq (pv 2) pe_int (fun _ _ => rfl)) pa_nil))) pa_nil))))
    (pss_cons (ps_set (i := 4) sc.nd rfl (by first | exact Or.inl rfl | exact Or.inr rfl) (pe_lst (pa_cons (pe_mkE (mk_Band T) (hr.mono (by decide)) rfl passL (pa_cons (pe_callTy cList (by rfl) (T.free 4) (by decide +kernel) (pa_cons (pe_ix ix_seq (pv 3) pe_int (fun _ _ => rfl)) pa_nil)) pa_nil)) (pa_cons (pe_mkE (mk_Band T) (hr.mono (by decide)) rfl passL (pa_cons (pe_callTy cList (by rfl) (T.free 4) (by decide +kernel) (pa_cons (pe_ix ix_seq (pv 3) pe_int (fun _ _ => rfl)) pa_nil)) pa_nil)) pa_nil))))
    (pss_cons (ps_set (i := 5) sc.nd rfl (by first | exact Or.inl rfl | exact Or.inr rfl) (pe_cg (g__law_take T) (hr.mono (by decide)) rfl (pa_cons (pv 1) (pa_cons pe_int pa_nil))))
    (C8.pss_cut (ps_if (pt_cmpR op_eq (pe_cg (g__law_take T) (hr.mono (by decide)) rfl (pa_cons (pv 1) (pa_cons pe_int pa_nil))) pe_int (nomark _)) (pss_one (ps_set (i := 5) sc.nd rfl (by first | exact Or.inl rfl | exact Or.inr rfl) (pe_cg (g__law_take T) (hr.mono (by decide)) rfl (pa_cons (pv 1) (pa_cons pe_int pa_nil))))) pss_nil)
    (pss_cons (ps_set (i := 6) sc.nd rfl (by first | exact Or.inl rfl | exact Or.inr rfl) (pe_op oAdd pe_int (pe_cg (g__law_take T) (hr.mono (by decide)) rfl (pa_cons (pv 1) (pa_cons pe_int pa_nil)))))
    (pss_cons (ps_set (i := 7) sc.nd rfl (by first | exact Or.inl rfl | exact Or.inr rfl) (pe_cg (g__law_take T) (hr.mono (by decide)) rfl (pa_cons (pv 1) (pa_cons (pe_op oAdd (pe_ix ix_seq (pv 2) pe_int (fun _ _ => rfl)) pe_int) pa_nil))))
    (pss_cons (ps_set (i := 8) sc.nd rfl (by first | exact Or.inl rfl | exact Or.inr rfl) (pe_op oAdd (pv 7) (pe_cg (g__law_take T) (hr.mono (by decide)) rfl (pa_cons (pv 1) (pa_cons (pe_op oAdd (pe_op oSub (pe_ix ix_seq (pv 2) pe_int (fun _ _ => rfl)) (pv 7)) pe_int) pa_nil)))))
    (pss_cons (ps_set (i := 9) sc.nd rfl (by first | exact Or.inl rfl | exact Or.inr rfl) (pe_cg (g__law_take T) (hr.mono (by decide)) rfl (pa_cons (pv 1) (pa_cons (pe_op oAdd (pe_ix ix_seq (pv 2) pe_int (fun _ _ => rfl)) pe_int) pa_nil))))
    (pss_cons (ps_for PassesOwn.never rfl (pi_list (pe_lst (pa_cons (pv 5) (pa_cons (pv 6) pa_nil)))) (pg_name (i := 10) sc.nd rfl (by first | exact Or.inl rfl | exact Or.inr rfl)) (pss_cons (ps_if (pt_not (pt_val (pe_cg (g__law_joined_kept T) (hr.mono (by decide)) rfl (pa_cons (pv 4) (pa_cons (pv 3) (pa_cons (pv 10) pa_nil)))))) (pss_one (ps_ret pe_bl)) pss_nil)
    (pss_one (ps_if (pt_not (pt_val (pe_cg (g__law_parts_kept T) (hr.mono (by decide)) rfl (pa_cons (pe_ix ix_seq (pv 4) pe_int (fun _ _ => rfl)) (pa_cons (pe_ix ix_seq (pv 3) pe_int (fun _ _ => rfl)) (pa_cons (pv 10) (pa_cons (pe_lst (pa_cons (pv 7) (pa_cons (pv 8) (pa_cons (pv 9) pa_nil)))) pa_nil))))))) (pss_one (ps_ret pe_bl)) pss_nil))))
    (pss_one (ps_ret (pe_and (pe_cg (g__law_same T 3) (hr.mono (by decide)) rfl (pa_cons (pe_fld (pe_ix ix_seq (pv 4) pe_int (fun _ _ => rfl)) rfl) (pa_cons (pe_callTy cTuple (by rfl) (T.free 9) (by decide +kernel) (pa_cons (pe_ix ix_seq (pv 3) pe_int (fun _ _ => rfl)) pa_nil)) pa_nil))) (pe_one (pe_cg (g__law_same T 3) (hr.mono (by decide)) rfl (pa_cons (pe_fld (pe_ix ix_seq (pv 4) pe_int (fun _ _ => rfl)) rfl) (pa_cons (pe_callTy cTuple (by rfl) (T.free 9) (by decide +kernel) (pa_cons (pe_ix ix_seq (pv 3) pe_int (fun _ _ => rfl)) pa_nil)) pa_nil))))))))))))))))))), ?rd⟩)
  case len =>
    obtain ⟨a, ns, rfl, _⟩ := h
    rfl
  case rd =>
    obtain ⟨a, is, rfl, _, hs, hQ⟩ := h
    have hcl_Band : Cls K (He.ga K "Band") := T.cls 25
    have hn_Band_ends : NoAttr K (He.ga K "Band") "ends" := T.noat 26
    show tSeq _ _ ⟨_, _, _, _⟩ [some (.ref a), none, none, none, none, none, none, none, none, none, none] H
    try dsimp only [cxOf]
    walk_at "rd"
    refine ⟨a, is, rfl, hs, fun p H0 hp0 hk hp1 => ?_⟩
    walk_at "rw"
    rename_i c0 H1 c00 c01 hd1 d0 H2 d00 d01 hd2 cl H3 hcl s3 hcl3
    have clp : cl ≠ p := ne_pool hd2.pool hcl
    have hp3 : PoolAt H3 p := hd2.pool.keep s3
    refine w_cut (fun σ' H' => ∃ (c d : Int), 0 ≤ c ∧ 0 ≤ d ∧ c + d ≤ 60 ∧ H' cl = some (.lst [.int c, .int d]) ∧ PoolAt H' p ∧ σ' = [some (.ref a), some (.ref p), some (.ref cl), none, none, none, none, none, none, none, none]) ?_ ?_
    · clear hd1 hd2 s3
      walk_at "rw"
      · rename_i k H5 k0 k1 hd5 hc x H6 x0 x1 hd6
        have hpU : PoolAt (upd H6 cl (.lst ([.int c0, .int d0].set (Int.toNat 0) (.int x)))) p := hd6.pool.ints clp [x, d0]
        refine use_take hpU (by omega) (small_of (by omega)) fun y H7 y0 y1 hd7 => ?_
        have hcl7 : H7 cl = some (.lst [.int x, .int d0]) := hd7.lst clp upd_same
        walk_at "rw"
        exact ⟨x, y, by omega, by omega, by omega, upd_same, hd7.pool.ints clp [x, y], rfl⟩
      · rename_i k H5 k0 k1 hd5 hc
        exact ⟨c0, d0, by omega, by omega, by omega, hd5.lst clp hcl3, hd5.pool, rfl⟩
    rintro σ' H4 ⟨c, d, cc0, dd0, cd, hcl4, hp4, rfl⟩
    clear hd1 hd2 s3 hcl3 hp3 hcl
    walk_at "rw"
    refine ⟨p, c, rfl, by omega, by omega, hp4, fun l0 ns H7 hl0N hf1 hl07 hd7 => ?_⟩
    have l0p : l0 ≠ p := ne_pool hp4 hl0N
    have nl := hf1.len
    have hcl7 := hd7.lst clp hcl4
    walk_at "rw"
    refine ⟨p, d, rfl, by omega, by omega, hd7.pool, fun l1 ms H8 hl1N hf2 hl18 hd8 => ?_⟩
    have l1p : l1 ≠ p := ne_pool hd7.pool hl1N
    have ml := hf2.len
    have hcl8 := hd8.lst clp hcl7
    have hl08 := hd8.lst l0p hl07
    have hp8 := hd8.pool
    have fit1 : FitEnds ns.length ns := hf1.len.symm ▸ hf1
    have fit2 : FitEnds ms.length ms := hf2.len.symm ▸ hf2
    have f1 := fit1.all
    have f2 := fit2.all
    clear hd7 hd8 hl07 hcl7 hl0N hl1N hcl4 hp4
    walk_at "rw"
    rename_i ll H9 hllN s9 hll9 q1 G1 hq1 g1 hq11
    have llp : ll ≠ p := ne_pool hp8 hllN
    refine use_band (.inl hq11) (by omega) fit1 fun b0 G2 hb0N g2 hb0 => ?_
    have sB : Same H8 G2 := (s9.trans g1).trans g2
    have hllG2 := g2 _ _ (g1 _ _ hll9)
    have hl1G2 := sB _ _ hl18
    walk_at "rw"
    rename_i q2 G3 hq2 g3 hq23
    refine use_band (.inl hq23) (by omega) fit2 fun b1 G4 hb1N g4 hb1 => ?_
    have hp4 : PoolAt G4 p := hp8.keep ((sB.trans g3).trans g4)
    walk_at "rw"
    rename_i bs G5 hbsN g5 hbs5 fi G6 fi0 fi1 hd6
    have bsp : bs ≠ p := ne_pool hp4 hbsN
    have sC : Same H8 G5 := ((sB.trans g3).trans g4).trans g5
    have hb05 : BandAt K G5 b0 ns := ((hb0.keep g3).keep g4).keep g5
    have hb15 : BandAt K G5 b1 ms := hb1.keep g5
    have hll5 : G5 ll = some (.lst [.ref l0, .ref l1]) := (((g1.trans g2).trans g3).trans (g4.trans g5)) _ _ hll9
    have hcl5 := sC _ _ hcl8
    have hl05 := sC _ _ hl08
    have hl15 := sC _ _ hl18
    have hp5 : PoolAt G5 p := hp8.keep sC
    refine w_cut (fun σ' H' => ∃ fi : Int, 0 ≤ fi ∧ fi ≤ 60 ∧ Drawn p G5 H' ∧ σ' = [some (.ref a), some (.ref p), some (.ref cl), some (.ref ll), some (.ref bs), some (.int fi), none, none, none, none, none]) ?_ ?_
    · walk_at "rw"
      all_goals (refine' ⟨_, ?ea, ?eb, ?ed, rfl⟩; (case ea => omega); (case eb => omega); (case ed => walk_at "drawn"))
    clear fi0 fi1 hd6
    clear fi
    rintro σ' G7 ⟨fi, fi0, fi1, d7, rfl⟩
    have hcl7 := d7.lst clp hcl5
    have hp7 := d7.pool
    walk_at "rw"
    rename_i se G8 se0 se1 hd8 lo G9 lo0 lo1 hd9 hi G10 hi0 hi1 hd10 cu G11 cu0 cu1 hd11 lm G12 hlm s12 hlm12
    have d12 : Drawn p G5 G12 := ((((d7.trans hd8).trans hd9).trans hd10).trans hd11).same s12
    have lmp : lm ≠ p := ne_pool hd11.pool hlm
    clear hd8 hd9 hd10 hd11 s12 d7 hp7 hcl7
    have mm : ∀ (i : Nat) (x : V), ([.int fi, .int (1 + se)] : List V)[i]? = some x → ∃ m : Int, x = .int m ∧ 0 ≤ m ∧ m ≤ 60 := fun i x hx => by
      rcases i with _ | _ | i
      · cases hx; exact ⟨fi, rfl, fi0, fi1⟩
      · cases hx; exact ⟨1 + se, rfl, by omega, by omega⟩
      · cases hx
    refine ⟨lm, rfl, ⟨_, SqL.of hlm12⟩, for_list (xs := [.int fi, .int (1 + se)]) (fun i σ H' => Same G12 H' ∧ ∃ v1, σ = [some (.ref a), some (.ref p), some (.ref cl), some (.ref ll), some (.ref bs), some (.int fi), some (.int (1 + se)), some (.int lo), some (.int (lo + hi)), some (.int cu), v1]) ⟨Same.refl _, _, rfl⟩ ?_ ?_ ?_⟩
    · rintro i σ H' _ ⟨z, _⟩
      exact SqL.of (z _ _ hlm12)
    · rintro i x σ G13 hx ⟨s13, v1, rfl⟩
      obtain ⟨m, rfl, m0, m1⟩ := mm i x hx
      have hll13 := s13 _ _ (d12.lst llp hll5)
      have hbs13 := s13 _ _ (d12.lst bsp hbs5)
      have hl013 := s13 _ _ (d12.lst l0p hl05)
      have hl113 := s13 _ _ (d12.lst l1p hl15)
      have hb013 := (hb05.drawn d12).keep s13
      have hb113 := (hb15.drawn d12).keep s13
      walk_at "rw"
      refine ⟨bs, ll, l0, l1, b0, b1, ns, ms, m, rfl, hbs13, hll13, hl013, hl113, hb013, hb113, f1, f2, by omega, m0, m1, fun G14 s14 => ?_⟩
      have hbs14 := s14 _ _ hbs13
      have hll14 := s14 _ _ hll13
      walk_at "rw"
      rename_i bd G15 hbd s15 hbd15
      have s1315 := s14.trans s15
      refine ⟨b0, l0, bd, ns, m, _, _, _, rfl, hb013.keep s1315, s1315 _ _ hl013, hbd15, f1, by omega, m0, m1, by omega, by omega, by omega, by omega, by omega, fun G16 s16 => ?_⟩
      walk_at "rw"
      exact ⟨(s13.trans s1315).trans s16, _, rfl⟩
    · rintro σ G13 ⟨s13, v1, rfl⟩
      have hll13 := s13 _ _ (d12.lst llp hll5)
      have hbs13 := s13 _ _ (d12.lst bsp hbs5)
      have hl013 := s13 _ _ (d12.lst l0p hl05)
      have hl113 := s13 _ _ (d12.lst l1p hl15)
      obtain ⟨dx, t, hA, hT⟩ := (hb05.drawn d12).keep s13
      obtain ⟨dx2, t2, hA2, hT2⟩ := (hb15.drawn d12).keep s13
      walk_at "rw"
      rename_i q5 K1 hq5 k1 hq51
      refine use_same (alike_ptup (k1 _ _ hT) hq51 (by rw [List.length_map]; omega) (plain_ints ns)) ?_
      walk_at "rw"
      rename_i q6 K2 hq6 k2 hq62
      refine use_same (alike_ptup (k2 _ _ (k1 _ _ hT2)) hq62 (by rw [List.length_map]; omega) (plain_ints ms)) ?_
      exact hQ _

end
end My
namespace My
open PySem PySem.Spec PyProof.Rows L2 Rd
theorem facts {P : Program} {w : World} {K : PySem.W.Frag} {h : Heap} {mg : Str → Option Value} {f : Addr} (X : K.In h) (G : h.Ns mainGlobals mg) (hfa : mg ("law" : Str) = some (.ref f)) (c : SaysE fa fn xa fs K) (hfile : ((P.main.file : Str) == ("/claim/cut.py" : Str)) = true) (hno : (P.main.scope.names.lookup ("super" : Str)).isSome = false) :
    ∃ fd : FuncData, (∀ (s : Shared) (v : Value), BindsTo s fd ⟨[v], []⟩ [("_law_script", v)]) ∧ ∀ base : Heap, K.In base → base.Ns mainGlobals mg → FnOk P w K mg base CX0 9 f fd ["_law_script"] (spLaw K) := by
  obtain ⟨fd, F⟩ := c.base.def_ 23 (d := d_law) rfl
  have e := hfa.symm.trans (He.glo_ok X G (c.base.fact 50 (f := .glo "law") rfl))
  cases e
  have b := FunD.bindsA (ps := ["_law_script"]) F fun _ _ _ _ _ _ us hl => match us, hl with | [_], _ => rfl
  exact ⟨fd, fun s v => b s [v] rfl, fun base _ _ => ok_law ⟨c, ⟨h, X, G⟩, hfile, hno⟩ F⟩
end My
open PySem PySem.W PySem.Calls PyProof.Rows
set_option maxHeartbeats 0 in
theorem PySem.Challenge.cw_barbreaks_k48_bands_joined_holds : PySem.Challenge.rw_barbreaks_k48_bands_joined.Holds := by
  w_on; o_law
  refine HandSHeadRun.head_any (r := OpenLaw.row PySem.Challenge.rw_barbreaks_k48_bands_joined) (q := view (OpenLaw.row PySem.Challenge.rw_barbreaks_k48_bands_joined).prog [30]) (H := My.hk) (ob := My.ob) (M := 6000) (loose := My.names) (d := HandSHeadRun.topDef (OpenLaw.row PySem.Challenge.rw_barbreaks_k48_bands_joined).prog 30) (kwd := []) My.ob_eq
    (by kernel_rfl) (fun s => by kernel_rfl) My.run (by kernel_rfl) (by kernel_rfl) (by kernel_rfl) (by rfl) (by first | assumption | decide +kernel) (by decide +kernel) ⟨rfl, rfl, rfl, rfl, rfl, by decide +kernel⟩ ?hw ?hc
  case hw => w_witness2
  case hc =>
    refine L2.walk_ofE (l := PySem.Challenge.rw_barbreaks_k48_bands_joined) (n := 63) (k := 9) (x := "_law_script") (CX := L2.CX0) rfl (by decide) (by kernel_rfl) ⟨rfl, by decide, by decide⟩ ?F (fun _ _ _ _ z => z)
    intro w mg fa h Y G hmg0
    obtain ⟨K, KX, c⟩ := Y
    have hmg : mg ("law" : PySem.Str) = some (.ref fa) := by
      have e : (HandSHeadRun.topDef (OpenLaw.row PySem.Challenge.rw_barbreaks_k48_bands_joined).prog 30).name = ("law" : PySem.Str) := by kernel_rfl
      rw [← e]
      exact hmg0
    obtain ⟨fd, hb, hF⟩ := My.facts (P := (PySem.Challenge.rw_barbreaks_k48_bands_joined).prog) (w := w) KX G hmg c (by kernel_rfl) (by kernel_rfl)
    exact ⟨K, fd, My.spLaw K, KX, hb, fun H a ns hl _ hS => ⟨a, ns, rfl, hl, hS, fun _ => rfl⟩, hF⟩
