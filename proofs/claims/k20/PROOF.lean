import PyProof.Rows.All
import Wide.All
import OpenK.AllK
import Wide.FinOn
import KE.KStateDown
import KE.KExcSuper
import Lean
import HandS.ForMost
import HandS.More
import HandS.Exc
import HandS.ExcInit
import HandS.ExcField
import HandS.ExcIs
import HandS.ExcValue
import KE.KExcIs
import HandS.ExcOwn
import HandS.WordsExc
import HandS.Defaults
import HandS.Wide
import HandS.IsInst
import HandS.Conv
import HandS.Codes
import HandS.ClsMeth
import HandS.Property
import HandS.MakeKw
import HandS.MakeKwOnly
import HandS.OwnEq
import HandS.StrMore
import HandS.Steps
import HandS.Head0
import HandS.Head1
import HandS.Head2
import HandS.HeadEnd
import HandS.HeadHook1
import HandS.HeadHook2
import HandS.NoneIn
import HandS.Walk
import KE.GoesEnum
import KE.GoesMore
import PyProof.Draws
import PyProof.EnumMake
import HandS.SortKw
import KE.DataMinMax
import KE.GoesZip
import KE.KDictList
import HandS.Style
import HandS.SortInts
import HandS.TupAny
import HandS.Zip
import HandS.RevRange
import HandS.ClsMeth
import HandS.Deep
import HandS.DictComp
import HandS.Iter
import HandS.Star
import HandS.IterVal
import PySem.Challenge.RW_barbreaks_k20_outlook_narrowed
set_option Elab.async false
set_option linter.all false
set_option maxRecDepth 100000
set_option maxHeartbeats 4000000
namespace My
open PySem PySem.W PySem.Calls PyProof.Rows
set_option maxHeartbeats 0 in
theorem opened (h : PySem.Challenge.rw_barbreaks_k20_outlook_narrowed.row.wellSaid = true → PySem.Challenge.rw_barbreaks_k20_outlook_narrowed.row.Holds) : PySem.Challenge.rw_barbreaks_k20_outlook_narrowed.Holds := by
  w_on; o_law
  exact h (by assumption)
end My
/-! Rd: every reading has a named head, so that a proof goes by the head. -/
namespace Rd
open PySem PySem.Spec PyProof.Rows L2

/-! ### operators that choose by the values -/
def rAddI : R2 := rI0 fun i j => .int (i + j)
def rAddS : R2 := fun x y H Q => match x, y with
  | .str a, .str b => a.length + b.length ≤ sizeLine ∧ Q (.str (a ++ b)) H
  | _, _ => False
def uAdd : R2 := fun x y H Q => rAddI x y H Q ∨ rAddS x y H Q ∨ rCat x y H Q
def uSub : R2 := rI0 fun i j => .int (i - j)
def CMulU (i j : Int) : Prop := CMul i j ∨ CMulW i j
def uMul : R2 := fun x y H Q => rI CMulU (fun i j => .int (i * j)) x y H Q ∨ rRep x y H Q
def uDiv : R2 := rI CDivW fun i j => .int (i / j)
def uMod : R2 := rI (fun _ j => 0 < j) fun i j => .int (i % j)
def uPow : R2 := rI CPow fun i j => .int (i ^ j.toNat)
def uLt : R2 := rI0 fun i j => .bl (decide (i < j))
def uLe : R2 := rI0 fun i j => .bl (decide (i ≤ j))
def uGt : R2 := rI0 fun i j => .bl (decide (j < i))
def uGe : R2 := rI0 fun i j => .bl (decide (j ≤ i))
def uNeg : V → Hp → VK → Prop := rU fun i => .int (-i)
section
variable {X : Cx}
theorem oAddS : OpR X (binaryOp .Add) rAddS := by
  intro pins s σ H x y u v Q I rx ry h
  cases x <;> cases y <;> first | exact h.elim | skip
  exact op_add_str pins s σ H _ _ u v Q I rx ry ⟨_, _, rfl, rfl, h.1, h.2⟩
theorem oAdd : OpR X (binaryOp .Add) uAdd := op_add.or (oAddS.or op_cat)
theorem oSub : OpR X (binaryOp .Sub) uSub := op_sub
theorem oMul : OpR X (binaryOp .Mult) uMul := OpR.or (opI fun _ _ _ _ _ _ _ hc q => mul_int q (hc.elim CMul.ok CMulW.ok)) op_rep
theorem oDiv : OpR X (binaryOp .FloorDiv) uDiv := op_fdivW
theorem oMod : OpR X (binaryOp .Mod) uMod := op_mod
theorem oPow : OpR X (binaryOp .Pow) uPow := op_pow
theorem oLt : OpR X (compareOp .Lt) uLt := op_lt
theorem oLe : OpR X (compareOp .LtE) uLe := op_le
theorem oGt : OpR X (compareOp .Gt) uGt := op_gt
theorem oGe : OpR X (compareOp .GtE) uGe := op_ge
theorem oNeg : UnR X (unaryOp .USub) uNeg := un_neg
end
theorem oIs {X : Cx} : OpR X (compareOp .Is) rIsN := op_isN1
theorem oIsNot {X : Cx} : OpR X (compareOp .IsNot) rNotN := op_notN1

/-! ### what follows, named: the layer's own reading with the part that is done put in as a constant -/
abbrev tBc (b : Bool) : TT := fun _ H Q => Q b H
abbrev tAc (vs : List V) : TA := fun _ H Q => Q vs H
def kOp1 (r : R2) (tb : TE) (σ : L2.St) (Q : VK) : VK := fun x H => tOp r (tC x) tb σ H Q
def kOp2 (r : R2) (x : V) (Q : VK) : VK := fun y H => r x y H Q
def kUn (r : V → Hp → VK → Prop) (Q : VK) : VK := fun x H => r x H Q
def kTest (Q : Bool → Hp → Prop) : VK := fun x H => tTest (tC x) [] H Q
def kAnd (u : TT) (σ : L2.St) (Q : Bool → Hp → Prop) : Bool → Hp → Prop := fun b H => tAnd (tBc b) u σ H Q
def kOr (u : TT) (σ : L2.St) (Q : Bool → Hp → Prop) : Bool → Hp → Prop := fun b H => tOr (tBc b) u σ H Q
def kNot (Q : Bool → Hp → Prop) : Bool → Hp → Prop := fun b H => Q (!b) H
def kIf (t u : TS) (D : Ends) (σ : L2.St) : Bool → Hp → Prop := fun b H => tIfS (tBc b) t u D σ H
def kIfE (ta tb : TE) (σ : L2.St) (Q : VK) : Bool → Hp → Prop := fun b H => tIf (tBc b) ta tb σ H Q
def kAndV (tb : TE) (σ : L2.St) (Q : VK) : VK := fun x H => tAndV (tC x) tb σ H Q
def kOrV (tb : TE) (σ : L2.St) (Q : VK) : VK := fun x H => tOrV (tC x) tb σ H Q
def kNotV (Q : VK) : VK := fun x H => tNotV (tC x) [] H Q
def kCh1 (r r' : R2) (tb tc : TE) (σ : L2.St) (Q : VK) : VK := fun x H => tChain r r' (tC x) tb tc σ H Q
def kCh2 (r r' : R2) (tc : TE) (σ : L2.St) (x : V) (Q : VK) : VK := fun y H => tChain r r' (tC x) (tC y) tc σ H Q
def kCh3 (r' : R2) (tc : TE) (σ : L2.St) (y : V) (Q : VK) : VK := fun z H => tChain (fun _ _ H Q => Q z H) r' (tC y) (tC y) tc σ H Q
def kAsg (g : TG) (σ : L2.St) (nx : L2.St → Hp → Prop) : VK := fun x H => g x σ H nx
def kDrop (σ : L2.St) (nx : L2.St → Hp → Prop) : VK := fun _ H => nx σ H
def kSub1 (ti : TE) (t : TSet) (v : V) (σ : L2.St) (Q : L2.St → Hp → Prop) : VK := fun o H => gSub (tC o) ti t v σ H Q
def kSub2 (t : TSet) (o v : V) (σ : L2.St) (Q : L2.St → Hp → Prop) : VK := fun i H => gSub (tC o) (tC i) t v σ H Q
def kCons1 (tr : TA) (σ : L2.St) (Q : List V → Hp → Prop) : VK := fun x H => tCons (tC x) tr σ H Q
def kCons2 (x : V) (Q : List V → Hp → Prop) : List V → Hp → Prop := fun xs H => Q (x :: xs) H
def kCB (r : List V → Hp → VK → Prop) (Q : VK) : List V → Hp → Prop := fun vs H => r vs H Q
def kCall (sp : Sp) (dvs : List V) (E : XK) (Q : VK) : List V → Hp → Prop := fun vs H => tCall sp dvs E (tAc vs) [] H Q
def kLst (Q : VK) : List V → Hp → Prop := fun xs H => tLst (tAc xs) [] H Q
def kTup (Q : VK) : List V → Hp → Prop := fun xs H => tTup (tAc xs) [] H Q
def kFld (K : PySem.W.Frag) (f : Str) (Q : VK) : VK := fun x H => tFld K (tC x) f [] H Q
def kSF1 (K : PySem.W.Frag) (ta : TE) (f : Str) (σ : L2.St) (nx : L2.St → Hp → Prop) : VK := fun y H => sFld K ta (tC y) f ⟨nx, fun _ _ => False, fun _ _ => False, fun _ _ => False⟩ σ H
def kSF2 (K : PySem.W.Frag) (f : Str) (y : V) (σ : L2.St) (nx : L2.St → Hp → Prop) : VK := fun x H => sFld K (tC x) (tC y) f ⟨nx, fun _ _ => False, fun _ _ => False, fun _ _ => False⟩ σ H
def kMeth (C : Addr) (m : Str) (sp : Sp) (dvs : List V) (E : XK) (t : TA) (σ : L2.St) (Q : VK) : VK := fun x H => tMeth C m sp dvs E (tC x) t σ H Q
def kMeth2 (sp : Sp) (dvs : List V) (E : XK) (x : V) (Q : VK) : List V → Hp → Prop := fun vs H => sp (x :: (vs ++ dvs)) H Q E
def kMake (C : Addr) (sp : Sp) (dvs : List V) (E : XK) (Q : VK) : List V → Hp → Prop := fun vs H => tMake C sp dvs E (tAc vs) [] H Q
def kTru (K : PySem.W.Frag) (Q : Bool → Hp → Prop) : VK := fun x H => tTru K (tC x) [] H Q
def kBM (K : PySem.W.Frag) (T : String) (r : V → List V → Hp → VK → Prop) (t : TA) (σ : L2.St) (Q : VK) : VK := fun x H => tBM K T r (tC x) t σ H Q
def kBM2 (r : V → List V → Hp → VK → Prop) (x : V) (Q : VK) : List V → Hp → Prop := fun xs H => r x xs H Q
def kPar (i j : Nat) (σ : L2.St) (nx : L2.St → Hp → Prop) : List V → Hp → Prop := fun vs H => tPar i j (tAc vs) ⟨nx, fun _ _ => False, fun _ _ => False, fun _ _ => False⟩ σ H

section
variable {K : PySem.W.Frag} {σ : L2.St} {H : Hp} {ta tb tc te : TE} {t u : TT} {ts us : TS} {x y z v w : V} {r r' : R2} {Q : VK} {QB : Bool → Hp → Prop} {QA : List V → Hp → Prop} {nx bk ct : L2.St → Hp → Prop} {rt : VK} {i j : Int} {n m : Nat} {tl tr : TA} {g : TG} {D : Ends}
  {a p C dx : Addr} {xs vs : List V} {sp : Sp} {dvs : List V} {E : XK} {f : Str} {fs : List (Str × V)} {b : Bool}
theorem w_seq (h : ts ⟨us ⟨nx, rt, bk, ct⟩, rt, bk, ct⟩ σ H) : tSeq ts us ⟨nx, rt, bk, ct⟩ σ H := h
theorem w_next (h : nx σ H) : tNext ⟨nx, rt, bk, ct⟩ σ H := h
theorem w_brk (h : bk σ H) : tBreak ⟨nx, rt, bk, ct⟩ σ H := h
theorem w_cont (h : ct σ H) : tCont ⟨nx, rt, bk, ct⟩ σ H := h
theorem w_ret (h : te σ H rt) : tRet te ⟨nx, rt, bk, ct⟩ σ H := h
theorem w_retN (h : rt .non H) : tRetN ⟨nx, rt, bk, ct⟩ σ H := h
theorem w_drop (h : te σ H (kDrop σ nx)) : tDrop te ⟨nx, rt, bk, ct⟩ σ H := h
theorem w_kdrop (h : nx σ H) : kDrop σ nx v H := h
theorem w_asg (h : te σ H (kAsg g σ nx)) : tAsg te g ⟨nx, rt, bk, ct⟩ σ H := h
theorem w_kname (h : nx (σ.set n (some v)) H) : kAsg (gName n) σ nx v H := h
theorem w_gname (h : nx (σ.set n (some v)) H) : gName n v σ H nx := h
theorem w_ksub {to ti : TE} {s : TSet} (h : to σ H (kSub1 ti s v σ nx)) : kAsg (gSub to ti s) σ nx v H := h
theorem w_ksub1 {ti : TE} {s : TSet} {o : V} (h : ti σ H (kSub2 s o v σ nx)) : kSub1 ti s v σ nx o H := h
theorem w_ksubL {k : Int} {q : Nat} (hp : H p = some (.lst xs)) (hi : ixN xs.length k = some q) (h : nx σ (upd H p (.lst (xs.set q v)))) : kSub2 rSetL (.ref p) v σ nx (.int k) H := ⟨p, xs, k, q, rfl, rfl, hp, hi, h⟩
theorem w_ifS (h : t σ H (kIf ts us D σ)) : tIfS t ts us D σ H := h
theorem w_ifE (h : t σ H (kIfE ta tb σ Q)) : tIf t ta tb σ H Q := h
theorem w_var (hv : σ[n]? = some (some v)) (h : Q v H) : tVar n σ H Q := ⟨v, hv, h⟩
theorem w_c (h : Q v H) : tC v σ H Q := h
theorem w_op (h : ta σ H (kOp1 r tb σ Q)) : tOp r ta tb σ H Q := h
theorem w_op1 (h : tb σ H (kOp2 r x Q)) : kOp1 r tb σ Q x H := h
theorem w_op2 (h : r x y H Q) : kOp2 r x Q y H := h
theorem w_un {s : V → Hp → VK → Prop} (h : ta σ H (kUn s Q)) : tUn s ta σ H Q := h
theorem w_kun {s : V → Hp → VK → Prop} (h : s x H Q) : kUn s Q x H := h
theorem w_test (h : te σ H (kTest QB)) : tTest te σ H QB := h
theorem w_tB (h : te σ H (kTest QB)) : tB te σ H QB := h
theorem w_ktest (h : QB b H) : kTest QB (.bl b) H := ⟨b, rfl, h⟩
theorem w_and (h : t σ H (kAnd u σ QB)) : tAnd t u σ H QB := h
theorem w_or (h : t σ H (kOr u σ QB)) : tOr t u σ H QB := h
theorem w_not (h : t σ H (kNot QB)) : tNot t σ H QB := h
theorem w_knot (h : QB (!b) H) : kNot QB b H := h
theorem w_andV (h : ta σ H (kAndV tb σ Q)) : tAndV ta tb σ H Q := h
theorem w_orV (h : ta σ H (kOrV tb σ Q)) : tOrV ta tb σ H Q := h
theorem w_notV (h : ta σ H (kNotV Q)) : tNotV ta σ H Q := h
theorem w_knotV (h : Q (.bl (!b)) H) : kNotV Q (.bl b) H := ⟨b, rfl, h⟩
theorem w_ch (h : ta σ H (kCh1 r r' tb tc σ Q)) : tChain r r' ta tb tc σ H Q := h
theorem w_ch1 (h : tb σ H (kCh2 r r' tc σ x Q)) : kCh1 r r' tb tc σ Q x H := h
theorem w_ch2 (h : r x y H (kCh3 r' tc σ y Q)) : kCh2 r r' tc σ x Q y H := h
/-! tests: a literal, a bool, a decided statement -/
theorem w_kif_t (h : ts D σ H) : kIf ts us D σ true H := h
theorem w_kif_f (h : us D σ H) : kIf ts us D σ false H := h
theorem w_kif_b (h1 : b = true → ts D σ H) (h2 : b = false → us D σ H) : kIf ts us D σ b H := match b, h1, h2 with
  | true, h1, _ => w_kif_t (h1 rfl)
  | false, _, h2 => w_kif_f (h2 rfl)
theorem w_kif {c : Prop} {dc : Decidable c} (h1 : c → ts D σ H) (h2 : ¬ c → us D σ H) : kIf ts us D σ (decide c) H := w_kif_b (fun e => h1 (of_decide_eq_true e)) fun e => h2 (of_decide_eq_false e)
theorem w_kand_t (h : t σ H QB) : kAnd t σ QB true H := h
theorem w_kand_f (h : QB false H) : kAnd t σ QB false H := h
theorem w_kand_b (h1 : b = true → t σ H QB) (h2 : b = false → QB false H) : kAnd t σ QB b H := match b, h1, h2 with
  | true, h1, _ => w_kand_t (h1 rfl)
  | false, _, h2 => w_kand_f (h2 rfl)
theorem w_kand {c : Prop} {dc : Decidable c} (h1 : c → t σ H QB) (h2 : ¬ c → QB false H) : kAnd t σ QB (decide c) H := w_kand_b (fun e => h1 (of_decide_eq_true e)) fun e => h2 (of_decide_eq_false e)
theorem w_kor_t (h : QB true H) : kOr t σ QB true H := h
theorem w_kor_f (h : t σ H QB) : kOr t σ QB false H := h
theorem w_kor_b (h1 : b = true → QB true H) (h2 : b = false → t σ H QB) : kOr t σ QB b H := match b, h1, h2 with
  | true, h1, _ => w_kor_t (h1 rfl)
  | false, _, h2 => w_kor_f (h2 rfl)
theorem w_kor {c : Prop} {dc : Decidable c} (h1 : c → QB true H) (h2 : ¬ c → t σ H QB) : kOr t σ QB (decide c) H := w_kor_b (fun e => h1 (of_decide_eq_true e)) fun e => h2 (of_decide_eq_false e)
theorem w_kifE_t (h : ta σ H Q) : kIfE ta tb σ Q true H := h
theorem w_kifE_f (h : tb σ H Q) : kIfE ta tb σ Q false H := h
theorem w_kifE_b (h1 : b = true → ta σ H Q) (h2 : b = false → tb σ H Q) : kIfE ta tb σ Q b H := match b, h1, h2 with
  | true, h1, _ => w_kifE_t (h1 rfl)
  | false, _, h2 => w_kifE_f (h2 rfl)
theorem w_kifE {c : Prop} {dc : Decidable c} (h1 : c → ta σ H Q) (h2 : ¬ c → tb σ H Q) : kIfE ta tb σ Q (decide c) H := w_kifE_b (fun e => h1 (of_decide_eq_true e)) fun e => h2 (of_decide_eq_false e)
theorem w_kandV_t (h : tb σ H Q) : kAndV tb σ Q (.bl true) H := ⟨_, rfl, h⟩
theorem w_kandV_f (h : Q (.bl false) H) : kAndV tb σ Q (.bl false) H := ⟨_, rfl, h⟩
theorem w_kandV_b (h1 : b = true → tb σ H Q) (h2 : b = false → Q (.bl false) H) : kAndV tb σ Q (.bl b) H := match b, h1, h2 with
  | true, h1, _ => w_kandV_t (h1 rfl)
  | false, _, h2 => w_kandV_f (h2 rfl)
theorem w_kandV {c : Prop} {dc : Decidable c} (h1 : c → tb σ H Q) (h2 : ¬ c → Q (.bl false) H) : kAndV tb σ Q (.bl (decide c)) H := w_kandV_b (fun e => h1 (of_decide_eq_true e)) fun e => h2 (of_decide_eq_false e)
theorem w_korV_t (h : Q (.bl true) H) : kOrV tb σ Q (.bl true) H := ⟨_, rfl, h⟩
theorem w_korV_f (h : tb σ H Q) : kOrV tb σ Q (.bl false) H := ⟨_, rfl, h⟩
theorem w_korV_b (h1 : b = true → Q (.bl true) H) (h2 : b = false → tb σ H Q) : kOrV tb σ Q (.bl b) H := match b, h1, h2 with
  | true, h1, _ => w_korV_t (h1 rfl)
  | false, _, h2 => w_korV_f (h2 rfl)
theorem w_korV {c : Prop} {dc : Decidable c} (h1 : c → Q (.bl true) H) (h2 : ¬ c → tb σ H Q) : kOrV tb σ Q (.bl (decide c)) H := w_korV_b (fun e => h1 (of_decide_eq_true e)) fun e => h2 (of_decide_eq_false e)
theorem w_ch3_t (h : tc σ H (kOp2 r' y Q)) : kCh3 r' tc σ y Q (.bl true) H := ⟨_, rfl, h⟩
theorem w_ch3_f (h : Q (.bl false) H) : kCh3 r' tc σ y Q (.bl false) H := ⟨_, rfl, h⟩
theorem w_ch3_b (h1 : b = true → tc σ H (kOp2 r' y Q)) (h2 : b = false → Q (.bl false) H) : kCh3 r' tc σ y Q (.bl b) H := match b, h1, h2 with
  | true, h1, _ => w_ch3_t (h1 rfl)
  | false, _, h2 => w_ch3_f (h2 rfl)
theorem w_ch3 {c : Prop} {dc : Decidable c} (h1 : c → tc σ H (kOp2 r' y Q)) (h2 : ¬ c → Q (.bl false) H) : kCh3 r' tc σ y Q (.bl (decide c)) H := w_ch3_b (fun e => h1 (of_decide_eq_true e)) fun e => h2 (of_decide_eq_false e)
theorem w_knot_t (h : QB false H) : kNot QB true H := h
theorem w_knot_f (h : QB true H) : kNot QB false H := h
theorem w_knotV_t (h : Q (.bl false) H) : kNotV Q (.bl true) H := ⟨_, rfl, h⟩
theorem w_knotV_f (h : Q (.bl true) H) : kNotV Q (.bl false) H := ⟨_, rfl, h⟩
theorem w_kor_n {c : Prop} {dc : Decidable c} (h1 : c → t σ H QB) (h2 : ¬ c → QB true H) : kOr t σ QB (!decide c) H := w_kor_b (fun e => h2 fun hc => by rw [decide_eq_true hc] at e; cases e) fun e => h1 (of_decide_eq_true (by simpa using e))
theorem w_kand_n {c : Prop} {dc : Decidable c} (h1 : c → QB false H) (h2 : ¬ c → t σ H QB) : kAnd t σ QB (!decide c) H := w_kand_b (fun e => h2 fun hc => by rw [decide_eq_true hc] at e; cases e) fun e => h1 (of_decide_eq_true (by simpa using e))
theorem w_kif_n (h : kIf us ts D σ b H) : kIf ts us D σ (!b) H := by cases b <;> exact h
/-! ints -/
theorem w_addI (h : Q (.int (i + j)) H) : uAdd (.int i) (.int j) H Q := .inl ⟨i, j, rfl, rfl, h⟩
theorem w_addS {s s' : Str} (hl : s.length + s'.length ≤ sizeLine) (h : Q (.str (s ++ s')) H) : uAdd (.str s) (.str s') H Q := .inr (.inl ⟨hl, h⟩)
theorem w_addL {q : Addr} {ys : List V} (h1 : H p = some (.lst xs)) (h2 : H q = some (.lst ys)) (hl : xs.length + ys.length ≤ sizeLine) (h : ∀ l, H l = none → Q (.ref l) (upd H l (.lst (xs ++ ys)))) : uAdd (.ref p) (.ref q) H Q := .inr (.inr ⟨p, q, xs, ys, rfl, rfl, h1, h2, hl, h⟩)
theorem w_sub (h : Q (.int (i - j)) H) : uSub (.int i) (.int j) H Q := ⟨i, j, rfl, rfl, h⟩
theorem w_mul (hc : CMulU i j) (h : Q (.int (i * j)) H) : uMul (.int i) (.int j) H Q := .inl ⟨i, j, rfl, rfl, hc, h⟩
theorem w_div (hc : CDivW i j) (h : Q (.int (i / j)) H) : uDiv (.int i) (.int j) H Q := ⟨i, j, rfl, rfl, hc, h⟩
theorem w_mod (hc : 0 < j) (h : Q (.int (i % j)) H) : uMod (.int i) (.int j) H Q := ⟨i, j, rfl, rfl, hc, h⟩
theorem w_pow {k : Int} (hc : CPow i j) (hk : i ^ j.toNat = k) (h : Q (.int k) H) : uPow (.int i) (.int j) H Q := ⟨i, j, rfl, rfl, hc, by subst hk; exact h⟩
theorem w_lt (h : Q (.bl (decide (i < j))) H) : uLt (.int i) (.int j) H Q := ⟨i, j, rfl, rfl, h⟩
theorem w_le (h : Q (.bl (decide (i ≤ j))) H) : uLe (.int i) (.int j) H Q := ⟨i, j, rfl, rfl, h⟩
theorem w_gt (h : Q (.bl (decide (j < i))) H) : uGt (.int i) (.int j) H Q := ⟨i, j, rfl, rfl, h⟩
theorem w_ge (h : Q (.bl (decide (j ≤ i))) H) : uGe (.int i) (.int j) H Q := ⟨i, j, rfl, rfl, h⟩
theorem w_neg (h : Q (.int (-i)) H) : uNeg (.int i) H Q := ⟨i, rfl, h⟩
theorem w_eqI (h : Q (.bl (decide (i = j))) H) : rEq (.int i) (.int j) H Q := ⟨rfl, by
  have e : decide (V.int i = V.int j) = decide (i = j) := by rw [dec_int, Bool.beq_eq_decide_eq]
  rw [e]; exact h⟩
theorem w_neI (h : Q (.bl (!decide (i = j))) H) : rNe (.int i) (.int j) H Q := ⟨rfl, by
  have e : decide (V.int i = V.int j) = decide (i = j) := by rw [dec_int, Bool.beq_eq_decide_eq]
  rw [e]; exact h⟩
theorem w_eqS {s s' : Str} (h : Q (.bl (decide (s = s'))) H) : rEq (.str s) (.str s') H Q := ⟨rfl, by
  have e : decide (V.str s = V.str s') = decide (s = s') := by rw [dec_str, Bool.beq_eq_decide_eq]
  rw [e]; exact h⟩
theorem w_neS {s s' : Str} (h : Q (.bl (!decide (s = s'))) H) : rNe (.str s) (.str s') H Q := ⟨rfl, by
  have e : decide (V.str s = V.str s') = decide (s = s') := by rw [dec_str, Bool.beq_eq_decide_eq]
  rw [e]; exact h⟩
theorem w_eqB {b' : Bool} (h : Q (.bl (decide (b = b'))) H) : rEq (.bl b) (.bl b') H Q := ⟨rfl, by
  have e : decide (V.bl b = V.bl b') = decide (b = b') := by rw [dec_bl, Bool.beq_eq_decide_eq]
  rw [e]; exact h⟩
theorem w_isN_n (h : Q (.bl true) H) : rIsN .non .non H Q := ⟨rfl, h⟩
theorem w_isN_i (h : Q (.bl false) H) : rIsN (.int i) .non H Q := ⟨rfl, h⟩
theorem w_isN_r (h : Q (.bl false) H) : rIsN (.ref a) .non H Q := ⟨rfl, h⟩
theorem w_isN_b (h : Q (.bl false) H) : rIsN (.bl b) .non H Q := ⟨rfl, h⟩
theorem w_isN_s {s : Str} (h : Q (.bl false) H) : rIsN (.str s) .non H Q := ⟨rfl, h⟩
theorem w_notN_n (h : Q (.bl false) H) : rNotN .non .non H Q := ⟨rfl, h⟩
theorem w_notN_i (h : Q (.bl true) H) : rNotN (.int i) .non H Q := ⟨rfl, h⟩
theorem w_notN_r (h : Q (.bl true) H) : rNotN (.ref a) .non H Q := ⟨rfl, h⟩
/-! arguments, displays, calls -/
theorem w_nil (h : QA [] H) : tNil σ H QA := h
theorem w_cons (h : te σ H (kCons1 tr σ QA)) : tCons te tr σ H QA := h
theorem w_kcons1 (h : tr σ H (kCons2 x QA)) : kCons1 tr σ QA x H := h
theorem w_kcons2 (h : QA (x :: xs) H) : kCons2 x QA xs H := h
theorem w_cb {s : List V → Hp → VK → Prop} (h : tl σ H (kCB s Q)) : tCB s tl σ H Q := h
theorem w_kcb {s : List V → Hp → VK → Prop} (h : s vs H Q) : kCB s Q vs H := h
theorem w_call (h : tl σ H (kCall sp dvs E Q)) : tCall sp dvs E tl σ H Q := h
theorem w_kcall (h : sp vs H Q E) : kCall sp [] E Q vs H := by
  show sp (vs ++ []) H Q E
  rw [List.append_nil]; exact h
theorem w_kcallD (h : sp (vs ++ dvs) H Q E) : kCall sp dvs E Q vs H := h
theorem w_lst (h : tl σ H (kLst Q)) : tLst tl σ H Q := h
theorem w_klst (hl : xs.length ≤ sizeLine) (h : ∀ p, H p = none → Q (.ref p) (upd H p (.lst xs))) : kLst Q xs H := ⟨hl, h⟩
theorem w_tup (h : tl σ H (kTup Q)) : tTup tl σ H Q := h
theorem w_ktup (hl : xs.length ≤ sizeLine) (h : ∀ p, H p = none → Q (.ref p) (upd H p (.tup xs))) : kTup Q xs H := ⟨hl, h⟩
theorem w_fld (h : ta σ H (kFld K f Q)) : tFld K ta f σ H Q := h
theorem w_kfld (ho : H a = some (.ins C dx fs)) (hc : Cls K C) (hn : NoAttr K C f) (hl : fs.lookup f = some v) (h : Q v H) : kFld K f Q (.ref a) H := ⟨a, C, dx, fs, v, rfl, ho, hc, hn, hl, h⟩
theorem w_sfld {tv : TE} (h : tv σ H (kSF1 K ta f σ nx)) : sFld K ta tv f ⟨nx, rt, bk, ct⟩ σ H := h
theorem w_ksf1 (h : ta σ H (kSF2 K f y σ nx)) : kSF1 K ta f σ nx y H := h
theorem w_ksf2 (ho : H a = some (.ins C dx fs)) (hc : Cls K C) (hn : NoAttr K C f) (hl : fs.length < 1000) (h : nx σ (upd H a (.ins C dx (putF f y fs)))) : kSF2 K f y σ nx (.ref a) H := ⟨a, C, dx, fs, rfl, ho, hc, hn, hl, h⟩
theorem w_meth {q : Str} (h : ta σ H (kMeth C q sp dvs E tl σ Q)) : tMeth C q sp dvs E ta tl σ H Q := h
theorem w_kmeth {q : Str} (ho : H a = some (.ins C dx fs)) (hn : fs.lookup q = none) (h : tl σ H (kMeth2 sp dvs E (.ref a) Q)) : kMeth C q sp dvs E tl σ Q (.ref a) H := ⟨a, dx, fs, rfl, ho, hn, h⟩
theorem w_kmeth2 (h : sp (x :: vs) H Q E) : kMeth2 sp [] E x Q vs H := by
  show sp (x :: (vs ++ [])) H Q E
  rw [List.append_nil]; exact h
theorem w_kmeth2D (h : sp (x :: (vs ++ dvs)) H Q E) : kMeth2 sp dvs E x Q vs H := h
theorem w_make (h : tl σ H (kMake C sp dvs E Q)) : tMake C sp dvs E tl σ H Q := h
theorem w_kmake (h : ∀ x dx, H x = none → H dx = none → dx ≠ x → sp (.ref x :: (vs ++ dvs)) (upd (upd H dx (.own x)) x (.ins C dx [])) (fun v H2 => v = .non ∧ Q (.ref x) H2) E) : kMake C sp dvs E Q vs H := h
theorem w_tru (h : ta σ H (kTru K QB)) : tTru K ta σ H QB := h
theorem w_ktru_b (h : QB b H) : kTru K QB (.bl b) H := ⟨b, rfl, h⟩
theorem w_bm {T : String} {s : V → List V → Hp → VK → Prop} (h : ta σ H (kBM K T s tl σ Q)) : tBM K T s ta tl σ H Q := h
theorem w_kbm {T : String} {s : V → List V → Hp → VK → Prop} (hty : tyV K T x H) (h : tl σ H (kBM2 s x Q)) : kBM K T s tl σ Q x H := ⟨hty, h⟩
theorem w_kbm2 {s : V → List V → Hp → VK → Prop} (h : s x vs H Q) : kBM2 s x Q vs H := h
theorem w_par {q q' : Nat} (h : tl σ H (kPar q q' σ nx)) : tPar q q' tl ⟨nx, rt, bk, ct⟩ σ H := h
theorem w_kpar {q q' : Nat} (h : nx ((σ.set q (some x)).set q' (some y)) H) : kPar q q' σ nx [x, y] H := ⟨x, y, rfl, h⟩
end
end Rd
/-! Own: a def whose frame holds the cell __class__, by the layer's own start at the scope without that name. -/
namespace Rd
open PySem PySem.Spec PyProof.Rows PySem.W L2
theorem bindL_all {kd : Str → Option NameKind} : ∀ (l : List (Str × Value)) (m : Str → Option Value), (∀ y ∈ l, kd y.1 = some .local) → ∀ x, bindL kd l m x = (l.reverse.lookup x).or (m x)
  | [], _, _, _ => by simp [bindL]
  | (k, v) :: r, m, hl, x => by
    have hk := hl (k, v) List.mem_cons_self
    show bindL kd r (if kd k = some .local then fun y => if y = k then some v else m y else m) x = _
    rw [if_pos hk, bindL_all r _ (fun y hy => hl y (List.mem_cons_of_mem _ hy)) x, List.reverse_cons, List.lookup_append, Option.or_assoc]
    congr 1
    by_cases e : x = k
    · subst e; simp
    · have hb : (x == k) = false := beq_eq_false_iff_ne.mpr e
      simp [List.lookup, hb, e]
/-- sc0 is sc without the one free name -/
structure ClsScope (N P : List Str) (sc sc0 : Scope) : Prop where
  base : FnScope N P sc0
  kind : sc.kind = .function
  co : sc.isCoroutine = false
  gen : sc.isGenerator = false
  nocell : ∀ y ∈ sc.names, y.2 ≠ .cell
  nocell0 : ∀ y ∈ sc0.names, y.2 ≠ .cell
  cells0 : ∀ n : Nat, cellsFrom n sc0.names [] = []
  same : ∀ x : Str, x ≠ "__class__" → sc.names.lookup x = sc0.names.lookup x
  free : sc.names.lookup ("__class__" : Str) = some NameKind.free
  out : ("__class__" : Str) ∉ N
  par : ∀ x ∈ P, x ∈ N
/-- the context of such a body -/
def cxC (X0 : Cx) (A : Around) (env : Env) (xe : Value → Shared → Prop) : Cx := { X0 with A := A.deeper env, env := env, stack := env :: X0.outer, fn := fun x => !decide (x = "__class__"), xe := xe }
abbrev cenv (qual : Str) (sc : Scope) (L f : Addr) (cd : Value) (cc : Addr) : Env := ksEnv qual sc L f cd cc
abbrev leaves (P : Program) (w : World) (CX : CXT) (A : Around) (env : Env) (outer : List Env) (H : Hp) (s : Shared) (E : XK) : Value → Shared → Prop :=
  fun e s' => wpAny (model P w) (A.deeper env) (leaving env e) (fun _ s2 => CX outer H s E e s2) (fun e2 s2 => CX outer H s E e2 s2) s'
section
variable {CX : CXT} {P : Program} {w : World} {K : PySem.W.Frag} {mg : Str → Option Value} {base : Heap} {N ps : List Str} {qual : Str} {sc sc0 : Scope} {f cc D : Addr} {cd : Value} {A : Around} {outer : List Env} {s : Shared} {H : Hp} {E : XK} {us : List Value} {vs : List V}
  {cl : Value} {cld : Option Addr} {csl : Array (Option Value)}
abbrev cxD (CX : CXT) (P : Program) (w : World) (K : PySem.W.Frag) (mg : Str → Option Value) (base : Heap) (N : List Str) (qual : Str) (sc sc0 : Scope) (f : Addr) (cd : Value) (cc : Addr) (A : Around) (outer : List Env) (s : Shared) (H : Hp) (E : XK) : Cx :=
  cxC (cxOf CX P w K mg base N qual sc0 f cd A outer s H E) A (cenv qual sc s.heap.objs.size f cd cc) (leaves P w CX A (cenv qual sc s.heap.objs.size f cd cc) outer H s E)
theorem one_cell {x : Str} {c : Addr} (h : ([(("__class__" : Str), cc)] : List (Str × Addr)).lookup x = some c) : x = "__class__" ∧ c = cc := by
  have m := PySem.mem_of_lookup h
  simp only [List.mem_singleton, Prod.mk.injEq] at m
  exact m
/-- from the start at sc0 to the frame with the cell -/
theorem start_cell {σ : L2.St} {s1 : Shared} (S : ClsScope N ps sc sc0) (hA : A.frames = some outer) (lc : K.lookup cc = some ⟨cl, cld, .cell (some (.ref D)), csl⟩) (I : Inv (cxOf CX P w K mg base N qual sc0 f cd A outer s H E) [] σ H s1) :
    Inv (cxD CX P w K mg base N qual sc sc0 f cd cc A outer s H E) [] σ H s1 := by
  have kc := I.kIn _ _ lc
  have bc := I.bs cc _ (I.mod.kin _ _ lc)
  have o := I.ok
  have nil : ∀ b : Addr, b ∉ ([] : List Addr) := fun b hb => by cases hb
  have ok : (cxD CX P w K mg base N qual sc sc0 f cd cc A outer s H E).Ok := {
    mod := o.mod, kind := S.kind, glob := rfl, blt := rfl, above := o.above,
    inj := fun x y c h1 h2 => (one_cell h1).1.trans (one_cell h2).1.symm,
    has := fun x hx => by
      by_cases e : x = "__class__"
      · subst e; exact ⟨cc, rfl⟩
      · rcases hx with hx | hx
        · exact absurd rfl (S.nocell _ (PySem.mem_of_lookup (show sc.names.lookup x = some .cell from hx)))
        · have q : sc0.names.lookup x = some .free := (S.same x e).symm.trans hx
          exact absurd rfl (S.base.nofree _ (PySem.mem_of_lookup q)),
    cab := fun x c hx h => by
      have e := (one_cell h).1
      have hx' : (!decide (x = "__class__")) = true := hx
      rw [decide_eq_true e] at hx'; exact Bool.noConfusion hx',
    hd := o.hd, frames := Around.frames_deeper hA, stk := .inr ⟨rfl, rfl⟩, exf := fun b hb => absurd hb (nil b), bs := o.bs, bsz := o.bsz, noex := o.noex, exfs := o.exfs, funs := o.funs, frf := o.frf }
  obtain ⟨m, hn, hm⟩ := I.loc
  refine { ok := ok, os := I.os, bare := I.bare, base := I.base, loc := ⟨m, hn, fun i x v e1 e2 e3 => ?_⟩, cell := fun x c h => ?_, free := I.free, freeC := fun x c h => ?_, pin := I.pin, hok := I.hok, len := I.len }
  · have nx : x ≠ "__class__" := fun e => S.out (e ▸ List.mem_of_getElem? e1)
    have v0 : Vis sc0 x := by
      have e3' : Vis sc x := e3
      unfold Vis at e3' ⊢
      rw [← S.same x nx]; exact e3'
    obtain ⟨u, ru, lk⟩ := hm i x v e1 e2 v0
    refine ⟨u, ru, ?_⟩
    rcases lk with ⟨a, b⟩ | ⟨_, c, a, _⟩
    · exact .inl ⟨(S.same x nx).trans a, b⟩
    · have a' : (cellsFrom (s.heap.objs.size + 1) sc0.names []).lookup x = some c := a
      rw [S.cells0] at a'; cases a'
  · rw [(one_cell h).2]; exact ⟨_, _, kc, rfl⟩
  · rw [(one_cell h).2]; exact bc.2
def flowV : Flow → Value
  | .ret v => v
  | _ => .none
/-- what a body's end is to its caller -/
theorem end_of {X : Cx} {Q : VK} {fl : Flow} {s2 : Shared} (hex : X.ex = []) (h : SP X [] { nx := fun _ H' => Q .non H', rt := Q } fl s2) : CE X.outer X.prog X.w X.H_0 X.s_0 Q (flowV fl) s2 := by
  have out : ∀ {σ : L2.St} {H : Hp} {v : V} {u : Value}, Inv X [] σ H s2 → RelV v u → Q v H → CE X.outer X.prog X.w X.H_0 X.s_0 Q u s2 := fun J r q => by
    have un := J.base
    rw [hex] at un
    exact ⟨_, _, J.os, J.bare, un, J.hok, r, q⟩
  cases fl <;> simp only [SP] at h
  all_goals first
    | (obtain ⟨v, σ, H, J, r, q⟩ := h; exact out J r q)
    | (obtain ⟨σ, H, J, q⟩ := h; first | exact q.elim | exact out (v := .non) J rfl q)
theorem fn_cell {k : Nat} {name : Str} {params : Arguments} {body : List Stmt} {dV kV doc pm ct oc : Value} {an od : Option Addr} {osl : Array (Option Value)} {sp : Sp} (lk : K.lookup f = some ⟨oc, od, .func (ksFn name qual params body sc dV kV doc pm an cd ct cc), osl⟩)
    (hcd : PySem.W.codeIn K cd qual = true) (lc : K.lookup cc = some ⟨cl, cld, .cell (some (.ref D)), csl⟩) (S : ClsScope N ps sc sc0) (len : ∀ vs H Q E, sp vs H Q E → vs.length = ps.length) (hloc : ∀ x ∈ ps, sc.names.lookup x = some .local ∧ sc0.names.lookup x = some .local)
    (hbody : ∀ (A : Around) (outer : List Env) (s : Shared) (H : Hp) (vs : List V) (Q : VK) (E : XK) (s1 : Shared), Room k (A.deeper (cenv qual sc s.heap.objs.size f cd cc)) → sp vs H Q E → Inv (cxD CX P w K mg base N qual sc sc0 f cd cc A outer s H E) [] (start N vs) H s1 →
      _root_.PySem.wpAt (model P w) (A.deeper (cenv qual sc s.heap.objs.size f cd cc)) (.func body (cenv qual sc s.heap.objs.size f cd cc)) (execs body (cenv qual sc s.heap.objs.size f cd cc))
        (SP (cxD CX P w K mg base N qual sc sc0 f cd cc A outer s H E) [] { nx := fun _ H' => Q .non H', rt := Q }) (cxD CX P w K mg base N qual sc sc0 f cd cc A outer s H E).xe s1) :
    FnOk P w K mg base CX (k + 1) f (ksFn name qual params body sc dV kV doc pm an cd ct cc) ps sp where
  len := len
  run := fun A outer s H args us vs Q E hr e0 hb r hsp => by
    have up : ∀ b o, base.get? b = some o → s.heap.get? b = some o := fun b o e => (e0.bs b o e).1
    have kin := e0.mod.kin.keeps up
    refine ks_codeAny_call_defAt (fd := ksFn name qual params body sc dV kV doc pm an cd ct cc) (binds := ps.zip us) hr.depth (kin _ _ lk) rfl (e0.mod.nolimit.keeps up) (PySem.W.codeRec_of kin hcd) rfl hb S.nocell (fun y hy => (hloc y.1 (List.of_mem_zip hy).1).1) (fun h1 hns hk => ?_) S.co S.gen S.kind
    have key : (fun x => (ps.zip us).reverse.lookup x) = bindL (envOfC qual sc0 s.heap.objs.size f cd).kindOf (ps.zip us) (fun _ => none) := by
      funext x
      rw [bindL_all _ _ (fun y hy => (hloc y.1 (List.of_mem_zip hy).1).2) x, Option.or_none]
    rw [key] at hns
    have x0 : InCallC s s.heap.objs.size (bindL (envOfC qual sc0 s.heap.objs.size f cd).kindOf (ps.zip us) fun _ => none) (cellsFrom (s.heap.objs.size + 1) sc0.names []) (bindC (envOfC qual sc0 s.heap.objs.size f cd).kindOf (ps.zip us) fun _ => none) { s with heap := h1, toks := s.toks + (ps.zip us).length } := by
      rw [S.cells0]
      exact ⟨⟨⟨h1, _, rfl⟩, hns, hk, Nat.le_refl _⟩, fun n c e => (by cases e), List.Pairwise.nil, fun n c e => (by cases e)⟩
    have I0 := inv_start (CX := CX) (cd := cd) (E := E) S.base hr.hd e0 (len _ _ _ _ hsp) r x0
    refine ks_wpAt_mono (hbody A outer s H vs Q E _ (hr.deeper _) hsp (start_cell S e0.frames lc I0)) (fun fl s2 q => ?_) fun _ _ q => q
    have z := end_of (X := cxD CX P w K mg base N qual sc sc0 f cd cc A outer s H E) rfl q
    cases fl <;> exact z
end
end Rd
/-! OwnE: super().__init__(text) at the head of an own exception's __init__. -/
namespace Rd
open PySem PySem.Spec PyProof.Rows PySem.W PySem.Calls L2
section
variable {X : Cx} {pins : List (Addr × Obj)} {σ : L2.St} {H : Hp} {s : Shared} {a C : Addr}
/-- one tracked object is laid anew by a rule that tells of the ledger: all else stands -/
theorem Inv.relaid {m : Str → Option Value} {h' : Heap} {o : HO} (I : L2.Inv X pins σ H s) (mu : Mut (H a)) (fr0 : Fr X.base X.env.locals s.heap m) (fr : Fr X.base X.env.locals h' m) (nw : News X.base X.env.locals h' (rest X.base s.heap X.env.locals a))
    (new : ∃ u, h'.get? a = some u) (ok : ObjOk X.prog X.w (upd H a o) h' a o) : L2.Inv X pins σ (upd H a o) { s with heap := h' } := by
  have kept : ∀ b u, b ≠ X.env.locals → b ≠ a → s.heap.get? b = some u → h'.get? b = some u := kept_of_news I.bk fr nw
  have free : ∀ b, H b = none → b ≠ a := fun b n e => by rw [e] at n; rw [n] at mu; exact mu
  have loc : ∀ b u, H b = some u → b ≠ X.env.locals := fun b u q e => by rw [e, I.free] at q; cases q
  have rigid : ∀ b u, H b = some u → ¬ Mut (some u) → b ≠ a := fun b u q n e => by rw [e] at q; rw [q] at mu; exact n mu
  refine I.step (g' := s.gens) (t' := s.toks) (d' := s.drawn) (ch := []) (fun b hb => (by cases hb)) (fun b u n _ _ q z => kept b u n (free b z) q) (fun b u n _ _ q z => ⟨u.slots, kept b u n (free b z) q⟩) (fun b u _ q z => ?_) (fun b u _ q => ?_) (fun b xs q => ?_) (fun b u v q => ?_) (fun b vs q => ?_) (fun m2 hm2 => ?_) (fun b u q => ?_) I.bare
  · rw [upd_ne (free b z)]; exact z
  · by_cases e : b = X.env.locals
    · obtain ⟨ob, _, _, hb, _⟩ := fr.ns
      exact ⟨ob, by rw [e]; exact hb⟩
    · by_cases e2 : b = a
      · rw [e2]; exact new
      · exact ⟨u, kept b u e e2 q⟩
  · rw [upd_ne (rigid b _ q fun z => z)]; exact q
  · rw [upd_ne (rigid b _ q fun z => z)]; exact q
  · exact ⟨#[], by rw [upd_ne (rigid b _ q fun z => z), q]; simp⟩
  · rw [hm2.eq_nsMap, ← fr0.ns.eq_nsMap]; exact fr.ns
  · by_cases e : b = a
    · subst e; rw [upd_same] at q; cases q; exact ok
    · rw [upd_ne e] at q
      refine (I.hok b u q).stay (fun c v hc r => ?_) (fun c r => ?_) fun c xs r => ?_
      · rcases hc with rfl | hc
        · exact kept c v (loc c u q) e r
        · exact kept c v (loc c _ hc) (rigid c _ hc fun z => z) r
      · rw [upd_ne (rigid c _ r fun z => z)]; exact r
      · rw [upd_ne (rigid c _ r fun z => z)]; exact r
/-- what the written part says of such a class -/
structure SupC (K : PySem.W.Frag) (C : Addr) : Prop where
  op : PySem.W.nsIn K cStatics "thirdparty.any" = some none
  ini : ks_superIn K C C "__init__" = some (some (.builtin "ValueError.__init__"))
  ve : PySem.W.subIn K (.ref C) (.type "ValueError") = some true
  slf : PySem.W.mroIn K C (.ref C) = some true
  made : excInitIn K C [.type "ValueError", .type "Exception", .type "BaseException", .type "object"] "ValueError.__new__" = true
theorem upd_self {o : HO} (e : H a = some o) : upd H a o = H := by
  funext b
  by_cases z : b = a
  · rw [z, upd_same, e]
  · exact upd_ne z
/-- the bound __init__ is called: nothing of it is told -/
theorem call_wrapped {A : Around} {E : Value → Shared → Prop} {u : Addr} {us : List Value} {Q : Value → Shared → Prop} (T : SupC X.K C) (I : L2.Inv X pins σ H s) (e : H a = some (exo a C none)) (hu : s.heap.get? u = some (kxs_mw "ValueError.__init__" a)) (nb : X.base.get? u = none) (nl : u ≠ X.env.locals)
    (hl : us.length ≤ sizeLine) (h : ∀ s', L2.Inv X pins σ H s' → Q .none s') : wpAny (model X.prog X.w) A (call (.ref u) us) Q E s := by
  obtain ⟨t, ho⟩ := exo_at I.hok e
  obtain ⟨m, fr⟩ := I.fr
  have al : a ≠ X.env.locals := fun z => by rw [z, I.free] at e; cases e
  have ab : X.base.get? a = none := by
    cases q : X.base.get? a with
    | none => rfl
    | some o => have z := (I.bs a o q).2; rw [e] at z; cases z
  have ua : u ≠ a := fun z => by rw [z, ho] at hu; cases hu
  refine kxs_call (L := X.env.locals) (h₀ := X.base) (t := t) (dv := none) (c2 := .none) fr I.mod.kin (news_at al ab ho) F.excBase_ValueError T.made (List.mem_cons_of_mem _ (mem_rest nl nb hu ua)) (.head rest_ne) hl fun t' h' fr' nw' _ => ?_
  have new : h'.get? a = some _ := (nw' (a, excObj C t' none .none) (by simp)).1
  have J := Inv.relaid (o := exo a C none) I (by rw [e]; exact trivial) fr fr' (fun p hp => nw' p (List.mem_cons_of_mem _ (List.mem_cons_of_mem _ hp))) ⟨_, new⟩ (exo_ok new)
  rw [upd_self e] at J
  exact h _ J
end
section
variable {CX : CXT} {P : Program} {w : World} {K : PySem.W.Frag} {mg : Str → Option Value} {base : Heap} {N ps : List Str} {qual : Str} {sc sc0 : Scope} {f cc C cda a : Addr} {A : Around} {outer : List Env} {s0 s : Shared} {H0 H : Hp} {E : XK} {σ : L2.St}
  {cl oc ccl : Value} {cld od cdd : Option Addr} {csl osl ccs : Array (Option Value)} {fd : FuncData} {ar : Arg} {body : List Stmt} {vs : Array Value} {file : Str} {tf : Tok}
/-- the file of the text, the def and its first name, as super() asks them -/
structure SupAt (P : Program) (K : PySem.W.Frag) (mg : Str → Option Value) (sc : Scope) (f cda : Addr) (x : Str) : Prop where
  fn : ∃ oc od fd osl ar, K.lookup f = some ⟨oc, od, .func fd, osl⟩ ∧ (fd.params.posonlyargs ++ fd.params.args).head? = some ar ∧ ar.arg = x
  code : ∃ cl cd vs sl file tf, K.lookup cda = some ⟨cl, cd, .fields vs, sl⟩ ∧ vs[2]? = some (.str file tf) ∧ ((P.main.file : Str) == file) = true
  top : (P.main.scope.names.lookup ("super" : Str)).isSome = false
  glo : mg "super" = none
  here : sc.names.lookup ("super" : Str) = some .globalImplicit
/-- super() at the head of a body: a new object of the kind super, all else stands -/
theorem sup_here {x : Str} {whole : Sem Value} {attr : Str} {p0 p1 : Pos} {D : Addr} {cdD : ClassData} {ox : Obj} {Q : Value → Shared → Prop} (I : L2.Inv (cxD CX P w K mg base N qual sc sc0 f (.ref cda) cc A outer s0 H0 E) [] σ H s) (S : ClsScope N ps sc sc0) (U : SupAt P K mg sc f cda x)
    (h0 : N[0]? = some x) (hx : sc.names.lookup x = some .local) (hσ : σ[0]? = some (some (.ref a))) (lc : K.lookup cc = some ⟨cl, cld, .cell (some (.ref D)), csl⟩) (hD : clsIn K D = some cdD) (ha : s.heap.get? a = some ox) (hcls : ox.cls = .ref C) (hnc : ∀ c, ox.data ≠ .cls c)
    (hsub : mroIn K C (.ref D) = some true) (hat : (attr == ("__class__" : Str)) = false)
    (h : ∀ so h', h'.get? so = some (ks_superObj D a C) → (∀ b o, s.heap.get? b = some o → h'.get? b = some o) → Q (.ref so) { s with heap := h' }) :
    _root_.PySem.wpAt (model P w) (A.deeper (cenv qual sc s0.heap.objs.size f (.ref cda) cc)) (.func body (cenv qual sc s0.heap.objs.size f (.ref cda) cc)) (attributeBase (.Call (.Name "super" p0) [] [] p1) attr (cenv qual sc s0.heap.objs.size f (.ref cda) cc) whole) Q
      (cxD CX P w K mg base N qual sc sc0 f (.ref cda) cc A outer s0 H0 E).xe s := by
  obtain ⟨_, _, _, _, ar, lf, hp, rfl⟩ := U.fn
  obtain ⟨_, _, _, _, _, _, lcd, hv, hfile⟩ := U.code
  obtain ⟨mb, nsb, hb⟩ := I.mod.blt
  have kin : K.In s.heap := I.kIn
  obtain ⟨m, ns, lk⟩ := I.loc
  obtain ⟨u, ru, hu⟩ := lk 0 ar.arg (.ref a) h0 hσ (.inl hx)
  have um : m ar.arg = some (.ref a) := by
    cases ru
    rcases hu with ⟨_, q⟩ | ⟨q, _⟩
    · exact q
    · have q' : sc.names.lookup ar.arg = some .cell ∨ sc.names.lookup ar.arg = some .free := q
      rw [hx] at q'
      rcases q' with z | z <;> cases z
  obtain ⟨oD, gD, eD⟩ : ∃ oD, s.heap.get? D = some oD ∧ oD.data = .cls cdD := by
    unfold clsIn at hD
    split at hD
    · rename_i q
      cases hD
      exact ⟨_, kin _ _ q, rfl⟩
    · cases hD
  have boot : bootBuiltins ("super" : Str) = some (.type "super") := by first | boot_by_name | rfl | kernel_rfl
  have last : wpAny (model P w) (A.deeper (cenv qual sc s0.heap.objs.size f (.ref cda) cc)) (call (.type "super") [.ref D, .ref a]) Q (cxD CX P w K mg base N qual sc sc0 f (.ref cda) cc A outer s0 H0 E).xe s :=
    ks_wpAny_call_super gD eD ha hcls hnc (looks_mroIn kin hsub) fun h' e k => h _ h' e k
  refine ks_wpAt_super_base (env := cenv qual sc s0.heap.objs.size f (.ref cda) cc) U.here S.free hat rfl (kin _ _ lf) rfl hp rfl (kin _ _ lcd) rfl hv hfile U.top ?_
  exact ks_loadName_global S.kind U.here (loadGlobal_builtin (env := cenv qual sc s0.heap.objs.size f (.ref cda) cc) (I.mod.glob.keeps I.bk) U.glo (nsb.keeps I.bk) ((hb _ (by decide)).trans boot)
    ⟨rfl, wpAny_loadName_free S.kind S.free rfl ⟨_, kin _ _ lc, rfl⟩ (wpAny_loadName_local S.kind hx ns um (ks_wpAny_isType_cls gD eD ⟨rfl, last⟩))⟩)
end
end Rd
/-! OwnI: an own exception's __init__ keeps its promise. -/
namespace Rd
open PySem PySem.Spec PyProof.Rows PySem.W PySem.Calls L2
section
variable {CX : CXT} {P : Program} {w : World} {K : PySem.W.Frag} {mg : Str → Option Value} {base : Heap} {N ps : List Str} {qual : Str} {sc sc0 : Scope} {f cc C cda a : Addr} {A : Around} {outer : List Env} {s0 s : Shared} {H0 H : Hp} {E : XK} {σ : L2.St}
  {cl : Value} {cld : Option Addr} {csl : Array (Option Value)} {body : List Stmt}
abbrev supCall (txt : Str) (j : Nat) (p0 p1 apos cp pos : Pos) : Expr := .Call (.Attribute (.Call (.Name "super" p0) [] [] p1) "__init__" apos) [.Constant (.str txt) j cp] [] pos
/-- how such a call is gone through -/
def GoesSup (env : Env) (txt : Str) (j : Nat) (p0 p1 apos cp pos : Pos) : Prop := ∃ pl : Sem Bool, eval (supCall txt j p0 p1 apos cp pos) env = (do
  let ov ← attributeBase (.Call (.Name "super" p0) [] [] p1) "__init__" env (eval (.Call (.Name "super" p0) [] [] p1) env)
  standAt apos.atName
  let (fx, first) ← holding [ov] (getMethod ov "__init__" pl)
  callWith pos fx first (backTo pos (starEach [.Constant (.str txt) j cp] env)) [])
theorem sup_init {x : Str} {txt : Str} {j : Nat} {p0 p1 apos cp pos pos' : Pos} (I : L2.Inv (cxD CX P w K mg base N qual sc sc0 f (.ref cda) cc A outer s0 H0 E) [] σ H s) (S : ClsScope N ps sc sc0) (U : SupAt P K mg sc f cda x) (T2 : SupC K C)
    (h0 : N[0]? = some x) (hx : sc.names.lookup x = some .local) (hσ : σ[0]? = some (some (.ref a))) (lc : K.lookup cc = some ⟨cl, cld, .cell (some (.ref C)), csl⟩) (e : H a = some (exo a C none))
    (go : GoesSup (cenv qual sc s0.heap.objs.size f (.ref cda) cc) txt j p0 p1 apos cp pos) (hsw : swapsWith (supCall txt j p0 p1 apos cp pos) none pos'.line (cenv qual sc s0.heap.objs.size f (.ref cda) cc) = pure false) :
    _root_.PySem.wpAt (model P w) (A.deeper (cenv qual sc s0.heap.objs.size f (.ref cda) cc)) (.func body (cenv qual sc s0.heap.objs.size f (.ref cda) cc)) (exec (.Expr (supCall txt j p0 p1 apos cp pos) pos') (cenv qual sc s0.heap.objs.size f (.ref cda) cc))
      (fun fl s' => fl = .next ∧ L2.Inv (cxD CX P w K mg base N qual sc sc0 f (.ref cda) cc A outer s0 H0 E) [] σ H s') (cxD CX P w K mg base N qual sc sc0 f (.ref cda) cc A outer s0 H0 E).xe s := by
  obtain ⟨pl, hev⟩ := go
  obtain ⟨t, ho⟩ := exo_at I.hok e
  obtain ⟨cdC, hcd, hal⟩ : ∃ cdC, clsIn K C = some cdC ∧ alongIn K "__init__" ((cdC.mro.dropWhile (· != .ref C)).drop 1) = some (some (.builtin "ValueError.__init__")) := by
    have q := T2.ini
    unfold ks_superIn at q
    cases z : clsIn K C with
    | none => rw [z] at q; cases q
    | some c => rw [z] at q; exact ⟨c, rfl, q⟩
  refine ks_wpAt_Expr_any (ks_wpAt_MethodCall (sup_here I S U h0 hx hσ lc hcd ho rfl (fun c z => by cases z) T2.slf (by decide) fun so h1 gso k1 => ?_) hev) I.quiet hsw
  have I1 := I.kept (t' := s.toks) k1
  have kin : K.In h1 := I1.kIn
  have inst : InstAt h1 a _ C none := ⟨k1 _ _ ho, rfl, rfl, trivial⟩
  obtain ⟨hs, g, d, tk, os⟩ := s
  have mro : Looks (model P w) h1 (mroOf (.ref C)) cdC.mro := (looks_clsIn kin hcd).andThen .now
  refine kxs_getMethod (d := d) kxs_ValueError gso (looks_opaque kin T2.op) mro rfl kin hal (inst.type.andThen (looks_subIn kin T2.ve)) (ks_ne kin inst hcd) (by decide) ?_
  have I2 := I1.kept (t' := tk + 1) (h' := h1.push (kxs_mw "ValueError.__init__" a)) fun b o q => Heap.get?_push_of_some _ q
  have gu : (h1.push (kxs_mw "ValueError.__init__" a)).get? h1.objs.size = some (kxs_mw "ValueError.__init__" a) := Heap.get?_push_size _ rfl
  have ul : h1.objs.size ≠ s0.heap.objs.size := fun z => by
    have q : s0.heap.objs.size < h1.objs.size := I1.lt
    omega
  have ub : base.get? h1.objs.size = none := by
    cases q : base.get? h1.objs.size with
    | none => rfl
    | some o => exact absurd (Heap.lt_size (I1.bk _ o q)) (Nat.lt_irrefl _)
  have I3 : L2.Inv (cxD CX P w K mg base N qual sc sc0 f (.ref cda) cc A outer s0 H0 E) [(h1.objs.size, kxs_mw "ValueError.__init__" a)] σ H ⟨h1.push (kxs_mw "ValueError.__init__" a), g, d, tk + 1, os⟩ := I2.pins_of fun p hp => by
    cases List.mem_singleton.mp hp
    exact ⟨gu, I1.hok.fresh (Nat.le_refl _), ul, I1.nofs (Nat.le_refl _), fun v z => by cases z⟩
  have PAc : PA (cxD CX P w K mg base N qual sc sc0 f (.ref cda) cc A outer s0 H0 E) [.Constant (.str txt) j cp] (tCons (tC (.str txt)) tNil) := pa_cons pe_str pa_nil (by rfl)
  refine kxs_callWith1 (h₀ := base) (L := s0.heap.objs.size) (i := "ValueError.__init__") (x := a) (news := [(h1.objs.size, kxs_mw "ValueError.__init__" a)]) (fun p hp => by cases List.mem_singleton.mp hp; exact ⟨gu, ul, ub⟩) (by simp)
    (wpAny_mono (PAc.run pos _ _ σ H (fun us H' => us.length = 1 ∧ H' = H) I3 ⟨rfl, rfl⟩) (fun us s2 q => ?_) fun _ _ z => z) (by rfl) (by rfl)
  obtain ⟨ws, H2, J, rv, hl, rfl⟩ := q
  have gu2 := (J.pin _ (List.mem_append_right _ (List.mem_singleton.mpr rfl))).1
  have hus : us.length ≤ sizeLine := by rw [← rv.length, hl]; decide
  exact ⟨gu2, call_wrapped (X := cxD CX P w K mg base N qual sc sc0 f (.ref cda) cc A outer s0 H0 E) T2 J e gu2 ub ul hus fun s' J' => ⟨rfl, J'.pins_of fun p hp => by cases hp⟩⟩
/-- an __init__ whose first row is super().__init__(text) -/
theorem fn_exc {k : Nat} {name x : Str} {params : Arguments} {rest : List Stmt} {dV kV doc pm ct oc : Value} {an od : Option Addr} {osl : Array (Option Value)} {sp : Sp} {txt : Str} {j : Nat} {p0 p1 apos cp pos pos' : Pos}
    (lk : K.lookup f = some ⟨oc, od, .func (ksFn name qual params (.Expr (supCall txt j p0 p1 apos cp pos) pos' :: rest) sc dV kV doc pm an (.ref cda) ct cc), osl⟩)
    (hcd : PySem.W.codeIn K (.ref cda) qual = true) (lc : K.lookup cc = some ⟨cl, cld, .cell (some (.ref C)), csl⟩) (S : ClsScope N ps sc sc0) (len : ∀ vs H Q E, sp vs H Q E → vs.length = ps.length) (hloc : ∀ x ∈ ps, sc.names.lookup x = some .local ∧ sc0.names.lookup x = some .local)
    (U : SupAt P K mg sc f cda x) (T2 : SupC K C) (h0 : N[0]? = some x) (hx : sc.names.lookup x = some .local)
    (go : ∀ L, GoesSup (cenv qual sc L f (.ref cda) cc) txt j p0 p1 apos cp pos) (hsw : ∀ L, swapsWith (supCall txt j p0 p1 apos cp pos) none pos'.line (cenv qual sc L f (.ref cda) cc) = pure false)
    (hs : ∀ vs H Q E, sp vs H Q E → ∃ a r, vs = .ref a :: r ∧ H a = some (exo a C none))
    (hrest : ∀ (A : Around) (outer : List Env) (s : Shared) (H : Hp) (vs : List V) (Q : VK) (E : XK), Room k (A.deeper (cenv qual sc s.heap.objs.size f (.ref cda) cc)) → sp vs H Q E →
      ∃ t, PSs (cxD CX P w K mg base N qual sc sc0 f (.ref cda) cc A outer s H E) rest t ∧ t { nx := fun _ H' => Q .non H', rt := Q } (start N vs) H) :
    FnOk P w K mg base CX (k + 1) f (ksFn name qual params (.Expr (supCall txt j p0 p1 apos cp pos) pos' :: rest) sc dV kV doc pm an (.ref cda) ct cc) ps sp := by
  refine fn_cell lk hcd lc S len hloc fun A outer s H vs Q E s1 hr hsp I => ?_
  obtain ⟨a, r, rfl, e⟩ := hs _ _ _ _ hsp
  obtain ⟨t, ht, hq⟩ := hrest A outer s H _ Q E hr hsp
  refine ks_wpAt_execs_cons (ks_wpAt_mono (sup_init I S U T2 h0 hx rfl lc e (go _) (hsw _)) (fun fl s2 q => ?_) fun _ _ z => z)
  obtain ⟨rfl, J⟩ := q
  exact wpAt_of_wpAny (ht.run [] s2 _ H _ J hq)
end
end Rd
/-! Catch: try .. except C as e, where e is kept behind the suite: the caught object becomes a tracked one. Only what C names is raised. -/
namespace Rd
open PySem PySem.Spec PyProof.Rows L2
/-- at a stands an exception of the class cls, its own dict at d -/
def XcO (cls : Value) (d : Option Addr) (a : Addr) : HO := .ext fun h => ∃ (o : Obj) (fs : Array Value), h.get? a = some o ∧ Zc cls d o ∧ o.data = .fields fs
/-- a is nobody's record here -/
structure Alone (X : Cx) (pins : List (Addr × Obj)) (a : Addr) : Prop where
  loc : a ≠ X.env.locals
  old : X.s_0.heap.get? a = none
  pin : ∀ p ∈ X.pn ++ pins, p.1 ≠ a
section
variable {X : Cx} {pins : List (Addr × Obj)} {σ : L2.St} {H : Hp} {s : Shared} {a : Addr} {cls : Value} {d : Option Addr}
theorem xcO_is {P : Program} {w : World} {h : Heap} {o : Obj} {fs : Array Value} (e : h.get? a = some o) (z : Zc cls d o) (q : o.data = .fields fs) : ObjOk P w H h a (XcO cls d a) :=
  ⟨⟨o, fs, e, z, q⟩, ⟨o, e⟩, fun _ _ ⟨o, fs, e, z, q⟩ k => ⟨o, fs, k o e, z, q⟩⟩
theorem Inv.hold {o : Obj} {fs : Array Value} (I : L2.Inv X pins σ H s) (al : Alone X pins a) (na : H a = none) (e : s.heap.get? a = some o) (z : Zc cls d o) (q : o.data = .fields fs) : L2.Inv X pins σ (upd H a (XcO cls d a)) s :=
  have up : ∀ {b : Addr} {u : HO}, H b = some u → upd H a (XcO cls d a) b = some u := fun {b u} hb => (upd_ne (ne_of_none hb na)).trans hb
  { ok := I.ok, os := I.os, bare := I.bare, loc := I.loc, cell := I.cell, len := I.len
    base := { keep := I.base.keep, slot := I.base.slot, there := I.base.there
              free := fun b u hb n hx => (upd_ne fun z => by rw [z, al.old] at hb; cases hb).trans (I.base.free b u hb n hx)
              tups := fun b xs hb => up (I.base.tups b xs hb)
              frzs := fun b u v hb => up (I.base.frzs b u v hb)
              tbls := fun b ps hb => let ⟨m, w⟩ := I.base.tbls b ps hb; ⟨m, up w⟩ }
    free := (upd_ne (Ne.symm al.loc)).trans I.free
    freeC := fun x c hc => (upd_ne fun z => by
      obtain ⟨v, u, hu, hv⟩ := I.cell x c hc
      rw [z, e] at hu; cases hu; rw [q] at hv; cases hv).trans (I.freeC x c hc)
    pin := fun p hp => let ⟨h1, h2, h3⟩ := I.pin p hp; ⟨h1, (upd_ne (al.pin p hp)).trans h2, h3⟩
    hok := HOk.laidN I.hok (fun _ _ hb => hb) na (xcO_is e z q) }
/-- the same ends over another context -/
theorem sp_map {Y : Cx} {p1 : List (Addr × Obj)} {D : Ends} {f : Flow} (m : ∀ σ H, L2.Inv Y p1 σ H s → L2.Inv X pins σ H s) (h : SP Y p1 D f s) : SP X pins D f s := by
  cases f with
  | ret u => exact let ⟨v, σ, H, J, r⟩ := h; ⟨v, σ, H, m σ H J, r⟩
  | next => exact let ⟨σ, H, J, r⟩ := h; ⟨σ, H, m σ H J, r⟩
  | brk => exact let ⟨σ, H, J, r⟩ := h; ⟨σ, H, m σ H J, r⟩
  | cont => exact let ⟨σ, H, J, r⟩ := h; ⟨σ, H, m σ H J, r⟩
/-- into the suite, and back -/
theorem Inv.intoSuite (I : L2.Inv X pins σ H s) : L2.Inv (X.suite a (X.pn ++ pins)) [] σ H s :=
  { ok := I.ok.suite _ _, os := I.os, bare := I.bare, base := I.base, loc := I.loc, cell := I.cell, free := I.free, freeC := I.freeC, hok := I.hok, len := I.len, pin := fun p hp => I.pin p (by simpa using hp) }
theorem Inv.outOfSuite {pn : List (Addr × Obj)} (ok : X.Ok) (I : L2.Inv (X.suite a (X.pn ++ pins)) pn σ H s) : L2.Inv X pins σ H s :=
  { ok := ok, os := I.os, bare := I.bare, base := I.base, loc := I.loc, cell := I.cell, free := I.free, freeC := I.freeC, hok := I.hok, len := I.len, pin := fun p hp => I.pin p (List.mem_append_left _ hp) }
/-- what flew in is nobody's record -/
theorem alone_of {B h : Heap} {o : Obj} {fs : Array Value} {sI : Shared} (hs : X.stack = X.env :: X.outer) (hf : X.env.frame = some X.env.locals) (hex : X.ex = []) (J : L2.Inv X pins σ H sI) (nb : ∀ b o, sI.heap.get? b = some o → b ∉ frs X.stack → B.get? b = some o)
    (hB : B.get? a = none) (ff : h.FunFrames B (X.env :: X.outer)) (e : h.get? a = some o) (q : o.data = .fields fs) : Alone X pins a := by
  have nst : a ∉ frs X.stack := by
    rw [hs]
    intro m
    obtain ⟨_, u, hu, nf⟩ := ff.mem m
    rw [e] at hu; cases hu
    exact nf fs q
  have nI : sI.heap.get? a = none := Option.eq_none_iff_forall_ne_some.mpr fun u hu => by
    have z := nb a u hu nst
    rw [hB] at z; cases z
  refine ⟨fun z => nst ?_, Option.eq_none_iff_forall_ne_some.mpr fun u hu => ?_, fun p hp z => ?_⟩
  · rw [hs, z]
    exact List.mem_filterMap.mpr ⟨X.env, List.mem_cons_self, hf⟩
  · obtain ⟨v, hv⟩ := J.base.there a u hu (by rw [hex]; exact List.not_mem_nil)
    rw [nI] at hv; cases hv
  · have hv := (J.pin p hp).1
    rw [z, nI] at hv; cases hv
end
/-- behind the suite the clause's name is unbound -/
def unbound (D : Ends) (i : Nat) : Ends := ⟨fun σ H => D.nx (σ.set i none) H, D.rt, fun σ H => D.bk (σ.set i none) H, fun σ H => D.ct (σ.set i none) H⟩
theorem w_unb {nx : L2.St → Hp → Prop} {rt : VK} {bk ct : L2.St → Hp → Prop} {i : Nat} {σ : L2.St} {H : Hp} (h : nx (σ.set i none) H) : (unbound ⟨nx, rt, bk, ct⟩ i).nx σ H := h
/-- the wish of such a clause -/
def wCatch (K : PySem.W.Frag) (c : Value) (i : Nat) (ts : TS) (D : Ends) : WX := fun cls d σ H => PySem.W.exmOne K cls c = some true ∧ ∀ a, H a = none → ts (unbound D i) (σ.set i (some (.ref a))) (upd H a (XcO cls d a))
section
variable {X : Cx} {x n : Str} {c : Value} {i : Nat} {body suite : List Stmt} {b0 : Stmt} {np pos pos' : Pos} {tb : WX → TS} {ts : TS}
/-- the clause takes what flew in -/
theorem clause_takes {rest : List ExceptHandler} {pins : List (Addr × Obj)} {σ : L2.St} {H : Hp} {D : Ends} {s' : Shared} {h3 B : Heap} {a : Addr} {cls : Value} {d : Option Addr} (ok : X.Ok) (hN : X.N.Nodup) (hi : X.N[i]? = some n) (hln : X.env.kindOf n = some .local) (hc : Names X x c)
    (hm : PySem.W.exmOne X.K cls c = some true) (hsu : ∀ (a : Addr) (pn : List (Addr × Obj)), PSs (X.suite a pn) (b0 :: suite) ts) (fl : HandSPX.FlyingZ B (X.env :: X.outer) a (Zc cls d) h3) (al : Alone X pins a) (na : H a = none)
    (on : ∀ h, HandSPX.FlyingZ B (X.env :: X.outer) a (Zc cls d) h → h3.UpToSlots h → L2.Inv X pins σ H { s' with heap := h }) (q : ts (unbound D i) (σ.set i (some (.ref a))) (upd H a (XcO cls d a))) :
    wpAny (model X.prog X.w) X.A (handleBy (.ref a) X.env (.ExceptHandler (some (.Name x np)) (some n) (b0 :: suite) pos' :: rest)) (SP X pins D) X.xe { s' with heap := h3 } := by
  have J := on h3 fl (Heap.UpToSlots.refl _)
  obtain ⟨o, fs, e, z, _⟩ := fl.there
  have look : PySem.W.Looks (model X.prog X.w) h3 (typeOf (.ref a)) cls := fun _ _ _ _ k w => wpAny_typeOf_ref (k _ _ e) (z.1 ▸ w)
  have back : ∀ {f : Flow} {s6 : Shared}, SP (X.suite a (X.pn ++ pins)) [] (unbound D i) f s6 → wpAny (model X.prog X.w) X.A (do bindName X.env n .none; unbindBehindTheSuite X.env n pos') (fun _ s7 => SP X pins D f s7) X.xe s6 := fun {f s6} h => by
    cases f with
    | ret u => exact let ⟨v, σ, H, S, r, w⟩ := h; gone_ok (Inv.outOfSuite ok S) hN hi hln fun s7 J7 => ⟨v, _, H, J7, r, w⟩
    | next => exact let ⟨σ, H, S, w⟩ := h; gone_ok (Inv.outOfSuite ok S) hN hi hln fun s7 J7 => ⟨_, H, J7, w⟩
    | brk => exact let ⟨σ, H, S, w⟩ := h; gone_ok (Inv.outOfSuite ok S) hN hi hln fun s7 J7 => ⟨_, H, J7, w⟩
    | cont => exact let ⟨σ, H, S, w⟩ := h; gone_ok (Inv.outOfSuite ok S) hN hi hln fun s7 J7 => ⟨_, H, J7, w⟩
  have name : ∀ {R : Value → Shared → Prop} {E : Value → Shared → Prop}, R c { s' with heap := h3 } → wpAny (model X.prog X.w) (X.A.mark (some (.ref a))) (eval (.Name x np) X.env) R E { s' with heap := h3 } := fun {R E} r => by
    have S := Inv.intoSuite (a := a) J
    obtain ⟨g1, g2, g3⟩ := hc
    rcases g3 with g3 | ⟨g3, g4, g5⟩
    · exact ld_glob S g1 g3 r g2
    · exact ld_blt S g1 g3 g4 r g5 g2
  refine wpAny_handleBy_cons (codeAny_handlers_test (name ((PySem.W.exm_one J.kIn look hm).here (codeAny_handlers_suite_as (HandSPX.lands_againZ fl fun h4 fl4 up4 => ?_))))) (fun w => by cases w)
  obtain ⟨o4, fs4, e4, z4, q4⟩ := fl4.there
  have S4 := Inv.intoSuite (a := a) (Inv.hold (on h4 fl4 up4) al na e4 z4 q4)
  refine store_ok (X := X.suite a (X.pn ++ pins)) (v := .ref a) S4 hN hi (.inl hln) rfl (fun s5 S5 => wpAny_mono ((hsu a (X.pn ++ pins)).run [] s5 _ _ _ S5 q) (fun f s6 w => ?_) fun _ _ w => w.elim) (.inr hln)
  exact back w
theorem ps_catch (hs : X.stack = X.env :: X.outer) (hf : X.env.frame = some X.env.locals) (hex : X.ex = []) (hN : X.N.Nodup) (hi : X.N[i]? = some n) (hln : X.env.kindOf n = some .local) (hc : Names X x c)
    (hb : ∀ (W : WX) (pn : List (Addr × Obj)) (xe : Value → Shared → Prop), Takes (X.tr pn xe) W → PassesOwn (model X.prog X.w) X.A X.env xe → PSs (X.tr pn xe) body (tb W)) (hsu : ∀ (a : Addr) (pn : List (Addr × Obj)), PSs (X.suite a pn) (b0 :: suite) ts) :
    PS X (.Try body [.ExceptHandler (some (.Name x np)) (some n) (b0 :: suite) pos'] [] [] pos) (fun D σ H => tb (wCatch X.K c i ts D) D σ H) where
  run := fun pins s σ H D I h => by
    have ok := I.ok
    have fr : X.A.frames = some (X.env :: X.outer) := ok.frames.trans (congrArg some hs)
    refine wpAny_Try_except (wpAny_mono ((hb (wCatch X.K c i ts D) (X.pn ++ pins) _ (fun u s' xx => ?_) PassesOwn.looking).run [] s σ H D (I.toTry _) h) (fun f s1 w => ?_) fun _ _ w => w)
    · obtain ⟨a, B, sI, p1, σ1, H1, cls, d, rfl, J1, nb, up, sky, na, os, ag, hm, q⟩ := xx
      have J : L2.Inv X pins σ1 H1 sI := J1.ofTry ok
      refine Sky.land Zc.steady fr hf (hs ▸ sky) fun h3 fl up3 => ?_
      obtain ⟨o, fs, e, _, qd⟩ := fl.there
      exact clause_takes ok hN hi hln hc hm hsu fl (alone_of hs hf hex J nb fl.2.1 fl.2.2.1 e qd) na (fun h4 fl4 up4 => J.landed nb fl4.1 ((up.trans up3).trans up4) os ag) (q a na)
    · have w' : SP X pins D f s1 := sp_map (fun σ H J => J.ofTry ok) w
      cases f with
      | next => exact wpAny_execs_nil w'
      | ret u => exact w'
      | brk => exact w'
      | cont => exact w'
end
end Rd
/-! Ask: isinstance of a kept exception, its fields; raise of an own exception with fields. -/
namespace Rd
open PySem PySem.Spec PyProof.Rows PySem.W PySem.Calls L2
/-- a kept exception of the class at D with the fields fs (none: it has no dict) -/
def XcAt (H : Hp) (a D : Addr) (fs : Option (List (Str × V))) : Prop := match fs with
  | none => H a = some (XcO (.ref D) none a)
  | some l => ∃ dd, H a = some (XcO (.ref D) (some dd) a) ∧ H dd = some (.xd l)
theorem XcAt.keep {H H' : Hp} {a D : Addr} {fs : Option (List (Str × V))} (h : XcAt H a D fs) (k : ∀ b o, H b = some o → H' b = some o) : XcAt H' a D fs := match fs, h with
  | none, e => k _ _ e
  | some _, ⟨dd, e1, e2⟩ => ⟨dd, k _ _ e1, k _ _ e2⟩
section
variable {X : Cx} {pins : List (Addr × Obj)} {σ : L2.St} {H : Hp} {s : Shared} {a D : Addr} {fs : Option (List (Str × V))}
theorem kept_inst (I : L2.Inv X pins σ H s) (h : XcAt H a D fs) : ∃ o od, InstAt s.heap a o D od ∧ ∀ l f v, fs = some l → l.lookup f = some v → ∃ ob u, od = some ob ∧ lookIn f ob = some (some u) ∧ RelV v u := by
  cases fs with
  | none =>
    obtain ⟨o, vs, e, ⟨z1, z2⟩, q⟩ := (I.hok a _ h).1
    exact ⟨o, none, ⟨e, z1, by unfold notCls; rw [q], by rw [z2]; trivial⟩, fun l f v z => nomatch z⟩
  | some l =>
    obtain ⟨dd, h1, h2⟩ := h
    obtain ⟨o, vs, e, ⟨z1, z2⟩, q⟩ := (I.hok a _ h1).1
    obtain ⟨mA, ns, rel⟩ := (show ObjOk X.prog X.w H s.heap dd (.xd l) from I.hok dd _ h2)
    obtain ⟨ob, ho, hl⟩ := lookIn_ns ns
    refine ⟨o, some ob, ⟨e, z1, by unfold notCls; rw [q], by rw [z2]; exact ho⟩, fun l' f v z w => ?_⟩
    cases z
    have r := rel f
    rw [w] at r
    obtain ⟨u, hu, ru⟩ := RelO.some_of r
    exact ⟨ob, u, rfl, (hl f).trans (congrArg some hu), ru⟩
theorem exc_kit {o : Obj} {od : Option Obj} (C : ExcC X.K D) : KitX X.K (.ref a) (.ref D) (fun h => InstAt h a o D od) := by
  have some_cls : (clsIn X.K D).isSome = true := by
    obtain ⟨cd, e, _⟩ := any_some C.hd
    rw [e]; rfl
  exact kitx_exc some_cls C.hg C.hk C.hs C.ha C.hn C.ht C.hm
def rIsX (K : PySem.W.Frag) : List V → Hp → VK → Prop := fun xs H Q => match xs with
  | [.ref a, c] => ∃ D fs u b, XcAt H a D fs ∧ ExcC K D ∧ ClsV c u ∧ kitOne K (.ref D) u = some b ∧ Q (.bl b) H
  | _ => False
def rIsXT (K : PySem.W.Frag) : List V → Hp → VK → Prop := fun xs H Q => match xs with
  | [.ref a, .ref tp] => ∃ D fs cs us b, XcAt H a D fs ∧ ExcC K D ∧ H tp = some (.tup cs) ∧ Paired ClsV cs us ∧ kitAny K (.ref D) us = some b ∧ Q (.bl b) H
  | _ => False
theorem cIsX : CallR X (.builtin "isinstance") (rIsX X.K) := by
  intro pins s σ H xs us Q I r h
  unfold rIsX at h
  split at h
  · obtain ⟨D, fs, u, b, hx, C, hc, e, q⟩ := h
    obtain ⟨v1, v2, rfl, r1, r2⟩ := vals2 r
    cases r1
    cases hc.eq r2
    obtain ⟨o, od, i, _⟩ := kept_inst I hx
    exact kia_one (exc_kit C) I.kIn i e (fun z => nomatch z) fun tk => ⟨.bl b, _, I.tok tk, rfl, q⟩
  · exact h.elim
theorem cIsXT : CallR X (.builtin "isinstance") (rIsXT X.K) := by
  intro pins s σ H xs us Q I r h
  unfold rIsXT at h
  split at h
  · obtain ⟨D, fs, cs, ws, b, hx, C, ht, hc, e, q⟩ := h
    obtain ⟨v1, v2, rfl, r1, r2⟩ := vals2 r
    cases r1
    cases r2
    obtain ⟨o, od, i, _⟩ := kept_inst I hx
    obtain ⟨its, rv, ⟨⟨c1, c2, c3, c4⟩, g1, g2, n, g3⟩, _⟩ := I.tuple (SqT.of ht)
    cases g2
    cases g3
    cases ClsV.all hc rv
    exact kia_tup (exc_kit C) I.kIn i g1 e (fun z => nomatch z) fun tk => ⟨.bl b, _, I.tok tk, rfl, q⟩
  · exact h.elim
theorem CallR.or {f : Value} {r r' : List V → Hp → VK → Prop} (h : CallR X f r) (h' : CallR X f r') : CallR X f (fun xs H Q => r xs H Q ∨ r' xs H Q) :=
  fun pins s σ H xs us Q I rv z => z.elim (h pins s σ H xs us Q I rv) (h' pins s σ H xs us Q I rv)
def uIsi (K : PySem.W.Frag) : List V → Hp → VK → Prop := fun xs H Q => rIsi K xs H Q ∨ rIsX K xs H Q
def uIsiT (K : PySem.W.Frag) : List V → Hp → VK → Prop := fun xs H Q => rIsiT K xs H Q ∨ rIsXT K xs H Q
theorem cIsi : CallR X (.builtin "isinstance") (uIsi X.K) := CallR.or call_isi cIsX
theorem cIsiT : CallR X (.builtin "isinstance") (uIsiT X.K) := CallR.or call_isiT cIsXT
/-- e.f of a kept exception -/
def tXk (K : PySem.W.Frag) (f : Str) (te : TE) : TE := fun σ H Q => te σ H fun x H1 => match x with
  | .ref a => ∃ C l v, XcAt H1 a C (some l) ∧ XfC K C ∧ findIn K (.ref C) f = some none ∧ l.lookup f = some v ∧ Q v H1
  | _ => False
theorem pe_xk {e : Expr} {te : TE} {f : Str} {pos : Pos} (he : PE X e te) (hb : attributeBase e f X.env (eval e X.env) = eval e X.env := by rfl) : PE X (.Attribute e f pos) (tXk X.K f te) where
  run := fun pins s σ H Q I h => attr_of hb (thn (he.run pins s σ H _ I h) fun u s1 w => by
    obtain ⟨x, H1, I1, rx, w⟩ := w
    split at w
    · obtain ⟨C, l, v, hx, T, hno, hl, q⟩ := w
      cases rx
      obtain ⟨o, od, i, hf⟩ := kept_inst I1 hx
      obtain ⟨ob, u, rfl, hu, ru⟩ := hf l f v rfl hl
      exact HandSPX.exc_get I1.kIn i T.ga T.gg T.exC (findObj_own T.hdC hno rfl hu) (handed_of ru) ⟨v, H1, I1.tok _, ru, q⟩
    · exact w.elim)
end
theorem w_xk {K : PySem.W.Frag} {f : Str} {i : Nat} {σ : L2.St} {H : Hp} {Q : VK} {a C : Addr} {l : List (Str × V)} {v : V} (hv : σ[i]? = some (some (.ref a))) (hx : XcAt H a C (some l)) (hc : XfC K C) (hn : findIn K (.ref C) f = some none) (hl : l.lookup f = some v) (h : Q v H) : tXk K f (tVar i) σ H Q := w_var hv ⟨C, l, v, hx, hc, hn, hl, h⟩
/-! ### an own exception with fields is made -/
def spX0 (C : Addr) : Sp := fun vs H Q _ => ∃ a, vs = [.ref a] ∧ H a = some (exo a C none) ∧ Q .non H
def spX1 (C : Addr) (f : Str) : Sp := fun vs H Q _ => ∃ a y, vs = [.ref a, y] ∧ H a = some (exo a C none) ∧ ∀ d, H d = none → d ≠ a → Q .non (upd (upd H d (exd d [(f, y)])) a (exo a C (some d)))
def spX2 (C : Addr) (f g : Str) : Sp := fun vs H Q _ => ∃ a y z, vs = [.ref a, y, z] ∧ H a = some (exo a C none) ∧ ∀ d, H d = none → d ≠ a → Q .non (upd (upd (upd H d (exd d [(f, y)])) a (exo a C (some d))) d (exd d [(g, z), (f, y)]))
section
variable {H : Hp} {σ : L2.St} {C : Addr} {W : XK}
theorem new_heap {H2 : Hp} {a d : Addr} {o : HO} (na : H a = none) (nd : d ≠ a) (h : ∀ b, b ≠ a → b ≠ d → H2 b = H b) : upd (del H2 a) d o = upd H d o := by
  funext b
  by_cases e : b = d
  · rw [e, upd_same, upd_same]
  · rw [upd_ne e, upd_ne e]
    by_cases z : b = a
    · rw [z, del_same, na]
    · rw [del_ne z, h b z e]
/-- the arguments of an exception are done -/
def kMkO (C : Addr) (sp : Sp) (dvs : List V) (W : XK) : List V → Hp → Prop := fun vs H => tMkO C sp dvs (tAc vs) [] H W
theorem w_mko {sp : Sp} {dvs : List V} {ta : TA} (h : ta σ H (kMkO C sp dvs W)) : tMkO C sp dvs ta σ H W := h
theorem use_raise1 {f : Str} {y : V} (h : ∀ d, H d = none → W (.ref C) (some d) (upd H d (.xd [(f, y)]))) : kMkO C (spX1 C f) [] W [y] H := by
  refine ⟨by show 1 ≤ 1000; decide, fun a na => ⟨a, y, rfl, upd_same, fun d nd hne => ⟨rfl, d, [(f, y)], upd_same, ?_, ?_, ?_⟩⟩⟩
  · rw [upd_ne hne, upd_same]
  · rw [upd_ne hne] at nd; exact nd
  · rw [upd_ne hne] at nd
    rw [new_heap na hne fun b hb hd => by rw [upd_ne hb, upd_ne hd, upd_ne hb]]
    exact h d nd
theorem use_raise2 {f g : Str} {y z : V} (h : ∀ d, H d = none → W (.ref C) (some d) (upd H d (.xd [(g, z), (f, y)]))) : kMkO C (spX2 C f g) [] W [y, z] H := by
  refine ⟨by show 2 ≤ 1000; decide, fun a na => ⟨a, y, z, rfl, upd_same, fun d nd hne => ⟨rfl, d, [(g, z), (f, y)], ?_, upd_same, ?_, ?_⟩⟩⟩
  · rw [upd_ne (Ne.symm hne), upd_same]
  · rw [upd_ne hne] at nd; exact nd
  · rw [upd_ne hne] at nd
    rw [new_heap na hne fun b hb hd => by rw [upd_ne hd, upd_ne hb, upd_ne hd, upd_ne hb]]
    exact h d nd
end
end Rd
/-! Hk: a Hook that also tells of own exceptions, of classes beside each other, and of defs with the cell __class__. -/
namespace Rd
open PySem PySem.Spec PyProof.Rows PySem.W L2
/-- facts of our own -/
inductive Xa where
  /-- an own exception whose __init__ begins with super().__init__ -/
  | exc (x : Str)
  /-- isinstance of an instance of x: an own class y, a built-in one -/
  | kit (x y : Str) (b : Bool) | kitT (x : Str) (t : String) (b : Bool)
  /-- isinstance of a thing of a built-in type -/
  | tkit (t : String) (y : Str) (b : Bool)
  /-- an except clause of y beside an exception of x -/
  | exm (x y : Str) (b : Bool)
  /-- instances of x may be asked for their class -/
  | inst (x : Str)
  /-- a staticmethod of a class -/
  | stat (x m : Str)
  /-- the class is the first of its own line -/
  | self1 (x : Str)
  /-- C.m is a def of the class, read off the class -/
  | cfun (x m : Str)
  /-- C.f is an int -/
  | cint (x f : Str) (i : Int)
  /-- instances of x are no ints -/
  | noint (x : Str)
  /-- super().m in a def of x is the def m of y -/
  | sup (x m y : Str)
  /-- m of x is m of y -/
  | heir (x m y : Str)
  /-- a property of a class -/
  | prop (x m : Str)
  /-- a default of x.__init__ is a written tuple of ints: the i-th, the one of a name -/
  | tupD (x : Str) (i : Nat) (is : List Int) | tupK (x k : Str) (is : List Int)
  /-- x's own operator nm with a thing of the built-in type t behind it -/
  | binT (x : Str) (nm t : String)
/-- the default of the name k, if it is an object -/
def kwAt (f : Str × Option Str) (k : Str) (K : PySem.W.Frag) : Addr := match K.lookup (He.fAd K f) with
  | some ⟨_, _, .func fd, _⟩ => (match fd.kwdefaults with
    | .ref D => (match PySem.W.nsIn K D k with
      | some (some (.ref a)) => a
      | _ => 0)
    | _ => 0)
  | _ => 0
def wtupB (K : PySem.W.Frag) (a : Addr) (is : List Int) : Bool := match K.lookup a with
  | some ⟨.type c, _, .seq its _, _⟩ => decide (c = "tuple") && He.relAll (is.map V.int) its.toList
  | _ => false
def veT : List Value := [.type "ValueError", .type "Exception", .type "BaseException", .type "object"]
/-- the class object of an own exception over ValueError -/
def xclsB (K : PySem.W.Frag) (C : Addr) : Bool := match K.lookup C with
  | some ⟨.type k, _, .cls cd, sl⟩ => decide (k = "type") && (match cd.mro, sl.toList with
    | .ref C' :: bm, [_, _, _, _, some (.builtin n), _] => decide (C' = C) && (decide (n = "ValueError.__new__") && (!cd.hasDel && (cd.hasDict && HandSPX.refsVE bm)))
    | _, _ => false)
  | _ => false
abbrev iAd (K : PySem.W.Frag) (x : Str) : Addr := He.ma K (He.ga K x) "__init__"
def excB (K : PySem.W.Frag) (x : Str) : Bool :=
  xclsB K (He.ga K x) && (He.eqO (findIn K (.ref (He.ga K x)) "__setattr__") (some (some (.builtin "object.__setattr__"))) && (decide (subIn K (.ref (He.ga K x)) (.type "BaseException") = some true) && (decide (typeIn K (.ref (He.ga K x)) = some (.type "type")) && (keepIn K (.ref (He.ga K x)) &&
  (He.eqO (nsIn K cStatics "thirdparty.any") (some none) && (He.eqO (ks_superIn K (He.ga K x) (He.ga K x) "__init__") (some (some (.builtin "ValueError.__init__"))) && (decide (subIn K (.ref (He.ga K x)) (.type "ValueError") = some true) && (decide (mroIn K (He.ga K x) (.ref (He.ga K x)) = some true) && (excInitIn K (He.ga K x) veT "ValueError.__new__" &&
  (He.eqO (findIn K (.ref (He.ga K x)) "__getattribute__") (some (some (.builtin "BaseException.__getattribute__"))) && (He.eqO (findIn K (.ref (He.ga K x)) "__getattr__") (some none) && (hasDictIn K (He.ga K x) && (He.eqO (findIn K (.ref (He.ga K x)) "__class__") (some (some (.builtin "object.__class__"))) &&
  (He.eqO (specialIn K (.builtin "object.__class__") "__get__") (some (some (.builtin "getset_descriptor.__get__"))) && (decide (takesIn K (.builtin "object.__class__") = some true) && (decide (mroIn K (He.ga K x) (.type "object") = some true) &&
  (He.eqO (findIn K (.ref (He.ga K x)) "__init__") (some (some (.ref (iAd K x)))) && decide (typeIn K (.ref (iAd K x)) = some (.type "function")))))))))))))))))))
/-- what a class finds under m is a descriptor of this kind -/
def cfB (K : PySem.W.Frag) (C : Addr) (m : Str) (n : String) : Bool := match findCls K (.ref C) (.type "type") m with
  | some (.get (.builtin n') (.ref p) .none (.ref C')) => decide (n' = n) && (decide (p = He.ma K C m) && decide (C' = C))
  | _ => false
theorem cf_ok {K : PySem.W.Frag} {C : Addr} {m : Str} {n : String} (h : cfB K C m n = true) : findCls K (.ref C) (.type "type") m = some (.get (.builtin n) (.ref (He.ma K C m)) .none (.ref C)) := by
  unfold cfB at h
  split at h
  · rename_i e
    rw [Bool.and_eq_true, Bool.and_eq_true, decide_eq_true_eq, decide_eq_true_eq, decide_eq_true_eq] at h
    obtain ⟨rfl, rfl, rfl⟩ := h
    exact e
  · cases h
/-- the def under a descriptor -/
def wrapAt (w : String) (x m : Str) (K : PySem.W.Frag) : Addr := match recIn K (He.ma K (He.ga K x) m) w with
  | some (.ref g :: _) => g
  | _ => 0
def Xa.ok (K : PySem.W.Frag) : Xa → Bool
  | .exc x => excB K x
  | .kit x y b => decide (kitOne K (.ref (He.ga K x)) (.ref (He.ga K y)) = some b)
  | .kitT x t b => decide (kitOne K (.ref (He.ga K x)) (.type t) = some b)
  | .tkit t y b => decide (kitOne K (.type t) (.ref (He.ga K y)) = some b)
  | .exm x y b => decide (exmOne K (.ref (He.ga K x)) (.ref (He.ga K y)) = some b)
  | .inst x => He.eqO (findIn K (.ref (He.ga K x)) "__class__") (some (some (.builtin "object.__class__"))) && (He.eqO (specialIn K (.builtin "object.__class__") "__get__") (some (some (.builtin "getset_descriptor.__get__"))) && (decide (takesIn K (.builtin "object.__class__") = some true) && decide (mroIn K (He.ga K x) (.type "object") = some true)))
  | .stat x m => readsIn K (He.ga K x) (.type "type") && (He.eqO (specialIn K (.ref (He.ga K x)) "__getattribute__") (some (some (.builtin "type.__getattribute__"))) && (cfB K (He.ga K x) m "staticmethod.__get__" && (match recIn K (He.ma K (He.ga K x) m) "staticmethod" with
    | some (.ref g :: _) => keepIn K (.ref g)
    | _ => false)))
  | .self1 x => selfFirst K (He.ga K x)
  | .cfun x m => readsIn K (He.ga K x) (.type "type") && (He.eqO (specialIn K (.ref (He.ga K x)) "__getattribute__") (some (some (.builtin "type.__getattribute__"))) && ((match findCls K (.ref (He.ga K x)) (.type "type") m with
    | some (.val (.ref g)) => decide (g = He.ma K (He.ga K x) m)
    | _ => false) && keepIn K (.ref (He.ma K (He.ga K x) m))))
  | .cint x f i => readsIn K (He.ga K x) (.type "type") && (He.eqO (specialIn K (.ref (He.ga K x)) "__getattribute__") (some (some (.builtin "type.__getattribute__"))) && (match findCls K (.ref (He.ga K x)) (.type "type") f with
    | some (.val (.int j _)) => decide (j = i)
    | _ => false))
  | .noint x => decide (subIn K (.ref (He.ga K x)) (.type "int") = some false)
  | .sup x m y => He.eqO (nsIn K cStatics "thirdparty.any") (some none) && (He.eqO (ks_superIn K (He.ga K x) (He.ga K x) m) (some (some (.ref (He.ma K (He.ga K y) m)))) && (decide (mroIn K (He.ga K x) (.ref (He.ga K x)) = some true) && (decide (typeIn K (.ref (He.ma K (He.ga K y) m)) = some (.type "function")) && fnIn K (He.ma K (He.ga K y) m))))
  | .heir x m y => decide (He.ma K (He.ga K x) m = He.ma K (He.ga K y) m)
  | .prop x m => He.eqO (findIn K (.ref (He.ga K x)) m) (some (some (.ref (He.ma K (He.ga K x) m)))) && (He.eqO (specialIn K (.ref (He.ma K (He.ga K x) m)) "__get__") (some (some (.builtin "property.__get__"))) && (decide (takesIn K (.ref (He.ma K (He.ga K x) m)) = some true) && (match recIn K (He.ma K (He.ga K x) m) "property" with
    | some (.ref _ :: _) => true
    | _ => false)))
  | .tupD x i is => decide (is.length ≤ 100) && wtupB K (He.dflAt (x, some "__init__") i K) is
  | .tupK x k is => decide (is.length ≤ 100) && wtupB K (kwAt (x, some "__init__") k K) is
  | .binT x nm t => selfFirst K (He.ga K x) && ((match findIn K (.ref (He.ga K x)) (dunderR nm) with
    | some none => true
    | some (some (.ref _)) => true
    | _ => false) && ((findIn K (.type t) (PySem.dunder nm)).isSome && ((findIn K (.type t) (dunderR nm)).isSome && decide (subIn K (.type t) (.ref (He.ga K x)) = some false))))
structure ExcT (K : PySem.W.Frag) (x : Str) : Prop where
  oex : OexC K (He.ga K x)
  sup : SupC K (He.ga K x)
  is : ExcC K (He.ga K x)
  fld : XfC K (He.ga K x)
  ini : findIn K (.ref (He.ga K x)) "__init__" = some (some (.ref (iAd K x)))
  fn : typeIn K (.ref (iAd K x)) = some (.type "function")
theorem xcls_ok {K : PySem.W.Frag} {C : Addr} (h : xclsB K C = true) : ∃ nm q N bs bm sn sub ab col dd k0 k1 k2 k3 k5, K.lookup C = some (excClassObj nm q C N bs bm true sn sub ab col dd k0 k1 k2 k3 k5 "ValueError.__new__") ∧ HandSPX.refsVE bm = true := by
  unfold xclsB at h
  split at h
  · rename_i k dd cd sl hl
    have hk := (He.ba h).1
    have hr := (He.ba h).2
    have ek := of_decide_eq_true hk
    subst ek
    split at hr
    · rename_i C' bm k0 k1 k2 k3 n k5 hm hs
      simp only [Bool.and_eq_true, decide_eq_true_eq, Bool.not_eq_true'] at hr
      obtain ⟨e1, e2, e3, e4, e5⟩ := hr
      obtain ⟨nm, bs, mro, ns, qn, hd, sn, sub, ab, col, dl⟩ := cd
      simp only at hm e3 e4
      have es : sl = #[k0, k1, k2, k3, some (.builtin n), k5] := by
        obtain ⟨l⟩ := sl
        exact congrArg Array.mk hs
      subst hm es e1 e2 e3 e4
      exact ⟨nm, qn, ns, bs, bm, sn, sub, ab, col, dd, k0, k1, k2, k3, k5, hl, e5⟩
    · exact Bool.noConfusion hr
  · exact Bool.noConfusion h
theorem exc_ok {K : PySem.W.Frag} {x : Str} (h : excB K x = true) : ExcT K x := by
  unfold excB at h
  simp only [Bool.and_eq_true, decide_eq_true_eq] at h
  obtain ⟨a1, a2, a3, a4, a5, a6, a7, a8, a9, a10, a11, a12, a13, a14, a15, a16, a17, a18, a19⟩ := h
  exact { oex := ⟨xcls_ok a1, He.eqO_ok a2, a3, a4, a5⟩, sup := ⟨He.eqO_ok a6, He.eqO_ok a7, a8, a9, a10⟩, is := ⟨He.eqO_ok a11, He.eqO_ok a12, a3, a13, He.eqO_ok a14, He.eqO_ok a15, a16, a17⟩, fld := ⟨He.eqO_ok a11, He.eqO_ok a12, a3, a13⟩, ini := He.eqO_ok a18, fn := a19 }
/-! ### a def that closes over __class__ -/
abbrev FnV : Type := Option (Str × Str × Arguments × FuncBody × Scope × Addr × List Str × Addr)
def fnV (K : PySem.W.Frag) (p : Str × Option Str) : FnV := match K.lookup (He.fAd K p) with
  | some ⟨_, _, .func fd, _⟩ => some (fd.name, fd.qualname, fd.params, fd.body, fd.scope, fd.globals, fd.closure.map (·.1), fd.builtins)
  | _ => none
structure DefS where
  cls : Str
  name : Str
  qual : Str
  st : Stmt
  dfl : List He.Dv := []
  kwd : List (Str × He.Dv) := []
def DefS.val (d : DefS) : FnV := some (d.name, d.qual, defArgs d.st, .stmts (defBody d.st), defScope d.st, mainGlobals, ["__class__"], builtinsNs)
def DefS.dvs (K : PySem.W.Frag) (d : DefS) : List V := d.dfl.map (He.Dv.v K)
def DefS.kws (K : PySem.W.Frag) (d : DefS) : List (Str × V) := d.kwd.map fun q => (q.1, q.2.v K)
def cellB (K : PySem.W.Frag) (cc C : Addr) : Bool := match K.lookup cc with
  | some ⟨_, _, .cell (some (.ref D)), _⟩ => decide (D = C)
  | _ => false
def fileB (K : PySem.W.Frag) (cd : Value) : Bool := match cd with
  | .ref c => (match K.lookup c with
    | some ⟨_, _, .fields vs, _⟩ => (match (vs[2]? : Option Value) with
      | some (.str z _) => decide (z = "/claim/cut.py")
      | _ => false)
    | _ => false)
  | _ => false
def DefS.ok (K : PySem.W.Frag) (d : DefS) : Bool := keepIn K (.ref (He.fAd K (d.cls, some d.name))) && (match K.lookup (He.fAd K (d.cls, some d.name)) with
  | some ⟨_, _, .func fd, _⟩ => codeIn K fd.code d.qual && (He.dflB K fd.defaults (d.dvs K) && (He.kwdB K fd.kwdefaults (d.kws K) && (fileB K fd.code && (match fd.closure with
    | [(_, cc)] => cellB K cc (He.ga K d.cls)
    | _ => false))))
  | _ => false)
/-- such a def as it stands behind the top -/
structure FunS (K : PySem.W.Frag) (name qual : Str) (st : Stmt) (dvs : List V) (kws : List (Str × V)) (C f : Addr) (fd : FuncData) : Prop where
  ex : ∃ oc od dV kV doc pm an cda ct osl cc cl cld csl, fd = ksFn name qual (defArgs st) (defBody st) (defScope st) dV kV doc pm an (.ref cda) ct cc ∧ K.lookup f = some ⟨oc, od, .func fd, osl⟩ ∧ codeIn K (.ref cda) qual = true ∧ DflV K dV dvs ∧ KwdV K kV kws ∧
    K.lookup cc = some ⟨cl, cld, .cell (some (.ref C)), csl⟩ ∧ ∃ ccl cdd vs sl tf, K.lookup cda = some ⟨ccl, cdd, .fields vs, sl⟩ ∧ vs[2]? = some (.str "/claim/cut.py" tf)
  kp : keepIn K (.ref f) = true
theorem cell_ok {K : PySem.W.Frag} {cc C : Addr} (h : cellB K cc C = true) : ∃ cl cld csl, K.lookup cc = some ⟨cl, cld, .cell (some (.ref C)), csl⟩ := by
  unfold cellB at h
  split at h
  · rename_i q
    cases of_decide_eq_true h
    exact ⟨_, _, _, q⟩
  · cases h
theorem file_ok {K : PySem.W.Frag} {cd : Value} (h : fileB K cd = true) : ∃ c ccl cdd vs sl tf, cd = .ref c ∧ K.lookup c = some ⟨ccl, cdd, .fields vs, sl⟩ ∧ vs[2]? = some (.str "/claim/cut.py" tf) := by
  unfold fileB at h
  split at h
  · split at h
    · rename_i q
      split at h
      · rename_i z
        cases of_decide_eq_true h
        exact ⟨_, _, _, _, _, _, rfl, q, z⟩
      · cases h
    · cases h
  · cases h
theorem DefS.funS {K : PySem.W.Frag} {d : DefS} (e : fnV K (d.cls, some d.name) = d.val) (c : d.ok K = true) : ∃ fd, FunS K d.name d.qual d.st (d.dvs K) (d.kws K) (He.ga K d.cls) (He.fAd K (d.cls, some d.name)) fd := by
  obtain ⟨kp, c⟩ := He.ba c
  unfold fnV at e
  split at c
  · rename_i oc od fd osl q
    rw [q] at e
    obtain ⟨c1, c⟩ := He.ba c
    obtain ⟨c2, c⟩ := He.ba c
    obtain ⟨c3, c⟩ := He.ba c
    obtain ⟨c4, c5⟩ := He.ba c
    obtain ⟨cda, ccl, cdd, vs, sl, tf, e1, e2, e3⟩ := file_ok c4
    split at c5
    · rename_i y cc hcl
      obtain ⟨cl, cld, csl, hc⟩ := cell_ok c5
      obtain ⟨n1, n2, n3, n4, n5, n6, n7, n8, n9, n10, n11, n12, n13, n14, n15⟩ := fd
      simp only at e hcl e1 c1 c2 c3
      subst hcl e1
      simp only [DefS.val, List.map_cons, List.map_nil, Option.some.injEq, Prod.mk.injEq, List.cons.injEq, and_true] at e
      obtain ⟨f1, f2, f3, f4, f5, f6, f7, f8⟩ := e
      subst f1 f2 f3 f4 f5 f6 f7 f8
      exact ⟨_, ⟨oc, od, n8, n9, n10, n11, n12, cda, n14, osl, cc, cl, cld, csl, rfl, q, c1, He.dflB_ok c2, He.kwdB_ok c3, hc, ccl, cdd, vs, sl, tf, e2, e3⟩, kp⟩
    · cases c5
  · cases c
/-! ### a def found by a path of its own -/
structure DefP where
  path : PySem.W.Frag → Addr
  name : Str
  qual : Str
  st : Stmt
  dfl : List He.Dv := []
  kwd : List (Str × He.Dv) := []
def fnP (K : PySem.W.Frag) (a : Addr) : He.FnW := match K.lookup a with
  | some ⟨_, _, .func fd, _⟩ => some (fd.name, fd.qualname, fd.params, fd.body, fd.scope, fd.globals, fd.closure, fd.builtins)
  | _ => none
def DefP.val (d : DefP) : He.FnW := some (d.name, d.qual, defArgs d.st, .stmts (defBody d.st), defScope d.st, mainGlobals, [], builtinsNs)
def DefP.dvs (K : PySem.W.Frag) (d : DefP) : List V := d.dfl.map (He.Dv.v K)
def DefP.kws (K : PySem.W.Frag) (d : DefP) : List (Str × V) := d.kwd.map fun q => (q.1, q.2.v K)
def DefP.ok (K : PySem.W.Frag) (d : DefP) : Bool := keepIn K (.ref (d.path K)) && (match K.lookup (d.path K) with
  | some ⟨_, _, .func fd, _⟩ => codeIn K fd.code d.qual && (He.dflB K fd.defaults (d.dvs K) && He.kwdB K fd.kwdefaults (d.kws K))
  | _ => false)
theorem DefP.funD {K : PySem.W.Frag} {d : DefP} (e : fnP K (d.path K) = d.val) (c : d.ok K = true) : ∃ fd, FunD K d.name d.qual (defArgs d.st) (defBody d.st) (defScope d.st) (d.dvs K) (d.kws K) (d.path K) fd := by
  obtain ⟨kp, c⟩ := He.ba c
  unfold fnP at e
  split at c
  · rename_i oc od fd osl q
    rw [q] at e
    obtain ⟨c1, c⟩ := He.ba c
    obtain ⟨c2, c3⟩ := He.ba c
    obtain ⟨n1, n2, n3, n4, n5, n6, n7, n8, n9, n10, n11, n12, n13, n14, n15⟩ := fd
    simp only at e c1 c2 c3
    simp only [DefP.val, Option.some.injEq, Prod.mk.injEq] at e
    obtain ⟨f1, f2, f3, f4, f5, f6, f7, f8⟩ := e
    subst f1 f2 f3 f4 f5 f6 f7 f8
    exact ⟨_, ⟨oc, od, n8, n9, n10, n11, n12, n13, n14, osl, rfl, q, c1, He.dflB_ok c2, He.kwdB_ok c3⟩, kp⟩
  · cases c
structure Fs where
  s : List DefS
  p : List DefP
/-! ### the Hook -/
/-- those that the mask has not, and the mask with them -/
def sift : List Addr → Nat → List Addr → List Addr × Nat
  | [], m, acc => (acc, m)
  | a :: r, m, acc => match Nat.beq (Nat.land (Nat.shiftRight m a) 1) 0 with
    | true => sift r (Nat.lor m (Nat.shiftLeft 1 a)) (a :: acc)
    | false => sift r m acc
/-- what is reached in n steps: level by level, each address once (a mask tells which were seen: lists without double ones by comparing them cost the kernel more than the run itself) -/
def bfs (g : Addr → Option Obj) : Nat → List Addr → Nat → List Addr → List Addr
  | 0, _, _, all => all
  | n + 1, fr, m, all => match sift (fr.flatMap fun a => match g a with
    | some o => He.refsD o
    | none => []) m [] with
    | (nw, m') => bfs g n nw m' (all ++ nw)
def asE (g : Addr → Option Obj) (n : Nat) : List Addr := bfs g n [mainGlobals, cStatics] (Nat.lor (Nat.shiftLeft 1 mainGlobals) (Nat.shiftLeft 1 cStatics)) [mainGlobals, cStatics]
abbrev AlE : Type := He.AlD × (Bool × (List FnV × List He.FnW))
def obsE (fa : List He.Fa) (fn : List He.DefD) (xa : List Xa) (fs : Fs) (K : PySem.W.Frag) : AlE := (He.obsD fa fn K, ((xa.all fun a => a.ok K) && ((fs.s.all fun d => d.ok K) && fs.p.all fun d => d.ok K), (fs.s.map fun d => fnV K (d.cls, some d.name), fs.p.map fun d => fnP K (d.path K))))
def valE (fn : List He.DefD) (fs : Fs) : AlE := (He.valD fn, (true, (fs.s.map DefS.val, fs.p.map DefP.val)))
def SaysE (fa : List He.Fa) (fn : List He.DefD) (xa : List Xa) (fs : Fs) (K : PySem.W.Frag) : Prop := obsE fa fn xa fs K = valE fn fs
def obsEG (n : Nat) (fa : List He.Fa) (fn : List He.DefD) (xa : List Xa) (fs : Fs) (g : Addr → Option Obj) : AlE := obsE fa fn xa fs (He.frG g (asE g n))
def hookE (n : Nat) (fa : List He.Fa) (fn : List He.DefD) (xa : List Xa) (fs : Fs) : PySem.W.Hook where
  α := AlE
  obs := fun s => obsEG n fa fn xa fs s.heap.get?
  val := fun _ => valE fn fs
  says := fun _ h => ∃ K : PySem.W.Frag, K.In h ∧ SaysE fa fn xa fs K
  of := fun _ _ e => ⟨_, He.frG_in, e⟩
  keeps := fun _ _ _ ⟨K, hK, c⟩ k => ⟨K, PySem.W.Frag.In.keeps hK k, c⟩
theorem obsEG_eq {n : Nat} {fa : List He.Fa} {fn : List He.DefD} {xa : List Xa} {fs : Fs} {g : Addr → Option Obj} {s : Shared} (h : ∀ a, g a = s.heap.get? a) : obsEG n fa fn xa fs g = (hookE n fa fn xa fs).obs s := by
  cases (funext h : g = s.heap.get?)
  rfl
section
variable {fa : List He.Fa} {fn : List He.DefD} {xa : List Xa} {fs : Fs} {K : PySem.W.Frag}
theorem SaysE.base (c : SaysE fa fn xa fs K) : He.SaysD fa fn K := congrArg Prod.fst c
theorem SaysE.flag (c : SaysE fa fn xa fs K) : ((xa.all fun a => a.ok K) && ((fs.s.all fun d => d.ok K) && fs.p.all fun d => d.ok K)) = true := congrArg (fun z : AlE => z.2.1) c
theorem SaysE.own (c : SaysE fa fn xa fs K) (i : Nat) {a : Xa} (h : xa[i]? = some a := by rfl) : a.ok K = true :=
  List.all_eq_true.mp (He.ba c.flag).1 a (List.mem_of_getElem? h)
theorem SaysE.sdef (c : SaysE fa fn xa fs K) (i : Nat) {d : DefS} (h : fs.s[i]? = some d := by rfl) : ∃ fd, FunS K d.name d.qual d.st (d.dvs K) (d.kws K) (He.ga K d.cls) (He.fAd K (d.cls, some d.name)) fd := by
  have ok := List.all_eq_true.mp (He.ba (He.ba c.flag).2).1 d (List.mem_of_getElem? h)
  have e : (fs.s.map fun d => fnV K (d.cls, some d.name))[i]? = (fs.s.map DefS.val)[i]? := congrArg (fun z : AlE => z.2.2.1[i]?) c
  rw [List.getElem?_map, List.getElem?_map, h] at e
  exact DefS.funS (Option.some.inj e) ok
theorem SaysE.pdef (c : SaysE fa fn xa fs K) (i : Nat) {d : DefP} (h : fs.p[i]? = some d := by rfl) : ∃ fd, FunD K d.name d.qual (defArgs d.st) (defBody d.st) (defScope d.st) (d.dvs K) (d.kws K) (d.path K) fd := by
  have ok := List.all_eq_true.mp (He.ba (He.ba c.flag).2).2 d (List.mem_of_getElem? h)
  have e : (fs.p.map fun d => fnP K (d.path K))[i]? = (fs.p.map DefP.val)[i]? := congrArg (fun z : AlE => z.2.2.2[i]?) c
  rw [List.getElem?_map, List.getElem?_map, h] at e
  exact DefP.funD (Option.some.inj e) ok
end
end Rd
namespace My
open PySem PySem.Spec PyProof.Rows L2 Rd
def top (i : Nat) : Stmt := PySem.Challenge.pw_barbreaks_k20_outlook_narrowed.main.body.getD i (.Pass ⟨0, 0, 0, 0⟩)
abbrev R : PySem.W.OpenRow := PySem.W.OpenLaw.row PySem.Challenge.rw_barbreaks_k20_outlook_narrowed
def d__law_is_int : He.DefD := ⟨("_law_is_int", none), "_law_is_int", "_law_is_int", defArgs (top 53), defBody (top 53), defScope (top 53), [], []⟩
def d__law_pool : He.DefD := ⟨("_law_pool", none), "_law_pool", "_law_pool", defArgs (top 54), defBody (top 54), defScope (top 54), [], []⟩
def d__law_take : He.DefD := ⟨("_law_take", none), "_law_take", "_law_take", defArgs (top 55), defBody (top 55), defScope (top 55), [], []⟩
def d__law_big : He.DefD := ⟨("_law_big", none), "_law_big", "_law_big", defArgs (top 56), defBody (top 56), defScope (top 56), [], []⟩
def d__law_names : He.DefD := ⟨("_law_names", none), "_law_names", "_law_names", defArgs (top 57), defBody (top 57), defScope (top 57), [], []⟩
def d__law_first : He.DefD := ⟨("_law_first", none), "_law_first", "_law_first", defArgs (top 59), defBody (top 59), defScope (top 59), [], []⟩
def d__law_opens : He.DefD := ⟨("_law_opens", none), "_law_opens", "_law_opens", defArgs (top 60), defBody (top 60), defScope (top 60), [], []⟩
def d__law_items : He.DefD := ⟨("_law_items", none), "_law_items", "_law_items", defArgs (top 61), defBody (top 61), defScope (top 61), [], []⟩
def d__law_day : He.DefD := ⟨("_law_day", none), "_law_day", "_law_day", defArgs (top 62), defBody (top 62), defScope (top 62), [], []⟩
def d_is_name : He.DefD := ⟨("is_name", none), "is_name", "is_name", defArgs (top 19), defBody (top 19), defScope (top 19), [], []⟩
def d_Grid___init__ : He.DefD := ⟨("Grid", some "__init__"), "__init__", "Grid.__init__", defArgs (inClass (top 38) 0), defBody (inClass (top 38) 0), defScope (inClass (top 38) 0), [.int 0], []⟩
def d_Named___init__ : He.DefD := ⟨("Named", some "__init__"), "__init__", "Named.__init__", defArgs (inClass (top 23) 0), defBody (inClass (top 23) 0), defScope (inClass (top 23) 0), [], []⟩
def d_Timed___init__ : He.DefD := ⟨("Timed", some "__init__"), "__init__", "Timed.__init__", defArgs (inClass (top 24) 1), defBody (inClass (top 24) 1), defScope (inClass (top 24) 1), [.non, .int 0], []⟩
def d_Item___init__ : He.DefD := ⟨("Item", some "__init__"), "__init__", "Item.__init__", defArgs (inClass (top 25) 0), defBody (inClass (top 25) 0), defScope (inClass (top 25) 0), [], [("minute", .non), ("delay", .int 0)]⟩
def d__law_item : He.DefD := ⟨("_law_item", none), "_law_item", "_law_item", defArgs (top 63), defBody (top 63), defScope (top 63), [], []⟩
def d_Span___init__ : He.DefD := ⟨("Span", some "__init__"), "__init__", "Span.__init__", defArgs (inClass (top 29) 0), defBody (inClass (top 29) 0), defScope (inClass (top 29) 0), [], []⟩
def d_check_kinds : He.DefD := ⟨("check_kinds", none), "check_kinds", "check_kinds", defArgs (top 45), defBody (top 45), defScope (top 45), [], []⟩
def d_span_of_bounds : He.DefD := ⟨("span_of_bounds", none), "span_of_bounds", "span_of_bounds", defArgs (top 46), defBody (top 46), defScope (top 46), [], []⟩
def d_House___init__ : He.DefD := ⟨("House", some "__init__"), "__init__", "House.__init__", defArgs (inClass (top 47) 0), defBody (inClass (top 47) 0), defScope (inClass (top 47) 0), [.adr (He.dflAt ("House", some "__init__") 0)], [("walk", .adr (kwAt ("House", some "__init__") "walk")), ("pack", .adr (kwAt ("House", some "__init__") "pack")), ("ahead", .int 1), ("apart", .int 1)]⟩
def d__law_house : He.DefD := ⟨("_law_house", none), "_law_house", "_law_house", defArgs (top 64), defBody (top 64), defScope (top 64), [], []⟩
def d_Order___init__ : He.DefD := ⟨("Order", some "__init__"), "__init__", "Order.__init__", defArgs (inClass (top 51) 0), defBody (inClass (top 51) 0), defScope (inClass (top 51) 0), [], []⟩
def d__law_order : He.DefD := ⟨("_law_order", none), "_law_order", "_law_order", defArgs (top 65), defBody (top 65), defScope (top 65), [], []⟩
def d_Span___contains__ : He.DefD := ⟨("Span", some "__contains__"), "__contains__", "Span.__contains__", defArgs (inClass (top 29) 3), defBody (inClass (top 29) 3), defScope (inClass (top 29) 3), [], []⟩
def d_lag_spans : He.DefD := ⟨("lag_spans", none), "lag_spans", "lag_spans", defArgs (top 31), defBody (top 31), defScope (top 31), [], []⟩
def d_Outlook___init__ : He.DefD := ⟨("Outlook", some "__init__"), "__init__", "Outlook.__init__", defArgs (inClass (top 35) 0), defBody (inClass (top 35) 0), defScope (inClass (top 35) 0), [], []⟩
def d_with_spans : He.DefD := ⟨("with_spans", none), "with_spans", "with_spans", defArgs (top 34), defBody (top 34), defScope (top 34), [], []⟩
def d_Outlook__limits : He.DefD := ⟨("Outlook", some "_limits"), "_limits", "Outlook._limits", defArgs (inClass (top 35) 12), defBody (inClass (top 35) 12), defScope (inClass (top 35) 12), [], []⟩
def d_Outlook__replaced : He.DefD := ⟨("Outlook", some "_replaced"), "_replaced", "Outlook._replaced", defArgs (inClass (top 35) 13), defBody (inClass (top 35) 13), defScope (inClass (top 35) 13), [], []⟩
def d__law_same : He.DefD := ⟨("_law_same", none), "_law_same", "_law_same", defArgs (top 67), defBody (top 67), defScope (top 67), [], []⟩
def d__law_spans : He.DefD := ⟨("_law_spans", none), "_law_spans", "_law_spans", defArgs (top 66), defBody (top 66), defScope (top 66), [], []⟩
def d__law_size : He.DefD := ⟨("_law_size", none), "_law_size", "_law_size", defArgs (top 68), defBody (top 68), defScope (top 68), [], []⟩
def d__law_enlarged : He.DefD := ⟨("_law_enlarged", none), "_law_enlarged", "_law_enlarged", defArgs (top 69), defBody (top 69), defScope (top 69), [], []⟩
def d_Outlook_first_row : He.DefD := ⟨("Outlook", some "first_row"), "first_row", "Outlook.first_row", defArgs (inClass (top 35) 7), defBody (inClass (top 35) 7), defScope (inClass (top 35) 7), [], []⟩
def d_Outlook_last_row : He.DefD := ⟨("Outlook", some "last_row"), "last_row", "Outlook.last_row", defArgs (inClass (top 35) 8), defBody (inClass (top 35) 8), defScope (inClass (top 35) 8), [], []⟩
def d_Order___iter__ : He.DefD := ⟨("Order", some "__iter__"), "__iter__", "Order.__iter__", defArgs (inClass (top 51) 3), defBody (inClass (top 51) 3), defScope (inClass (top 51) 3), [], []⟩
def d_Outlook_span_of : He.DefD := ⟨("Outlook", some "span_of"), "span_of", "Outlook.span_of", defArgs (inClass (top 35) 2), defBody (inClass (top 35) 2), defScope (inClass (top 35) 2), [], []⟩
def d_Outlook_narrowed : He.DefD := ⟨("Outlook", some "narrowed"), "narrowed", "Outlook.narrowed", defArgs (inClass (top 35) 3), defBody (inClass (top 35) 3), defScope (inClass (top 35) 3), [], []⟩
def d__law_strange : He.DefD := ⟨("_law_strange", none), "_law_strange", "_law_strange", defArgs (top 58), defBody (top 58), defScope (top 58), [], []⟩
def d__law_pick : He.DefD := ⟨("_law_pick", none), "_law_pick", "_law_pick", defArgs (top 70), defBody (top 70), defScope (top 70), [], []⟩
def d__law_find : He.DefD := ⟨("_law_find", none), "_law_find", "_law_find", defArgs (top 71), defBody (top 71), defScope (top 71), [], []⟩
def d__law_words : He.DefD := ⟨("_law_words", none), "_law_words", "_law_words", defArgs (top 72), defBody (top 72), defScope (top 72), [], []⟩
def d__law_draw : He.DefD := ⟨("_law_draw", none), "_law_draw", "_law_draw", defArgs (top 73), defBody (top 73), defScope (top 73), [], []⟩
def d__law_expected : He.DefD := ⟨("_law_expected", none), "_law_expected", "_law_expected", defArgs (top 74), defBody (top 74), defScope (top 74), [], []⟩
def d__law_outcome : He.DefD := ⟨("_law_outcome", none), "_law_outcome", "_law_outcome", defArgs (top 75), defBody (top 75), defScope (top 75), [], []⟩
def d__law_matches : He.DefD := ⟨("_law_matches", none), "_law_matches", "_law_matches", defArgs (top 76), defBody (top 76), defScope (top 76), [], []⟩
def d_law : He.DefD := ⟨("law", none), "law", "law", defArgs (top 77), defBody (top 77), defScope (top 77), [], []⟩
def fn : List He.DefD := [d__law_is_int, d__law_pool, d__law_take, d__law_big, d__law_names, d__law_first, d__law_opens, d__law_items, d__law_day, d_is_name, d_Grid___init__, d_Named___init__, d_Timed___init__, d_Item___init__, d__law_item, d_Span___init__, d_check_kinds, d_span_of_bounds, d_House___init__, d__law_house, d_Order___init__, d__law_order, d_Span___contains__, d_lag_spans, d_Outlook___init__, d_with_spans, d_Outlook__limits, d_Outlook__replaced, d__law_same, d__law_spans, d__law_size, d__law_enlarged, d_Outlook_first_row, d_Outlook_last_row, d_Order___iter__, d_Outlook_span_of, d_Outlook_narrowed, d__law_strange, d__law_pick, d__law_find, d__law_words, d__law_draw, d__law_expected, d__law_outcome, d__law_matches, d_law]
def fa : List He.Fa := [.free "isinstance", .free "bool", .free "int", .glo "_law_is_int", .free "list", .glo "_law_pool", .free "len", .glo "_law_take", .free "range", .glo "_law_big", .glo "_law_names", .glo "_law_first", .glo "_law_opens", .free "min", .glo "_law_items", .glo "_law_day", .free "all", .str "DIGITS" "0123456789", .str "LETTERS" "abcdefghijklmnopqrstuvwxyz", .int "LONGEST_NAME" 12, .glo "is_name", .noat "BadNumber" "number", .free "super", .glo "BadNumber", .cls "Grid", .noat "Grid" "step", .noat "Grid" "offset", .glo "Grid", .mkr "Grid", .noat "BadName" "name", .glo "BadName", .glo "Named", .glo "Timed", .glo "Item", .glo "Piece", .cls "Piece", .noat "Piece" "name", .noat "Piece" "grid", .noat "Piece" "minute", .noat "Piece" "delay", .noat "Piece" "least", .noat "Piece" "most", .mkr "Piece", .glo "Break", .cls "Break", .noat "Break" "name", .noat "Break" "grid", .noat "Break" "minute", .noat "Break" "delay", .noat "Break" "places", .noat "Break" "unit", .noat "Break" "patience", .mkr "Break", .glo "_law_item", .noat "BadSpan" "low", .noat "BadSpan" "high", .glo "BadSpan", .cls "Span", .noat "Span" "low", .noat "Span" "high", .glo "Span", .mkr "Span", .noat "TooMany" "what", .noat "TooMany" "most", .glo "TooMany", .noat "Twice" "name", .glo "Twice", .free "enumerate", .int "MOST_KINDS" 5, .glo "check_kinds", .int "WIDEST_BOUNDS" 8, .glo "span_of_bounds", .free "tuple", .int "MOST_AHEAD" 3, .int "MOST_CREWS" 6, .int "MOST_STUDIOS" 6, .cls "House", .noat "House" "studios", .noat "House" "crews", .noat "House" "kinds", .noat "House" "walk", .noat "House" "pack", .noat "House" "ahead", .noat "House" "apart", .glo "House", .mkr "House", .glo "_law_house", .free "sum", .int "MOST_PLACES_IN_ALL" 30, .int "MOST_ITEMS" 8, .cls "Order", .noat "Order" "house", .noat "Order" "opens", .noat "Order" "lineup", .noat "Order" "_numbers", .glo "Order", .mkr "Order", .glo "_law_order", .meth "Span" "__contains__", .glo "lag_spans", .cls "Outlook", .noat "Outlook" "order", .noat "Outlook" "_spans", .glo "Outlook", .mkr "Outlook", .glo "with_spans", .meth "Outlook" "_limits", .free "dict", .meth "Outlook" "_replaced", .free "str", .glo "_law_same", .glo "_law_spans", .glo "_law_size", .glo "_law_enlarged", .meth "Outlook" "first_row", .meth "Outlook" "last_row", .free "iter", .meth "Order" "__iter__", .noat "BadWord" "word", .glo "BadWord", .noat "Unknown" "name", .glo "Unknown", .noat "Outside" "word", .glo "Outside", .meth "Outlook" "span_of", .meth "Outlook" "narrowed", .glo "_law_strange", .glo "_law_pick", .glo "_law_find", .glo "_law_words", .glo "_law_draw", .glo "_law_expected", .glo "Refused", .free "ValueError", .glo "BarbreaksError", .glo "_law_outcome", .glo "_law_matches", .glo "law"]
def xa : List Xa := [.exc "BadNumber", .exc "BadName", .cfun "Named" "__init__", .cint "Timed" "MOST_DELAY" 8, .cfun "Timed" "__init__", .cint "Piece" "MOST_SPREAD" 8, .sup "Piece" "__init__" "Item", .cint "Break" "MOST_PATIENCE" 64, .cint "Break" "MOST_PLACES" 12, .sup "Break" "__init__" "Item", .exc "BadSpan", .exc "TooMany", .exc "Twice", .tupK "House" "walk" [0, 0], .tupK "House" "pack" [0, 0], .tupD "House" 0 [], .inst "Piece", .inst "Break", .kit "Piece" "Break" false, .kit "Break" "Break" true, .kit "Piece" "Piece" true, .kit "Break" "Piece" false, .exc "BadWord", .exc "Unknown", .exc "Outside", .exm "Unknown" "Unknown" true, .exm "Unknown" "BadWord" false, .exm "Unknown" "Outside" false, .kit "Unknown" "BarbreaksError" true, .kitT "Unknown" "ValueError" true, .kit "Unknown" "Refused" false, .kit "Unknown" "BadWord" false, .kit "Unknown" "Outside" false, .kit "Unknown" "Unknown" true, .exm "BadWord" "Unknown" false, .exm "BadWord" "BadWord" true, .exm "BadWord" "Outside" false, .kit "BadWord" "BarbreaksError" true, .kitT "BadWord" "ValueError" true, .kit "BadWord" "Refused" false, .kit "BadWord" "BadWord" true, .kit "BadWord" "Outside" false, .kit "BadWord" "Unknown" false, .exm "Outside" "Unknown" false, .exm "Outside" "BadWord" false, .exm "Outside" "Outside" true, .kit "Outside" "BarbreaksError" true, .kitT "Outside" "ValueError" true, .kit "Outside" "Refused" false, .kit "Outside" "BadWord" false, .kit "Outside" "Outside" true, .kit "Outside" "Unknown" false, .inst "Outlook", .inst "Order", .inst "Span", .kit "Outlook" "Outlook" true, .kit "Order" "Order" true, .kit "Span" "Span" true]
def s_BadNumber : DefS := ⟨"BadNumber", "__init__", "BadNumber.__init__", (inClass (top 4) 0), [], []⟩
def s_BadName : DefS := ⟨"BadName", "__init__", "BadName.__init__", (inClass (top 3) 0), [], []⟩
def s_Piece : DefS := ⟨"Piece", "__init__", "Piece.__init__", (inClass (top 26) 1), [], [("minute", .non), ("delay", .int 0)]⟩
def s_Break : DefS := ⟨"Break", "__init__", "Break.__init__", (inClass (top 27) 2), [], [("delay", .int 0), ("patience", .int 1)]⟩
def s_BadSpan : DefS := ⟨"BadSpan", "__init__", "BadSpan.__init__", (inClass (top 6) 0), [], []⟩
def s_TooMany : DefS := ⟨"TooMany", "__init__", "TooMany.__init__", (inClass (top 8) 0), [], []⟩
def s_Twice : DefS := ⟨"Twice", "__init__", "Twice.__init__", (inClass (top 9) 0), [], []⟩
def s_BadWord : DefS := ⟨"BadWord", "__init__", "BadWord.__init__", (inClass (top 11) 0), [], []⟩
def s_Unknown : DefS := ⟨"Unknown", "__init__", "Unknown.__init__", (inClass (top 10) 0), [], []⟩
def s_Outside : DefS := ⟨"Outside", "__init__", "Outside.__init__", (inClass (top 12) 0), [], []⟩
def fs : Fs := ⟨[s_BadNumber, s_BadName, s_Piece, s_Break, s_BadSpan, s_TooMany, s_Twice, s_BadWord, s_Unknown, s_Outside], []⟩
def names0 : List PySem.Str := ["_wall", "BarbreaksError", "BadName", "BadNumber", "BadText", "BadSpan", "Apart", "TooMany", "Twice", "Unknown", "BadWord", "Outside", "Refused", "LETTERS", "DIGITS", "LONGEST_NAME", "MOST_DIGITS", "is_name", "write_number", "read_number", "Named", "Timed", "Item", "Piece", "Break", "Span", "lag_spans", "lags_fit", "with_spans", "Outlook"]
def names1 : List PySem.Str := ["extended_gcd", "Grid", "MOST_STUDIOS", "MOST_CREWS", "MOST_KINDS", "MOST_AHEAD", "WIDEST_BOUNDS", "check_kinds", "span_of_bounds", "House", "MOST_ITEMS", "MOST_PLACES_IN_ALL", "Order", "_law_is_int", "_law_pool", "_law_take", "_law_big", "_law_names", "_law_strange", "_law_first", "_law_opens", "_law_items", "_law_day", "_law_item", "_law_house", "_law_order", "_law_spans", "_law_same", "_law_size", "_law_enlarged"]
def names2 : List PySem.Str := ["_law_pick", "_law_find", "_law_words", "_law_draw", "_law_expected", "_law_outcome", "_law_matches"]
def names : List PySem.Str := names0 ++ names1 ++ names2
def spLaw (K : PySem.W.Frag) : Sp := fun vs H Q _ => ∃ (a : Addr) (ns : List Int), vs = [.ref a] ∧ ns.length ≤ 63 ∧ SqL K H a (ns.map V.int) ∧ ∀ H', Q (.bl true) H'
end My
namespace My
open PySem PySem.Spec PyProof.Rows L2 Rd
abbrev hk : PySem.W.Hook := Rd.hookE 5 fa fn xa fs
def ob (s : PySem.W.SharedT) : Rd.AlE := Rd.obsEG 5 fa fn xa fs (HandSHeadRun.getT s)
theorem ob_eq (s : PySem.W.SharedT) : ob s = hk.obs s.abs := Rd.obsEG_eq (HandSHeadRun.getT_eq s)
set_option maxHeartbeats 0 in
theorem run (w : World) : HandSHeadRun.RunEq R (PySem.W.view R.prog [77]) hk ob 60000 names w := by
  intro os
  kernel_rfl
end My
namespace My
open PySem PySem.Spec PyProof.Rows L2 Rd
def FactsP : Prop := ∀ {P : Program} {w : World} {K : PySem.W.Frag} {h : Heap} {mg : Str → Option Value} {f : Addr} (X : K.In h) (G : h.Ns mainGlobals mg) (hfa : mg ("law" : Str) = some (.ref f)) (c : SaysE fa fn xa fs K) (hfile : ((P.main.file : Str) == ("/claim/cut.py" : Str)) = true) (hno : (P.main.scope.names.lookup ("super" : Str)).isSome = false),
    ∃ fd : FuncData, (∀ (s : Shared) (v : Value), BindsTo s fd ⟨[v], []⟩ [("_law_script", v)]) ∧ ∀ base : Heap, K.In base → base.Ns mainGlobals mg → FnOk P w K mg base CX0 13 f fd ["_law_script"] (spLaw K)
end My
section
open PySem PySem.W PySem.Calls PyProof.Rows
set_option maxHeartbeats 0 in
theorem My.closing (F : My.FactsP) : PySem.Challenge.rw_barbreaks_k20_outlook_narrowed.Holds := by
  refine My.opened fun said => ?_
  refine HandSHeadRun.head_any (r := OpenLaw.row PySem.Challenge.rw_barbreaks_k20_outlook_narrowed) (q := view (OpenLaw.row PySem.Challenge.rw_barbreaks_k20_outlook_narrowed).prog [77]) (H := My.hk) (ob := My.ob) (M := 60000) (loose := My.names) (d := HandSHeadRun.topDef (OpenLaw.row PySem.Challenge.rw_barbreaks_k20_outlook_narrowed).prog 77) (kwd := []) My.ob_eq
    (by kernel_rfl) (fun s => by kernel_rfl) My.run (by kernel_rfl) (by kernel_rfl) (by kernel_rfl) (by rfl) (by first | assumption | decide +kernel) (by decide +kernel) ⟨rfl, rfl, rfl, rfl, rfl, by decide +kernel⟩ ?hw ?hc
  case hw => w_witness2
  case hc =>
    refine L2.walk_ofE (l := PySem.Challenge.rw_barbreaks_k20_outlook_narrowed) (n := 63) (k := 13) (x := "_law_script") (CX := L2.CX0) rfl (by decide) (by kernel_rfl) ⟨rfl, by decide, by decide⟩ ?F (fun _ _ _ _ z => z)
    intro w mg fa h Y G hmg0
    obtain ⟨K, KX, c⟩ := Y
    have hmg : mg ("law" : PySem.Str) = some (.ref fa) := by
      have e : (HandSHeadRun.topDef (OpenLaw.row PySem.Challenge.rw_barbreaks_k20_outlook_narrowed).prog 77).name = ("law" : PySem.Str) := by kernel_rfl
      rw [← e]
      exact hmg0
    obtain ⟨fd, hb, hF⟩ := F (P := (PySem.Challenge.rw_barbreaks_k20_outlook_narrowed).prog) (w := w) KX G hmg c (by kernel_rfl) (by kernel_rfl)
    exact ⟨K, fd, My.spLaw K, KX, hb, fun H a ns hl _ hS => ⟨a, ns, rfl, hl, hS, fun _ => rfl⟩, hF⟩
end
/-! Fx: what the head tells, defs and own exceptions by name. -/
namespace Rd
open PySem PySem.Spec PyProof.Rows L2
structure Tx (fa : List He.Fa) (fn : List He.DefD) (xa : List Xa) (fs : Fs) (P : Program) (K : PySem.W.Frag) (mg : Str → Option Value) : Prop where
  all : SaysE fa fn xa fs K
  hh : ∃ h : Heap, K.In h ∧ h.Ns mainGlobals mg
  file : ((P.main.file : Str) == ("/claim/cut.py" : Str)) = true
  nosup : (P.main.scope.names.lookup ("super" : Str)).isSome = false
section
variable {fa : List He.Fa} {fn : List He.DefD} {xa : List Xa} {fs : Fs} {P : Program} {K : PySem.W.Frag} {mg : Str → Option Value}
theorem Tx.says (T : Tx fa fn xa fs P K mg) : He.SaysD fa fn K := T.all.base
theorem Tx.glo (T : Tx fa fn xa fs P K mg) (i : Nat) {x : Str} (h : fa[i]? = some (.glo x) := by rfl) : mg x = some (.ref (He.ga K x)) := by
  obtain ⟨_, X, G⟩ := T.hh
  exact He.glo_ok X G (T.says.fact i h)
theorem Tx.free (T : Tx fa fn xa fs P K mg) (i : Nat) {x : Str} (h : fa[i]? = some (.free x) := by rfl) : mg x = none := by
  obtain ⟨_, X, G⟩ := T.hh
  exact He.free_ok X G (T.says.fact i h)
theorem Tx.int (T : Tx fa fn xa fs P K mg) (i : Nat) {x : Str} {n : Int} (h : fa[i]? = some (.int x n) := by rfl) : ∃ t, mg x = some (.int n t) := by
  obtain ⟨_, X, G⟩ := T.hh
  exact He.int_ok X G (T.says.fact i h)
theorem Tx.str (T : Tx fa fn xa fs P K mg) (i : Nat) {x z : Str} (h : fa[i]? = some (.str x z) := by rfl) : ∃ t, mg x = some (.str z t) := by
  obtain ⟨_, X, G⟩ := T.hh
  exact He.str_ok X G (T.says.fact i h)
theorem Tx.noat (T : Tx fa fn xa fs P K mg) (i : Nat) {x f : Str} (h : fa[i]? = some (.noat x f) := by rfl) : NoAttr K (He.ga K x) f := He.eqO_ok (T.says.fact i h)
theorem Tx.cls (T : Tx fa fn xa fs P K mg) (i : Nat) {x : Str} (h : fa[i]? = some (.cls x) := by rfl) : Cls K (He.ga K x) := by
  obtain ⟨a, r⟩ := He.ba (T.says.fact i h)
  obtain ⟨b, r⟩ := He.ba r
  obtain ⟨c, d⟩ := He.ba r
  exact ⟨a, b, c, He.eqO_ok d⟩
theorem Tx.meth (T : Tx fa fn xa fs P K mg) (i : Nat) {x m : Str} (h : fa[i]? = some (.meth x m) := by rfl) : Meth K (He.ga K x) m (He.ma K (He.ga K x) m) := by
  obtain ⟨a, r⟩ := He.ba (T.says.fact i h)
  obtain ⟨b, c⟩ := He.ba r
  exact ⟨He.eqO_ok a, b, c⟩
theorem Tx.mkr (T : Tx fa fn xa fs P K mg) (i : Nat) {x : Str} (h : fa[i]? = some (.mkr x) := by rfl) : Mk K (He.ga K x) (He.ma K (He.ga K x) "__init__") := by
  obtain ⟨a, r⟩ := He.ba (T.says.fact i h)
  obtain ⟨b, r⟩ := He.ba r
  obtain ⟨c, d⟩ := He.ba r
  exact ⟨a, He.eqO_ok b, c, d⟩
theorem Tx.exc (T : Tx fa fn xa fs P K mg) (i : Nat) {x : Str} (h : xa[i]? = some (.exc x) := by rfl) : ExcT K x := exc_ok (T.all.own i h)
theorem Tx.kit (T : Tx fa fn xa fs P K mg) (i : Nat) {x y : Str} {b : Bool} (h : xa[i]? = some (.kit x y b) := by rfl) : PySem.W.kitOne K (.ref (He.ga K x)) (.ref (He.ga K y)) = some b := of_decide_eq_true (T.all.own i h)
theorem Tx.kitT (T : Tx fa fn xa fs P K mg) (i : Nat) {x : Str} {t : String} {b : Bool} (h : xa[i]? = some (.kitT x t b) := by rfl) : PySem.W.kitOne K (.ref (He.ga K x)) (.type t) = some b := of_decide_eq_true (T.all.own i h)
theorem Tx.tkit (T : Tx fa fn xa fs P K mg) (i : Nat) {y : Str} {t : String} {b : Bool} (h : xa[i]? = some (.tkit t y b) := by rfl) : PySem.W.kitOne K (.type t) (.ref (He.ga K y)) = some b := of_decide_eq_true (T.all.own i h)
theorem Tx.exm (T : Tx fa fn xa fs P K mg) (i : Nat) {x y : Str} {b : Bool} (h : xa[i]? = some (.exm x y b) := by rfl) : PySem.W.exmOne K (.ref (He.ga K x)) (.ref (He.ga K y)) = some b := of_decide_eq_true (T.all.own i h)
theorem Tx.inst (T : Tx fa fn xa fs P K mg) (i : Nat) {x : Str} (h : xa[i]? = some (.inst x) := by rfl) (c : Cls K (He.ga K x)) {H : Hp} {a dx : Addr} {l : List (Str × V)} (e : H a = some (.ins (He.ga K x) dx l)) : TyX K H (.ref a) (.ref (He.ga K x)) := by
  obtain ⟨a1, r⟩ := He.ba (T.all.own i h)
  obtain ⟨a2, r⟩ := He.ba r
  obtain ⟨a3, a4⟩ := He.ba r
  exact .base (.ins e c (He.eqO_ok a1) (He.eqO_ok a2) (of_decide_eq_true a3) (of_decide_eq_true a4))
end
/-- a def of the module by its name -/
structure FnG (P : Program) (w : World) (K : PySem.W.Frag) (mg : Str → Option Value) (base : Heap) (CX : CXT) (k : Nat) (x : Str) (ps : List Str) (sp : Sp) : Prop where
  ex : ∃ f fd, mg x = some (.ref f) ∧ PySem.W.keepIn K (.ref f) = true ∧ FnOk P w K mg base CX k f fd ps sp ∧ Binds K fd ps []
/-- a method of a class -/
structure MtG (P : Program) (w : World) (K : PySem.W.Frag) (mg : Str → Option Value) (base : Heap) (CX : CXT) (k : Nat) (C : Addr) (m : Str) (ps : List Str) (sp : Sp) : Prop where
  ex : ∃ f fd, Meth K C m f ∧ FnOk P w K mg base CX k f fd ps sp ∧ Binds K fd ps []
  cls : Cls K C
/-- a class that is made by its __init__, the defaults dvs filling up -/
structure MkG (P : Program) (w : World) (K : PySem.W.Frag) (mg : Str → Option Value) (base : Heap) (CX : CXT) (k : Nat) (x : Str) (ps : List Str) (dvs : List V) (sp : Sp) : Prop where
  ex : ∃ f fd ds, mg x = some (.ref (He.ga K x)) ∧ Mk K (He.ga K x) f ∧ FnOk P w K mg base CX k f fd ps sp ∧ Binds K fd ps ds ∧ Vals dvs ds
/-- an own exception that may be raised -/
structure ExcG (P : Program) (w : World) (K : PySem.W.Frag) (mg : Str → Option Value) (base : Heap) (k : Nat) (x : Str) (ps : List Str) (sp : Sp) : Prop where
  ex : ∃ fd, mg x = some (.ref (He.ga K x)) ∧ ExcT K x ∧ FnOk P w K mg base CX0 k (iAd K x) fd ps sp ∧ Binds K fd ps []
section
variable {X : Cx} {x : Str} {p pos apos : Pos} {k : Nat} {ps : List Str} {sp : Sp} {e o : Expr} {es : List Expr} {t : TA} {ta : TE} {CX : CXT} {E : XK} {dvs : List V} {C : Addr} {m : Str}
theorem pe_gint {i : Int} (h : ∃ t, X.mg x = some (.int i t)) (hg : Gl X x) (hd : (x == ("__debug__" : Str)) = false := by decide) : PE X (.Name x pos) (tC (.int i)) := by
  obtain ⟨t, h⟩ := h
  exact pe_glob hg h ⟨t, rfl⟩ hd
theorem pe_gstr {z : Str} (h : ∃ t, X.mg x = some (.str z t)) (hg : Gl X x) (hd : (x == ("__debug__" : Str)) = false := by decide) : PE X (.Name x pos) (tC (.str z)) := by
  obtain ⟨t, h⟩ := h
  exact pe_glob hg h ⟨t, rfl⟩ hd
theorem pe_cgE (F : FnG X.prog X.w X.K X.mg X.base CX k x ps sp) (hr : Room k X.A) (hg : Gl X x) (hx : Passes CX X E) (ha : PA X (e :: es) t) (h1 : (x == ("__debug__" : Str)) = false := by decide) (h2 : starEach (e :: es) X.env = (false, eval e X.env) :: starEach es X.env := by rfl) (h3 : (backTo pos (starEach es X.env)).any (·.1) = false := by rfl) : PE X (.Call (.Name x p) (e :: es) [] pos) (tCall sp [] E t) := by
  obtain ⟨f, fd, a, b, c, d⟩ := F.ex
  exact pe_call c hr hg a b d .nil hx ha h1 h2 h3
theorem pe_cg (F : FnG X.prog X.w X.K X.mg X.base CX0 k x ps sp) (hr : Room k X.A) (hg : Gl X x) (ha : PA X (e :: es) t) (h1 : (x == ("__debug__" : Str)) = false := by decide) (h2 : starEach (e :: es) X.env = (false, eval e X.env) :: starEach es X.env := by rfl) (h3 : (backTo pos (starEach es X.env)).any (·.1) = false := by rfl) : PE X (.Call (.Name x p) (e :: es) [] pos) (tCall sp [] E0 t) := pe_cgE F hr hg pass0 ha h1 h2 h3
theorem pe_mkE (F : MkG X.prog X.w X.K X.mg X.base CX k x ps dvs sp) (hr : Room (k + 1) X.A) (hg : Gl X x) (hx : Passes CX X E) (ha : PA X (e :: es) t) (h1 : (x == ("__debug__" : Str)) = false := by decide) (h2 : starEach (e :: es) X.env = (false, eval e X.env) :: starEach es X.env := by rfl) (h3 : (backTo pos (starEach es X.env)).any (·.1) = false := by rfl) : PE X (.Call (.Name x p) (e :: es) [] pos) (tMake (He.ga X.K x) sp dvs E t) := by
  obtain ⟨f, fd, ds, a, b, c, d, v⟩ := F.ex
  exact pe_make b c hr hg a d v hx ha h1 h2 h3
theorem pmk_g (G : ExcG X.prog X.w X.K X.mg X.base k x ps sp) (hr : Room (k + 1) X.A) (hg : Gl X x) (ha : PA X (e :: es) t) (h1 : (x == ("__debug__" : Str)) = false := by decide) (h2 : starEach (e :: es) X.env = (false, eval e X.env) :: starEach es X.env := by rfl) (h3 : (backTo pos (starEach es X.env)).any (·.1) = false := by rfl) : PMk X (.Call (.Name x p) (e :: es) [] pos) (tMkO (He.ga X.K x) sp [] t) := by
  obtain ⟨fd, a, T, F, b⟩ := G.ex
  exact pmk_oex T.oex T.ini T.fn F hr b .nil (fun _ _ _ _ _ _ _ z => z.elim) hg a ha h1 h2 h3
end
/-! ### the scope without __class__ -/
def notCn (y : Str × NameKind) : Bool := !decide (y.1 = ("__class__" : Str))
def noCls (sc : Scope) : Scope := { sc with names := sc.names.filter notCn }
theorem lookup_rest {x : Str} (h : x ≠ "__class__") : ∀ l : List (Str × NameKind), l.lookup x = (l.filter notCn).lookup x
  | [] => rfl
  | (a, b) :: r => by
    by_cases e : a = "__class__"
    · have hx : (x == a) = false := beq_eq_false_iff_ne.mpr (e ▸ h)
      rw [List.filter_cons_of_neg (by simp [notCn, e]), List.lookup_cons, hx]
      exact lookup_rest h r
    · rw [List.filter_cons_of_pos (by simp [notCn, e]), List.lookup_cons, List.lookup_cons, lookup_rest h r]
theorem cls_scope {N P : List Str} {sc : Scope} (b : FnScope N P (noCls sc)) (c : ∀ y ∈ sc.names, y.2 ≠ .cell) (z : ∀ n : Nat, cellsFrom n (noCls sc).names [] = []) (f : sc.names.lookup ("__class__" : Str) = some NameKind.free) (o : ("__class__" : Str) ∉ N) (p : ∀ x ∈ P, x ∈ N) : ClsScope N P sc (noCls sc) :=
  ⟨b, b.kind, b.co, b.gen, c, fun y hy => c y (List.mem_filter.mp hy).1, z, fun x hx => lookup_rest hx _, f, o, p⟩
/-! ### the own exceptions of one and of two fields -/
section
variable {fa : List He.Fa} {fn : List He.DefD} {xa : List Xa} {fs : Fs} {P : Program} {w : World} {K : PySem.W.Frag} {mg : Str → Option Value} {base : Heap} {x qual self y z f g : Str} {st : Stmt} {fd : FuncData} {txt : Str} {j : Nat} {p0 p1 p2 p3 p4 p5 q1 q2 q3 q4 q5 q6 q7 q8 : Pos}
theorem sup_at {cda : Addr} {oc : Value} {od : Option Addr} {osl : Array (Option Value)} {F : Addr} {ar : Arg} {ccl : Value} {cdd : Option Addr} {vs : Array Value} {sl : Array (Option Value)} {tf : Tok} (T : Tx fa fn xa fs P K mg) (hs : mg "super" = none) (lk : K.lookup F = some ⟨oc, od, .func fd, osl⟩) (hp : (fd.params.posonlyargs ++ fd.params.args).head? = some ar)
    (lc : K.lookup cda = some ⟨ccl, cdd, .fields vs, sl⟩) (hv : vs[2]? = some (.str "/claim/cut.py" tf)) (hh : (defScope st).names.lookup ("super" : Str) = some NameKind.globalImplicit) : SupAt P K mg (defScope st) F cda ar.arg :=
  ⟨⟨oc, od, fd, osl, ar, lk, hp, rfl⟩, ⟨ccl, cdd, vs, sl, _, tf, lc, hv, T.file⟩, T.nosup, hs, hh⟩
theorem exc_one {ar : Arg} (T : Tx fa fn xa fs P K mg) (hs : mg "super" = none) (hm : mg x = some (.ref (He.ga K x))) (X : ExcT K x) (F : FunS K "__init__" qual st [] [] (He.ga K x) (iAd K x) fd) (na : NoAttr K (He.ga K x) f)
    (hb : defBody st = [.Expr (supCall txt j p0 p1 p2 p3 p4) p5, .Assign [.Attribute (.Name self q1) f q2] (.Name y q3) q4]) (ha : ((defArgs st).posonlyargs ++ (defArgs st).args).head? = some ar) (har : ar.arg = self)
    (S : ClsScope [self, y] [self, y] (defScope st) (noCls (defScope st))) (hl : ∀ v ∈ [self, y], (defScope st).names.lookup v = some .local) (hh : (defScope st).names.lookup ("super" : Str) = some NameKind.globalImplicit) (nd : (self == ("__debug__" : Str)) = false ∧ (y == ("__debug__" : Str)) = false) (ndc : self ≠ "__classdict__" ∧ y ≠ "__classdict__") (nc : self ≠ "__class__" ∧ y ≠ "__class__")
    (go : ∀ L ff cda cc, GoesSup (cenv qual (defScope st) L ff (.ref cda) cc) txt j p0 p1 p2 p3 p4) (hsw : ∀ L ff cda cc, swapsWith (supCall txt j p0 p1 p2 p3 p4) none p5.line (cenv qual (defScope st) L ff (.ref cda) cc) = pure false)
    (hsy : ∀ L ff cda cc, swapsWith (.Name y q3) (some (.Attribute (.Name self q1) f q2)) q4.line (cenv qual (defScope st) L ff (.ref cda) cc) = pure false)
    (hbind : ∀ (kV doc pm : Value) (an : Option Addr) (cda : Addr) (ct : Value) (cc : Addr) (us : List Value), us.length = 2 → bindArgs (PySem.W.ksFn "__init__" qual (defArgs st) (defBody st) (defScope st) .none kV doc pm an (.ref cda) ct cc) ⟨us, []⟩ = pure ([self, y].zip us)) :
    ExcG P w K mg base 1 x [self, y] (spX1 (He.ga K x) f) := by
  obtain ⟨oc, od, dV, kV, doc, pm, an, cda, ct, osl, cc, cl, cld, csl, rfl, lk, hcd, hd, _, lc, ccl, cdd, vs, sl, tf, e2, e3⟩ := F.ex
  have U : SupAt P K mg (defScope st) (iAd K x) cda ar.arg := sup_at T hs lk ha e2 e3 hh
  rw [har] at U
  have edV : dV = .none := by rcases hd with ⟨_, e⟩ | ⟨e, _⟩; exact e; exact absurd rfl e
  subst edV
  have B := Binds.all (K := K) (fun us hu => hbind kV doc pm an cda ct cc us hu)
  have hl0 : ∀ v ∈ [self, y], (noCls (defScope st)).names.lookup v = some .local := fun v hv => by
    have hne : v ≠ "__class__" := by
      rcases List.mem_cons.mp hv with rfl | hv
      · exact nc.1
      · cases List.mem_singleton.mp hv; exact nc.2
    exact (S.same v hne).symm.trans (hl v hv)
  refine ⟨_, hm, X, ?_, B⟩
  rw [hb] at lk ⊢
  refine fn_exc (k := 0) lk hcd lc S (fun vs H Q E h => ?_) (fun v hv => ⟨hl v hv, hl0 v hv⟩) U X.sup rfl (hl self List.mem_cons_self) (fun L => go L _ _ _) (fun L => hsw L _ _ _) (fun vs H Q E h => ?_) (fun A outer s H vs Q E hr h => ?_)
  · obtain ⟨a, v, rfl, _⟩ := h; rfl
  · obtain ⟨a, v, rfl, e, _⟩ := h; exact ⟨a, _, rfl, e⟩
  · obtain ⟨a, v, rfl, e, hQ⟩ := h
    have v0 : Vis (defScope st) self := .inl (hl self List.mem_cons_self)
    have v1 : Vis (defScope st) y := .inl (hl y (by simp))
    refine ⟨_, pss_one (ps_ost (pe_var (i := 0) rfl v0 nd.1 (beq_eq_false_iff_ne.mpr ndc.1)) (pe_var (i := 1) rfl v1 nd.2 (beq_eq_false_iff_ne.mpr ndc.2)) (hsy _ _ _ _)), ?_⟩
    exact ⟨v, rfl, .ref a, rfl, a, He.ga K x, rfl, X.oex, na, .inl ⟨e, fun d h1 h2 => hQ d h1 h2⟩⟩
theorem exc_two {ar : Arg} (T : Tx fa fn xa fs P K mg) (hs : mg "super" = none) (hm : mg x = some (.ref (He.ga K x))) (X : ExcT K x) (F : FunS K "__init__" qual st [] [] (He.ga K x) (iAd K x) fd) (na : NoAttr K (He.ga K x) f) (na2 : NoAttr K (He.ga K x) g)
    (hb : defBody st = [.Expr (supCall txt j p0 p1 p2 p3 p4) p5, .Assign [.Attribute (.Name self q1) f q2] (.Name y q3) q4, .Assign [.Attribute (.Name self q5) g q6] (.Name z q7) q8]) (ha : ((defArgs st).posonlyargs ++ (defArgs st).args).head? = some ar) (har : ar.arg = self)
    (S : ClsScope [self, y, z] [self, y, z] (defScope st) (noCls (defScope st))) (hl : ∀ v ∈ [self, y, z], (defScope st).names.lookup v = some .local) (hh : (defScope st).names.lookup ("super" : Str) = some NameKind.globalImplicit) (nd : ∀ v ∈ [self, y, z], (v == ("__debug__" : Str)) = false) (ndc : ∀ v ∈ [self, y, z], v ≠ "__classdict__") (nc : ∀ v ∈ [self, y, z], v ≠ "__class__")
    (go : ∀ L ff cda cc, GoesSup (cenv qual (defScope st) L ff (.ref cda) cc) txt j p0 p1 p2 p3 p4) (hsw : ∀ L ff cda cc, swapsWith (supCall txt j p0 p1 p2 p3 p4) none p5.line (cenv qual (defScope st) L ff (.ref cda) cc) = pure false)
    (hsy : ∀ L ff cda cc, swapsWith (.Name y q3) (some (.Attribute (.Name self q1) f q2)) q4.line (cenv qual (defScope st) L ff (.ref cda) cc) = pure false) (hsz : ∀ L ff cda cc, swapsWith (.Name z q7) (some (.Attribute (.Name self q5) g q6)) q8.line (cenv qual (defScope st) L ff (.ref cda) cc) = pure false)
    (hbind : ∀ (kV doc pm : Value) (an : Option Addr) (cda : Addr) (ct : Value) (cc : Addr) (us : List Value), us.length = 3 → bindArgs (PySem.W.ksFn "__init__" qual (defArgs st) (defBody st) (defScope st) .none kV doc pm an (.ref cda) ct cc) ⟨us, []⟩ = pure ([self, y, z].zip us)) :
    ExcG P w K mg base 1 x [self, y, z] (spX2 (He.ga K x) f g) := by
  obtain ⟨oc, od, dV, kV, doc, pm, an, cda, ct, osl, cc, cl, cld, csl, rfl, lk, hcd, hd, _, lc, ccl, cdd, vs, sl, tf, e2, e3⟩ := F.ex
  have U : SupAt P K mg (defScope st) (iAd K x) cda ar.arg := sup_at T hs lk ha e2 e3 hh
  rw [har] at U
  have edV : dV = .none := by rcases hd with ⟨_, e⟩ | ⟨e, _⟩; exact e; exact absurd rfl e
  subst edV
  have B := Binds.all (K := K) (fun us hu => hbind kV doc pm an cda ct cc us hu)
  have hl0 : ∀ v ∈ [self, y, z], (noCls (defScope st)).names.lookup v = some .local := fun v hv => (S.same v (nc v hv)).symm.trans (hl v hv)
  refine ⟨_, hm, X, ?_, B⟩
  rw [hb] at lk ⊢
  have m0 : self ∈ [self, y, z] := List.mem_cons_self
  have m1 : y ∈ [self, y, z] := by simp
  have m2 : z ∈ [self, y, z] := by simp
  refine fn_exc (k := 0) lk hcd lc S (fun vs H Q E h => ?_) (fun v hv => ⟨hl v hv, hl0 v hv⟩) U X.sup rfl (hl self m0) (fun L => go L _ _ _) (fun L => hsw L _ _ _) (fun vs H Q E h => ?_) (fun A outer s H vs Q E hr h => ?_)
  · obtain ⟨a, v, v2, rfl, _⟩ := h; rfl
  · obtain ⟨a, v, v2, rfl, e, _⟩ := h; exact ⟨a, _, rfl, e⟩
  · obtain ⟨a, v, v2, rfl, e, hQ⟩ := h
    have v0 : Vis (defScope st) self := .inl (hl self m0)
    have v1 : Vis (defScope st) y := .inl (hl y m1)
    have v2' : Vis (defScope st) z := .inl (hl z m2)
    refine ⟨_, pss_cons (ps_ost (pe_var (i := 0) rfl v0 (nd self m0) (beq_eq_false_iff_ne.mpr (ndc self m0))) (pe_var (i := 1) rfl v1 (nd y m1) (beq_eq_false_iff_ne.mpr (ndc y m1))) (hsy _ _ _ _)) (pss_one (ps_ost (pe_var (i := 0) rfl v0 (nd self m0) (beq_eq_false_iff_ne.mpr (ndc self m0))) (pe_var (i := 2) rfl v2' (nd z m2) (beq_eq_false_iff_ne.mpr (ndc z m2))) (hsz _ _ _ _))), ?_⟩
    refine ⟨v, rfl, .ref a, rfl, a, He.ga K x, rfl, X.oex, na, .inl ⟨e, fun d h1 h2 => ?_⟩⟩
    refine ⟨v2, rfl, .ref a, rfl, a, He.ga K x, rfl, X.oex, na2, .inr ⟨d, [(f, v)], upd_same, ?_, (show 1 ≤ 900 by decide), hQ d h1 h2⟩⟩
    rw [upd_ne h2, upd_same]
end
end Rd
/-! Bi: built-ins by named readings. -/
namespace Rd
open PySem PySem.Spec PyProof.Rows L2
/-! readings of our own shape, by the form of the arguments -/
def rInt1 : List V → Hp → VK → Prop := fun xs H Q => match xs with
  | [.int n] => Q (.int n) H
  | _ => False
def rLen (K : PySem.W.Frag) : List V → Hp → VK → Prop := fun xs H Q => match xs with
  | [v] => ∃ n, LenV K v H n ∧ Q (.int n) H
  | _ => False
/-- at p a list or a tuple of ys is to be read -/
def SqA (K : PySem.W.Frag) (H : Hp) (p : Addr) (ys : List V) : Prop := SqL K H p ys ∨ SqT K H p ys
def rList (K : PySem.W.Frag) : List V → Hp → VK → Prop := fun xs H Q => match xs with
  | [.ref p] => ∃ ys, SqA K H p ys ∧ ∀ l, H l = none → Q (.ref l) (upd H l (.lst ys))
  | _ => False
def rTuple (K : PySem.W.Frag) : List V → Hp → VK → Prop := fun xs H Q => match xs with
  | [.ref p] => (∃ ys, SqL K H p ys ∧ ∀ l, H l = none → Q (.ref l) (upd H l (.tup ys))) ∨ ((∃ ys, SqT K H p ys) ∧ Q (.ref p) H)
  | _ => False
def rTwo (g : Int → Int → Int) : List V → Hp → VK → Prop := fun xs H Q => match xs with
  | [.int a, .int b] => Q (.int (g a b)) H
  | _ => False
def rOne (g : Int → Int) : List V → Hp → VK → Prop := fun xs H Q => match xs with
  | [.int a] => Q (.int (g a)) H
  | _ => False
section
variable {X : Cx}
theorem cInt : CallR X (.type "int") rInt1 := by
  intro pins s σ H xs us Q I r h
  unfold rInt1 at h
  split at h
  · exact call_int1 pins s σ H _ us Q I r (.inl ⟨_, rfl, h⟩)
  · exact h.elim
theorem cLen : CallR X (.builtin "len") (rLen X.K) := by
  intro pins s σ H xs us Q I r h
  unfold rLen at h
  split at h
  · obtain ⟨n, hl, hq⟩ := h
    exact call_len pins s σ H _ us Q I r ⟨_, n, rfl, hl, hq⟩
  · exact h.elim
theorem cList : CallR X (.type "list") (rList X.K) := by
  intro pins s σ H xs us Q I r h
  unfold rList at h
  split at h
  · obtain ⟨ys, hl, hq⟩ := h
    exact call_list_of pins s σ H _ us Q I r ⟨_, ys, rfl, hl, hq⟩
  · exact h.elim
theorem cTuple : CallR X (.type "tuple") (rTuple X.K) := by
  intro pins s σ H xs us Q I r h
  unfold rTuple at h
  split at h
  · rcases h with ⟨ys, hl, hq⟩ | ⟨⟨ys, hl⟩, hq⟩
    · exact call_tuple_of pins s σ H _ us Q I r ⟨_, ys, rfl, .inl ⟨hl, hq⟩⟩
    · exact call_tuple_of pins s σ H _ us Q I r ⟨_, ys, rfl, .inr ⟨hl, hq⟩⟩
  · exact h.elim
theorem cMax2 (hc : X.calm = true) : CallR X (.builtin "max") (rTwo max) := by
  intro pins s σ H xs us Q I r h
  unfold rTwo at h
  split at h
  · rename_i a b
    refine call_max2 hc pins s σ H _ us Q I r ⟨a, b, rfl, ?_⟩
    rw [show (if b > a then b else a) = max a b by split <;> omega]
    exact h
  · exact h.elim
theorem cMin2 (hc : X.calm = true) : CallR X (.builtin "min") (rTwo min) := by
  intro pins s σ H xs us Q I r h
  unfold rTwo at h
  split at h
  · rename_i a b
    refine call_min2 hc pins s σ H _ us Q I r ⟨a, b, rfl, ?_⟩
    rw [show (if b < a then b else a) = min a b by split <;> omega]
    exact h
  · exact h.elim
def absI (a : Int) : Int := if a < 0 then -a else a
theorem cAbs : CallR X (.builtin "abs") (rOne absI) := by
  intro pins s σ H xs us Q I r h
  unfold rOne at h
  split at h
  · exact call_abs pins s σ H _ us Q I r ⟨_, rfl, h⟩
  · exact h.elim
end
section
variable {K : PySem.W.Frag} {H : Hp} {Q : VK} {i j : Int} {xs ys : List V} {p : Addr} {x v : V} {b : Bool}
theorem w_int (h : Q (.int i) H) : rInt1 [.int i] H Q := h
theorem w_lenL (hs : SqL K H p xs) (h : Q (.int xs.length) H) : rLen K [.ref p] H Q := ⟨xs.length, .inl ⟨xs, hs, rfl⟩, h⟩
theorem w_lenT (hs : SqT K H p xs) (h : Q (.int xs.length) H) : rLen K [.ref p] H Q := ⟨xs.length, .inr ⟨xs, hs, rfl⟩, h⟩
theorem w_lenS {s : Str} (hl : s.length ≤ sizeLine) (h : Q (.int s.length) H) : rLen K [.str s] H Q := ⟨s.length, ⟨hl, rfl⟩, h⟩
theorem w_listL (hs : SqL K H p ys) (h : ∀ l, H l = none → Q (.ref l) (upd H l (.lst ys))) : rList K [.ref p] H Q := ⟨ys, .inl hs, h⟩
theorem w_listT (hs : SqT K H p ys) (h : ∀ l, H l = none → Q (.ref l) (upd H l (.lst ys))) : rList K [.ref p] H Q := ⟨ys, .inr hs, h⟩
theorem w_tupL (hs : SqL K H p ys) (h : ∀ l, H l = none → Q (.ref l) (upd H l (.tup ys))) : rTuple K [.ref p] H Q := .inl ⟨ys, hs, h⟩
theorem w_tupT (hs : SqT K H p ys) (h : Q (.ref p) H) : rTuple K [.ref p] H Q := .inr ⟨⟨ys, hs⟩, h⟩
theorem w_two {g : Int → Int → Int} (h : Q (.int (g i j)) H) : rTwo g [.int i, .int j] H Q := h
theorem w_one {g : Int → Int} (h : Q (.int (g i)) H) : rOne g [.int i] H Q := h
theorem w_ixL (hs : SqL K H p xs) (ha : atI xs i = some v) (h : Q v H) : rIx K (.ref p) (.int i) H Q := .inl ⟨p, xs, i, v, rfl, rfl, hs, ha, h⟩
theorem w_ixT (hs : SqT K H p xs) (ha : atI xs i = some v) (h : Q v H) : rIx K (.ref p) (.int i) H Q := .inr (.inl ⟨p, xs, i, v, rfl, rfl, hs, ha, h⟩)
theorem w_ixS {s : Str} {c : Nat} (hl : s.length ≤ sizeLine) (ha : atI s.cps.toList i = some c) (h : Q (.str ⟨#[c]⟩) H) : rIx K (.str s) (.int i) H Q := .inr (.inr ⟨s, i, c, rfl, rfl, hl, ha, h⟩)
theorem atI_of {α : Type} {l : List α} {k : Int} {x : α} (h0 : 0 ≤ k) (h : l[k.toNat]? = some x) : atI l k = some x := by
  have hk : k < l.length := by
    have := List.getElem?_eq_some_iff.mp h
    obtain ⟨q, _⟩ := this
    omega
  unfold atI ixN
  rw [if_pos h0, if_pos hk]
  exact h
theorem atI_ints {ns : List Int} {k : Int} (h0 : 0 ≤ k) (h1 : k < ns.length) : atI (ns.map V.int) k = some (.int (ns.getD k.toNat 0)) := by
  refine atI_of h0 ?_
  have hk : k.toNat < ns.length := by omega
  rw [List.getElem?_map, List.getElem?_eq_getElem hk, List.getD_eq_getElem?_getD, List.getElem?_eq_getElem hk]
  rfl
theorem w_lenM {ns : List Int} (hs : SqL K H p (ns.map V.int)) (h : Q (.int ns.length) H) : rLen K [.ref p] H Q := w_lenL hs (by rw [List.length_map]; exact h)
theorem w_lenMT {ns : List Int} (hs : SqT K H p (ns.map V.int)) (h : Q (.int ns.length) H) : rLen K [.ref p] H Q := w_lenT hs (by rw [List.length_map]; exact h)
theorem w_ixM {ns : List Int} (hs : SqL K H p (ns.map V.int)) (h0 : 0 ≤ i) (h1 : i < ns.length) (h : Q (.int (ns.getD i.toNat 0)) H) : rIx K (.ref p) (.int i) H Q := w_ixL hs (atI_ints h0 h1) h
theorem w_ixMT {ns : List Int} (hs : SqT K H p (ns.map V.int)) (h0 : 0 ≤ i) (h1 : i < ns.length) (h : Q (.int (ns.getD i.toNat 0)) H) : rIx K (.ref p) (.int i) H Q := w_ixT hs (atI_ints h0 h1) h
theorem w_isi_int (h : Q (.bl true) H) : uIsi K [.int i, .ty "int"] H Q := .inl ⟨_, _, _, _, true, rfl, .ty _, .base (.int i), kit_ty (by decide +kernel), h⟩
theorem w_isi_bool (h : Q (.bl false) H) : uIsi K [.int i, .ty "bool"] H Q := .inl ⟨_, _, _, _, false, rfl, .ty _, .base (.int i), kit_ty (by decide +kernel), h⟩
theorem w_isi_own {a C D : Addr} {b : Bool} (hc : TyX K H (.ref a) (.ref C)) (e : PySem.W.kitOne K (.ref C) (.ref D) = some b) (h : Q (.bl b) H) : uIsi K [.ref a, .ref D] H Q := .inl ⟨_, _, _, _, b, rfl, .own _, hc, e, h⟩
theorem w_isi_none {D : Addr} {b : Bool} (e : PySem.W.kitOne K (.type "NoneType") (.ref D) = some b) (h : Q (.bl b) H) : uIsi K [.non, .ref D] H Q := .inl ⟨_, _, _, _, b, rfl, .own _, .base .non, e, h⟩
theorem w_isx {a D C : Addr} {fs : Option (List (Str × V))} {b : Bool} (hx : XcAt H a D fs) (c : ExcC K D) (e : PySem.W.kitOne K (.ref D) (.ref C) = some b) (h : Q (.bl b) H) : uIsi K [.ref a, .ref C] H Q := .inr ⟨D, fs, _, b, hx, c, .own _, e, h⟩
theorem w_isxT {a D : Addr} {t : String} {fs : Option (List (Str × V))} {b : Bool} (hx : XcAt H a D fs) (c : ExcC K D) (e : PySem.W.kitOne K (.ref D) (.type t) = some b) (h : Q (.bl b) H) : uIsi K [.ref a, .ty t] H Q := .inr ⟨D, fs, _, b, hx, c, .ty _, e, h⟩
/-- none of the classes -/
def NoneOf (K : PySem.W.Frag) (D : Addr) : List Addr → Prop
  | [] => True
  | C :: r => PySem.W.kitOne K (.ref D) (.ref C) = some false ∧ NoneOf K D r
theorem NoneOf.any {D : Addr} : ∀ {Cs : List Addr}, NoneOf K D Cs → PySem.W.kitAny K (.ref D) (Cs.map Value.ref) = some false
  | [], _ => rfl
  | _ :: _, h => kitAny_cons h.1 (fun _ => NoneOf.any h.2) (fun z => nomatch z)
theorem pairedR : ∀ Cs : List Addr, Paired ClsV (Cs.map V.ref) (Cs.map Value.ref)
  | [] => .nil
  | _ :: r => .cons (.own _) (pairedR r)
theorem w_isxs {a D tp : Addr} {fs : Option (List (Str × V))} (Cs : List Addr) (hx : XcAt H a D fs) (c : ExcC K D) (ht : H tp = some (.tup (Cs.map V.ref))) (e : NoneOf K D Cs) (h : Q (.bl false) H) : uIsiT K [.ref a, .ref tp] H Q := .inr ⟨D, fs, _, _, false, hx, c, ht, pairedR Cs, e.any, h⟩
end
end Rd
/-! Pool: the law's own drawing, by what it promises. -/
namespace Rd
open PySem PySem.Spec PyProof.Rows L2
/-- all but p stands -/
def Grow (p : Addr) (H H' : Hp) : Prop := ∀ a o, a ≠ p → H a = some o → H' a = some o
theorem Grow.refl {p : Addr} {H : Hp} : Grow p H H := fun _ _ _ h => h
theorem Grow.trans {p : Addr} {H H1 H2 : Hp} (a : Grow p H H1) (b : Grow p H1 H2) : Grow p H H2 := fun x o n h => b x o n (a x o n h)
theorem Grow.put {p : Addr} {H : Hp} {o : HO} : Grow p H (upd H p o) := fun a u n h => by rw [upd_ne n]; exact h
theorem Grow.new {p q : Addr} {H : Hp} {o : HO} (hq : H q = none) : Grow p H (upd H q o) := fun a u _ h => by rw [upd_ne (ne_of_none h hq)]; exact h
def PoolL (q : Addr) (l : List V) : Prop := ∃ a b c s : Int, l = [.int a, .int b, .int c, .int s, .ref q] ∧ 0 ≤ a ∧ 0 ≤ b ∧ 0 ≤ s ∧ s < 2147483647
def PoolAt (H : Hp) (p : Addr) : Prop := ∃ (q : Addr) (l : List V) (ns : List Int), H p = some (.lst l) ∧ PoolL q l ∧ H q = some (.lst (ns.map V.int)) ∧ q ≠ p
theorem PoolAt.keep {H H' : Hp} {p : Addr} (h : PoolAt H p) (g : ∀ a o, H a = some o → H' a = some o) : PoolAt H' p := by
  obtain ⟨q, l, ns, h1, h2, h3, h4⟩ := h
  exact ⟨q, l, ns, g _ _ h1, h2, g _ _ h3, h4⟩
theorem PoolAt.new {H : Hp} {p x : Addr} {o : HO} (h : PoolAt H p) (hx : H x = none) : PoolAt (upd H x o) p := h.keep fun a u e => by rw [upd_ne (ne_of_none e hx)]; exact e
theorem PoolAt.lst {H : Hp} {p : Addr} (h : PoolAt H p) : ∃ l, H p = some (.lst l) := by
  obtain ⟨q, l, ns, h1, _⟩ := h
  exact ⟨l, h1⟩
/-- p is the pool, H' is H but for the pool and what is new -/
structure Drawn (p : Addr) (H H' : Hp) : Prop where
  grow : Grow p H H'
  core : ∃ (q : Addr) (l l' : List V) (ns : List Int), H p = some (.lst l) ∧ PoolL q l ∧ H q = some (.lst (ns.map V.int)) ∧ q ≠ p ∧ H' p = some (.lst l') ∧ PoolL q l'
theorem Drawn.pool {p : Addr} {H H' : Hp} (h : Drawn p H H') : PoolAt H' p := let ⟨q, _, l', ns, _, _, h3, h4, h5, h6⟩ := h.core; ⟨q, l', ns, h5, h6, h.grow q _ h4 h3, h4⟩
theorem Drawn.was {p : Addr} {H H' : Hp} (h : Drawn p H H') : ∃ l, H p = some (.lst l) := let ⟨_, l, _, _, h1, _⟩ := h.core; ⟨l, h1⟩
theorem PoolL.inj {q q' : Addr} {l : List V} (h : PoolL q l) (h' : PoolL q' l) : q = q' := by
  obtain ⟨a, b, c, s, rfl, _⟩ := h
  obtain ⟨a', b', c', s', e, _⟩ := h'
  simp only [List.cons.injEq, V.ref.injEq] at e
  exact e.2.2.2.2.1
def Small (n : Int) : Prop := n ≤ 10 ^ 70
theorem small_of {n : Int} (h : n ≤ 10 ^ 60) : Small n := Int.le_trans h (by decide)
theorem Small.div {i n : Int} (h : Small n) (h0 : 0 < n) : CDivW i n := by
  refine wide_div h0 (b := 250) ?_ (by decide) (by decide)
  have h1 : n ≤ 10 ^ 70 := h
  have h2 : ((10 : Int) ^ 70).toNat < 2 ^ 250 := by decide
  have h3 : n.natAbs ≤ ((10 : Int) ^ 70).toNat := by omega
  exact Nat.lt_of_le_of_lt h3 h2
theorem drawn_put {H : Hp} {p q : Addr} {l : List V} {ns : List Int} {a b c s : Int} (h1 : H p = some (.lst l)) (h2 : PoolL q l) (h3 : H q = some (.lst (ns.map V.int))) (h4 : q ≠ p) (ha : 0 ≤ a) (hb : 0 ≤ b) (hs : 0 ≤ s) (hs1 : s < 2147483647) : Drawn p H (upd H p (.lst [.int a, .int b, .int c, .int s, .ref q])) :=
  ⟨Grow.put, ⟨q, l, _, ns, h1, h2, h3, h4, upd_same, ⟨a, b, c, s, rfl, ha, hb, hs, hs1⟩⟩⟩
theorem Drawn.refl {p : Addr} {H : Hp} (h : PoolAt H p) : Drawn p H H := ⟨Grow.refl, let ⟨q, l, ns, h1, h2, h3, h4⟩ := h; ⟨q, l, l, ns, h1, h2, h3, h4, h1, h2⟩⟩
theorem Drawn.trans {p : Addr} {H H1 H2 : Hp} (a : Drawn p H H1) (b : Drawn p H1 H2) : Drawn p H H2 := ⟨a.grow.trans b.grow, by
  obtain ⟨q, l, l', ns, h1, h2, h3, h4, h5, h6⟩ := a.core
  obtain ⟨q', k, k', ms, g1, g2, g3, g4, g5, g6⟩ := b.core
  rw [h5] at g1
  cases g1
  cases h6.inj g2
  exact ⟨q, l, k', ns, h1, h2, h3, h4, g5, g6⟩⟩
/-- what was new may change -/
theorem Drawn.put {p D : Addr} {H H1 : Hp} {o : HO} (a : Drawn p H H1) (hD : H D = none) : Drawn p H (upd H1 D o) :=
  ⟨fun b u nb hb => by rw [upd_ne (ne_of_none hb hD)]; exact a.grow b u nb hb, by
    obtain ⟨q, l, l', ns, h1, h2, h3, h4, h5, h6⟩ := a.core
    exact ⟨q, l, l', ns, h1, h2, h3, h4, by rw [upd_ne (ne_of_none h1 hD)]; exact h5, h6⟩⟩
theorem Drawn.new {p x : Addr} {H H1 : Hp} {o : HO} (a : Drawn p H H1) (hx : H1 x = none) : Drawn p H (upd H1 x o) := a.trans ((Drawn.refl a.pool).put hx)
/-- a drawing def: the pool and further ints in, an int with P out -/
def spDraw (n : Nat) (pre : List Int → Prop) (post : List Int → Int → Prop) : Sp := fun vs H Q _ => ∃ (p : Addr) (is : List Int), vs = .ref p :: is.map V.int ∧ is.length = n ∧ pre is ∧ PoolAt H p ∧ ∀ d H', post is d → Drawn p H H' → Q (.int d) H'
def spPool (K : PySem.W.Frag) : Sp := fun vs H Q _ => ∃ (a : Addr) (ns : List Int), vs = [.ref a] ∧ SqL K H a (ns.map V.int) ∧ ∀ p H', H p = none → (∀ b o, H b = some o → H' b = some o) → PoolAt H' p → Q (.ref p) H'
def spTake : Sp := fun vs H Q _ => ∃ (p : Addr) (n : Int), vs = [.ref p, .int n] ∧ 0 < n ∧ Small n ∧ PoolAt H p ∧ ∀ d H', 0 ≤ d → d < n → Drawn p H H' → Q (.int d) H'
theorem use_take {p : Addr} {n : Int} {H : Hp} {Q : VK} {E : XK} (hp : PoolAt H p) (h0 : 0 < n) (hs : Small n) (h : ∀ d H', 0 ≤ d → d < n → Drawn p H H' → Q (.int d) H') : spTake [.ref p, .int n] H Q E := ⟨p, n, rfl, h0, hs, hp, h⟩
theorem len2 {α : Type} : ∀ {l : List α}, l.length = 2 → ∃ a b, l = [a, b]
  | [a, b], _ => ⟨a, b, rfl⟩
theorem spDraw_len {n : Nat} {pre : List Int → Prop} {post : List Int → Int → Prop} {vs : List V} {H : Hp} {Q : VK} {E : XK} (h : spDraw n pre post vs H Q E) : vs.length = n + 1 := by
  obtain ⟨p, is, rfl, hl, _⟩ := h
  rw [List.length_cons, List.length_map, hl]
theorem use_draw0 {pre : List Int → Prop} {post : List Int → Int → Prop} {p : Addr} {H : Hp} {Q : VK} {E : XK} (hp : PoolAt H p) (hpre : pre []) (h : ∀ d H', post [] d → Drawn p H H' → Q (.int d) H') : spDraw 0 pre post [.ref p] H Q E := ⟨p, [], rfl, rfl, hpre, hp, h⟩
theorem use_draw1 {pre : List Int → Prop} {post : List Int → Int → Prop} {p : Addr} {a : Int} {H : Hp} {Q : VK} {E : XK} (hp : PoolAt H p) (hpre : pre [a]) (h : ∀ d H', post [a] d → Drawn p H H' → Q (.int d) H') : spDraw 1 pre post [.ref p, .int a] H Q E := ⟨p, [a], rfl, rfl, hpre, hp, h⟩
theorem use_draw2 {pre : List Int → Prop} {post : List Int → Int → Prop} {p : Addr} {a b : Int} {H : Hp} {Q : VK} {E : XK} (hp : PoolAt H p) (hpre : pre [a, b]) (h : ∀ d H', post [a, b] d → Drawn p H H' → Q (.int d) H') : spDraw 2 pre post [.ref p, .int a, .int b] H Q E := ⟨p, [a, b], rfl, rfl, hpre, hp, h⟩
theorem PoolAt.ints {H : Hp} {p D : Addr} (h : PoolAt H p) (n : D ≠ p) (is : List Int) : PoolAt (upd H D (.lst (is.map V.int))) p := by
  obtain ⟨q, l, ns, h1, h2, h3, h4⟩ := h
  by_cases e : q = D
  · exact ⟨q, l, is, by rw [upd_ne (Ne.symm n)]; exact h1, h2, by rw [e, upd_same], h4⟩
  · exact ⟨q, l, ns, by rw [upd_ne (Ne.symm n)]; exact h1, h2, by rw [upd_ne e]; exact h3, h4⟩
theorem Drawn.ints {H H1 : Hp} {p D : Addr} (h : Drawn p H H1) (hD : H D = none) (_ : D ≠ p) (is : List Int) : Drawn p H (upd H1 D (.lst (is.map V.int))) := h.put hD
theorem Drawn.ne {H H1 : Hp} {p D : Addr} (h : Drawn p H H1) (hD : H1 D = none) : D ≠ p := fun e => by
  obtain ⟨l, z⟩ := h.pool.lst
  rw [e, z] at hD; cases hD
theorem Drawn.tup {H H1 : Hp} {p a : Addr} {xs : List V} (h : Drawn p H H1) (e : H a = some (.tup xs)) : H1 a = some (.tup xs) := h.grow a _ (fun z => by
  obtain ⟨l, w⟩ := h.was
  rw [z, w] at e; cases e) e
theorem Drawn.ins {H H1 : Hp} {p a C dx : Addr} {fs : List (Str × V)} (h : Drawn p H H1) (e : H a = some (.ins C dx fs)) : H1 a = some (.ins C dx fs) := h.grow a _ (fun z => by
  obtain ⟨l, w⟩ := h.was
  rw [z, w] at e; cases e) e
theorem Drawn.lst {H H1 : Hp} {p a : Addr} {xs : List V} (h : Drawn p H H1) (n : a ≠ p) (e : H a = some (.lst xs)) : H1 a = some (.lst xs) := h.grow a _ n e
/-- only new things -/
theorem Drawn.of_same {H H1 : Hp} {p : Addr} (h : PoolAt H p) (s : L2.Same H H1) : Drawn p H H1 := ⟨fun a o _ e => s a o e, let ⟨q, l, ns, h1, h2, h3, h4⟩ := h; ⟨q, l, l, ns, h1, h2, h3, h4, s _ _ h1, h2⟩⟩
theorem Drawn.same {H H1 H2 : Hp} {p : Addr} (h : Drawn p H H1) (s : L2.Same H1 H2) : Drawn p H H2 := h.trans (.of_same h.pool s)
/-- what was free is not the pool -/
theorem Drawn.fresh {H H1 : Hp} {p x : Addr} (h : Drawn p H H1) (e : H1 x = none) : x ≠ p := h.ne e
theorem Drawn.free {H H1 : Hp} {p x : Addr} (h : Drawn p H H1) (e : H1 x = none) : H x = none := Option.eq_none_iff_forall_ne_some.mpr fun o z => by
  have n := h.ne e
  rw [h.grow x o n z] at e; cases e
theorem sameAt {H H1 : Hp} {a : Addr} {o : HO} (s : L2.Same H H1) (e : H a = some o) : H1 a = some o := s a o e
/-- a new thing that then gets its fields -/
theorem same_made {H : Hp} {x dx : Addr} {o1 o2 o3 : HO} (hx : H x = none) (hd : H dx = none) : L2.Same H (upd (upd (upd H dx o1) x o2) x o3) := fun b o hb => by
  rw [upd_ne (ne_of_none hb hx), upd_ne (ne_of_none hb hx), upd_ne (ne_of_none hb hd)]; exact hb
theorem same_new {H : Hp} {x : Addr} {o : HO} (hx : H x = none) : L2.Same H (upd H x o) := fun b u hb => by rw [upd_ne (ne_of_none hb hx)]; exact hb
theorem len5 {α : Type} : ∀ {l : List α}, l.length = 5 → ∃ a b c d e, l = [a, b, c, d, e]
  | [a, b, c, d, e], _ => ⟨a, b, c, d, e, rfl⟩
theorem len3 {α : Type} : ∀ {l : List α}, l.length = 3 → ∃ a b c, l = [a, b, c]
  | [a, b, c], _ => ⟨a, b, c, rfl⟩
/-- the items of a list of ints -/
theorem int_at {ns : List Int} {i : Nat} {x : V} (h : (ns.map V.int)[i]? = some x) : ∃ c, x = .int c ∧ c ∈ ns := by
  obtain ⟨c, hc, e⟩ := List.mem_map.mp (List.mem_of_getElem? h)
  exact ⟨c, e.symm, hc⟩
theorem w_yes {σ : L2.St} {H : Hp} {A B : Hp → Prop} (h : A H) : tYes σ H (fun b H3 => if b = true then A H3 else B H3) := by
  show (if true = true then A H else B H)
  rw [if_pos rfl]; exact h
end Rd
/-! Ops: x in o by an own __contains__. -/
namespace Rd
open PySem PySem.Spec PyProof.Rows PySem.W L2
def rInG (C : Addr) (sp : Sp) : R2 := fun x y H Q => match y with
  | .ref a => ∃ dx fs, H a = some (.ins C dx fs) ∧ sp [.ref a, x] H (fun v H2 => ∃ b, v = .bl b ∧ Q (.bl b) H2) E0
  | _ => False
section
variable {X : Cx} {k : Nat} {C : Addr} {ps : List Str} {sp : Sp}
theorem inst_of {pins : List (Addr × Obj)} {σ : L2.St} {H : Hp} {s : Shared} {a dx : Addr} {fs : List (Str × V)} (I : L2.Inv X pins σ H s) (e : H a = some (.ins C dx fs)) : ∃ od, InstAt s.heap a (instObj C dx) C (some od) := by
  obtain ⟨mA, om, _⟩ := ins_get I.hok e
  obtain ⟨od, i, _⟩ := om.look
  exact ⟨od, i⟩
theorem oInG (G : MtG X.prog X.w X.K X.mg X.base CX0 k C "__contains__" ps sp) (hr : Room k X.A) : OpR X (compareOp .In) (rInG C sp) := by
  intro pins s σ H x y u v Q I rx ry h
  unfold rInG at h
  split at h
  · rename_i a
    obtain ⟨dx, fs, e, h⟩ := h
    obtain ⟨f, fd, m, F, b⟩ := G.ex
    obtain ⟨od, i⟩ := inst_of I e
    obtain ⟨_, fr⟩ := I.fr
    cases ry
    refine in_K fr I.mod.kin i m.at_ m.fn (thn (run_fn (vs := [V.ref a, x]) (dvs := []) F hr b .nil pass0 I (.cons (show RelV (V.ref a) (Value.ref a) from rfl) (.cons rx .nil)) h) fun r s1 w => ?_)
    obtain ⟨z, H1, I1, rz, c, rfl, q⟩ := w
    cases rz
    exact thn (tru_ok pins s1 σ H1 (.bl c) _ (fun b H' => Q (.bl b) H') I1 rfl ⟨c, rfl, q⟩) fun b2 s2 w2 => let ⟨H2, I2, q2⟩ := w2; ⟨.bl b2, H2, I2, rfl, q2⟩
  · exact h.elim
theorem pe_mg {o e : Expr} {es : List Expr} {m : Str} {t : TA} {ta : TE} {pos apos : Pos} {pl : Sem Bool} (G : MtG X.prog X.w X.K X.mg X.base CX0 k C m ps sp) (hr : Room k X.A) (ho : PE X o ta) (ha : PA X (e :: es) t) (h1 : starEach (e :: es) X.env = (false, eval e X.env) :: starEach es X.env := by rfl) (h2 : (backTo pos (starEach es X.env)).any (·.1) = false := by rfl)
    (h3 : eval (.Call (.Attribute o m apos) (e :: es) [] pos) X.env = (eval o X.env >>= fun ov => standAt apos.atName >>= fun _ => holding [ov] (getMethod ov m pl) >>= fun fx => callWith pos fx.1 fx.2 (backTo pos (starEach (e :: es) X.env)) (backToKw pos (keywordEach [] X.env))) := by rfl) : PE X (.Call (.Attribute o m apos) (e :: es) [] pos) (tMeth C m sp [] E0 ta t) := by
  obtain ⟨f, fd, mt, F, b⟩ := G.ex
  exact pe_meth ho G.cls mt F hr b .nil pass0 ha h1 h2 h3
end
section
variable {K : PySem.W.Frag} {H : Hp} {Q : VK} {C a dx : Addr} {fs : List (Str × V)} {sp : Sp} {x : V}
theorem w_inG (e : H a = some (.ins C dx fs)) (h : sp [.ref a, x] H (fun v H2 => ∃ b, v = .bl b ∧ Q (.bl b) H2) E0) : rInG C sp x (.ref a) H Q := ⟨dx, fs, e, h⟩
end
end Rd
/-! Rng: range(a, b) over ints of any size. -/
namespace Rd
open PySem PySem.Spec PyProof.Rows L2
/-- what is asked of an iterator that is one record and gives lo, lo + 1, .. -/
structure IntsIt (P : Program) (w : World) (it : Addr) (lo : Int) (n : Nat) (cn : String) (St : Nat → Heap → Prop) : Prop where
  name : ["enumerate", "zip", "dict_itemiterator", "dict_reverseitemiterator", "odict_iterator", "itertools.zip_longest", "itertools.pairwise"].contains cn = false
  one : ∀ i h, St i h → ∃ vs, h.get? it = some { cls := .type cn, data := .fields vs }
  keep : ∀ i h h', St i h → (∀ o, h.get? it = some o → h'.get? it = some o) → St i h'
  walks : ∀ A : Around, A.handled = none → Walks P w A it [it] [it] n (fun i v => ∃ t, v = .int (lo + i * 1) t) St
  ends : ∀ (A : Around), A.handled = none → ∀ (i : Nat) (s : Shared) (Q : Option Value → Shared → Prop) (E : Value → Shared → Prop), n ≤ i → St i s.heap → (∀ h', Heap.ExtBut it s.heap h' → Q none { s with heap := h' }) → wpAny (model P w) A (pyNext (.ref it)) Q E s
  again : ∀ (A : Around) (i : Nat) (s : Shared) (Q E : Value → Shared → Prop), St i s.heap → Q (.ref it) s → wpAny (model P w) A (pyIter (.ref it)) Q E s
theorem turn_ints {P : Program} {w : World} {K : PySem.W.Frag} {tg : Expr} {it : Addr} {lo : Int} {n : Nat} {St : Nat → Heap → Prop} {cn : String} (R : IntsIt P w it lo n cn St) : Turn P w K tg (Itr lo n) [it] it St where
  mem := List.mem_singleton.mpr rfl
  obj := fun i h st b hb => by
    cases List.mem_singleton.mp hb
    obtain ⟨vs, e⟩ := R.one i h st
    exact ⟨_, e, fun v z => by cases z⟩
  keep := fun i h h' st k => R.keep i h h' st (k it (List.mem_singleton.mpr rfl))
  item := fun X hP hw hK hc i pins s σ H E I hf st hg => by
    subst hP hw hK
    obtain ⟨f0, f1, f2, f3, f4, f5⟩ := hf it (List.mem_singleton.mpr rfl)
    refine (R.walks X.A (I.ok.hd hc)).item i s _ _ hg st fun v h' tk hv st' k => ?_
    obtain ⟨t, rfl⟩ := hv
    have J := I.turned (t' := tk) (fun b o hb e => k b o (fun z => hb (List.mem_singleton.mp z)) e) f0 f1 f3 f4 f5
    obtain ⟨vs, e⟩ := R.one _ _ st'
    exact ⟨_, rfl, go_of (s := { s with heap := h', toks := tk }) (n := cn) e rfl rfl R.name ⟨.int (lo + i), H, J, ⟨t, by rw [Int.mul_one]⟩, ⟨rfl, rfl⟩, st', fun b hb => (hf b hb).1⟩⟩
  done := fun X hP hw hK hc i pins s σ H E I hf st hg => by
    subst hP hw hK
    obtain ⟨f0, f1, f2, f3, f4, f5⟩ := hf it (List.mem_singleton.mpr rfl)
    exact R.ends X.A (I.ok.hd hc) i s _ _ hg st fun h' eb => ⟨rfl, I.turned (t' := s.toks) (fun b o hb e => eb b o hb e) f0 f1 f3 f4 f5⟩
  self := fun A i s Q E st h => R.again A i s Q E st h
def iRngZ (ta : TA) : TI := fun σ H R => ta σ H fun vs H1 => match vs with
  | [.int a, .int b] => R (Itr a (b - a).toNat) H1
  | _ => False
section
variable {X : Cx} {tg : Expr}
theorem small_it {it : Addr} {lo : Int} {n : Nat} : IntsIt X.prog X.w it lo n "range_iterator" (fun i h => IsRangeIter h it (lo + (i : Nat) * 1) ((n : Int) - (i : Nat)) 1) where
  name := by decide
  one := fun i h st => ⟨_, st⟩
  keep := fun i h h' st k => k _ st
  walks := fun A hA => Walks.range hA it lo 1 n
  ends := fun A hA i s Q E hi st hQ => wpAny_pyNext_range_end hA st (by omega) hQ
  again := fun A i s Q E st h => wpAny_pyIter_rangeiter st h
theorem long_it {it : Addr} {lo : Int} {n : Nat} : IntsIt X.prog X.w it lo n "longrange_iterator" (fun i h => IsLongIter h it (lo + (i : Nat) * 1) ((n : Int) - (i : Nat)) 1) where
  name := by decide
  one := fun i h st => ⟨_, st⟩
  keep := fun i h h' st k => k _ st
  walks := fun A hA => Walks.longrange hA it lo 1 n
  ends := fun A hA i s Q E hi st hQ => wpAny_pyNext_long_end hA st (by omega) hQ
  again := fun A i s Q E st h => wpAny_pyIter_longiter st h
/-- the walk of a range just made, whatever its ends -/
theorem range_any {pins : List (Addr × Obj)} {σ : L2.St} {H : Hp} {s : Shared} {R : It → Hp → Prop} {E : Value → Shared → Prop} {lo hi : Int} {t u v : Tok} {r : Addr} (I : L2.Inv X pins σ H s) (hr : IsRange s.heap r lo hi 1 t u v) (q : R (Itr lo (hi - lo).toNat) H) :
    wpAny (model X.prog X.w) X.A (pyIter (.ref r)) (PIE X pins σ tg R) E s := by
  have e1 : lo + ((0 : Nat) : Int) * 1 = lo := by simp
  have e2 : (((hi - lo).toNat : Nat) : Int) - ((0 : Nat) : Int) = Builtin.Range.rangeSize lo hi 1 := by rw [rangeSize_one]; split <;> omega
  have fresh : ∀ {b : Addr}, b ∈ [s.heap.objs.size] → FpOk X pins H b := fun hb => by
    cases List.mem_singleton.mp hb
    exact I.fpOk (Nat.le_refl _) (I.hok.fresh (Nat.le_refl _))
  cases hs : Builtin.Range.small lo hi 1 with
  | true =>
    refine wpAny_pyIter_range hr hs ⟨s.heap.objs.size, [s.heap.objs.size], _, _, H, rfl, I.kept (t' := s.toks) fun b o e => Heap.get?_push_of_some _ e, turn_ints small_it, ?_, fun b hb => fresh hb, q⟩
    show IsRangeIter _ _ (lo + ((0 : Nat) : Int) * 1) ((((hi - lo).toNat : Nat) : Int) - ((0 : Nat) : Int)) 1
    rw [e1, e2]
    exact Heap.get?_push_size _ rfl
  | false =>
    refine wpAny_pyIter_longrange hr hs ⟨s.heap.objs.size, [s.heap.objs.size], _, _, H, rfl, I.kept (t' := s.toks) fun b o e => Heap.get?_push_of_some _ e, turn_ints long_it, ?_, fun b hb => fresh hb, q⟩
    show IsLongIter _ _ (lo + ((0 : Nat) : Int) * 1) ((((hi - lo).toNat : Nat) : Int) - ((0 : Nat) : Int)) 1
    rw [e1, e2]
    exact Heap.get?_push_size _ rfl
theorem pi_rangeZ {a b : Expr} {ta : TA} {p pos : Pos} (hg : Gl X "range") (hm : X.mg "range" = none) (ha : PA X [a, b] ta) (hs : starEach [a, b] X.env = [(false, eval a X.env), (false, eval b X.env)] := by rfl) (hs2 : starEach [b] X.env = [(false, eval b X.env)] := by rfl) :
    PI X tg (.Call (.Name "range" p) [a, b] [] pos) (iRngZ ta) where
  run := fun pins s σ H R I h => by
    refine Call_ (ld_blt I hg hm boot_range (PyProof.Rows.callWith_type1 (thn (ha.run pos pins s σ H _ I h) fun us s1 w => ?_) (hs.trans (by rw [hs2])) (by rw [hs2]; rfl)))
    obtain ⟨vs, H1, I1, rv, w⟩ := w
    split at w
    · obtain ⟨v1, v2, rfl, ⟨t1, rfl⟩, ⟨t2, rfl⟩⟩ := vals2 rv
      exact call_range_2 (range_any (I1.kept (t' := s1.toks + 1) fun b o e => Heap.get?_push_of_some _ e) (Heap.get?_push_size _ rfl) w)
    · exact w.elim
end
end Rd
/-! MkS: C(e, ..) where what is raised is wished for at the caller's slots. -/
namespace Rd
open PySem PySem.Spec PyProof.Rows L2
/-- a call's end, seen from the body that called -/
def Came (X : Cx) (pins : List (Addr × Obj)) (σ : L2.St) (Q : VK) (r : Result) (s' : Shared) : Prop := match r with
  | .ok (.ret u) => EP X pins σ Q u s'
  | .ok _ => False
  | .error e => X.xe e s'
theorem came_of {X : Cx} {CX : CXT} {pins : List (Addr × Obj)} {σ : L2.St} {H : Hp} {s s' : Shared} {Q : VK} {E : XK} (I : L2.Inv X pins σ H s) (hx : PassesAt CX X σ E) : ∀ {r : Result}, CR CX X.stack X.prog X.w H s Q E r s' → Came X pins σ Q r s'
  | .error e, c => hx pins H s e s' I c
  | .ok (.ret _), c => I.after c
  | .ok .next, c => c
  | .ok .brk, c => c
  | .ok .cont, c => c
/-- the reading: the layer's own for a new instance, its wish at the slots -/
def tMkS (C : Addr) (sp : Sp) (dvs : List V) (E : L2.St → XK) (t : TA) : TE := fun σ H Q => tMake C sp dvs (E σ) t σ H Q
section
variable {X : Cx} {CX : CXT} {k : Nat} {x : Str} {ps : List Str} {dvs : List V} {sp : Sp} {E : L2.St → XK} {e : Expr} {es : List Expr} {t : TA} {p pos : Pos}
theorem pe_mkS (G : MkG X.prog X.w X.K X.mg X.base CX k x ps dvs sp) (hr : Room (k + 1) X.A) (hg : Gl X x) (hx : ∀ σ, PassesAt CX X σ (E σ)) (ha : PA X (e :: es) t) (h1 : (x == ("__debug__" : Str)) = false := by decide) (h2 : starEach (e :: es) X.env = (false, eval e X.env) :: starEach es X.env := by rfl) (h3 : (backTo pos (starEach es X.env)).any (·.1) = false := by rfl) :
    PE X (.Call (.Name x p) (e :: es) [] pos) (tMkS (He.ga X.K x) sp dvs E t) where
  run := fun pins s σ H Q I h => by
    obtain ⟨f, fd, ds, hm, M, F, hb, hd⟩ := G.ex
    refine wpAny_Call_Name_kw (ld_glob I hg hm (PySem.W.callWith_K (h₀ := X.base) I.ok.mod.kin M.kp (thn (ha.run pos pins s σ H _ I h) fun us s1 w => ⟨?_, ?_⟩) h2 h3) h1)
    · obtain ⟨vs, H1, I1, _⟩ := w; exact I1.kIn
    · obtain ⟨vs, H1, I1, rv, w⟩ := w
      have new := Inv.made (C := He.ga X.K x) I1
      have say := w (s1.heap.objs.size + 1) s1.heap.objs.size (I1.hok.fresh (Nat.le_succ _)) (I1.hok.fresh (Nat.le_refl _)) (Nat.ne_of_lt (Nat.lt_succ_self _))
      have rel : Vals (.ref (s1.heap.objs.size + 1) :: (vs ++ dvs)) (.ref (s1.heap.objs.size + 1) :: (us ++ ds)) := .cons rfl (rv.append hd)
      have len := rel.length.symm.trans (F.len _ _ _ _ say)
      refine wpAny_call (make_map (f := f) I1.kIn M.makes M.init (beq_iff_eq.mp M.fn) (codeAny_mono (F.run _ X.stack _ _ ⟨.ref (s1.heap.objs.size + 1) :: us, []⟩ _ _ _ (E σ) (hr.make _ us []) (new.env0.make _ us []) (hb _ (.ref (s1.heap.objs.size + 1) :: us) new.kIn len) rel say) fun r s2 c => ?_))
      have z := came_of new (hx σ) c
      cases r with
      | error e2 => exact z
      | ok fl => cases fl with
        | ret u =>
          obtain ⟨v, H2, I2, ru, ev, q⟩ := z
          cases ev
          exact ⟨ru, V.ref (s1.heap.objs.size + 1), H2, I2, rfl, q⟩
        | _ => exact (show False from z).elim
/-- the same, the class's place given ahead -/
theorem pe_mkC (C : Addr) (hC : He.ga X.K x = C) (G : MkG X.prog X.w X.K X.mg X.base CX k x ps dvs sp) (hr : Room (k + 1) X.A) (hg : Gl X x) (hx : ∀ σ, PassesAt CX X σ (E σ)) (ha : PA X (e :: es) t) (h1 : (x == ("__debug__" : Str)) = false := by decide) (h2 : starEach (e :: es) X.env = (false, eval e X.env) :: starEach es X.env := by rfl) (h3 : (backTo pos (starEach es X.env)).any (·.1) = false := by rfl) :
    PE X (.Call (.Name x p) (e :: es) [] pos) (tMkS C sp dvs E t) := hC ▸ pe_mkS G hr hg hx ha h1 h2 h3
end
section
variable {C : Addr} {sp : Sp} {dvs : List V} {E : L2.St → XK} {tl : TA} {σ : L2.St} {H : Hp} {Q : VK}
theorem w_mkS (h : tl σ H (kMake C sp dvs (E σ) Q)) : tMkS C sp dvs E tl σ H Q := h
end
end Rd
/-! SameM: values that are alike through and through, and isinstance of the plain types. -/
namespace Rd
open PySem PySem.Spec PyProof.Rows L2
/-- v and w are alike, down to the depth d -/
def Alike (H : Hp) : Nat → V → V → Prop
  | 0, _, _ => False
  | d + 1, v, w => (v = .non ∧ w = .non) ∨ (∃ b, v = .bl b ∧ w = .bl b) ∨ (∃ i, v = .int i ∧ w = .int i) ∨ (∃ s, v = .str s ∧ w = .str s) ∨
      ∃ (a b : Addr) (xs ys : List V), v = .ref a ∧ w = .ref b ∧ ((H a = some (.lst xs) ∧ H b = some (.lst ys)) ∨ (H a = some (.tup xs) ∧ H b = some (.tup ys))) ∧ xs.length = ys.length ∧ xs.length ≤ 1000000 ∧ ∀ (i : Nat) (x y : V), xs[i]? = some x → ys[i]? = some y → Alike H d x y
theorem Alike.keep {H H' : Hp} (k : Same H H') : ∀ {d : Nat} {v w : V}, Alike H d v w → Alike H' d v w
  | 0, _, _, h => h.elim
  | _ + 1, _, _, .inl h => .inl h
  | _ + 1, _, _, .inr (.inl h) => .inr (.inl h)
  | _ + 1, _, _, .inr (.inr (.inl h)) => .inr (.inr (.inl h))
  | _ + 1, _, _, .inr (.inr (.inr (.inl h))) => .inr (.inr (.inr (.inl h)))
  | _ + 1, _, _, .inr (.inr (.inr (.inr ⟨a, b, xs, ys, e1, e2, h, hl, hs, hi⟩))) => .inr (.inr (.inr (.inr ⟨a, b, xs, ys, e1, e2, h.elim (fun z => .inl ⟨k _ _ z.1, k _ _ z.2⟩) (fun z => .inr ⟨k _ _ z.1, k _ _ z.2⟩), hl, hs, fun i x y hx hy => (hi i x y hx hy).keep k⟩)))
section
variable {H : Hp} {d : Nat} {a b : Addr} {xs ys : List V}
theorem alike_non : Alike H (d + 1) .non .non := .inl ⟨rfl, rfl⟩
theorem alike_bl {x : Bool} : Alike H (d + 1) (.bl x) (.bl x) := .inr (.inl ⟨x, rfl, rfl⟩)
theorem alike_int {i : Int} : Alike H (d + 1) (.int i) (.int i) := .inr (.inr (.inl ⟨i, rfl, rfl⟩))
theorem alike_str {s : Str} : Alike H (d + 1) (.str s) (.str s) := .inr (.inr (.inr (.inl ⟨s, rfl, rfl⟩)))
theorem alike_lst (ha : H a = some (.lst xs)) (hb : H b = some (.lst ys)) (hl : xs.length = ys.length) (hs : xs.length ≤ 1000000) (h : ∀ (i : Nat) (x y : V), xs[i]? = some x → ys[i]? = some y → Alike H d x y) : Alike H (d + 1) (.ref a) (.ref b) :=
  .inr (.inr (.inr (.inr ⟨a, b, xs, ys, rfl, rfl, .inl ⟨ha, hb⟩, hl, hs, h⟩)))
theorem alike_tup (ha : H a = some (.tup xs)) (hb : H b = some (.tup ys)) (hl : xs.length = ys.length) (hs : xs.length ≤ 1000000) (h : ∀ (i : Nat) (x y : V), xs[i]? = some x → ys[i]? = some y → Alike H d x y) : Alike H (d + 1) (.ref a) (.ref b) :=
  .inr (.inr (.inr (.inr ⟨a, b, xs, ys, rfl, rfl, .inr ⟨ha, hb⟩, hl, hs, h⟩)))
/-- plain items -/
def Plain : V → Prop
  | .non => True
  | .bl _ => True
  | .int _ => True
  | .str _ => True
  | _ => False
theorem alike_plain : ∀ {x : V}, Plain x → Alike H (d + 1) x x
  | .non, _ => alike_non
  | .bl _, _ => alike_bl
  | .int _, _ => alike_int
  | .str _, _ => alike_str
theorem plain_ints (ns : List Int) : ∀ x ∈ ns.map V.int, Plain x := fun x hx => by
  obtain ⟨c, _, rfl⟩ := List.mem_map.mp hx
  trivial
theorem alike_items (hp : ∀ x ∈ xs, Plain x) : ∀ (i : Nat) (x y : V), xs[i]? = some x → xs[i]? = some y → Alike H (d + 1) x y := fun i x y hx hy => by
  rw [hx] at hy
  cases hy
  exact alike_plain (hp x (List.mem_of_getElem? hx))
theorem alike_plst (ha : H a = some (.lst xs)) (hb : H b = some (.lst xs)) (hs : xs.length ≤ 1000000) (hp : ∀ x ∈ xs, Plain x) : Alike H (d + 2) (.ref a) (.ref b) := alike_lst ha hb rfl hs (alike_items hp)
theorem alike_ptup (ha : H a = some (.tup xs)) (hb : H b = some (.tup xs)) (hs : xs.length ≤ 1000000) (hp : ∀ x ∈ xs, Plain x) : Alike H (d + 2) (.ref a) (.ref b) := alike_tup ha hb rfl hs (alike_items hp)
def spSame (d : Nat) : Sp := fun vs H Q _ => ∃ v w, vs = [v, w] ∧ Alike H d v w ∧ Q (.bl true) H
theorem rec0 {vs : List V} {Q : VK} {E : XK} (h : spSame 0 vs H Q E) : False := by
  obtain ⟨_, _, _, h, _⟩ := h
  exact h
theorem use_same {v w : V} {Q : VK} {E : XK} (h : Alike H d v w) (q : Q (.bl true) H) : spSame d [v, w] H Q E := ⟨v, w, rfl, h, q⟩
theorem atI_nat {α : Type} {l : List α} {i : Nat} {x : α} (h : l[i]? = some x) : atI l (0 + (i : Int)) = some x := atI_of (by omega) (by rw [show (0 + (i : Int)).toNat = i by omega]; exact h)
end
section
variable {K : PySem.W.Frag} {H : Hp} {Q : VK} {a : Addr} {xs : List V}
theorem w_isB {v : V} {T t : String} {r : Bool} (ty : TyX K H v (.type T)) (e : kitB T t = some r) (h : Q (.bl r) H) : uIsi K [v, .ty t] H Q := .inl ⟨_, _, _, _, r, rfl, .ty _, ty, kit_ty e, h⟩
theorem w_neB_tt (h : Q (.bl false) H) : rNe (.bl true) (.bl true) H Q := ⟨rfl, h⟩
theorem w_neB_ff (h : Q (.bl false) H) : rNe (.bl false) (.bl false) H Q := ⟨rfl, h⟩
theorem w_neB_tf (h : Q (.bl true) H) : rNe (.bl true) (.bl false) H Q := ⟨rfl, h⟩
theorem w_neB_ft (h : Q (.bl true) H) : rNe (.bl false) (.bl true) H Q := ⟨rfl, h⟩
theorem w_isb_NoneType_bool (h : Q (.bl false) H) : uIsi K [.non, .ty "bool"] H Q := w_isB (.base .non) (by decide +kernel) h
theorem w_isb_NoneType_int (h : Q (.bl false) H) : uIsi K [.non, .ty "int"] H Q := w_isB (.base .non) (by decide +kernel) h
theorem w_isb_NoneType_str (h : Q (.bl false) H) : uIsi K [.non, .ty "str"] H Q := w_isB (.base .non) (by decide +kernel) h
theorem w_isb_NoneType_dict (h : Q (.bl false) H) : uIsi K [.non, .ty "dict"] H Q := w_isB (.base .non) (by decide +kernel) h
theorem w_isb_NoneType_list (h : Q (.bl false) H) : uIsi K [.non, .ty "list"] H Q := w_isB (.base .non) (by decide +kernel) h
theorem w_isb_NoneType_tuple (h : Q (.bl false) H) : uIsi K [.non, .ty "tuple"] H Q := w_isB (.base .non) (by decide +kernel) h
theorem w_isb_bool_bool {x : Bool} (h : Q (.bl true) H) : uIsi K [.bl x, .ty "bool"] H Q := w_isB (.base (.bl x)) (by decide +kernel) h
theorem w_isb_bool_int {x : Bool} (h : Q (.bl true) H) : uIsi K [.bl x, .ty "int"] H Q := w_isB (.base (.bl x)) (by decide +kernel) h
theorem w_isb_bool_str {x : Bool} (h : Q (.bl false) H) : uIsi K [.bl x, .ty "str"] H Q := w_isB (.base (.bl x)) (by decide +kernel) h
theorem w_isb_bool_dict {x : Bool} (h : Q (.bl false) H) : uIsi K [.bl x, .ty "dict"] H Q := w_isB (.base (.bl x)) (by decide +kernel) h
theorem w_isb_bool_list {x : Bool} (h : Q (.bl false) H) : uIsi K [.bl x, .ty "list"] H Q := w_isB (.base (.bl x)) (by decide +kernel) h
theorem w_isb_bool_tuple {x : Bool} (h : Q (.bl false) H) : uIsi K [.bl x, .ty "tuple"] H Q := w_isB (.base (.bl x)) (by decide +kernel) h
theorem w_isb_int_bool {x : Int} (h : Q (.bl false) H) : uIsi K [.int x, .ty "bool"] H Q := w_isB (.base (.int x)) (by decide +kernel) h
theorem w_isb_int_int {x : Int} (h : Q (.bl true) H) : uIsi K [.int x, .ty "int"] H Q := w_isB (.base (.int x)) (by decide +kernel) h
theorem w_isb_int_str {x : Int} (h : Q (.bl false) H) : uIsi K [.int x, .ty "str"] H Q := w_isB (.base (.int x)) (by decide +kernel) h
theorem w_isb_int_dict {x : Int} (h : Q (.bl false) H) : uIsi K [.int x, .ty "dict"] H Q := w_isB (.base (.int x)) (by decide +kernel) h
theorem w_isb_int_list {x : Int} (h : Q (.bl false) H) : uIsi K [.int x, .ty "list"] H Q := w_isB (.base (.int x)) (by decide +kernel) h
theorem w_isb_int_tuple {x : Int} (h : Q (.bl false) H) : uIsi K [.int x, .ty "tuple"] H Q := w_isB (.base (.int x)) (by decide +kernel) h
theorem w_isb_str_bool {x : Str} (h : Q (.bl false) H) : uIsi K [.str x, .ty "bool"] H Q := w_isB (.base (.str x)) (by decide +kernel) h
theorem w_isb_str_int {x : Str} (h : Q (.bl false) H) : uIsi K [.str x, .ty "int"] H Q := w_isB (.base (.str x)) (by decide +kernel) h
theorem w_isb_str_str {x : Str} (h : Q (.bl true) H) : uIsi K [.str x, .ty "str"] H Q := w_isB (.base (.str x)) (by decide +kernel) h
theorem w_isb_str_dict {x : Str} (h : Q (.bl false) H) : uIsi K [.str x, .ty "dict"] H Q := w_isB (.base (.str x)) (by decide +kernel) h
theorem w_isb_str_list {x : Str} (h : Q (.bl false) H) : uIsi K [.str x, .ty "list"] H Q := w_isB (.base (.str x)) (by decide +kernel) h
theorem w_isb_str_tuple {x : Str} (h : Q (.bl false) H) : uIsi K [.str x, .ty "tuple"] H Q := w_isB (.base (.str x)) (by decide +kernel) h
theorem w_isb_list_bool (e : H a = some (.lst xs)) (h : Q (.bl false) H) : uIsi K [.ref a, .ty "bool"] H Q := w_isB (.base (.lst e)) (by decide +kernel) h
theorem w_isb_list_int (e : H a = some (.lst xs)) (h : Q (.bl false) H) : uIsi K [.ref a, .ty "int"] H Q := w_isB (.base (.lst e)) (by decide +kernel) h
theorem w_isb_list_str (e : H a = some (.lst xs)) (h : Q (.bl false) H) : uIsi K [.ref a, .ty "str"] H Q := w_isB (.base (.lst e)) (by decide +kernel) h
theorem w_isb_list_dict (e : H a = some (.lst xs)) (h : Q (.bl false) H) : uIsi K [.ref a, .ty "dict"] H Q := w_isB (.base (.lst e)) (by decide +kernel) h
theorem w_isb_list_list (e : H a = some (.lst xs)) (h : Q (.bl true) H) : uIsi K [.ref a, .ty "list"] H Q := w_isB (.base (.lst e)) (by decide +kernel) h
theorem w_isb_list_tuple (e : H a = some (.lst xs)) (h : Q (.bl false) H) : uIsi K [.ref a, .ty "tuple"] H Q := w_isB (.base (.lst e)) (by decide +kernel) h
theorem w_isb_tuple_bool (e : H a = some (.tup xs)) (h : Q (.bl false) H) : uIsi K [.ref a, .ty "bool"] H Q := w_isB (.base (.tup e)) (by decide +kernel) h
theorem w_isb_tuple_int (e : H a = some (.tup xs)) (h : Q (.bl false) H) : uIsi K [.ref a, .ty "int"] H Q := w_isB (.base (.tup e)) (by decide +kernel) h
theorem w_isb_tuple_str (e : H a = some (.tup xs)) (h : Q (.bl false) H) : uIsi K [.ref a, .ty "str"] H Q := w_isB (.base (.tup e)) (by decide +kernel) h
theorem w_isb_tuple_dict (e : H a = some (.tup xs)) (h : Q (.bl false) H) : uIsi K [.ref a, .ty "dict"] H Q := w_isB (.base (.tup e)) (by decide +kernel) h
theorem w_isb_tuple_list (e : H a = some (.tup xs)) (h : Q (.bl false) H) : uIsi K [.ref a, .ty "list"] H Q := w_isB (.base (.tup e)) (by decide +kernel) h
theorem w_isb_tuple_tuple (e : H a = some (.tup xs)) (h : Q (.bl true) H) : uIsi K [.ref a, .ty "tuple"] H Q := w_isB (.base (.tup e)) (by decide +kernel) h
end
end Rd
/-! Loops: for and comprehensions, when what they go over is done. -/
namespace Rd
open PySem PySem.Spec PyProof.Rows L2
section
variable {K : PySem.W.Frag} {g : TG} {tb : TS} {D : Ends} {σ : L2.St} {H : Hp} {tl : TA} {te : TE}
def kFR1 (g : TG) (tb : TS) (D : Ends) (σ : L2.St) : List V → Hp → Prop := fun vs H => tFor (iRng1 (tAc vs)) g tb D σ H
def kFR2 (g : TG) (tb : TS) (D : Ends) (σ : L2.St) : List V → Hp → Prop := fun vs H => tFor (iRng2 (tAc vs)) g tb D σ H
def kFL (K : PySem.W.Frag) (g : TG) (tb : TS) (D : Ends) (σ : L2.St) : VK := fun x H => tFor (iList K (tC x)) g tb D σ H
def kFT (K : PySem.W.Frag) (g : TG) (tb : TS) (D : Ends) (σ : L2.St) : VK := fun x H => tFor (iTup K (tC x)) g tb D σ H
def kFE (K : PySem.W.Frag) (g : TG) (tb : TS) (D : Ends) (σ : L2.St) : List V → Hp → Prop := fun vs H => tFor (iEnum K (tAc vs)) g tb D σ H
theorem w_forR1 (h : tl σ H (kFR1 g tb D σ)) : tFor (iRng1 tl) g tb D σ H := h
theorem w_forR2 (h : tl σ H (kFR2 g tb D σ)) : tFor (iRng2 tl) g tb D σ H := h
theorem w_forL (h : te σ H (kFL K g tb D σ)) : tFor (iList K te) g tb D σ H := h
theorem w_forT (h : te σ H (kFT K g tb D σ)) : tFor (iTup K te) g tb D σ H := h
theorem w_forE (h : tl σ H (kFE K g tb D σ)) : tFor (iEnum K tl) g tb D σ H := h
variable {tt : TT} {ty : TE} {vs : List Nat} {Q : VK}
def kCR1 (g : TG) (tt : TT) (ty : TE) (vs : List Nat) (σ : L2.St) (Q : VK) : List V → Hp → Prop := fun xs H => tLc (iRng1 (tAc xs)) g tt ty vs σ H Q
def kCR2 (g : TG) (tt : TT) (ty : TE) (vs : List Nat) (σ : L2.St) (Q : VK) : List V → Hp → Prop := fun xs H => tLc (iRng2 (tAc xs)) g tt ty vs σ H Q
def kCL (K : PySem.W.Frag) (g : TG) (tt : TT) (ty : TE) (vs : List Nat) (σ : L2.St) (Q : VK) : VK := fun x H => tLc (iList K (tC x)) g tt ty vs σ H Q
def kCT (K : PySem.W.Frag) (g : TG) (tt : TT) (ty : TE) (vs : List Nat) (σ : L2.St) (Q : VK) : VK := fun x H => tLc (iTup K (tC x)) g tt ty vs σ H Q
def kCE (K : PySem.W.Frag) (g : TG) (tt : TT) (ty : TE) (vs : List Nat) (σ : L2.St) (Q : VK) : List V → Hp → Prop := fun xs H => tLc (iEnum K (tAc xs)) g tt ty vs σ H Q
theorem w_lcR1 (h : tl σ H (kCR1 g tt ty vs σ Q)) : tLc (iRng1 tl) g tt ty vs σ H Q := h
theorem w_lcR2 (h : tl σ H (kCR2 g tt ty vs σ Q)) : tLc (iRng2 tl) g tt ty vs σ H Q := h
theorem w_lcL (h : te σ H (kCL K g tt ty vs σ Q)) : tLc (iList K te) g tt ty vs σ H Q := h
theorem w_lcT (h : te σ H (kCT K g tt ty vs σ Q)) : tLc (iTup K te) g tt ty vs σ H Q := h
theorem w_lcE (h : tl σ H (kCE K g tt ty vs σ Q)) : tLc (iEnum K tl) g tt ty vs σ H Q := h
/-- list methods: the receiver is a list of the heap -/
theorem w_kbmL {s : V → List V → Hp → VK → Prop} {p : Addr} {xs : List V} (hp : H p = some (.lst xs)) (h : tl σ H (kBM2 s (.ref p) Q)) : kBM K "list" s tl σ Q (.ref p) H := ⟨.inl ⟨rfl, xs, SqL.of hp⟩, h⟩
theorem w_app {p : Addr} {xs : List V} {y : V} (hp : H p = some (.lst xs)) (hl : xs.length < sizeLine) (h : Q .non (upd H p (.lst (xs ++ [y])))) : rAppend (.ref p) [y] H Q := ⟨p, xs, y, rfl, rfl, hp, hl, h⟩
end
section
variable {K : PySem.W.Frag} {σ : L2.St} {H : Hp} {T : Addr} {x y z : V} {Q : L2.St → Hp → Prop}
/-- a tuple into names -/
theorem w_gt2 {i j : Nat} (h : SqT K H T [x, y]) (q : Q ((σ.set i (some x)).set j (some y)) H) : gTup K 2 (gCons (gName i) (gCons (gName j) gNil)) (.ref T) σ H Q := ⟨T, _, rfl, h, rfl, _, _, rfl, _, _, rfl, rfl, q⟩
theorem w_gt3 {i j k : Nat} (h : SqT K H T [x, y, z]) (q : Q (((σ.set i (some x)).set j (some y)).set k (some z)) H) : gTup K 3 (gCons (gName i) (gCons (gName j) (gCons (gName k) gNil))) (.ref T) σ H Q := ⟨T, _, rfl, h, rfl, _, _, rfl, _, _, rfl, _, _, rfl, rfl, q⟩
theorem w_gl2 {i j : Nat} (h : SqL K H T [x, y]) (q : Q ((σ.set i (some x)).set j (some y)) H) : gUnl K 2 (gCons (gName i) (gCons (gName j) gNil)) (.ref T) σ H Q := ⟨T, _, rfl, h, rfl, _, _, rfl, _, _, rfl, rfl, q⟩
theorem w_gl3 {i j k : Nat} (h : SqL K H T [x, y, z]) (q : Q (((σ.set i (some x)).set j (some y)).set k (some z)) H) : gUnl K 3 (gCons (gName i) (gCons (gName j) (gCons (gName k) gNil))) (.ref T) σ H Q := ⟨T, _, rfl, h, rfl, _, _, rfl, _, _, rfl, _, _, rfl, rfl, q⟩
end
end Rd
/-! EnumT: enumerate(v) for a tuple v. -/
namespace Rd
open PySem PySem.Spec PyProof.Rows L2
/-- enumerate.__new__ of anything that begins, no start given -/
theorem enum_made {v : Value} {o : Obj} {G : Heap → Prop} (B : Begins v o G) :
    Meets (Builtin.«enumerate.__new__» ⟨[.type "enumerate", v], []⟩) (fun _ R s => G s.heap ∧ R (.ok (.ret (.ref (s.heap.push o).objs.size)))
      { s with heap := (s.heap.push o).push { cls := .type "enumerate", data := .fields #[.none, .bool false, .ref s.heap.objs.size, rawInt 0, .none, .none] } }) :=
  .of_wp fun P w A R ⟨h, g, d, n, os⟩ ⟨hG, q⟩ => by
    have sub := sub_enumerate
    have step : ∀ {A' : Around} {E : Value → Shared → Prop} {Q : Value → Shared → Prop}, Q (.ref h.objs.size) ⟨h.push o, g, d, n, os⟩ → wpAny (model P w) A' (pyIter v) Q E ⟨h, g, d, n, os⟩ := fun z => B.iter P w _ _ ⟨h, g, d, n, os⟩ _ hG z
    wp_walk using step
    refine wpAny_stack_any fun st => wpAny_pure ?_
    split <;> first
      | (wp_walk using step; exact ⟨_, rfl, q⟩)
      | (rename_i c _ _ _ _ _; cases (c == Value.type "enumerate") <;> (wp_walk using step; exact ⟨_, rfl, q⟩))
/-- the call: two new cells, all else stands -/
theorem call_enum {P : Program} {w : World} {A : Around} {E : Value → Shared → Prop} {s : Shared} {v : Value} {o : Obj} {G : Heap → Prop} {Q : Value → Shared → Prop} (B : Begins v o G) (hG : G s.heap)
    (q : ∀ h', IsEnum h' (s.heap.objs.size + 1) s.heap.objs.size 0 .none → h'.get? s.heap.objs.size = some o → (∀ b u, s.heap.get? b = some u → h'.get? b = some u) → Q (.ref (s.heap.objs.size + 1)) { s with heap := h' }) :
    wpAny (model P w) A (call (.type "enumerate") [v]) Q E s := by
  have sz : (s.heap.push o).objs.size = s.heap.objs.size + 1 := Heap.size_push ..
  refine callType_new F.called_enumerate (by decide) (F.typeCall_enumerate_1 _) (F.newCall_enumerate_1 _) (fun ob => F.args_object_init_2 ob _) F.entry_enumerate_new (enum_made B) ⟨hG, ?_⟩
  have new := Heap.get?_push_size (s.heap.push o) (o := { cls := .type "enumerate", data := .fields #[.none, .bool false, .ref s.heap.objs.size, rawInt 0, .none, .none] }) rfl
  show _ ∧ _
  rw [sz] at new ⊢
  exact ⟨⟨_, new, rfl⟩, q _ new (Heap.get?_push_of_some _ (Heap.get?_push_size _ B.free)) fun b u hb => Heap.get?_push_of_some _ (Heap.get?_push_of_some _ hb)⟩
/-- the tuple at a, each item with its place in a new pair -/
def IteT (K : PySem.W.Frag) (a : Addr) : It :=
  ⟨fun i H => ∃ (xs : List V) (x : V), SqT K H a xs ∧ xs[i]? = some x, fun i H v H' => ∃ T x, v = .ref T ∧ H T = none ∧ H' = upd H T (.tup [.int (i : Nat), x]) ∧ ∀ xs, SqT K H a xs → xs[i]? = some x, fun i H => ∃ xs : List V, SqT K H a xs ∧ xs.length = i⟩
/-- the cells at turn i -/
def EnumAt (a e it : Addr) (i : Nat) (h : Heap) : Prop := (∃ old, IsEnum h e it ((i : Nat) : Int) old) ∧ h.IsTupleIter it a i
section
variable {a e it : Addr} {i : Nat} {h : Heap}
theorem EnumAt.ne (st : EnumAt a e it i h) : e ≠ it := fun z => by
  obtain ⟨⟨_, q⟩, o, ho, hc, _⟩ := st
  rw [← z, q] at ho
  cases ho
  exact absurd (show Value.type "enumerate" = Value.type "tuple_iterator" from hc) (by decide)
theorem EnumAt.off {t : Array Value} (st : EnumAt a e it i h) (ht : h.IsTuple a t) : a ≠ it ∧ e ∉ [it, a] := by
  obtain ⟨⟨_, q⟩, o, ho, hc, _⟩ := id st
  obtain ⟨u, hu, uc, _⟩ := ht
  refine ⟨fun z => ?_, fun m => ?_⟩
  · rw [z, ho] at hu; cases hu; rw [uc] at hc; exact absurd hc (by decide)
  · rcases List.mem_cons.mp m with z | z
    · exact st.ne z
    · have z' := List.mem_singleton.mp z
      rw [← z', q] at hu; cases hu; exact absurd (show Value.type "enumerate" = Value.type "tuple" from uc) (by decide)
theorem EnumAt.keep {h' : Heap} (st : EnumAt a e it i h) (k : ∀ b ∈ [e, it], ∀ o, h.get? b = some o → h'.get? b = some o) : EnumAt a e it i h' :=
  let ⟨⟨old, q⟩, r⟩ := st; ⟨⟨old, k e (by simp) _ q⟩, r.at fun o z => k it (by simp) o z⟩
end
theorem turn_enumT {P : Program} {w : World} {K : PySem.W.Frag} {elts : List Expr} {kk : Nat} {tpos : Pos} (a e it : Addr) : Turn P w K (.Tuple elts kk tpos) (IteT K a) [e, it] e (EnumAt a e it) where
  mem := by simp
  obj := fun i h st b hb => by
    obtain ⟨⟨old, q⟩, o, ho, _, hd⟩ := st
    rcases List.mem_cons.mp hb with rfl | hb
    · exact ⟨_, q, fun v z => nomatch z⟩
    · rw [List.mem_singleton.mp hb]; exact ⟨o, ho, fun v z => by rw [hd] at z; cases z⟩
  keep := fun i h h' st k => st.keep k
  item := fun X hP hw hK hc i pins s σ H E I fp st go => by
    subst hP hw hK
    obtain ⟨xs, x, hx, xi⟩ := go
    obtain ⟨its, rv, tp, _⟩ := I.tuple hx
    obtain ⟨off, off2⟩ := st.off tp
    have ne := st.ne
    obtain ⟨u, hu, ru⟩ := rv.get xi
    have lt : i < its.toArray.size := by
      have z := (List.getElem?_eq_some_iff.mp hu).1
      simpa using z
    obtain ⟨⟨old, q⟩, ti⟩ := id st
    have le : e < s.heap.objs.size := Heap.lt_size q
    have li : it < s.heap.objs.size := by obtain ⟨_, z, _⟩ := ti; exact Heap.lt_size z
    refine wpAny_pyNext_enum_itemD (Draws.tuple (A := X.A.in1) (I.ok.hd hc) it a off its.toArray) q ⟨ti, tp⟩ lt ne off2 fun y h1 tk hy out ti1 new sz k1 => ?_
    have yu : y = u := by
      have z : its.toArray[i]? = some u := by simpa using hu
      rw [z] at hy; exact (Option.some.inj hy).symm
    subst yu
    refine ⟨_, rfl, wpAny_letOwnedTupleGo_enum (s := { s with heap := h1, toks := tk + 1 }) out fun h2 q2 sb => ?_⟩
    have new2 : h2.get? s.heap.objs.size = some { cls := .type "tuple", data := .seq #[.int i tk, y] } := (sb.2 _ (Nat.ne_of_gt le)).trans new
    have J := I.turnedNew (t' := tk + 1) (ch := [e, it]) (T := s.heap.objs.size) (ob := .tup [.int (i : Nat), x]) (h' := h2)
      (fun b o hb z => (sb.2 b fun w => hb (by simp [w])).trans (k1 b o (fun w => hb (by simp [w])) (fun w => hb (by simp [w])) z)) fp (Nat.le_refl _)
      ⟨show 2 ≤ sizeLine by decide, [.int i tk, y], .cons ⟨_, rfl⟩ (.cons ru .nil), ⟨_, new2, rfl, _, rfl⟩⟩
    refine ⟨.ref s.heap.objs.size, _, J, rfl, ⟨_, x, rfl, I.hok.fresh (Nat.le_refl _), rfl, fun ys hy => I.tuple_inj hx hy ▸ xi⟩, ⟨⟨y, ?_⟩, ti1.1.at fun o z => (sb.2 it (Ne.symm ne)).trans z⟩, fun b hb => ?_⟩
    · rw [show ((i + 1 : Nat) : Int) = (i : Int) + 1 by omega]; exact q2
    · have lb : b < s.heap.objs.size := by
        rcases List.mem_cons.mp hb with z | z
        · rw [z]; exact le
        · rw [List.mem_singleton.mp z]; exact li
      rw [upd_ne (Nat.ne_of_lt lb)]; exact (fp b hb).1
  done := fun X hP hw hK hc i pins s σ H E I fp st go => by
    subst hP hw hK
    obtain ⟨xs, hx, xi⟩ := go
    obtain ⟨its, rv, tp, _⟩ := I.tuple hx
    obtain ⟨off, off2⟩ := st.off tp
    obtain ⟨⟨old, q⟩, ti⟩ := id st
    have ln : its.toArray.size = i := by
      have z := rv.length
      simp; omega
    obtain ⟨f0, f1, f2, f3, f4, f5⟩ := fp it (by simp)
    exact wpAny_pyNext_enum_endD (Draws.tuple (A := X.A.in1) (I.ok.hd hc) it a off its.toArray) q ⟨ln ▸ ti, tp⟩ fun h' eb => ⟨rfl, I.turned (t' := s.toks) (fun b o hb z => eb b o hb z) f0 f1 f3 f4 f5⟩
  self := fun A i s Q E st h => let ⟨⟨_, q⟩, _⟩ := st; wpAny_pyIter_enum q h
/-- enumerate of a list or of a tuple -/
def iEnumA (K : PySem.W.Frag) (ta : TA) : TI := fun σ H R => ta σ H fun vs H1 => match vs with
  | [.ref a] => (∃ xs, SqL K H1 a xs ∧ R (Ite K a) H1) ∨ (∃ xs, SqT K H1 a xs ∧ R (IteT K a) H1)
  | _ => False
theorem pi_enumA {X : Cx} {e : Expr} {ta : TA} {p pos tpos : Pos} {elts : List Expr} {kk : Nat} (hg : Gl X "enumerate") (hm : X.mg "enumerate" = none) (ha : PA X [e] ta) (hs : starEach [e] X.env = [(false, eval e X.env)] := by rfl) :
    PI X (.Tuple elts kk tpos) (.Call (.Name "enumerate" p) [e] [] pos) (iEnumA X.K ta) where
  run := fun pins s σ H R I h => Call_ (ld_blt I hg hm boot_enumerate (callWith_type1 (thn (ha.run pos pins s σ H _ I h) fun us s1 w => by
    obtain ⟨vs, H1, I1, rv, w⟩ := w
    split at w
    · rename_i a
      obtain ⟨v1, rfl, r1⟩ := vals1 rv
      cases r1
      rcases w with ⟨xs, hx, w⟩ | ⟨xs, hx, w⟩
      · obtain ⟨its, _, l, _⟩ := I1.list hx
        refine call_enumerate_list l.isList fun h' he hit hsz hk => wpAny_pyIter_enum he ⟨_, [s1.heap.objs.size + 1, s1.heap.objs.size], _, _, H1, rfl, I1.kept (t' := s1.toks) hk, turn_enum a _ _, ⟨⟨_, he⟩, hit, Nat.succ_ne_self _⟩, fun b hb => ?_, w⟩
        have le : s1.heap.objs.size ≤ b := by
          rcases List.mem_cons.mp hb with z | z
          · rw [z]; exact Nat.le_succ _
          · rw [List.mem_singleton.mp z]; exact Nat.le_refl _
        exact I1.fpOk le (I1.hok.fresh le)
      · obtain ⟨its, _, tp, _⟩ := I1.tuple hx
        refine call_enum (begins_tuple a its.toArray) tp fun h' he hit hk => wpAny_pyIter_enum he ⟨_, [s1.heap.objs.size + 1, s1.heap.objs.size], _, _, H1, rfl, I1.kept (t' := s1.toks) hk, turn_enumT a _ _, ⟨⟨_, he⟩, ⟨_, hit, rfl, rfl⟩⟩, fun b hb => ?_, w⟩
        have le : s1.heap.objs.size ≤ b := by
          rcases List.mem_cons.mp hb with z | z
          · rw [z]; exact Nat.le_succ _
          · rw [List.mem_singleton.mp z]; exact Nat.le_refl _
        exact I1.fpOk le (I1.hok.fresh le)
    · exact w.elim) hs rfl))
theorem walk_enumT {K : PySem.W.Frag} {a : Addr} {xs : List V} : Walk (IteT K a) xs.length (fun H => SqT K H a xs) (YPair (fun i => some (.int (i : Nat))) (fun i => xs[i]?)) where
  goes := fun i _ hi h => ⟨xs, xs[i], h, List.getElem?_eq_getElem hi⟩
  stops := fun _ h => ⟨xs, h, rfl⟩
  yields := fun i H v H' _ h ⟨T, x, h1, h2, h3, h4⟩ => ⟨T, .int (i : Nat), x, h1, h2, h3, rfl, h4 xs h⟩
section
variable {K : PySem.W.Frag} {g : TG} {tb : TS} {D : Ends} {σ : L2.St} {H : Hp} {tl : TA} {tt : TT} {ty : TE} {vs : List Nat} {Q : VK}
def kFEA (K : PySem.W.Frag) (g : TG) (tb : TS) (D : Ends) (σ : L2.St) : List V → Hp → Prop := fun vs H => tFor (iEnumA K (tAc vs)) g tb D σ H
def kCEA (K : PySem.W.Frag) (g : TG) (tt : TT) (ty : TE) (vs : List Nat) (σ : L2.St) (Q : VK) : List V → Hp → Prop := fun xs H => tLc (iEnumA K (tAc xs)) g tt ty vs σ H Q
theorem w_forEA (h : tl σ H (kFEA K g tb D σ)) : tFor (iEnumA K tl) g tb D σ H := h
theorem w_lcEA (h : tl σ H (kCEA K g tt ty vs σ Q)) : tLc (iEnumA K tl) g tt ty vs σ H Q := h
end
end Rd
/-! LenG: len(o) by an own __len__; == of lists by their items. -/
namespace Rd
open PySem PySem.Spec PyProof.Rows PySem.W L2
def rLenG (C : Addr) (sp : Sp) : List V → Hp → VK → Prop := fun xs H Q => match xs with
  | [.ref a] => ∃ dx fs, H a = some (.ins C dx fs) ∧ sp [.ref a] H (fun v H2 => ∃ n : Int, v = .int n ∧ (0 ≤ n ∧ n < 2 ^ 63) ∧ Q (.int n) H2) E0
  | _ => False
section
variable {X : Cx} {k : Nat} {C : Addr} {ps : List Str} {sp : Sp}
theorem cLenG (G : MtG X.prog X.w X.K X.mg X.base CX0 k C "__len__" ps sp) (hr : Room (k + 1) X.A) : CallR X (.builtin "len") (rLenG C sp) := by
  intro pins s σ H xs us Q I r h
  unfold rLenG at h
  split at h
  · rename_i a
    obtain ⟨dx, fs, e, h⟩ := h
    obtain ⟨v1, rfl, r1⟩ := vals1 r
    cases r1
    obtain ⟨f, fd, m, F, b⟩ := G.ex
    obtain ⟨od, i⟩ := inst_of I e
    obtain ⟨_, fr⟩ := I.fr
    have ln := F.len _ _ _ _ h
    have bd := b s [.ref a] I.kIn (by rw [List.append_nil]; exact ln)
    rw [List.append_nil] at bd
    refine len_K fr I.mod.kin i m.at_ m.fn (wpAny_call (codeAny_mono (F.run X.A.in1 X.stack s H ⟨[.ref a], []⟩ [.ref a] [.ref a] _ E0 hr.in1 I.env0.in1 bd (.cons rfl .nil) h) fun r s' c => ?_))
    have z := came_of I (fun pins H s e s' J w => pass0 pins σ H s e s' J w) c
    cases r with
    | error e => exact z
    | ok fl => cases fl with
      | ret u =>
        obtain ⟨v, H2, I2, ru, n, rfl, hn, q⟩ := z
        obtain ⟨t, rfl⟩ := ru
        exact ⟨hn, .int n, H2, I2.tok _, ⟨_, rfl⟩, q⟩
      | _ => exact (show False from z).elim
  · exact h.elim
end
section
variable {K : PySem.W.Frag} {H : Hp} {Q : VK} {C a dx : Addr} {fs : List (Str × V)} {sp : Sp}
theorem w_lenG (e : H a = some (.ins C dx fs)) (h : sp [.ref a] H (fun v H2 => ∃ n : Int, v = .int n ∧ (0 ≤ n ∧ n < 2 ^ 63) ∧ Q (.int n) H2) E0) : rLenG C sp [.ref a] H Q := ⟨dx, fs, e, h⟩
end
/-! ### == by the items -/
theorem dp_ints {K : PySem.W.Frag} {H : Hp} : ∀ ns : List Int, DpAll K H (ns.map V.int) (ns.map PyData.int)
  | [] => .nil
  | i :: r => .cons (.int i) (dp_ints r)
theorem lay_ints : ∀ ns : List Int, PyData.canLayAll0 (ns.map PyData.int) = true
  | [] => by simp [PyData.canLayAll0]
  | i :: r => by simp only [List.map_cons, PyData.canLayAll0, PyData.canLay0, lay_ints r, Bool.and_self]
theorem depth_ints : ∀ ns : List Int, PyData.depthAll (ns.map PyData.int) = 0
  | [] => by simp [PyData.depthAll]
  | i :: r => by simp only [List.map_cons, PyData.depthAll, PyData.depth, depth_ints r, Nat.max_self]
theorem shaped_ints (ns : List Int) : SeqAt.shaped (.list (ns.map PyData.int)) = true := by
  unfold SeqAt.shaped
  simp [PyData.canLay0, PyData.depth, lay_ints, depth_ints]
theorem shaped_intsT (ns : List Int) : SeqAt.shaped (.tuple (ns.map PyData.int)) = true := by
  unfold SeqAt.shaped
  simp [PyData.canLay0, PyData.depth, lay_ints, depth_ints]
theorem eqv_ints : ∀ ns ms : List Int, PyData.eqvAll (ns.map PyData.int) (ms.map PyData.int) = decide (ns = ms)
  | [], [] => by simp [PyData.eqvAll]
  | [], _ :: _ => by simp [PyData.eqvAll]
  | _ :: _, [] => by simp [PyData.eqvAll]
  | i :: r, j :: t => by
    simp only [List.map_cons, PyData.eqvAll, PyData.eqv, eqv_ints r t]
    rw [Bool.eq_iff_iff]
    simp
/-- plain values, or lists of ints -/
def uEq (K : PySem.W.Frag) : R2 := fun x y H Q => rEq x y H Q ∨ rEqD K x y H Q
def uNe (K : PySem.W.Frag) : R2 := fun x y H Q => rNe x y H Q ∨ rNeD K x y H Q
theorem oEq {X : Cx} {k : Nat} (hr : Room k X.A) : OpR X (compareOp .Eq) (uEq X.K) := OpR.or op_eq (op_eqD hr.units)
theorem oNe {X : Cx} {k : Nat} (hr : Room k X.A) : OpR X (compareOp .NotEq) (uNe X.K) := OpR.or op_ne (op_neD hr.units)
section
variable {K : PySem.W.Frag} {H : Hp} {Q : VK} {a b : Addr} {ns ms : List Int}
theorem w_eqL (ha : H a = some (.lst (ns.map V.int))) (hb : H b = some (.lst (ms.map V.int))) (h : Q (.bl (decide (ns = ms))) H) : uEq K (.ref a) (.ref b) H Q :=
  .inr ⟨_, _, .lst (SqL.of ha) (dp_ints ns), .lst (SqL.of hb) (dp_ints ms), shaped_ints ns, shaped_ints ms, by show Q (.bl (PyData.eqv (.list _) (.list _))) H; rw [PyData.eqv, eqv_ints]; exact h⟩
theorem w_neL (ha : H a = some (.lst (ns.map V.int))) (hb : H b = some (.lst (ms.map V.int))) (h : Q (.bl (!decide (ns = ms))) H) : uNe K (.ref a) (.ref b) H Q :=
  .inr ⟨_, _, .lst (SqL.of ha) (dp_ints ns), .lst (SqL.of hb) (dp_ints ms), shaped_ints ns, shaped_ints ms, by show Q (.bl (!PyData.eqv (.list _) (.list _))) H; rw [PyData.eqv, eqv_ints]; exact h⟩
end
theorem atI_last {ns : List Int} (h : ns ≠ []) : atI (ns.map V.int) (-1) = some (.int (ns.getLastD 0)) := by
  have hp : 0 < ns.length := List.length_pos_iff.mpr h
  unfold atI ixN
  rw [if_neg (by decide), List.length_map, if_pos (by omega)]
  show (ns.map V.int)[_]? = _
  rw [List.getElem?_map, show ((-1 : Int) + ns.length).toNat = ns.length - 1 by omega, List.getElem?_eq_getElem (by omega), List.getLastD_eq_getLast?, List.getLast?_eq_getElem?, List.getElem?_eq_getElem (by omega)]
  rfl
theorem w_ixLast {K : PySem.W.Frag} {H : Hp} {Q : VK} {p : Addr} {ns : List Int} (hp : H p = some (.lst (ns.map V.int))) (hn : ns ≠ []) (h : Q (.int (ns.getLastD 0)) H) : rIx K (.ref p) (.int (-1)) H Q := w_ixL (SqL.of hp) (atI_last hn) h
theorem getLastD_mem : ∀ {ns : List Int}, ns ≠ [] → ns.getLastD 0 ∈ ns
  | [], h => absurd rfl h
  | a :: r, h => by
    rw [List.getLastD_cons, ← List.getLast_eq_getLastD (h := h)]
    exact List.getLast_mem h
/-- a method that may raise -/
theorem pe_mgE {X : Cx} {k : Nat} {C : Addr} {ps : List Str} {sp : Sp} {CX : CXT} {E : XK} {o e : Expr} {es : List Expr} {m : Str} {t : TA} {ta : TE} {pos apos : Pos} {pl : Sem Bool} (G : MtG X.prog X.w X.K X.mg X.base CX k C m ps sp) (hr : Room k X.A) (hx : Passes CX X E) (ho : PE X o ta) (ha : PA X (e :: es) t) (h1 : starEach (e :: es) X.env = (false, eval e X.env) :: starEach es X.env := by rfl) (h2 : (backTo pos (starEach es X.env)).any (·.1) = false := by rfl)
    (h3 : eval (.Call (.Attribute o m apos) (e :: es) [] pos) X.env = (eval o X.env >>= fun ov => standAt apos.atName >>= fun _ => holding [ov] (getMethod ov m pl) >>= fun fx => callWith pos fx.1 fx.2 (backTo pos (starEach (e :: es) X.env)) (backToKw pos (keywordEach [] X.env))) := by rfl) : PE X (.Call (.Attribute o m apos) (e :: es) [] pos) (tMeth C m sp [] E ta t) := by
  obtain ⟨f, fd, mt, F, b⟩ := G.ex
  exact pe_meth ho G.cls mt F hr b .nil hx ha h1 h2 h3
end Rd
/-! MaxD: max(ints, default=d). -/
namespace Rd
open PySem PySem.Spec PyProof.Rows PySem.W L2
def maxDef (d : Int) : List Int → Int
  | [] => d
  | n :: r => r.foldl max n
def rMaxDef (K : PySem.W.Frag) : List V → List V → Hp → VK → Prop := fun xs zs H Q => match xs, zs with
  | [.ref p], [.int d] => ∃ ns : List Int, SqL K H p (ns.map V.int) ∧ Q (.int (maxDef d ns)) H
  | _, _ => False
theorem alike_all (ns : List Int) : AlikeAll (ns.map PyData.int) := by
  refine ⟨fun x hx y hy => ?_, fun x hx => ?_⟩
  · obtain ⟨i, _, rfl⟩ := List.mem_map.mp hx
    obtain ⟨j, _, rfl⟩ := List.mem_map.mp hy
    rfl
  · obtain ⟨i, _, rfl⟩ := List.mem_map.mp hx
    exact fun z => nomatch z
theorem cMaxD {X : Cx} {k : Nat} (hc : X.calm = true) (hr : Room k X.A) : CallRK X (.builtin "max") ["default"] (rMaxDef X.K) := by
  intro pins s σ H xs zs us ws Q I r1 r2 h
  unfold rMaxDef at h
  split at h
  · rename_i p d
    obtain ⟨ns, hs, q⟩ := h
    obtain ⟨u, rfl, ru⟩ := vals1 r1
    obtain ⟨w, rfl, rw'⟩ := vals1 r2
    cases ru
    obtain ⟨its, rv, hl, _⟩ := I.list hs
    obtain ⟨as, ra⟩ := Dp.readsAll I _ _ _ (dp_ints ns) rv
    have un := hr.units
    refine max_list_default (xs := ns.map PyData.int) (I.ok.hd hc) hl.isList (by simpa using ra) (alike_all ns) (by rw [depth_ints]; omega) (fun e h' tk hk => ?_) (fun y ys i v h' tk bs e hv rd hk => ?_)
    · have e2 : ns = [] := List.map_eq_nil_iff.mp e
      subst e2
      exact ⟨.int d, H, I.kept hk, rw', q⟩
    · cases ns with
      | nil => cases e
      | cons n r =>
        cases e
        rw [maxD_ints] at rd
        cases rd
        exact ⟨.int _, H, I.kept hk, ⟨_, rfl⟩, q⟩
  · exact h.elim
def kKw1 (r : List V → List V → Hp → VK → Prop) (tk : TA) (σ : L2.St) (Q : VK) : List V → Hp → Prop := fun vs H => tCKw r (tAc vs) tk σ H Q
def kKw2 (r : List V → List V → Hp → VK → Prop) (vs : List V) (Q : VK) : List V → Hp → Prop := fun zs H => r vs zs H Q
section
variable {r : List V → List V → Hp → VK → Prop} {t tk : TA} {σ : L2.St} {H : Hp} {Q : VK} {vs zs : List V} {K : PySem.W.Frag} {p : Addr} {d : Int} {ns : List Int}
theorem w_ckw (h : t σ H (kKw1 r tk σ Q)) : tCKw r t tk σ H Q := h
theorem w_kkw1 (h : tk σ H (kKw2 r vs Q)) : kKw1 r tk σ Q vs H := h
theorem w_kkw2 (h : r vs zs H Q) : kKw2 r vs Q zs H := h
theorem w_maxD (hp : H p = some (.lst (ns.map V.int))) (h : Q (.int (maxDef d ns)) H) : rMaxDef K [.ref p] [.int d] H Q := ⟨ns, SqL.of hp, h⟩
end
theorem w_sum {K : PySem.W.Frag} {H : Hp} {Q : VK} {p : Addr} {ns : List Int} (hp : H p = some (.lst (ns.map V.int))) (h : Q (.int ns.sum) H) : rSum K [.ref p] H Q := ⟨p, ns, rfl, SqL.of hp, h⟩
theorem ref_at {rs : List Addr} {j : Nat} {x : V} (h : (rs.map V.ref)[j]? = some x) : ∃ r, rs[j]? = some r ∧ x = .ref r := by
  rw [List.getElem?_map] at h
  cases e : rs[j]? with
  | none => rw [e] at h; cases h
  | some r => rw [e] at h; exact ⟨r, rfl, (Option.some.inj h).symm⟩
theorem int_is {ns : List Int} {i : Nat} {x : V} (hi : i < ns.length) (h : (ns.map V.int)[i]? = some x) : x = .int (ns.getD i 0) := by
  rw [List.getElem?_map, List.getElem?_eq_getElem hi] at h
  rw [List.getD_eq_getElem?_getD, List.getElem?_eq_getElem hi]
  exact (Option.some.inj h).symm
theorem in_ints {x : Int} {ns : List Int} : inV (.int x) (ns.map V.int) = decide (x ∈ ns) := by
  rw [Bool.eq_iff_iff]
  have e : ∀ a : Int, eqV (.int a) (.int x) = (a == x) := fun a => rfl
  simp [inV, e]
theorem flat_ints (ns : List Int) : (ns.map V.int).all flatV = true := by
  simp [flatV]
theorem w_inI {K : PySem.W.Frag} {H : Hp} {Q : VK} {p : Addr} {x : Int} {ns : List Int} (hp : H p = some (.lst (ns.map V.int))) (h : Q (.bl (decide (x ∈ ns))) H) : rIn K false (.int x) (.ref p) H Q :=
  ⟨p, _, rfl, .inl (SqL.of hp), rfl, flat_ints ns, by rw [if_neg (by decide), in_ints]; exact h⟩
end Rd
/-! InK: the rules whose reading names the written part, with that part given: for the inside of a comprehension. -/
namespace Rd
open PySem PySem.Spec PyProof.Rows L2
section
variable {X : Cx} {K : PySem.W.Frag}
theorem CallR.toK {f : Value} {r : PySem.W.Frag → List V → Hp → VK → Prop} (h : CallR X f (r X.K)) (e : X.K = K) : CallR X f (r K) := e ▸ h
theorem OpR.toK {o : Value → Value → Sem Value} {r : PySem.W.Frag → R2} (h : OpR X o (r X.K)) (e : X.K = K) : OpR X o (r K) := e ▸ h
theorem ix_seqK (K : PySem.W.Frag) (e : X.K = K) : IxR X (rIx K) := e ▸ ix_seq
theorem sl_listK (K : PySem.W.Frag) (e : X.K = K) : SlR X (rSlL K) := e ▸ sl_list
theorem pe_fldK {o : Expr} {ta : TE} {f : Str} {pos : Pos} (K : PySem.W.Frag) (e : X.K = K) (he : PE X o ta) (hb : attributeBase o f X.env (eval o X.env) = eval o X.env) : PE X (.Attribute o f pos) (tFld K ta f) := e ▸ pe_fld he hb
theorem pg_tupK {es : List Expr} {k : Nat} {t : TGs} {n : Nat} {pos : Pos} (K : PySem.W.Frag) (e : X.K = K) (hc : X.calm = true) (h : PGs X es t) (hn : (assignEach es X.env).length = n := by rfl) (hst : (assignEach es X.env).findIdx? (·.1) = none := by rfl) : PG X (.Tuple es k pos) (gTup K n t) := e ▸ pg_tup hc h hn hst
end
end Rd
/-! CatchM: try with several clauses `except C as e`; calls of defs and methods inside a try. -/
namespace Rd
open PySem PySem.Spec PyProof.Rows L2
/-- a clause: what it takes, the slot of its name, its suite -/
structure Clause where
  c : Value
  i : Nat
  ts : TS
def wCatches (K : PySem.W.Frag) : List Clause → Ends → WX
  | [], _ => fun _ _ _ _ => False
  | u :: r, D => fun cls d σ H => wCatch K u.c u.i u.ts D cls d σ H ∨ (PySem.W.exmOne K cls u.c = some false ∧ wCatches K r D cls d σ H)
inductive PHs (X : Cx) : List ExceptHandler → List Clause → Prop
  | nil : PHs X [] []
  | cons {x n : Str} {c : Value} {i : Nat} {suite : List Stmt} {b0 : Stmt} {np pos : Pos} {ts : TS} {hs : List ExceptHandler} {cs : List Clause} (hi : X.N[i]? = some n) (hln : X.env.kindOf n = some .local) (hc : Names X x c) (hsu : ∀ (a : Addr) (pn : List (Addr × Obj)), PSs (X.suite a pn) (b0 :: suite) ts) (hr : PHs X hs cs) : PHs X (.ExceptHandler (some (.Name x np)) (some n) (b0 :: suite) pos :: hs) (⟨c, i, ts⟩ :: cs)
section
variable {X : Cx}
theorem clauses_take {pins : List (Addr × Obj)} {σ : L2.St} {H : Hp} {D : Ends} {s' : Shared} {h3 B : Heap} {a : Addr} {cls : Value} {d : Option Addr} (ok : X.Ok) (hN : X.N.Nodup) (fl : HandSPX.FlyingZ B (X.env :: X.outer) a (Zc cls d) h3) (al : Alone X pins a) (na : H a = none)
    (on : ∀ h, HandSPX.FlyingZ B (X.env :: X.outer) a (Zc cls d) h → h3.UpToSlots h → L2.Inv X pins σ H { s' with heap := h }) {hs : List ExceptHandler} {cs : List Clause} (p : PHs X hs cs) (q : wCatches X.K cs D cls d σ H) :
    wpAny (model X.prog X.w) X.A (handleBy (.ref a) X.env hs) (SP X pins D) X.xe { s' with heap := h3 } := by
  induction p with
  | nil => exact q.elim
  | cons hi hln hc hsu _ ih =>
    rcases q with ⟨hm, q⟩ | ⟨hm, q⟩
    · exact clause_takes ok hN hi hln hc hm hsu fl al na on (q a na)
    · have J := on h3 fl (Heap.UpToSlots.refl _)
      obtain ⟨o, fs, e, z, _⟩ := fl.there
      have look : PySem.W.Looks (model X.prog X.w) h3 (typeOf (.ref a)) cls := fun _ _ _ _ k w => wpAny_typeOf_ref (k _ _ e) (z.1 ▸ w)
      have S := Inv.intoSuite (a := a) J
      refine wpAny_handleBy_cons (codeAny_handlers_test ?_) (fun w => by cases w)
      obtain ⟨g1, g2, g3⟩ := hc
      rcases g3 with g3 | ⟨g3, g4, g5⟩
      · exact ld_glob S g1 g3 ((PySem.W.exm_one J.kIn look hm).here (ih q)) g2
      · exact ld_blt S g1 g3 g4 ((PySem.W.exm_one J.kIn look hm).here (ih q)) g5 g2
theorem ps_catches {body : List Stmt} {hds : List ExceptHandler} {cs : List Clause} {pos : Pos} {tb : WX → TS} (hs : X.stack = X.env :: X.outer) (hf : X.env.frame = some X.env.locals) (hex : X.ex = []) (hN : X.N.Nodup)
    (hb : ∀ (W : WX) (pn : List (Addr × Obj)) (xe : Value → Shared → Prop), Takes (X.tr pn xe) W → PassesOwn (model X.prog X.w) X.A X.env xe → PSs (X.tr pn xe) body (tb W)) (hh : PHs X hds cs) (hne : hds ≠ [] := by exact List.cons_ne_nil _ _) :
    PS X (.Try body hds [] [] pos) (fun D σ H => tb (wCatches X.K cs D) D σ H) where
  run := fun pins s σ H D I h => by
    have ok := I.ok
    have fr : X.A.frames = some (X.env :: X.outer) := ok.frames.trans (congrArg some hs)
    obtain ⟨h0, hr, rfl⟩ := List.exists_cons_of_ne_nil hne
    refine wpAny_Try_except (wpAny_mono ((hb (wCatches X.K cs D) (X.pn ++ pins) _ (fun u s' xx => ?_) PassesOwn.looking).run [] s σ H D (I.toTry _) h) (fun f s1 w => ?_) fun _ _ w => w)
    · obtain ⟨a, B, sI, p1, σ1, H1, cls, d, rfl, J1, nb, up, sky, na, os, ag, q⟩ := xx
      have J : L2.Inv X pins σ1 H1 sI := J1.ofTry ok
      refine Sky.land Zc.steady fr hf (hs ▸ sky) fun h3 fl up3 => ?_
      obtain ⟨o, fs, e, _, qd⟩ := fl.there
      exact clauses_take ok hN fl (alone_of hs hf hex J nb fl.2.1 fl.2.2.1 e qd) na (fun h4 fl4 up4 => J.landed nb fl4.1 ((up.trans up3).trans up4) os ag) hh q
    · have w' : SP X pins D f s1 := sp_map (fun σ H J => J.ofTry ok) w
      cases f with
      | next => exact wpAny_execs_nil w'
      | ret u => exact w'
      | brk => exact w'
      | cont => exact w'
end
/-! ### calls inside a try -/
def tMethS (C : Addr) (m : Str) (sp : Sp) (E : L2.St → XK) (ta : TE) (t : TA) : TE := fun σ H Q => tMeth C m sp [] (E σ) ta t σ H Q
section
variable {X : Cx} {CX : CXT} {k : Nat} {C : Addr} {x m : Str} {ps : List Str} {sp : Sp} {E : L2.St → XK} {o e : Expr} {es : List Expr} {ta : TE} {t : TA} {p pos apos : Pos} {pl : Sem Bool}
theorem pe_cgS (F : FnG X.prog X.w X.K X.mg X.base CX k x ps sp) (hr : Room k X.A) (hg : Gl X x) (hx : ∀ σ, PassesAt CX X σ (E σ)) (ha : PA X (e :: es) t) (h1 : (x == ("__debug__" : Str)) = false := by decide) (h2 : starEach (e :: es) X.env = (false, eval e X.env) :: starEach es X.env := by rfl) (h3 : (backTo pos (starEach es X.env)).any (·.1) = false := by rfl) : PE X (.Call (.Name x p) (e :: es) [] pos) (tCallS sp E t) := by
  obtain ⟨f, fd, a, b, c, d⟩ := F.ex
  exact pe_callS c hr hg a b d hx ha h1 h2 h3
theorem pe_mgS (G : MtG X.prog X.w X.K X.mg X.base CX k C m ps sp) (hr : Room k X.A) (hx : ∀ σ, PassesAt CX X σ (E σ)) (ho : PE X o ta) (ha : PA X (e :: es) t) (h1 : starEach (e :: es) X.env = (false, eval e X.env) :: starEach es X.env := by rfl) (h2 : (backTo pos (starEach es X.env)).any (·.1) = false := by rfl)
    (h3 : eval (.Call (.Attribute o m apos) (e :: es) [] pos) X.env = (eval o X.env >>= fun ov => standAt apos.atName >>= fun _ => holding [ov] (getMethod ov m pl) >>= fun fx => callWith pos fx.1 fx.2 (backTo pos (starEach (e :: es) X.env)) (backToKw pos (keywordEach [] X.env))) := by rfl) : PE X (.Call (.Attribute o m apos) (e :: es) [] pos) (tMethS C m sp E ta t) where
  run := fun pins s σ H Q I h => by
    obtain ⟨f, fd, mt, F, b⟩ := G.ex
    refine PySem.W.methodCall_KW (pl := pl) (wpAny_mono (ho.run pins s σ H _ I h) (fun u s1 z => ?_) fun _ _ w => w) h3
    obtain ⟨y, H1, I1, ry, a, dx, fs, rfl, ea, nl, q⟩ := z
    cases (show u = Value.ref a from ry)
    have room := I.ok.mod.kin
    have arg : wpAny (model X.prog X.w) X.A (spliced (backTo pos (starEach (e :: es) X.env))) (AP X pins σ _) X.xe s1 := ha.run pos pins s1 σ H1 _ I1 q
    refine getmeth_ok I1 ea G.cls mt nl (PySem.W.callWith_K (first := [.ref a]) (h₀ := X.base) room mt.kp (wpAny_mono arg (fun us s2 z => ?_) fun _ _ w => w) h1 h2)
    obtain ⟨vs, H2, I2, rv, q2⟩ := z
    rw [List.append_nil] at q2
    exact ⟨I2.kIn, run_fnS (us := .ref a :: us) (vs := .ref a :: vs) F hr b (hx σ) I2 (.cons ry rv) q2⟩
end
section
variable {C : Addr} {sp : Sp} {E : L2.St → XK} {ta : TE} {tl : TA} {σ : L2.St} {H : Hp} {Q : VK} {q : Str}
theorem w_callS (h : tl σ H (kCall sp [] (E σ) Q)) : tCallS sp E tl σ H Q := by
  have e : kCall sp [] (E σ) Q = fun vs H1 => sp vs H1 Q (E σ) := funext fun vs => funext fun H1 => by
    show sp (vs ++ []) H1 Q (E σ) = _
    rw [List.append_nil]
  rw [e] at h; exact h
theorem w_methS (h : ta σ H (kMeth C q sp [] (E σ) tl σ Q)) : tMethS C q sp E ta tl σ H Q := h
theorem w_c1 {K : PySem.W.Frag} {u : Clause} {r : List Clause} {D : Ends} {cls : Value} {d : Option Addr} (hm : PySem.W.exmOne K cls u.c = some true) (h : ∀ a, H a = none → u.ts (unbound D u.i) (σ.set u.i (some (.ref a))) (upd H a (XcO cls d a))) : wCatches K (u :: r) D cls d σ H := .inl ⟨hm, h⟩
theorem w_c2 {K : PySem.W.Frag} {u : Clause} {r : List Clause} {D : Ends} {cls : Value} {d : Option Addr} (hm : PySem.W.exmOne K cls u.c = some false) (h : wCatches K r D cls d σ H) : wCatches K (u :: r) D cls d σ H := .inr ⟨hm, h⟩
end
end Rd
/-! Auto: steps that hand on the next heap by a name, with what is known of it. -/
namespace Rd
open PySem PySem.Spec PyProof.Rows L2
def spIsInt : Sp := fun vs H Q _ => ∃ i : Int, vs = [.int i] ∧ Q (.bl true) H
section
variable {K : PySem.W.Frag} {H H' : Hp} {Q : VK} {E : XK} {xs ys : List V} {p q a D d : Addr} {i : Int} {fs : Option (List (Str × V))}
theorem use_isint (h : Q (.bl true) H) : spIsInt [.int i] H Q E := ⟨i, rfl, h⟩
theorem n_klst (hl : xs.length ≤ sizeLine) (h : ∀ (l : Addr) (H' : Hp), H l = none → Same H H' → H' l = some (.lst xs) → Q (.ref l) H') : kLst Q xs H := w_klst hl fun p hp => h p _ hp (same_new hp) upd_same
theorem n_ktup (hl : xs.length ≤ sizeLine) (h : ∀ (l : Addr) (H' : Hp), H l = none → Same H H' → H' l = some (.tup xs) → Q (.ref l) H') : kTup Q xs H := w_ktup hl fun p hp => h p _ hp (same_new hp) upd_same
theorem n_addL (h1 : H p = some (.lst xs)) (h2 : H q = some (.lst ys)) (hl : xs.length + ys.length ≤ sizeLine) (h : ∀ (l : Addr) (H' : Hp), H l = none → Same H H' → H' l = some (.lst (xs ++ ys)) → Q (.ref l) H') : uAdd (.ref p) (.ref q) H Q := w_addL h1 h2 hl fun l hn => h l _ hn (same_new hn) upd_same
theorem n_listL (hs : H p = some (.lst ys)) (h : ∀ (l : Addr) (H' : Hp), H l = none → Same H H' → H' l = some (.lst ys) → Q (.ref l) H') : rList K [.ref p] H Q := w_listL (SqL.of hs) fun l hn => h l _ hn (same_new hn) upd_same
theorem n_listT (hs : H p = some (.tup ys)) (h : ∀ (l : Addr) (H' : Hp), H l = none → Same H H' → H' l = some (.lst ys) → Q (.ref l) H') : rList K [.ref p] H Q := w_listT (SqT.of hs) fun l hn => h l _ hn (same_new hn) upd_same
theorem n_tupL (hs : H p = some (.lst ys)) (h : ∀ (l : Addr) (H' : Hp), H l = none → Same H H' → H' l = some (.tup ys) → Q (.ref l) H') : rTuple K [.ref p] H Q := w_tupL (SqL.of hs) fun l hn => h l _ hn (same_new hn) upd_same
theorem n_tupT (hs : H p = some (.tup ys)) (h : Q (.ref p) H) : rTuple K [.ref p] H Q := w_tupT (SqT.of hs) h
theorem XcAt.same (s : Same H H') (h : XcAt H a D fs) : XcAt H' a D fs := h.keep s
theorem PoolAt.same (s : Same H H') (h : PoolAt H p) : PoolAt H' p := h.keep s
theorem pool_drawn (h : Drawn p H H') : PoolAt H' p := h.pool
theorem ne_pool (hp : PoolAt H p) (hl : H q = none) : q ≠ p := (Drawn.refl hp).ne hl
theorem ne_lst (h1 : H p = some (.lst xs)) (h2 : H q = some (.tup ys)) : p ≠ q := fun e => by rw [e, h2] at h1; cases h1
/-- a new thing changed again -/
theorem same_put {o : HO} (s : Same H H') (hn : H p = none) : Same H (upd H' p o) := fun b u hb => by rw [upd_ne (ne_of_none hb hn)]; exact s b u hb
theorem xmade (hd : H d = none) {l : List (Str × V)} {C : Addr} (na : upd H d (.xd l) a = none) : Same H (upd (upd H d (.xd l)) a (XcO (.ref C) (some d) a)) ∧ XcAt (upd (upd H d (.xd l)) a (XcO (.ref C) (some d) a)) a C (some l) := by
  have ad : d ≠ a := fun e => by rw [← e, upd_same] at na; cases na
  exact ⟨same_put (same_new hd) (by rw [upd_ne (Ne.symm ad)] at na; exact na), d, upd_same, by rw [upd_ne ad, upd_same]⟩
theorem n_caught {u : Clause} {r : List Clause} {D : Ends} {C : Addr} {l : List (Str × V)} {σ : L2.St} (hd : H d = none) (hm : PySem.W.exmOne K (.ref C) u.c = some true) (h : ∀ (a : Addr) (H2 : Hp), H a = none → Same H H2 → XcAt H2 a C (some l) → u.ts (unbound D u.i) (σ.set u.i (some (.ref a))) H2) : wCatches K (u :: r) D (.ref C) (some d) σ (upd H d (.xd l)) :=
  w_c1 hm fun a na => let ⟨s, x⟩ := xmade hd na; h a _ (by
    have ad : a ≠ d := fun e => by rw [e, upd_same] at na; cases na
    rw [upd_ne ad] at na; exact na) s x
end
/-! ### exceptions by K given ahead -/
theorem pe_xkK {X : Cx} {e : Expr} {te : TE} {f : Str} {pos : Pos} (K : PySem.W.Frag) (e1 : X.K = K) (he : PE X e te) (hb : attributeBase e f X.env (eval e X.env) = eval e X.env := by rfl) : PE X (.Attribute e f pos) (tXk K f te) := e1 ▸ pe_xk he hb
/-! ### methods without arguments -/
section
variable {X : Cx} {CX : CXT} {k : Nat} {C : Addr} {m : Str} {ps : List Str} {sp : Sp} {E : XK} {o : Expr} {ta : TE} {pos apos : Pos} {pl : Sem Bool}
theorem pe_mgE0 (G : MtG X.prog X.w X.K X.mg X.base CX k C m ps sp) (hr : Room k X.A) (hx : Passes CX X E) (ho : PE X o ta)
    (h3 : eval (.Call (.Attribute o m apos) [] [] pos) X.env = (eval o X.env >>= fun ov => standAt apos.atName >>= fun _ => holding [ov] (getMethod ov m pl) >>= fun fx => callWith pos fx.1 fx.2 (backTo pos (starEach [] X.env)) (backToKw pos (keywordEach [] X.env))) := by rfl) : PE X (.Call (.Attribute o m apos) [] [] pos) (tMeth C m sp [] E ta tNil) := by
  obtain ⟨f, fd, mt, F, b⟩ := G.ex
  exact pe_meth0 ho G.cls mt F hr b .nil hx h3
theorem pe_mg0 (G : MtG X.prog X.w X.K X.mg X.base CX0 k C m ps sp) (hr : Room k X.A) (ho : PE X o ta)
    (h3 : eval (.Call (.Attribute o m apos) [] [] pos) X.env = (eval o X.env >>= fun ov => standAt apos.atName >>= fun _ => holding [ov] (getMethod ov m pl) >>= fun fx => callWith pos fx.1 fx.2 (backTo pos (starEach [] X.env)) (backToKw pos (keywordEach [] X.env))) := by rfl) : PE X (.Call (.Attribute o m apos) [] [] pos) (tMeth C m sp [] E0 ta tNil) := pe_mgE0 G hr pass0 ho h3
end
end Rd
/-! Auto2: list(range(a, b)), slices, == of plain lists with []. -/
namespace Rd
open PySem PySem.Spec PyProof.Rows L2
def rg (a b : Int) : List Int := (List.range (b - a).toNat).map fun i => a + (i : Nat)
theorem rgV_eq (a b : Int) : rgV a b = (rg a b).map V.int := by unfold rgV rg; rw [List.map_map]; rfl
theorem rg_len {a b : Int} : (rg a b).length = (b - a).toNat := by unfold rg; rw [List.length_map, List.length_range]
theorem rg_at {a b : Int} {i : Nat} (h : i < (b - a).toNat) : (rg a b).getD i 0 = a + i := by
  unfold rg
  rw [List.getD_eq_getElem?_getD, List.getElem?_map, List.getElem?_range h]; rfl
theorem rg_mem {a b x : Int} (h : x ∈ rg a b) : a ≤ x ∧ x < b := by
  unfold rg at h
  obtain ⟨i, hi, e⟩ := List.mem_map.mp h
  have := List.mem_range.mp hi
  omega
def kRg1 (tb : TE) (σ : L2.St) (Q : VK) : VK := fun x H => tLstRg (tRg2 (tC x) tb) σ H Q
def kRg2 (x : V) (Q : VK) : VK := fun y H => tLstRg (tRg2 (tC x) (tC y)) [] H Q
def kRg0 (Q : VK) : VK := fun y H => tLstRg (tRg1 (tC y)) [] H Q
def kSl1 (r : V → Option Int → Option Int → Hp → VK → Prop) (tl th : TO) (σ : L2.St) (Q : VK) : VK := fun x H => tSl r (tC x) tl th σ H Q
def kSl2 (r : V → Option Int → Option Int → Hp → VK → Prop) (x : V) (th : TO) (σ : L2.St) (Q : VK) : VK := fun y H => tSl r (tC x) (tPart (tC y)) th σ H Q
def kSl3 (r : V → Option Int → Option Int → Hp → VK → Prop) (x : V) (l : Option Int) (Q : VK) : VK := fun y H => ∃ i, y = .int i ∧ r x l (some i) H Q
section
variable {K : PySem.W.Frag} {σ : L2.St} {H : Hp} {Q : VK} {te ta tb : TE} {tl th : TO} {x y : V} {i j : Int} {l : Option Int} {a p : Addr} {xs : List V} {r : V → Option Int → Option Int → Hp → VK → Prop}
theorem w_lrg (h : ta σ H (kRg1 tb σ Q)) : tLstRg (tRg2 ta tb) σ H Q := h
theorem w_lrg0 (h : ta σ H (kRg0 Q)) : tLstRg (tRg1 ta) σ H Q := h
theorem w_krg1 (h : tb σ H (kRg2 x Q)) : kRg1 tb σ Q x H := h
theorem n_krg2 (ok : RgOk i j) (h : ∀ (l : Addr) (H' : Hp), H l = none → Same H H' → H' l = some (.lst ((rg i j).map V.int)) → Q (.ref l) H') : kRg2 (.int i) Q (.int j) H :=
  ⟨i, j, rfl, rfl, ok, fun q hq => h q _ hq (same_new hq) (by rw [upd_same, rgV_eq])⟩
theorem n_krg0 (ok : RgOk 0 j) (h : ∀ (l : Addr) (H' : Hp), H l = none → Same H H' → H' l = some (.lst ((rg 0 j).map V.int)) → Q (.ref l) H') : kRg0 Q (.int j) H :=
  ⟨j, rfl, ok, fun q hq => h q _ hq (same_new hq) (by rw [upd_same, rgV_eq])⟩
theorem w_sl (h : te σ H (kSl1 r tl th σ Q)) : tSl r te tl th σ H Q := h
theorem w_sl_u (h : te σ H (kSl3 r x none Q)) : kSl1 r tNoPart (tPart te) σ Q x H := h
theorem w_sl_l (h : te σ H (kSl2 r x th σ Q)) : kSl1 r (tPart te) th σ Q x H := h
theorem w_sl_ln (h : r x (some i) none H Q) : kSl2 r x tNoPart σ Q (.int i) H := ⟨i, rfl, h⟩
theorem w_sl_lu (h : te σ H (kSl3 r x (some i) Q)) : kSl2 r x (tPart te) σ Q (.int i) H := ⟨i, rfl, h⟩
theorem w_sl3 (h : r x l (some i) H Q) : kSl3 r x l Q (.int i) H := ⟨i, rfl, h⟩
theorem n_slL {lo hi : Option Int} (hs : H p = some (.lst xs)) (h : ∀ (l : Addr) (H' : Hp), H l = none → Same H H' → H' l = some (.lst (cutV xs lo hi)) → Q (.ref l) H') : rSlL K (.ref p) lo hi H Q := ⟨p, xs, rfl, SqL.of hs, fun q hq => h q _ hq (same_new hq) upd_same⟩
end
theorem cut_take {xs : List V} {k : Int} (h : 0 ≤ k) : cutV xs none (some k) = xs.take k.toNat := by
  have e : HT.sIx xs.length xs.length (some k) = min k.toNat xs.length := if_neg (by omega)
  unfold cutV
  rw [e, HT.sIx_none, List.drop_zero, Nat.sub_zero]
  by_cases c : xs.length ≤ k.toNat
  · rw [List.take_of_length_le (by omega), List.take_of_length_le c]
  · rw [show min k.toNat xs.length = k.toNat by omega]
theorem cut_drop {xs : List V} {k : Int} (h : 0 ≤ k) : cutV xs (some k) none = xs.drop k.toNat := by
  have e : HT.sIx xs.length 0 (some k) = min k.toNat xs.length := if_neg (by omega)
  unfold cutV
  rw [e, HT.sIx_none]
  by_cases c : xs.length ≤ k.toNat
  · rw [List.drop_of_length_le (by omega), List.drop_of_length_le c, List.take_nil]
  · rw [show min k.toNat xs.length = k.toNat by omega, List.take_of_length_le (by rw [List.length_drop]; exact Nat.le_refl _)]
theorem cut_mid {xs : List V} {j k : Int} (h : 0 ≤ j) (h2 : 0 ≤ k) : cutV xs (some j) (some k) = (xs.drop j.toNat).take (k.toNat - j.toNat) := by
  have e : HT.sIx xs.length 0 (some j) = min j.toNat xs.length := if_neg (by omega)
  have f : HT.sIx xs.length xs.length (some k) = min k.toNat xs.length := if_neg (by omega)
  unfold cutV
  rw [e, f]
  by_cases c : xs.length ≤ j.toNat
  · rw [List.drop_of_length_le (by omega), List.drop_of_length_le c, List.take_nil, List.take_nil]
  · rw [show min j.toNat xs.length = j.toNat by omega]
    by_cases d : xs.length ≤ k.toNat
    · rw [List.take_of_length_le (by rw [List.length_drop]; omega), List.take_of_length_le (by rw [List.length_drop]; omega)]
    · rw [show min k.toNat xs.length = k.toNat by omega]
/-- plain items that == can tell -/
def Flat : V → Prop
  | .non => True
  | .bl _ => True
  | .int _ => True
  | .str s => PyData.strOk s = true
  | _ => False
theorem Flat.plain : ∀ {x : V}, Flat x → Plain x
  | .non, _ => trivial
  | .bl _, _ => trivial
  | .int _, _ => trivial
  | .str _, _ => trivial
/-! ### == of a plain list with [] -/
def plD : V → PyData
  | .non => .none
  | .bl b => .bool b
  | .int i => .int i
  | .str s => .str s
  | _ => .none
theorem dp_plain {K : PySem.W.Frag} {H : Hp} : ∀ {xs : List V}, (∀ x ∈ xs, Flat x) → DpAll K H xs (xs.map plD)
  | [], _ => .nil
  | x :: r, h => by
    refine .cons ?_ (dp_plain fun y hy => h y (List.mem_cons_of_mem _ hy))
    have hx := h x List.mem_cons_self
    cases x with
    | non => exact .non
    | bl b => exact .bl b
    | int i => exact .int i
    | str s => exact .str s
    | _ => exact hx.elim
theorem lay_plain : ∀ {xs : List V}, (∀ x ∈ xs, Flat x) → PyData.canLayAll0 (xs.map plD) = true ∧ PyData.depthAll (xs.map plD) = 0
  | [], _ => by simp [PyData.canLayAll0, PyData.depthAll]
  | x :: r, h => by
    have ih := lay_plain fun y hy => h y (List.mem_cons_of_mem _ hy)
    have hx := h x List.mem_cons_self
    have e : PyData.canLay0 (plD x) = true ∧ PyData.depth (plD x) = 0 := by
      cases x with
      | non => simp [plD, PyData.canLay0, PyData.depth]
      | bl b => simp [plD, PyData.canLay0, PyData.depth]
      | int i => simp [plD, PyData.canLay0, PyData.depth]
      | str s => simp only [plD, PyData.canLay0, PyData.depth, and_true]; exact hx
      | _ => exact hx.elim
    simp only [List.map_cons, PyData.canLayAll0, PyData.depthAll, ih.1, ih.2, e.1, e.2, Bool.and_self, Nat.max_self, and_self]
theorem shaped_plain {xs : List V} (h : ∀ x ∈ xs, Flat x) : SeqAt.shaped (.list (xs.map plD)) = true := by
  unfold SeqAt.shaped
  simp [PyData.canLay0, PyData.depth, lay_plain h]
section
variable {K : PySem.W.Frag} {H : Hp} {Q : VK} {a b : Addr} {xs : List V}
theorem eqv_none (h : ∀ x ∈ xs, Flat x) : PyData.eqvAll (xs.map plD) [] = decide (xs = []) := by
  cases xs <;> simp [PyData.eqvAll]
theorem w_neE (h : ∀ x ∈ xs, Flat x) (ha : H a = some (.lst xs)) (hb : H b = some (.lst [])) (q : Q (.bl (!decide (xs = []))) H) : uNe K (.ref a) (.ref b) H Q :=
  .inr ⟨_, _, .lst (SqL.of ha) (dp_plain h), .lst (SqL.of hb) .nil, shaped_plain h, shaped_ints [], by show Q (.bl (!PyData.eqv (.list _) (.list _))) H; rw [PyData.eqv, eqv_none h]; exact q⟩
theorem w_eqE (h : ∀ x ∈ xs, Flat x) (ha : H a = some (.lst xs)) (hb : H b = some (.lst [])) (q : Q (.bl (decide (xs = []))) H) : uEq K (.ref a) (.ref b) H Q :=
  .inr ⟨_, _, .lst (SqL.of ha) (dp_plain h), .lst (SqL.of hb) .nil, shaped_plain h, shaped_ints [], by show Q (.bl (PyData.eqv (.list _) (.list _))) H; rw [PyData.eqv, eqv_none h]; exact q⟩
end
/-! ### an item of some ints; an item stored -/
theorem ixN_of {n : Nat} {k : Int} (h0 : 0 ≤ k) (h1 : k < n) : ixN n k = some k.toNat := by
  unfold ixN
  rw [if_pos h0, if_pos (by omega)]
section
variable {K : PySem.W.Frag} {H : Hp} {Q : VK} {p : Addr} {xs : List V} {ns : List Int} {i x : Int} {σ : L2.St} {nx : L2.St → Hp → Prop}
theorem w_ixAny (hp : H p = some (.lst xs)) (h0 : 0 ≤ i) (h1 : i < xs.length) (hi : ∀ x ∈ xs, ∃ c : Int, x = .int c) (h : ∀ c : Int, Q (.int c) H) : rIx K (.ref p) (.int i) H Q := by
  have hx : xs[i.toNat]? = some (xs[i.toNat]'(by omega)) := List.getElem?_eq_getElem (by omega)
  obtain ⟨c, e⟩ := hi _ (List.mem_of_getElem? hx)
  refine w_ixL (SqL.of hp) (atI_of h0 hx) ?_
  rw [e]; exact h c
theorem n_ksubM (hp : H p = some (.lst (ns.map V.int))) (h0 : 0 ≤ i) (h1 : i < ns.length) (h : nx σ (upd H p (.lst ((ns.set i.toNat x).map V.int)))) : kSub2 rSetL (.ref p) (.int x) σ nx (.int i) H :=
  w_ksubL hp (by rw [List.length_map]; exact ixN_of h0 h1) (by rw [← List.map_set]; exact h)
end
/-- [told, got] twice -/
theorem alike_pair {H : Hp} {d : Nat} {a a' t t' : Addr} {b : V} {xs : List V} (ha : H a = some (.lst [.ref t, b])) (ha' : H a' = some (.lst [.ref t', b])) (ht : H t = some (.lst xs)) (ht' : H t' = some (.lst xs)) (hx : ∀ x ∈ xs, Plain x) (hb : Plain b) (hl : xs.length ≤ 1000000) : Alike H (d + 3) (.ref a) (.ref a') :=
  alike_lst ha ha' rfl (Nat.le_of_ble_eq_true rfl) fun i x y hx' hy => match i with
    | 0 => by cases hx'; cases hy; exact alike_plst ht ht' hl hx
    | 1 => by cases hx'; cases hy; exact alike_plain hb
    | _ + 2 => by cases hx'
theorem w_cut {t u : TS} {nx bk ct : L2.St → Hp → Prop} {rt : VK} {σ : L2.St} {H : Hp} (Mid : L2.St → Hp → Prop) (h1 : t ⟨Mid, rt, bk, ct⟩ σ H) (h2 : ∀ σ' H', Mid σ' H' → u ⟨nx, rt, bk, ct⟩ σ' H') : C8.tCut t u ⟨nx, rt, bk, ct⟩ σ H := ⟨Mid, h1, h2⟩
/-! ### K given ahead -/
theorem pg_unlK {X : Cx} {pos : Pos} {es : List Expr} {k : Nat} {t : TGs} {n : Nat} (K : PySem.W.Frag) (e : X.K = K) (hc : X.calm = true) (h : PGs X es t) (hn : (assignEach es X.env).length = n := by rfl) (hst : (assignEach es X.env).findIdx? (·.1) = none := by rfl) : PG X (.Tuple es k pos) (gUnl K n t) := e ▸ pg_unl hc h hn hst
end Rd
/-! Comp: list comprehensions by what they leave. -/
namespace Rd
open PySem PySem.Spec PyProof.Rows L2
/-- how a heap may go on: what stood stands (Same), or all but the pool (Drawn p) -/
structure GoesOn (G : Hp → Hp → Prop) (H : Hp) : Prop where
  refl : G H H
  trans : ∀ {H1 H2}, G H H1 → G H1 H2 → G H H2
  put : ∀ {H1 : Hp} {D : Addr} {o : HO}, G H H1 → H D = none → G H (upd H1 D o)
theorem goes_same (H : Hp) : GoesOn Same H := ⟨Same.refl H, Same.trans, fun s hD => fun b u hb => by rw [upd_ne (ne_of_none hb hD)]; exact s b u hb⟩
theorem goes_drawn {p : Addr} {H : Hp} (h : PoolAt H p) : GoesOn (Drawn p) H := ⟨.refl h, .trans, .put⟩
/-- the list so far -/
def LcP (G : Hp → Hp → Prop) (H : Hp) (D : Addr) (R : Nat → List V → Prop) (i : Nat) (H' : Hp) : Prop := ∃ acc, H' D = some (.lst acc) ∧ G H H' ∧ R i acc
/-- an element is there -/
def kElt (G : Hp → Hp → Prop) (H : Hp) (D : Addr) (R : Nat → List V → Prop) (i : Nat) : VK := fun y H4 => ∃ acc, H4 D = some (.lst acc) ∧ acc.length < sizeLine ∧ LcP G H D R (i + 1) (upd H4 D (.lst (acc ++ [y])))
section
variable {K : PySem.W.Frag} {G : Hp → Hp → Prop} {g : TG} {tt : TT} {te : TE} {vs : List Nat} {σ : L2.St} {H H4 : Hp} {Q : VK} {p D : Addr} {xs acc : List V} {R : Nat → List V → Prop} {i : Nat} {y : V}
theorem elt_done (gs : GoesOn G H) (hD : H D = none) (ha : H4 D = some (.lst acc)) (hz : acc.length ≤ 1000000) (s : G H H4) (r : R (i + 1) (acc ++ [y])) : kElt G H D R i y H4 := ⟨acc, ha, by rw [sizeLine_eq]; omega, _, upd_same, gs.put s hD, r⟩
theorem elt_not (ha : H4 D = some (.lst acc)) (s : G H H4) (r : R (i + 1) acc) : LcP G H D R (i + 1) H4 := ⟨acc, ha, s, r⟩
/-- one turn -/
abbrev LcStep (G : Hp → Hp → Prop) (H : Hp) (D : Addr) (R : Nat → List V → Prop) (g : TG) (tt : TT) (te : TE) (vs : List Nat) (σ : L2.St) (i : Nat) (x : V) (H1 : Hp) : Prop :=
  g x (wipe σ vs) H1 fun σ2 H2 => wipe σ2 vs = wipe σ vs ∧ tt σ2 H2 fun b H3 => if b = true then te σ2 H3 (kElt G H D R i) else LcP G H D R (i + 1) H3
theorem lc_L (gs : GoesOn G H) (hp : H p = some (.lst xs)) (hx : ∀ H', G H H' → H' p = some (.lst xs)) (R : Nat → List V → Prop) (r0 : R 0 [])
    (step : ∀ (D : Addr) i x acc H1, H D = none → xs[i]? = some x → R i acc → G H H1 → H1 D = some (.lst acc) → LcStep G H D R g tt te vs σ i x H1)
    (done : ∀ (l : Addr) (acc : List V) (H' : Hp), H l = none → G H H' → H' l = some (.lst acc) → R xs.length acc → Q (.ref l) H') : kCL K g tt te vs σ Q (.ref p) H := by
  refine ⟨p, rfl, ⟨_, SqL.of hp⟩, fun D hD => lc_list (xs := xs) (LcP G H D R) ⟨[], upd_same, gs.put gs.refl hD, r0⟩ ?_ ?_ ?_⟩
  · rintro i H' _ ⟨acc, _, s, _⟩
    exact SqL.of (hx H' s)
  · rintro i x H' hxi ⟨acc, ha, s, r⟩
    exact step D i x acc H' hD hxi r s ha
  · rintro H' ⟨acc, ha, s, r⟩
    exact done D acc H' hD s ha r
theorem lc_T (gs : GoesOn G H) (hp : H p = some (.tup xs)) (hx : ∀ H', G H H' → H' p = some (.tup xs)) (R : Nat → List V → Prop) (r0 : R 0 [])
    (step : ∀ (D : Addr) i x acc H1, H D = none → xs[i]? = some x → R i acc → G H H1 → H1 D = some (.lst acc) → LcStep G H D R g tt te vs σ i x H1)
    (done : ∀ (l : Addr) (acc : List V) (H' : Hp), H l = none → G H H' → H' l = some (.lst acc) → R xs.length acc → Q (.ref l) H') : kCT K g tt te vs σ Q (.ref p) H := by
  refine ⟨p, rfl, ⟨_, SqT.of hp⟩, fun D hD => lc_tup (xs := xs) (LcP G H D R) ⟨[], upd_same, gs.put gs.refl hD, r0⟩ ?_ ?_ ?_⟩
  · rintro i H' _ ⟨acc, _, s, _⟩
    exact SqT.of (hx H' s)
  · rintro i x H' hxi ⟨acc, ha, s, r⟩
    exact step D i x acc H' hD hxi r s ha
  · rintro H' ⟨acc, ha, s, r⟩
    exact done D acc H' hD s ha r
theorem lc_R1 {n : Int} (gs : GoesOn G H) (h0 : -(2 ^ 62) ≤ n) (h1 : n < 2 ^ 62) (R : Nat → List V → Prop) (r0 : R 0 [])
    (step : ∀ (D : Addr) i acc H1, H D = none → i < n.toNat → R i acc → G H H1 → H1 D = some (.lst acc) → LcStep G H D R g tt te vs σ i (.int (0 + (i : Int))) H1)
    (done : ∀ (l : Addr) (acc : List V) (H' : Hp), H l = none → G H H' → H' l = some (.lst acc) → R n.toNat acc → Q (.ref l) H') : kCR1 g tt te vs σ Q [.int n] H := by
  refine ⟨n, rfl, h0, h1, fun D hD => lc_range (n := n.toNat) (LcP G H D R) ⟨[], upd_same, gs.put gs.refl hD, r0⟩ ?_ ?_⟩
  · rintro i H' hi ⟨acc, ha, s, r⟩
    exact step D i acc H' hD hi r s ha
  · rintro H' ⟨acc, ha, s, r⟩
    exact done D acc H' hD s ha r
theorem lc_R2 {m n : Int} (gs : GoesOn G H) (hb : -(2 ^ 62) ≤ m ∧ m < 2 ^ 62 ∧ -(2 ^ 62) ≤ n ∧ n < 2 ^ 62) (R : Nat → List V → Prop) (r0 : R 0 [])
    (step : ∀ (D : Addr) i acc H1, H D = none → i < (n - m).toNat → R i acc → G H H1 → H1 D = some (.lst acc) → LcStep G H D R g tt te vs σ i (.int (m + (i : Int))) H1)
    (done : ∀ (l : Addr) (acc : List V) (H' : Hp), H l = none → G H H' → H' l = some (.lst acc) → R (n - m).toNat acc → Q (.ref l) H') : kCR2 g tt te vs σ Q [.int m, .int n] H := by
  refine ⟨m, n, rfl, hb, fun D hD => lc_range (n := (n - m).toNat) (LcP G H D R) ⟨[], upd_same, gs.put gs.refl hD, r0⟩ ?_ ?_⟩
  · rintro i H' hi ⟨acc, ha, s, r⟩
    exact step D i acc H' hD hi r s ha
  · rintro H' ⟨acc, ha, s, r⟩
    exact done D acc H' hD s ha r
end
end Rd
/-! More: x += e, while, extend, xs[::-1], sorted ints, x not in ints, xs[-k]. -/
namespace Rd
open PySem PySem.Spec PyProof.Rows L2
def kAug (n : Nat) (ti : TIp) (x : V) (σ : L2.St) (nx : L2.St → Hp → Prop) : VK := fun y H1 => ti x y H1 fun z H2 => nx (σ.set n (some z)) H2
def kWh (W : Nat → L2.St → Hp → Prop) (m : Nat) (tb : TS) (nx : L2.St → Hp → Prop) (rt : VK) (σ : L2.St) : Bool → Hp → Prop := fun b H1 =>
  if b = true then ∃ N : L2.St → Hp → Prop, (∀ σ' H', N σ' H' → ∃ m', m' < m ∧ W m' σ' H') ∧ tb ⟨N, rt, nx, N⟩ σ H1 else nx σ H1
def kRevL (K : PySem.W.Frag) (Q : VK) : VK := fun x H => tRevL K (tC x) [] H Q
/-- one turn less -/
def Less (W : Nat → L2.St → Hp → Prop) (m : Nat) : L2.St → Hp → Prop := fun σ H => ∃ m', m' < m ∧ W m' σ H
section
variable {K : PySem.W.Frag} {σ : L2.St} {H : Hp} {te : TE} {tc : TT} {tb : TS} {ti : TIp} {x : V} {Q : VK} {nx bk ct : L2.St → Hp → Prop} {rt : VK} {i j : Int} {n m : Nat} {p q : Addr} {xs ys : List V} {ns : List Int} {W : Nat → L2.St → Hp → Prop}
theorem w_aug (hv : σ[n]? = some (some x)) (h : te σ H (kAug n ti x σ nx)) : tAug n te ti ⟨nx, rt, bk, ct⟩ σ H := ⟨x, hv, h⟩
theorem w_kasgU {k : Nat} {t : TGs} (h : gUnl K k t x σ H nx) : kAsg (gUnl K k t) σ nx x H := h
theorem w_kasgT {k : Nat} {t : TGs} (h : gTup K k t x σ H nx) : kAsg (gTup K k t) σ nx x H := h
theorem w_kor_nt {t : TT} {QB : Bool → Hp → Prop} (h : t σ H QB) : kOr t σ QB (!true) H := h
theorem w_kor_nf {t : TT} {QB : Bool → Hp → Prop} (h : QB true H) : kOr t σ QB (!false) H := h
theorem w_kand_nt {t : TT} {QB : Bool → Hp → Prop} (h : QB false H) : kAnd t σ QB (!true) H := h
theorem w_kand_nf {t : TT} {QB : Bool → Hp → Prop} (h : t σ H QB) : kAnd t σ QB (!false) H := h
theorem w_augAdd (h : nx (σ.set n (some (.int (i + j)))) H) : kAug n (ipI fun i j => i + j) (.int i) σ nx (.int j) H := ⟨i, j, rfl, rfl, h⟩
theorem w_augSub (h : nx (σ.set n (some (.int (i - j)))) H) : kAug n (ipI fun i j => i - j) (.int i) σ nx (.int j) H := ⟨i, j, rfl, rfl, h⟩
theorem w_while (W : Nat → L2.St → Hp → Prop) (m : Nat) (h0 : W m σ H) (hs : ∀ m σ H, W m σ H → tc σ H (kWh W m tb nx rt σ)) : tWhile tc tb ⟨nx, rt, bk, ct⟩ σ H := ⟨W, ⟨m, h0⟩, hs⟩
theorem w_kwh_t (h : tb ⟨Less W m, rt, nx, Less W m⟩ σ H) : kWh W m tb nx rt σ true H := by
  show (if true = true then _ else _)
  rw [if_pos rfl]; exact ⟨_, fun _ _ z => z, h⟩
theorem w_kwh_f (h : nx σ H) : kWh W m tb nx rt σ false H := by
  show (if false = true then _ else _)
  rw [if_neg (fun z => nomatch z)]; exact h
theorem w_kwh {c : Prop} {dc : Decidable c} (h1 : c → tb ⟨Less W m, rt, nx, Less W m⟩ σ H) (h2 : ¬ c → nx σ H) : kWh W m tb nx rt σ (decide c) H := by
  by_cases hc : c
  · rw [decide_eq_true hc]; exact w_kwh_t (h1 hc)
  · rw [decide_eq_false hc]; exact w_kwh_f (h2 hc)
theorem less_of {m' : Nat} (h : W m' σ H) (hm : m' < m) : Less W m σ H := ⟨m', hm, h⟩
theorem w_revL (h : te σ H (kRevL K Q)) : tRevL K te σ H Q := h
theorem n_revL (hs : H p = some (.lst xs)) (h : ∀ (l : Addr) (H' : Hp), H l = none → Same H H' → H' l = some (.lst xs.reverse) → Q (.ref l) H') : kRevL K Q (.ref p) H := ⟨p, xs, rfl, SqL.of hs, fun q hq => h q _ hq (same_new hq) upd_same⟩
theorem w_ext (hp : H p = some (.lst xs)) (hq : H q = some (.lst ys)) (hl : xs.length + ys.length ≤ sizeLine) (h : Q .non (upd H p (.lst (xs ++ ys)))) : rExtend (.ref p) [.ref q] H Q := ⟨p, q, xs, ys, rfl, rfl, hp, hq, hl, h⟩
theorem n_sorted (hp : H p = some (.lst (ns.map V.int))) (h : ∀ (ms : List Int) (l : Addr) (H' : Hp), ms.Perm ns → ms.Pairwise (· ≤ ·) → H l = none → Same H H' → H' l = some (.lst (ms.map V.int)) → Q (.ref l) H') : rSortedI K [.ref p] H Q := ⟨p, ns, rfl, SqL.of hp, fun ms l h1 h2 h3 => h ms l _ h1 h2 h3 (same_new h3) upd_same⟩
theorem w_notInI (hp : H p = some (.lst (ns.map V.int))) (h : Q (.bl (!decide (i ∈ ns))) H) : rIn K true (.int i) (.ref p) H Q :=
  ⟨p, _, rfl, .inl (SqL.of hp), rfl, flat_ints ns, by rw [if_pos rfl, in_ints]; exact h⟩
theorem atI_neg {k : Int} (h0 : 0 < k) (h1 : k ≤ ns.length) : atI (ns.map V.int) (-k) = some (.int (ns.getD (ns.length - k.toNat) 0)) := by
  unfold atI ixN
  rw [if_neg (by omega), List.length_map, if_pos (by omega)]
  show (ns.map V.int)[_]? = _
  rw [List.getElem?_map, show (-k + (ns.length : Int)).toNat = ns.length - k.toNat by omega, List.getD_eq_getElem?_getD, List.getElem?_eq_getElem (by omega)]
  rfl
theorem w_ixNeg {k : Int} (hp : H p = some (.lst (ns.map V.int))) (h0 : 0 < k) (h1 : k ≤ ns.length) (h : Q (.int (ns.getD (ns.length - k.toNat) 0)) H) : rIx K (.ref p) (.int (-k)) H Q := w_ixL (SqL.of hp) (atI_neg h0 h1) h
/-- a tuple of two -/
theorem w_lenT2 {y : V} (hs : SqT K H p [x, y]) (h : Q (.int 2) H) : rLen K [.ref p] H Q := w_lenT hs h
end
/-! ### for over one of two kinds -/
def iOr (a b : TI) : TI := fun σ H R => a σ H R ∨ b σ H R
theorem PI.or {X : Cx} {tg l : Expr} {a b : TI} (h1 : PI X tg l a) (h2 : PI X tg l b) : PI X tg l (iOr a b) := ⟨fun pins s σ H R I h => h.elim (h1.run pins s σ H R I) (h2.run pins s σ H R I)⟩
section
variable {a b : TI} {g : TG} {tb : TS} {D : Ends} {σ : L2.St} {H : Hp}
theorem w_forA (h : tFor a g tb D σ H) : tFor (iOr a b) g tb D σ H := .inl h
theorem w_forB (h : tFor b g tb D σ H) : tFor (iOr a b) g tb D σ H := .inr h
end
end Rd
/-! PairL: lists of tuples of two ints. -/
namespace Rd
open PySem PySem.Spec PyProof.Rows L2
def PairP (R : Int → Int → Prop) (H : Hp) (xs : List V) : Prop := ∀ x ∈ xs, ∃ (t : Addr) (f l : Int), x = .ref t ∧ H t = some (.tup [.int f, .int l]) ∧ R f l
/-- tuples of two ints, by place -/
structure Pairs (H : Hp) (ts : List Addr) (gs : List (Int × Int)) : Prop where
  len : ts.length = gs.length
  at_ : ∀ (j : Nat) (t : Addr) (f l : Int), ts[j]? = some t → gs[j]? = some (f, l) → H t = some (.tup [.int f, .int l])
section
variable {R S : Int → Int → Prop} {H H' : Hp} {xs ys : List V} {p : Addr} {K : PySem.W.Frag} {Q : VK} {i : Int} {x : V} {σ : L2.St} {nx : L2.St → Hp → Prop}
theorem PairP.keep (h : PairP R H xs) (k : Same H H') : PairP R H' xs := fun x hx => let ⟨t, f, l, e, ht, r⟩ := h x hx; ⟨t, f, l, e, k _ _ ht, r⟩
theorem PairP.drawn (h : PairP R H xs) (k : Drawn p H H') : PairP R H' xs := fun x hx => let ⟨t, f, l, e, ht, r⟩ := h x hx; ⟨t, f, l, e, k.tup ht, r⟩
theorem PairP.put (h : PairP R H xs) (hp : H p = some (.lst ys)) {zs : List V} : PairP R (upd H p (.lst zs)) xs := fun x hx => let ⟨t, f, l, e, ht, r⟩ := h x hx; ⟨t, f, l, e, by rw [upd_ne fun z => by rw [z, hp] at ht; cases ht]; exact ht, r⟩
theorem PairP.weak (h : PairP R H xs) (w : ∀ f l, R f l → S f l) : PairP S H xs := fun x hx => let ⟨t, f, l, e, ht, r⟩ := h x hx; ⟨t, f, l, e, ht, w f l r⟩
theorem PairP.nil : PairP R H [] := fun _ hx => absurd hx List.not_mem_nil
theorem PairP.cons {t : Addr} {f l : Int} (ht : H t = some (.tup [.int f, .int l])) (r : R f l) (h : PairP R H xs) : PairP R H (.ref t :: xs) := fun x hx => (List.mem_cons.mp hx).elim (fun e => ⟨t, f, l, e, ht, r⟩) (h x)
theorem PairP.app (h : PairP R H xs) (k : PairP R H ys) : PairP R H (xs ++ ys) := fun x hx => (List.mem_append.mp hx).elim (h x) (k x)
theorem PairP.sub (h : PairP R H xs) (s : ∀ x ∈ ys, x ∈ xs) : PairP R H ys := fun x hx => h x (s x hx)
theorem PairP.set (h : PairP R H xs) {k : Nat} {t : Addr} {f l : Int} (ht : H t = some (.tup [.int f, .int l])) (r : R f l) : PairP R H (xs.set k (.ref t)) := fun y hy => (List.mem_or_eq_of_mem_set hy).elim (h y) (fun e => ⟨t, f, l, e, ht, r⟩)
theorem cut_mem {lo hi : Option Int} (hx : x ∈ cutV xs lo hi) : x ∈ xs := by
  unfold cutV at hx
  exact List.mem_of_mem_drop (List.mem_of_mem_take hx)
theorem cut_len {lo hi : Option Int} : (cutV xs lo hi).length ≤ xs.length := by
  unfold cutV
  rw [List.length_take, List.length_drop]; omega
theorem PairP.cut (h : PairP R H xs) {lo hi : Option Int} : PairP R H (cutV xs lo hi) := h.sub fun _ => cut_mem
theorem PairP.pairs : ∀ {xs : List V}, PairP R H xs → ∃ ts gs, xs = ts.map V.ref ∧ Pairs H ts gs
  | [], _ => ⟨[], [], rfl, rfl, fun j t f l h => by cases h⟩
  | x :: r, h => by
    obtain ⟨t, f, l, rfl, ht, _⟩ := h x List.mem_cons_self
    obtain ⟨ts, gs, rfl, P⟩ := PairP.pairs fun y hy => h y (List.mem_cons_of_mem _ hy)
    refine ⟨t :: ts, (f, l) :: gs, rfl, by rw [List.length_cons, List.length_cons, P.len], fun j q a b h1 h2 => ?_⟩
    cases j with
    | zero => cases h1; cases h2; exact ht
    | succ j => exact P.at_ j q a b h1 h2
/-- an item, whatever it is -/
theorem n_ixMem (hp : H p = some (.lst xs)) (h0 : 0 ≤ i) (h1 : i < xs.length) (h : ∀ v, v ∈ xs → Q v H) : rIx K (.ref p) (.int i) H Q := by
  have hx : xs[i.toNat]? = some (xs[i.toNat]'(by omega)) := List.getElem?_eq_getElem (by omega)
  exact w_ixL (SqL.of hp) (atI_of h0 hx) (h _ (List.mem_of_getElem? hx))
theorem n_ixPair (P : PairP R H xs) (hp : H p = some (.lst xs)) (h0 : 0 ≤ i) (h1 : i < xs.length) (h : ∀ (t : Addr) (f l : Int), xs[i.toNat]? = some (.ref t) → H t = some (.tup [.int f, .int l]) → R f l → Q (.ref t) H) : rIx K (.ref p) (.int i) H Q := by
  have hx : xs[i.toNat]? = some (xs[i.toNat]'(by omega)) := List.getElem?_eq_getElem (by omega)
  obtain ⟨t, f, l, e, ht, r⟩ := P _ (List.mem_of_getElem? hx)
  rw [e] at hx
  exact w_ixL (SqL.of hp) (atI_of h0 hx) (h t f l hx ht r)
theorem same_pair {a b : Addr} {f l f' l' : Int} {k : Nat} (h1 : xs[k]? = some (.ref a)) (h2 : xs[k]? = some (.ref b)) (h3 : H a = some (.tup [.int f, .int l])) (h4 : H b = some (.tup [.int f', .int l'])) : f = f' ∧ l = l' := by
  rw [h1] at h2
  cases h2
  rw [h3] at h4
  cases h4
  exact ⟨rfl, rfl⟩
theorem n_addA {q : Addr} (h1 : H p = some (.lst xs)) (h2 : H q = some (.lst ys)) (l1 : xs.length ≤ 500) (l2 : ys.length ≤ 500) (h : ∀ (l : Addr) (H' : Hp), H l = none → Same H H' → H' l = some (.lst (xs ++ ys)) → Q (.ref l) H') : uAdd (.ref p) (.ref q) H Q := n_addL h1 h2 (by rw [sizeLine_eq]; omega) h
theorem len_app {a b : Nat} (h1 : xs.length ≤ a) (h2 : ys.length ≤ b) : (xs ++ ys).length ≤ a + b := by rw [List.length_append]; omega
theorem len_cut {a : Nat} {lo hi : Option Int} (h1 : xs.length ≤ a) : (cutV xs lo hi).length ≤ a := Nat.le_trans cut_len h1
theorem len_set {a k : Nat} (h1 : xs.length ≤ a) : (xs.set k x).length ≤ a := by rw [List.length_set]; exact h1
theorem n_setAny (hp : H p = some (.lst xs)) (h0 : 0 ≤ i) (h1 : i < xs.length) (h : nx σ (upd H p (.lst (xs.set i.toNat x)))) : kSub2 rSetL (.ref p) x σ nx (.int i) H := w_ksubL hp (ixN_of h0 h1) h
end
theorem Pairs.keep {H H' : Hp} {ts : List Addr} {gs : List (Int × Int)} (h : Pairs H ts gs) (k : Same H H') : Pairs H' ts gs := ⟨h.len, fun j t f l h1 h2 => k _ _ (h.at_ j t f l h1 h2)⟩
theorem Pairs.drawn {H H' : Hp} {p : Addr} {ts : List Addr} {gs : List (Int × Int)} (h : Pairs H ts gs) (k : Drawn p H H') : Pairs H' ts gs := ⟨h.len, fun j t f l h1 h2 => k.tup (h.at_ j t f l h1 h2)⟩
theorem Pairs.put {H : Hp} {p : Addr} {xs ys : List V} {ts : List Addr} {gs : List (Int × Int)} (h : Pairs H ts gs) (hp : H p = some (.lst xs)) : Pairs (upd H p (.lst ys)) ts gs := ⟨h.len, fun j t f l h1 h2 => by
  have e := h.at_ j t f l h1 h2
  rw [upd_ne fun z => by rw [z, hp] at e; cases e]
  exact e⟩
theorem Pairs.snoc {H : Hp} {t : Addr} {f l : Int} {ts : List Addr} {gs : List (Int × Int)} (h : Pairs H ts gs) (ht : H t = some (.tup [.int f, .int l])) : Pairs H (ts ++ [t]) (gs ++ [(f, l)]) := by
  refine ⟨by rw [List.length_append, List.length_append, h.len]; rfl, fun j q a b hq hg => ?_⟩
  rcases Nat.lt_or_ge j ts.length with lt | ge
  · rw [List.getElem?_append_left lt] at hq
    rw [List.getElem?_append_left (by rw [← h.len]; exact lt)] at hg
    exact h.at_ j q a b hq hg
  · have hj := (List.getElem?_eq_some_iff.mp hq).1
    rw [List.length_append, List.length_singleton] at hj
    have ej : j = ts.length := by omega
    subst ej
    rw [List.getElem?_append_right (Nat.le_refl _), Nat.sub_self] at hq
    rw [h.len, List.getElem?_append_right (Nat.le_refl _), Nat.sub_self] at hg
    cases hq
    cases hg
    exact ht
theorem Pairs.rev {H : Hp} {ts : List Addr} {gs : List (Int × Int)} (h : Pairs H ts gs) : Pairs H ts.reverse gs.reverse := by
  refine ⟨by rw [List.length_reverse, List.length_reverse, h.len], fun j t f l h1 h2 => ?_⟩
  have hj := (List.getElem?_eq_some_iff.mp h1).1
  rw [List.length_reverse] at hj
  rw [List.getElem?_reverse hj] at h1
  rw [List.getElem?_reverse (by rw [← h.len]; exact hj), ← h.len] at h2
  exact h.at_ _ t f l h1 h2
theorem alike_pairs {H : Hp} {d : Nat} {a b : Addr} {ts ss : List Addr} {gs : List (Int × Int)} (ha : H a = some (.lst (ts.map V.ref))) (hb : H b = some (.lst (ss.map V.ref))) (A : Pairs H ts gs) (B : Pairs H ss gs) (h : gs.length ≤ 1000000) : Alike H (d + 3) (.ref a) (.ref b) := by
  refine alike_lst ha hb (by rw [List.length_map, List.length_map, A.len, B.len]) (by rw [List.length_map, A.len]; exact h) fun i x y hx hy => ?_
  obtain ⟨r, hr, rfl⟩ := ref_at hx
  obtain ⟨q, hq, rfl⟩ := ref_at hy
  have hi : i < gs.length := by rw [← A.len]; exact (List.getElem?_eq_some_iff.mp hr).1
  have hc : gs[i]? = some (gs[i].1, gs[i].2) := List.getElem?_eq_getElem hi
  exact alike_ptup (A.at_ i r _ _ hr hc) (B.at_ i q _ _ hq hc) (Nat.le_of_ble_eq_true rfl) (plain_ints [_, _])
end Rd
/-! Stat: C.m(..) of a staticmethod; a + b by an own method. -/
namespace Rd
open PySem PySem.Spec PyProof.Rows L2
/-- C.m is a staticmethod around the def at g -/
structure SMet (K : PySem.W.Frag) (C : Addr) (m : Str) (g : Addr) : Prop where
  rd : PySem.W.readsIn K C (.type "type") = true
  ga : PySem.W.specialIn K (.ref C) "__getattribute__" = some (some (.builtin "type.__getattribute__"))
  at_ : ∃ p rest, PySem.W.findCls K (.ref C) (.type "type") m = some (.get (.builtin "staticmethod.__get__") (.ref p) .none (.ref C)) ∧ PySem.W.recIn K p "staticmethod" = some (.ref g :: rest)
  kp : PySem.W.keepIn K (.ref g) = true
theorem Tx.stat {fa : List He.Fa} {fn : List He.DefD} {xa : List Xa} {fs : Fs} {P : Program} {K : PySem.W.Frag} {mg : Str → Option Value} (T : Tx fa fn xa fs P K mg) (i : Nat) {x m : Str} (h : xa[i]? = some (.stat x m) := by rfl) : SMet K (He.ga K x) m (wrapAt "staticmethod" x m K) := by
  obtain ⟨a, r⟩ := He.ba (T.all.own i h)
  obtain ⟨b, r⟩ := He.ba r
  obtain ⟨c, r⟩ := He.ba r
  have e : ∃ g rest, PySem.W.recIn K (He.ma K (He.ga K x) m) "staticmethod" = some (.ref g :: rest) ∧ PySem.W.keepIn K (.ref g) = true := by
    split at r
    · exact ⟨_, _, by assumption, r⟩
    · cases r
  obtain ⟨g, rest, e1, e2⟩ := e
  have w : wrapAt "staticmethod" x m K = g := by
    unfold wrapAt
    rw [e1]
  rw [w]
  exact ⟨a, He.eqO_ok b, ⟨_, rest, cf_ok c, e1⟩, e2⟩
theorem Tx.self1 {fa : List He.Fa} {fn : List He.DefD} {xa : List Xa} {fs : Fs} {P : Program} {K : PySem.W.Frag} {mg : Str → Option Value} (T : Tx fa fn xa fs P K mg) (i : Nat) {x : Str} (h : xa[i]? = some (.self1 x) := by rfl) : PySem.W.selfFirst K (He.ga K x) = true := T.all.own i h
structure StG (P : Program) (w : World) (K : PySem.W.Frag) (mg : Str → Option Value) (base : Heap) (CX : CXT) (k : Nat) (x m : Str) (ps : List Str) (sp : Sp) : Prop where
  ex : ∃ g fd, SMet K (He.ga K x) m g ∧ FnOk P w K mg base CX k g fd ps sp ∧ Binds K fd ps []
theorem Passes.at_ {CX : CXT} {X : Cx} {E : XK} (h : Passes CX X E) (σ : L2.St) : PassesAt CX X σ E := fun pins H s e s' I c => h pins σ H s e s' I c
/-- C.m(..) -/
def tStS (C : Addr) (sp : Sp) (E : L2.St → XK) (ta : TE) (t : TA) : TE := fun σ H Q => ta σ H fun x H1 => x = .ref C ∧ t σ H1 fun vs H2 => sp vs H2 Q (E σ)
/-- a + b, both of the class at C -/
def tBinS (C : Addr) (sp : Sp) (E : L2.St → XK) (ta tb : TE) : TE := fun σ H Q => ta σ H fun x H1 => tb σ H1 fun y H2 => ∃ a b dx fs dy gs, x = .ref a ∧ y = .ref b ∧ H2 a = some (.ins C dx fs) ∧ H2 b = some (.ins C dy gs) ∧ sp [x, y] H2 Q (E σ)
section
variable {X : Cx} {CX : CXT} {k : Nat} {C : Addr} {x m : Str} {ps : List Str} {sp : Sp} {E : L2.St → XK} {o e a b : Expr} {es : List Expr} {ta tb : TE} {t : TA} {p pos apos : Pos} {pl : Sem Bool}
theorem pe_stS (G : StG X.prog X.w X.K X.mg X.base CX k x m ps sp) (hr : Room k X.A) (hx : ∀ σ, PassesAt CX X σ (E σ)) (ho : PE X o ta) (ha : PA X (e :: es) t) (h1 : starEach (e :: es) X.env = (false, eval e X.env) :: starEach es X.env := by rfl) (h2 : (backTo pos (starEach es X.env)).any (·.1) = false := by rfl)
    (h3 : eval (.Call (.Attribute o m apos) (e :: es) [] pos) X.env = (eval o X.env >>= fun ov => standAt apos.atName >>= fun _ => holding [ov] (getMethod ov m pl) >>= fun fx => callWith pos fx.1 fx.2 (backTo pos (starEach (e :: es) X.env)) (backToKw pos (keywordEach [] X.env))) := by rfl) : PE X (.Call (.Attribute o m apos) (e :: es) [] pos) (tStS (He.ga X.K x) sp E ta t) where
  run := fun pins s σ H Q I h => by
    obtain ⟨g, fd, S, F, bd⟩ := G.ex
    obtain ⟨q, rest, f1, f2⟩ := S.at_
    refine PySem.W.methodCall_KW (pl := pl) (wpAny_mono (ho.run pins s σ H _ I h) (fun u s1 z => ?_) fun _ _ w => w) h3
    obtain ⟨y, H1, I1, ry, rfl, z⟩ := z
    cases (show u = Value.ref (He.ga X.K x) from ry)
    refine PySem.W.method_cls I1.kIn S.ga (PySem.W.cls_bind I1.kIn S.rd f1 (wpAny_call (PySem.W.sm_get (s := { s1 with toks := s1.toks + 1 }) I1.kIn f2 (PySem.W.handed_on rfl ?_))))
    have J := I1.tok (s1.toks + 1)
    refine PySem.W.callWith_K (first := []) (h₀ := X.base) I.ok.mod.kin S.kp (wpAny_mono (ha.run pos pins _ σ H1 _ J z) (fun us s2 y => ?_) fun _ _ w => w) h1 h2
    obtain ⟨vs, H2, I2, rv, q2⟩ := y
    exact ⟨I2.kIn, run_fnS (us := us) (vs := vs) F hr bd (hx σ) I2 rv q2⟩
theorem pe_stC (C : Addr) (hC : He.ga X.K x = C) (G : StG X.prog X.w X.K X.mg X.base CX k x m ps sp) (hr : Room k X.A) (hx : ∀ σ, PassesAt CX X σ (E σ)) (ho : PE X o ta) (ha : PA X (e :: es) t) (h1 : starEach (e :: es) X.env = (false, eval e X.env) :: starEach es X.env := by rfl) (h2 : (backTo pos (starEach es X.env)).any (·.1) = false := by rfl)
    (h3 : eval (.Call (.Attribute o m apos) (e :: es) [] pos) X.env = (eval o X.env >>= fun ov => standAt apos.atName >>= fun _ => holding [ov] (getMethod ov m pl) >>= fun fx => callWith pos fx.1 fx.2 (backTo pos (starEach (e :: es) X.env)) (backToKw pos (keywordEach [] X.env))) := by rfl) : PE X (.Call (.Attribute o m apos) (e :: es) [] pos) (tStS C sp E ta t) := hC ▸ pe_stS G hr hx ho ha h1 h2 h3
theorem pe_binS {op : Operator} (G : MtG X.prog X.w X.K X.mg X.base CX k C (PySem.dunder op.info.2) ps sp) (hs : PySem.W.selfFirst X.K C = true) (hr : Room k X.A) (hx : ∀ σ, PassesAt CX X σ (E σ)) (ha : PE X a ta) (hb : PE X b tb) : PE X (.BinOp a op b pos) (tBinS C sp E ta tb) where
  run := fun pins s σ H Q I h => wpAny_BinOp (binT ha hb I h fun v u s2 x y H2 I2 rx ry q => by
    obtain ⟨p1, p2, dx, fs, dy, gs, rfl, rfl, e1, e2, q⟩ := q
    obtain ⟨f, fd, mt, F, bd⟩ := G.ex
    obtain ⟨od, i1⟩ := inst_of I2 e1
    obtain ⟨od2, i2⟩ := inst_of I2 e2
    obtain ⟨_, fr⟩ := I2.fr
    cases rx
    cases ry
    refine PySem.W.binop_K fr I2.mod.kin i1 i2.type hs mt.at_ mt.fn (wpAny_mono (run_fnS (us := [.ref p1, .ref p2]) (vs := [.ref p1, .ref p2]) F hr bd (hx σ) I2 (.cons rfl (.cons rfl .nil)) q) (fun r s3 w => ?_) fun _ _ w => w)
    obtain ⟨z, H3, I3, rz, q3⟩ := w
    have ok : ∀ r', r' ≠ Value.notImplemented → PySem.W.CmpBack (EP X pins σ Q) r' s3 = EP X pins σ Q r' s3 := fun r' hn => by
      cases r' <;> first | rfl | exact absurd rfl hn
    rw [ok r (fun e => by subst e; cases z <;> first | (obtain ⟨_, e⟩ := rz; cases e) | cases rz)]
    exact ⟨z, H3, I3, rz, q3⟩)
end
def kSt (C : Addr) (sp : Sp) (E : XK) (t : TA) (σ : L2.St) (Q : VK) : VK := fun x H => x = .ref C ∧ t σ H fun vs H2 => sp vs H2 Q E
def kBin1 (C : Addr) (sp : Sp) (E : L2.St → XK) (tb : TE) (σ : L2.St) (Q : VK) : VK := fun x H => tBinS C sp E (tC x) tb σ H Q
def kBin2 (C : Addr) (sp : Sp) (E : XK) (x : V) (Q : VK) : VK := fun y H2 => ∃ a b dx fs dy gs, x = .ref a ∧ y = .ref b ∧ H2 a = some (.ins C dx fs) ∧ H2 b = some (.ins C dy gs) ∧ sp [x, y] H2 Q E
section
variable {C : Addr} {sp : Sp} {E : L2.St → XK} {E1 : XK} {ta tb : TE} {t : TA} {σ : L2.St} {H : Hp} {Q : VK} {x : V} {a b dx dy : Addr} {fs gs : List (Str × V)}
theorem w_stS (h : ta σ H (kSt C sp (E σ) t σ Q)) : tStS C sp E ta t σ H Q := h
theorem w_kst (h : t σ H (kCall sp [] E1 Q)) : kSt C sp E1 t σ Q (.ref C) H := ⟨rfl, by
  have e : kCall sp [] E1 Q = fun vs H1 => sp vs H1 Q E1 := funext fun vs => funext fun H1 => by
    show sp (vs ++ []) H1 Q E1 = _
    rw [List.append_nil]
  rw [e] at h; exact h⟩
theorem w_binS (h : ta σ H (kBin1 C sp E tb σ Q)) : tBinS C sp E ta tb σ H Q := h
theorem w_kbin1 (h : tb σ H (kBin2 C sp (E σ) x Q)) : kBin1 C sp E tb σ Q x H := h
theorem w_kbin2 (h1 : H a = some (.ins C dx fs)) (h2 : H b = some (.ins C dy gs)) (h : sp [.ref a, .ref b] H Q E1) : kBin2 C sp E1 (.ref a) Q (.ref b) H := ⟨a, b, dx, fs, dy, gs, rfl, rfl, h1, h2, h⟩
end
end Rd
/-! SeqA: slices, zip and for of a list or a tuple. -/
namespace Rd
open PySem PySem.Spec PyProof.Rows L2
def uSl (K : PySem.W.Frag) : V → Option Int → Option Int → Hp → VK → Prop := fun x lo hi H Q => rSlL K x lo hi H Q ∨ rSlA K x lo hi H Q
theorem oSl {X : Cx} : SlR X (uSl X.K) := SlR.or sl_list sl_tupA
theorem oSlK {X : Cx} (K : PySem.W.Frag) (e : X.K = K) : SlR X (uSl K) := e ▸ oSl
theorem cut_whole {xs : List V} {lo hi : Option Int} (h : HT.sIx xs.length 0 lo = 0 ∧ HT.sIx xs.length xs.length hi = xs.length) : cutV xs lo hi = xs := by
  unfold cutV
  rw [h.1, h.2, List.drop_zero, Nat.sub_zero, List.take_length]
def kZA (K : PySem.W.Frag) (g : TG) (tb : TS) (D : Ends) (σ : L2.St) : List V → Hp → Prop := fun vs H => tFor (RZ.iZipA K (tAc vs)) g tb D σ H
section
variable {K : PySem.W.Frag} {H : Hp} {Q : VK} {p : Addr} {xs : List V} {lo hi : Option Int} {g : TG} {tb : TS} {D : Ends} {σ : L2.St} {tl : TA}
theorem n_usL (hs : H p = some (.lst xs)) (h : ∀ (l : Addr) (H' : Hp), H l = none → Same H H' → H' l = some (.lst (cutV xs lo hi)) → Q (.ref l) H') : uSl K (.ref p) lo hi H Q := .inl ⟨p, xs, rfl, SqL.of hs, fun q hq => h q _ hq (same_new hq) upd_same⟩
theorem n_usT (hs : H p = some (.tup xs)) (h : ∀ (l : Addr) (H' : Hp), Same H H' → H' l = some (.tup (cutV xs lo hi)) → Q (.ref l) H') : uSl K (.ref p) lo hi H Q :=
  .inr ⟨p, xs, rfl, SqT.of hs, fun w => h p H (Same.refl H) (by rw [cut_whole w]; exact hs), fun _ q hq => h q _ (same_new hq) upd_same⟩
theorem w_forZA (h : tl σ H (kZA K g tb D σ)) : tFor (RZ.iZipA K tl) g tb D σ H := h
theorem w_lcA {a b : TI} {tt : TT} {te : TE} {vs : List Nat} (h : tLc a g tt te vs σ H Q) : tLc (iOr a b) g tt te vs σ H Q := .inl h
theorem w_lcB {a b : TI} {tt : TT} {te : TE} {vs : List Nat} (h : tLc b g tt te vs σ H Q) : tLc (iOr a b) g tt te vs σ H Q := .inr h
end
theorem walk_zipT {K : PySem.W.Frag} {a b : Addr} {xs ys : List V} {n : Nat} (hn : n = min xs.length ys.length) : Walk (RZ.ItzT K a b) n (fun H => SqT K H a xs ∧ SqT K H b ys) (YPair (fun i => xs[i]?) (fun i => ys[i]?)) where
  goes := fun i _ hi h => by
    have l1 : i < xs.length := by omega
    have l2 : i < ys.length := by omega
    exact ⟨xs, ys, _, _, h.1, h.2, List.getElem?_eq_getElem l1, List.getElem?_eq_getElem l2⟩
  stops := fun _ h => ⟨xs, ys, h.1, h.2, by omega⟩
  yields := fun i _ _ _ _ h y => let ⟨T, x, z, e1, e2, e3, e4, e5⟩ := y; ⟨T, x, z, e1, e2, e3, e4 xs h.1, e5 ys h.2⟩
/-! ### for x in reversed(range(n)) -/
def kRv1 (g : TG) (tb : TS) (D : Ends) (σ : L2.St) : VK := fun x H => tFor (iRevR (tRg1 (tC x))) g tb D σ H
section
variable {g : TG} {tb : TS} {D : Ends} {σ : L2.St} {H : Hp} {te : TE}
theorem w_forRv (h : te σ H (kRv1 g tb D σ)) : tFor (iRevR (tRg1 te)) g tb D σ H := h
theorem for_rev {n : Nat} (Pv : Nat → L2.St → Hp → Prop) (h62 : (n : Int) < 2 ^ 62) (h0 : Pv 0 σ H) (hs : ∀ i σ H, i < n → Pv i σ H → g (.int ((n : Int) - 1 - i)) σ H fun σ2 H2 => tb { D with nx := Pv (i + 1), ct := Pv (i + 1), bk := D.nx } σ2 H2) (hd : ∀ σ H, Pv n σ H → D.nx σ H) : kRv1 g tb D σ (.int n) H := by
  refine ⟨n, rfl, by omega, by omega, by omega, h62, ?_⟩
  have e : ((n : Int) - 0).toNat = n := by omega
  rw [e]
  refine for_rangeC (n := n) Pv h0 (fun i σ H hi p => ?_) hd
  rw [show (0 : Int) + (n : Int) - 1 + (i : Nat) * (-1) = (n : Int) - 1 - i by omega]
  exact hs i σ H hi p
end
end Rd
/-! OpI: an own operator beside an int. -/
namespace Rd
open PySem PySem.Spec PyProof.Rows PySem.W PySem.Calls
section
variable {prog : Program} {w : World} {A : Around} {E : Value → Shared → Prop} {s : Shared} {K : Frag} {x C L f : Addr} {h₀ : Heap} {m : Str → Option Value} {ox : Obj} {od : Option Obj}
/-- the class's slot goes by name -/
theorem inPython {M : Model} {h : Heap} {nm : String} {r : Option Value} (X : K.In h) (hs : findIn K (.ref C) (PySem.dunder nm) = some (some (.ref f))) (hr : findIn K (.ref C) (dunderR nm) = some r) (hb : ∀ id, r ≠ some (.builtin id)) : Looks M h (numberSlotInPython (.ref C) nm) true := by
  unfold numberSlotInPython
  refine (looks_findIn X hs).andThen ?_
  refine (Looks.of_pure rfl).andThen ?_
  refine (looks_findIn X hr).andThen ?_
  have e : ∃ b, calledByName (.ref C) (dunderR nm) r = pure b := by
    cases r with
    | none => exact ⟨false, rfl⟩
    | some v =>
      cases v with
      | builtin id => exact absurd rfl (hb id)
      | _ => exact ⟨true, rfl⟩
  obtain ⟨b, e⟩ := e
  refine (Looks.of_pure e).andThen ?_
  exact .now
theorem binop_KI {op : Operator} {j : Int} {t : Tok} {r rt : Option Value} {Q : Value → Shared → Prop} (F : Fr h₀ L s.heap m) (X₀ : K.In h₀) (I : InstAt s.heap x ox C od) (hc : selfFirst K C = true)
    (hs : findIn K (.ref C) (PySem.dunder op.info.2) = some (some (.ref f))) (hf : isFn K (.ref f) = true) (hr : findIn K (.ref C) (dunderR op.info.2) = some r) (hb : ∀ id, r ≠ some (.builtin id)) (fi : fillsNumberSlot (.type "int") op.info.2 = pure true) (ti : typeLookup (.type "int") (dunderR op.info.2) = pure rt)
    (h : wpAny (model prog w) A (call (.ref f) [.ref x, .int j t]) (PySem.W.CmpBack Q) E s) : wpAny (model prog w) A (binaryOp op (.ref x) (.int j t)) Q E s := by
  have X := X₀.keeps F.keep
  obtain ⟨cd, hcd, hm⟩ := any_some hc
  obtain ⟨rest, hm⟩ : ∃ rest, cd.mro = .ref C :: rest := by
    cases q : cd.mro with
    | nil => rw [q] at hm; cases hm
    | cons a r => rw [q] at hm; exact ⟨r, by rw [List.head?_cons] at hm; cases (beq_iff_eq.mp hm); rfl⟩
  have sub : Looks (model prog w) s.heap (isSubtype (.type "int") (.ref C)) false := looks_subIn X (by
    show (fastBuiltinMro "int").map (·.contains (.ref C)) = some false
    kernel_rfl)
  unfold binaryOp
  refine wpAny_holding (wpAny_bind ?_)
  show wpAny _ _ (binaryOp1 op.info.2 _ _) _ _ _
  generalize op.info.2 = nm at hs hr fi ti
  unfold binaryOp1
  refine wpAny_bind (I.type.here (wpAny_bind (wpAny_pure (wpAny_bind ((fills_K X hcd hm hs).here ?_)))))
  simp only [show (Value.ref C == Value.type "int") = false from rfl, Bool.false_eq_true, if_false]
  rw [fi]
  refine wpAny_bind (wpAny_pure ?_)
  simp only [Bool.and_self, if_true]
  refine wpAny_bind (sub.here ?_)
  simp only [Bool.false_eq_true, if_false]
  simp only [Bool.not_false, Bool.and_self, if_true]
  refine wpAny_bind ((inPython X hs hr hb).here ?_)
  simp only [if_true]
  refine wpAny_bind (wpAny_pure ?_)
  simp only [Bool.not_false, if_true]
  rw [ti]
  refine wpAny_bind (wpAny_pure ?_)
  refine wpAny_bind (m := tryMethod (.ref x) _ _) ?_
  unfold tryMethod
  refine wpAny_bind (special_fn X I hs (beq_iff_eq.mp hf) (wpAny_mono h (fun v s' hv => ?_) fun _ _ e => e))
  cases v <;> first | exact hv.elim | exact wpAny_pure (wpAny_pure (wpAny_pure hv))
theorem int_declines {nm id nn : String} {g : Int → Int → Sem Fin} {j : Int} {t : Tok} {Q : Option Value → Shared → Prop} (hx : s.heap.get? x = some ox) (hn : ∀ p, ox.data ≠ .prim p) (slot : Slot "int" (PySem.dunder nm) id) (entry : entryFor table id = some (PySem.Builtin.Int.intBinary nn g)) (ag : ∀ a b, argsOk id ⟨[a, b], []⟩)
    (hQ : Q none s) : wpAny (model prog w) A (tryMethod (.int j t) (PySem.dunder nm) (.ref x)) Q E s := by
  refine wpAny_tryMethod_declines (typeIs_int s j t) slot ?_
  refine wpAny_call (codeAny_call_builtin slot.plain entry (slot.check _ _ _ _ _ _ _ _ (typeIs_int s j t) (ag _ _) ?_))
  show wpAny _ _ (PySem.Builtin.Int.intBinary nn g false ⟨[.int j t, .ref x], []⟩) _ _ _
  unfold PySem.Builtin.Int.intBinary slotArgs PySem.Builtin.Int.intOfSelf asInt?
  refine wpAny_bind (wpAny_pure ?_)
  refine wpAny_bind (wpAny_bind (wpAny_pure (wpAny_pure ?_)))
  refine wpAny_bind (wpAny_bind (wpAny_load hx ?_))
  cases hd : ox.data with
  | prim p => exact absurd hd (hn p)
  | _ => exact wpAny_pure (wpAny_bind (wpAny_rule (wpAny_pure ⟨rfl, hQ⟩)))
theorem binop_IK {op : Operator} {id nn : String} {g : Int → Int → Sem Fin} {f0 : Addr} {j : Int} {t : Tok} {Q : Value → Shared → Prop} (F : Fr h₀ L s.heap m) (X₀ : K.In h₀) (I : InstAt s.heap x ox C od) (hn : ∀ p, ox.data ≠ .prim p) (hc : selfFirst K C = true)
    (hs : findIn K (.ref C) (PySem.dunder op.info.2) = some (some (.ref f0))) (hr : findIn K (.ref C) (dunderR op.info.2) = some (some (.ref f))) (hf : isFn K (.ref f) = true) (hi : subIn K (.ref C) (.type "int") = some false) (fi : fillsNumberSlot (.type "int") op.info.2 = pure true)
    (slot : Slot "int" (PySem.dunder op.info.2) id) (entry : entryFor table id = some (PySem.Builtin.Int.intBinary nn g)) (ag : ∀ a b, argsOk id ⟨[a, b], []⟩)
    (h : wpAny (model prog w) A (call (.ref f) [.ref x, .int j t]) (PySem.W.CmpBack Q) E s) : wpAny (model prog w) A (binaryOp op (.int j t) (.ref x)) Q E s := by
  have X := X₀.keeps F.keep
  obtain ⟨cd, hcd, hm⟩ := any_some hc
  obtain ⟨rest, hm⟩ : ∃ rest, cd.mro = .ref C :: rest := by
    cases q : cd.mro with
    | nil => rw [q] at hm; cases hm
    | cons a r => rw [q] at hm; exact ⟨r, by rw [List.head?_cons] at hm; cases (beq_iff_eq.mp hm); rfl⟩
  unfold binaryOp
  refine wpAny_holding (wpAny_bind ?_)
  show wpAny _ _ (binaryOp1 op.info.2 _ _) _ _ _
  generalize op.info.2 = nm at hs hr fi slot
  unfold binaryOp1
  refine wpAny_bind (wpAny_pure (wpAny_bind (I.type.here (wpAny_bind ?_))))
  rw [fi]
  refine wpAny_pure ?_
  simp only [show (Value.type "int" == Value.ref C) = false from rfl, Bool.false_eq_true, if_false]
  refine wpAny_bind ((fills_K X hcd hm hs).here ?_)
  simp only [Bool.and_self, if_true]
  refine wpAny_bind ((looks_subIn X hi).here ?_)
  simp only [Bool.false_eq_true, if_false, Bool.not_false, Bool.and_self, if_true]
  refine wpAny_bind (wpAny_pure ?_)
  simp only [Bool.false_eq_true, if_false]
  refine wpAny_bind (int_declines I.at_ hn slot entry ag ?_)
  dsimp only
  refine wpAny_bind (m := tryMethod (.ref x) _ _) ?_
  unfold tryMethod
  refine wpAny_bind (special_fn X I hr (beq_iff_eq.mp hf) (wpAny_mono h (fun v s' hv => ?_) fun _ _ e => e))
  cases v <;> first | exact hv.elim | exact wpAny_pure (wpAny_bind (wpAny_rule (wpAny_pure (wpAny_pure hv))))
end
end Rd
namespace Rd
open PySem PySem.Spec PyProof.Rows L2
/-- o + j: the own method of o -/
def tBinI (C : Addr) (sp : Sp) (E : L2.St → XK) (ta tb : TE) : TE := fun σ H Q => ta σ H fun x H1 => tb σ H1 fun y H2 => ∃ a dx fs j, x = .ref a ∧ y = .int j ∧ H2 a = some (.ins C dx fs) ∧ sp [x, y] H2 Q (E σ)
/-- j + o: the own reflected method of o -/
def tBinR (C : Addr) (sp : Sp) (E : L2.St → XK) (ta tb : TE) : TE := fun σ H Q => ta σ H fun x H1 => tb σ H1 fun y H2 => ∃ a dx fs j, x = .int j ∧ y = .ref a ∧ H2 a = some (.ins C dx fs) ∧ sp [y, x] H2 Q (E σ)
section
variable {X : Cx} {CX CX' : CXT} {k k' : Nat} {C : Addr} {ps ps' : List Str} {sp sp' : Sp} {E : L2.St → XK} {a b : Expr} {ta tb : TE} {pos : Pos}
theorem back_of {pins : List (Addr × Obj)} {σ : L2.St} {Q : VK} {r : Value} {s3 : Shared} (w : EP X pins σ Q r s3) : PySem.W.CmpBack (EP X pins σ Q) r s3 := by
  obtain ⟨z, H3, I3, rz, q3⟩ := id w
  cases r with
  | notImplemented => cases z <;> first | (obtain ⟨_, e⟩ := rz; cases e) | cases rz
  | _ => exact w
theorem pe_binI {op : Operator} {r rt : Option Value} (G : MtG X.prog X.w X.K X.mg X.base CX k C (PySem.dunder op.info.2) ps sp) (hs : PySem.W.selfFirst X.K C = true) (hR : PySem.W.findIn X.K (.ref C) (dunderR op.info.2) = some r) (hb' : ∀ id, r ≠ some (.builtin id)) (fi : fillsNumberSlot (.type "int") op.info.2 = pure true) (ti : typeLookup (.type "int") (dunderR op.info.2) = pure rt)
    (hr : Room k X.A) (hx : ∀ σ, PassesAt CX X σ (E σ)) (ha : PE X a ta) (hb : PE X b tb) : PE X (.BinOp a op b pos) (tBinI C sp E ta tb) where
  run := fun pins s σ H Q I h => wpAny_BinOp (binT ha hb I h fun v u s2 x y H2 I2 rx ry q => by
    obtain ⟨p1, dx, fs, j, rfl, rfl, e1, q⟩ := q
    obtain ⟨f, fd, mt, F, bd⟩ := G.ex
    obtain ⟨od, i1⟩ := inst_of I2 e1
    obtain ⟨_, fr⟩ := I2.fr
    cases rx
    obtain ⟨t, rfl⟩ := ry
    exact binop_KI fr I2.mod.kin i1 hs mt.at_ mt.fn hR hb' fi ti (wpAny_mono (run_fnS (us := [.ref p1, .int j t]) (vs := [.ref p1, .int j]) F hr bd (hx σ) I2 (.cons rfl (.cons ⟨t, rfl⟩ .nil)) q) (fun r s3 w => back_of w) fun _ _ w => w))
theorem pe_binR {op : Operator} {id nn : String} {g : Int → Int → Sem PySem.Fin} (G0 : MtG X.prog X.w X.K X.mg X.base CX' k' C (PySem.dunder op.info.2) ps' sp') (G : MtG X.prog X.w X.K X.mg X.base CX k C (dunderR op.info.2) ps sp) (hs : PySem.W.selfFirst X.K C = true) (hi : PySem.W.subIn X.K (.ref C) (.type "int") = some false) (fi : fillsNumberSlot (.type "int") op.info.2 = pure true)
    (slot : Slot "int" (PySem.dunder op.info.2) id) (entry : entryFor table id = some (PySem.Builtin.Int.intBinary nn g)) (ag : ∀ a b, argsOk id ⟨[a, b], []⟩)
    (hr : Room k X.A) (hx : ∀ σ, PassesAt CX X σ (E σ)) (ha : PE X a ta) (hb : PE X b tb) : PE X (.BinOp a op b pos) (tBinR C sp E ta tb) where
  run := fun pins s σ H Q I h => wpAny_BinOp (binT ha hb I h fun v u s2 x y H2 I2 rx ry q => by
    obtain ⟨p1, dx, fs, j, rfl, rfl, e1, q⟩ := q
    obtain ⟨f0, fd0, mt0, _, _⟩ := G0.ex
    obtain ⟨f, fd, mt, F, bd⟩ := G.ex
    obtain ⟨od, i1⟩ := inst_of I2 e1
    obtain ⟨_, fr⟩ := I2.fr
    cases ry
    obtain ⟨t, rfl⟩ := rx
    exact binop_IK fr I2.mod.kin i1 (fun p z => nomatch z) hs mt0.at_ mt.at_ mt.fn hi fi slot entry ag (wpAny_mono (run_fnS (us := [.ref p1, .int j t]) (vs := [.ref p1, .int j]) F hr bd (hx σ) I2 (.cons rfl (.cons ⟨t, rfl⟩ .nil)) q) (fun r s3 w => back_of w) fun _ _ w => w))
end
end Rd
/-! ClsF: C.m(self, ..) read off the class; C.f, an int. -/
namespace Rd
open PySem PySem.Spec PyProof.Rows L2
structure CFun (K : PySem.W.Frag) (C : Addr) (m : Str) (g : Addr) : Prop where
  rd : PySem.W.readsIn K C (.type "type") = true
  ga : PySem.W.specialIn K (.ref C) "__getattribute__" = some (some (.builtin "type.__getattribute__"))
  at_ : PySem.W.findCls K (.ref C) (.type "type") m = some (.val (.ref g))
  kp : PySem.W.keepIn K (.ref g) = true
section
variable {fa : List He.Fa} {fn : List He.DefD} {xa : List Xa} {fs : Fs} {P : Program} {K : PySem.W.Frag} {mg : Str → Option Value}
theorem Tx.cfun (T : Tx fa fn xa fs P K mg) (i : Nat) {x m : Str} (h : xa[i]? = some (.cfun x m) := by rfl) : CFun K (He.ga K x) m (He.ma K (He.ga K x) m) := by
  obtain ⟨a, r⟩ := He.ba (T.all.own i h)
  obtain ⟨b, r⟩ := He.ba r
  obtain ⟨c, d⟩ := He.ba r
  refine ⟨a, He.eqO_ok b, ?_, d⟩
  split at c
  · rename_i g e
    rw [e, of_decide_eq_true c]
  · cases c
theorem Tx.cint (T : Tx fa fn xa fs P K mg) (i : Nat) {x f : Str} {n : Int} (h : xa[i]? = some (.cint x f n) := by rfl) : ClX.CRead K (He.ga K x) (.type "type") ∧ ∃ u, ClX.CVal K (He.ga K x) (.type "type") f (.int n) u := by
  obtain ⟨a, r⟩ := He.ba (T.all.own i h)
  obtain ⟨b, c⟩ := He.ba r
  refine ⟨⟨a, He.eqO_ok b⟩, ?_⟩
  split at c
  · rename_i j t e
    cases of_decide_eq_true c
    exact ⟨_, e, ⟨t, rfl⟩⟩
  · cases c
theorem Tx.noint (T : Tx fa fn xa fs P K mg) (i : Nat) {x : Str} (h : xa[i]? = some (.noint x) := by rfl) : PySem.W.subIn K (.ref (He.ga K x)) (.type "int") = some false := of_decide_eq_true (T.all.own i h)
end
structure CfG (P : Program) (w : World) (K : PySem.W.Frag) (mg : Str → Option Value) (base : Heap) (CX : CXT) (k : Nat) (x m : Str) (ps : List Str) (sp : Sp) : Prop where
  ex : ∃ g fd, CFun K (He.ga K x) m g ∧ FnOk P w K mg base CX k g fd ps sp ∧ Binds K fd ps []
section
variable {X : Cx} {CX : CXT} {k : Nat} {x m f : Str} {ps : List Str} {sp : Sp} {E : L2.St → XK} {o e : Expr} {es : List Expr} {ta : TE} {t : TA} {pos apos : Pos} {pl : Sem Bool} {n : Int}
theorem pe_cfS (G : CfG X.prog X.w X.K X.mg X.base CX k x m ps sp) (hr : Room k X.A) (hx : ∀ σ, PassesAt CX X σ (E σ)) (ho : PE X o ta) (ha : PA X (e :: es) t) (h1 : starEach (e :: es) X.env = (false, eval e X.env) :: starEach es X.env := by rfl) (h2 : (backTo pos (starEach es X.env)).any (·.1) = false := by rfl)
    (h3 : eval (.Call (.Attribute o m apos) (e :: es) [] pos) X.env = (eval o X.env >>= fun ov => standAt apos.atName >>= fun _ => holding [ov] (getMethod ov m pl) >>= fun fx => callWith pos fx.1 fx.2 (backTo pos (starEach (e :: es) X.env)) (backToKw pos (keywordEach [] X.env))) := by rfl) : PE X (.Call (.Attribute o m apos) (e :: es) [] pos) (tStS (He.ga X.K x) sp E ta t) where
  run := fun pins s σ H Q I h => by
    obtain ⟨g, fd, S, F, bd⟩ := G.ex
    refine PySem.W.methodCall_KW (pl := pl) (wpAny_mono (ho.run pins s σ H _ I h) (fun u s1 z => ?_) fun _ _ w => w) h3
    obtain ⟨y, H1, I1, ry, rfl, z⟩ := z
    cases (show u = Value.ref (He.ga X.K x) from ry)
    refine PySem.W.method_cls I1.kIn S.ga (PySem.W.cls_value I1.kIn S.rd S.at_ rfl ?_)
    have J := I1.tok (s1.toks + 1)
    refine PySem.W.callWith_K (first := []) (h₀ := X.base) I.ok.mod.kin S.kp (wpAny_mono (ha.run pos pins _ σ H1 _ J z) (fun us s2 y => ?_) fun _ _ w => w) h1 h2
    obtain ⟨vs, H2, I2, rv, q2⟩ := y
    exact ⟨I2.kIn, run_fnS (us := us) (vs := vs) F hr bd (hx σ) I2 rv q2⟩
theorem pe_weak {t t' : TE} (p : PE X e t) (w : ∀ σ H Q, t' σ H Q → t σ H Q) : PE X e t' := ⟨fun pins s σ H Q I h => p.run pins s σ H Q I (w σ H Q h)⟩
theorem pe_cint (C : Addr) (c : ClX.CRead X.K C (.type "type") ∧ ∃ u, ClX.CVal X.K C (.type "type") f (.int n) u) (he : PE X e (tC (.ref C))) (hb : attributeBase e f X.env (eval e X.env) = eval e X.env := by rfl) : PE X (.Attribute e f pos) (tC (.int n)) :=
  pe_weak (ClX.pe_cval he hb) fun σ H Q h => let ⟨r, u, v⟩ := c; ⟨C, _, _, u, rfl, r, v, h⟩
end
end Rd
/-! StrR: texts: times, methods, loops over their signs, slices, numbers. -/
namespace Rd
open PySem PySem.Spec PyProof.Rows L2 SX
def rMulS : R2 := fun x y H Q => match x, y with
  | .str a, .int k => MulOk a k ∧ Q (.str (Txt.mul a k)) H
  | _, _ => False
def rFind : V → List V → Hp → VK → Prop := fun x xs H Q => match x, xs with
  | .str a, [.str b] => Q (.int (Txt.find a b)) H
  | _, _ => False
def rRemP : V → List V → Hp → VK → Prop := fun x xs H Q => match x, xs with
  | .str a, [.str b] => a.length ≤ sizeLine ∧ Q (.str (Txt.removeprefix a b)) H
  | _, _ => False
def rJoin (K : PySem.W.Frag) : V → List V → Hp → VK → Prop := fun x xs H Q => match x, xs with
  | .str a, [.ref p] => ∃ ys : List Str, SqL K H p (ys.map V.str) ∧ (ys.map (·.length)).sum + ys.length * a.length ≤ 16777216 ∧ Q (.str (Txt.join a ys)) H
  | _, _ => False
def rIntS : List V → Hp → VK → Prop := fun xs H Q => match xs with
  | [.str a] => ∃ n, PySem.intText? a = some n ∧ a.length ≤ 640 ∧ Q (.int n) H
  | _ => False
def rStrI : List V → Hp → VK → Prop := fun xs H Q => match xs with
  | [.int i] => i.natAbs.log2 < 1920 ∧ Q (.str (Str.ofString (toString i))) H
  | _ => False
section
variable {X : Cx}
theorem oMulS : OpR X (binaryOp .Mult) rMulS := by
  intro pins s σ H x y u v Q I rx ry h
  cases x <;> cases y <;> first | exact h.elim | skip
  obtain ⟨t, rfl⟩ := rx
  obtain ⟨t', rfl⟩ := ry
  exact PySem.SB.mul h.1 fun t' k => ⟨.str _, H, I.tok _, ⟨_, rfl⟩, h.2⟩
theorem mFind : MtR X "str.find" rFind := by
  intro pins s σ H x xs v us Q I rx rs h
  unfold rFind at h
  split at h
  · exact mt_find pins s σ H _ _ v us Q I rx rs ⟨_, _, rfl, rfl, h⟩
  · exact h.elim
theorem mRemP : MtR X "str.removeprefix" rRemP := by
  intro pins s σ H x xs v us Q I rx rs h
  unfold rRemP at h
  split at h
  · exact mt_removeprefix pins s σ H _ _ v us Q I rx rs ⟨_, _, rfl, rfl, h⟩
  · exact h.elim
theorem mJoin : MtR X "str.join" (rJoin X.K) := by
  intro pins s σ H x xs v us Q I rx rs h
  unfold rJoin at h
  split at h
  · obtain ⟨ys, h1, h2, h3⟩ := h
    exact mt_join pins s σ H _ _ v us Q I rx rs ⟨_, _, ys, rfl, rfl, .inl h1, h2, h3⟩
  · exact h.elim
theorem cIntS : CallR X (.type "int") rIntS := by
  intro pins s σ H xs us Q I r h
  unfold rIntS at h
  split at h
  · obtain ⟨n, h1, h2, h3⟩ := h
    exact call_int_str pins s σ H _ us Q I r ⟨_, n, rfl, h1, h2, h3⟩
  · exact h.elim
theorem cStr : CallR X (.type "str") rStrI := by
  intro pins s σ H xs us Q I r h
  unfold rStrI at h
  split at h
  · exact call_str_int pins s σ H _ us Q I r ⟨_, rfl, h.1, h.2⟩
  · exact h.elim
end
def kM1 (r : V → List V → Hp → VK → Prop) (te : TE) (σ : L2.St) (Q : VK) : VK := fun x H => tM1 r (tC x) te σ H Q
def kM2 (r : V → List V → Hp → VK → Prop) (x : V) (Q : VK) : VK := fun y H => r x [y] H Q
def kFS (g : TG) (tb : TS) (D : Ends) (σ : L2.St) : VK := fun x H => tFor (iStr (tC x)) g tb D σ H
def kCS (g : TG) (tt : TT) (ty : TE) (vs : List Nat) (σ : L2.St) (Q : VK) : VK := fun x H => tLc (iStr (tC x)) g tt ty vs σ H Q
section
variable {K : PySem.W.Frag} {σ : L2.St} {H : Hp} {Q : VK} {te to : TE} {x y : V} {z a b : Str} {i k : Int} {c : Nat} {r : V → List V → Hp → VK → Prop} {g : TG} {tb : TS} {D : Ends} {tt : TT} {vs : List Nat} {p : Addr}
theorem w_m1 (h : to σ H (kM1 r te σ Q)) : tM1 r to te σ H Q := h
theorem w_km1 (h : te σ H (kM2 r (.str a) Q)) : kM1 r te σ Q (.str a) H := ⟨⟨a, rfl⟩, h⟩
theorem w_km2 (h : r x [y] H Q) : kM2 r x Q y H := h
theorem w_forS (h : te σ H (kFS g tb D σ)) : tFor (iStr te) g tb D σ H := h
theorem w_lcS (h : te σ H (kCS g tt to vs σ Q)) : tLc (iStr te) g tt to vs σ H Q := h
theorem w_find (h : Q (.int (Txt.find a b)) H) : rFind (.str a) [.str b] H Q := h
theorem w_remP (hl : a.length ≤ sizeLine) (h : Q (.str (Txt.removeprefix a b)) H) : rRemP (.str a) [.str b] H Q := ⟨hl, h⟩
theorem w_join {ys : List Str} (hp : H p = some (.lst (ys.map V.str))) (hl : (ys.map (·.length)).sum + ys.length * a.length ≤ 16777216) (h : Q (.str (Txt.join a ys)) H) : rJoin K (.str a) [.ref p] H Q := ⟨ys, SqL.of hp, hl, h⟩
theorem w_mulS (hk : MulOk a k) (h : Q (.str (Txt.mul a k)) H) : rMulS (.str a) (.int k) H Q := ⟨hk, h⟩
theorem w_intS {n : Int} (h1 : PySem.intText? a = some n) (h2 : a.length ≤ 640) (h : Q (.int n) H) : rIntS [.str a] H Q := ⟨n, h1, h2, h⟩
theorem w_strI (h1 : i.natAbs.log2 < 1920) (h : Q (.str (Str.ofString (toString i))) H) : rStrI [.int i] H Q := ⟨h1, h⟩
theorem w_inS (h : Q (.bl (decide (c ∈ z.cps.toList))) H) : rInS (.str ⟨#[c]⟩) (.str z) H Q := ⟨c, z, rfl, rfl, h⟩
theorem w_notInS (h : Q (.bl (!decide (c ∈ z.cps.toList))) H) : rNotInS (.str ⟨#[c]⟩) (.str z) H Q := ⟨c, z, rfl, rfl, h⟩
theorem w_any {bs : List Bool} (hp : H p = some (.lst (bs.map V.bl))) (h : Q (.bl (bs.any id)) H) : rAny K [.ref p] H Q := ⟨p, bs, rfl, SqL.of hp, h⟩
theorem w_all {bs : List Bool} (hp : H p = some (.lst (bs.map V.bl))) (h : Q (.bl (bs.all id)) H) : rAll K [.ref p] H Q := ⟨p, bs, rfl, SqL.of hp, h⟩
theorem w_slS {lo hi : Option Int} (hl : z.length ≤ sizeLine) (h : Q (.str (Txt.slice z lo hi)) H) : C8.rSlX (.str z) lo hi H Q := ⟨z, rfl, hl, h⟩
theorem for_S (Pv : Nat → L2.St → Hp → Prop) (h0 : Pv 0 σ H)
    (step : ∀ i c σ H, z.cps.toList[i]? = some c → Pv i σ H → g (.str ⟨#[c]⟩) σ H fun σ2 H2 => tb { D with nx := Pv (i + 1), ct := Pv (i + 1), bk := D.nx } σ2 H2)
    (done : ∀ σ H, Pv z.length σ H → D.nx σ H) : kFS g tb D σ (.str z) H := by
  refine ⟨z, rfl, for_it walk_str Pv h0 (fun _ _ _ _ _ => trivial) ?_ done⟩
  rintro i x σ H H' _ p ⟨rfl, c, hc, rfl⟩
  exact step i c σ _ (by simpa using hc) p
theorem lc_S {G : Hp → Hp → Prop} (gs : GoesOn G H) (R : Nat → List V → Prop) (r0 : R 0 [])
    (step : ∀ (D : Addr) i c acc H1, H D = none → z.cps.toList[i]? = some c → R i acc → G H H1 → H1 D = some (.lst acc) → LcStep G H D R g tt to vs σ i (.str ⟨#[c]⟩) H1)
    (done : ∀ (l : Addr) (acc : List V) (H' : Hp), H l = none → G H H' → H' l = some (.lst acc) → R z.length acc → Q (.ref l) H') : kCS g tt to vs σ Q (.str z) H := by
  refine ⟨z, rfl, fun D hD => lc_it walk_str (LcP G H D R) ⟨[], upd_same, gs.put gs.refl hD, r0⟩ (fun _ _ _ _ => trivial) ?_ ?_⟩
  · rintro i x H0 H' _ ⟨acc, ha, s, r⟩ ⟨rfl, c, hc, rfl⟩
    exact step D i c acc _ hD (by simpa using hc) r s ha
  · rintro H' ⟨acc, ha, s, r⟩
    exact done D acc H' hD s ha r
/-! by length alone -/
theorem cat_len (a b : Str) : (a ++ b).length = a.length + b.length := by rw [TL.len_tl, TL.tl_append, List.length_append, ← TL.len_tl, ← TL.len_tl]
theorem n_addS {m n : Nat} (ha : a.length ≤ m) (hb : b.length ≤ n) (hl : (m + n).ble 1000000 = true) (h : ∀ s : Str, s.length = a.length + b.length → s.length ≤ m + n → Q (.str s) H) : uAdd (.str a) (.str b) H Q :=
  w_addS (by have := Nat.le_of_ble_eq_true hl; rw [sizeLine_eq]; omega) (h _ (cat_len a b) (by rw [cat_len]; omega))
theorem n_mulS {m : Nat} (ha : a.length ≤ 1) (h0 : -5 ≤ k) (hk : k ≤ (m : Int)) (hm : m.ble 1000000 = true) (h : ∀ s : Str, s.length ≤ m → Q (.str s) H) : rMulS (.str a) (.int k) H Q := by
  have := Nat.le_of_ble_eq_true hm
  refine w_mulS (mulOk_of 1 m ha hk (by omega) (by omega) (by omega)) (h _ ?_)
  have := len_mul_leN ha hk
  omega
theorem n_ixS {m : Int} {k : Nat} (hk : z.length = k) (h0 : 0 ≤ i) (h1 : i < m) (hm : m.toNat.ble k = true) (hz : k.ble 1000000 = true) (h : ∀ c, Q (.str ⟨#[c]⟩) H) : rIx K (.str z) (.int i) H Q := by
  have lt : i.toNat < z.cps.toList.length := by
    have := Nat.le_of_ble_eq_true hm
    rw [← (TL.len_tl z : z.length = z.cps.toList.length)]
    omega
  exact w_ixS (by have := Nat.le_of_ble_eq_true hz; rw [sizeLine_eq]; omega) (atI_of h0 (List.getElem?_eq_getElem lt)) (h _)
theorem n_ixSL (hz : z.length ≤ 1000000) (h0 : 0 ≤ i) (h1 : i < z.length) (h : ∀ c, Q (.str ⟨#[c]⟩) H) : rIx K (.str z) (.int i) H Q := by
  have lt : i.toNat < z.cps.toList.length := by
    rw [← (TL.len_tl z : z.length = z.cps.toList.length)]
    omega
  exact w_ixS (by rw [sizeLine_eq]; omega) (atI_of h0 (List.getElem?_eq_getElem lt)) (h _)
theorem slice_lenTo (h0 : 0 ≤ i) : (Txt.slice z none (some i)).length ≤ z.length := by
  rw [← S_tl z, slice_to h0, S_len, S_len, List.length_take]; omega
theorem slice_lenFrom (h0 : 0 ≤ i) : (Txt.slice z (some i) none).length ≤ z.length := by
  rw [← S_tl z, slice_from h0, S_len, S_len, List.length_drop]; omega
theorem n_slTo {m : Nat} (hz : z.length ≤ m) (hm : m.ble 1000000 = true) (h0 : 0 ≤ i) (h : ∀ s : Str, s.length ≤ m → Q (.str s) H) : C8.rSlX (.str z) none (some i) H Q :=
  w_slS (by have := Nat.le_of_ble_eq_true hm; rw [sizeLine_eq]; omega) (h _ (Nat.le_trans (slice_lenTo h0) hz))
theorem n_slFrom {m : Nat} (hz : z.length ≤ m) (hm : m.ble 1000000 = true) (h0 : 0 ≤ i) (h : ∀ s : Str, s.length ≤ m → Q (.str s) H) : C8.rSlX (.str z) (some i) none H Q :=
  w_slS (by have := Nat.le_of_ble_eq_true hm; rw [sizeLine_eq]; omega) (h _ (Nat.le_trans (slice_lenFrom h0) hz))
theorem n_lenS {m : Nat} (hz : z.length ≤ m) (hm : m.ble 1000000 = true) (h : Q (.int z.length) H) : rLen K [.str z] H Q := w_lenS (by have := Nat.le_of_ble_eq_true hm; rw [sizeLine_eq]; omega) h
theorem w_eqS_t (e : a = b) (h : Q (.bl true) H) : rEq (.str a) (.str b) H Q := w_eqS (by rw [decide_eq_true e]; exact h)
/-- none of the classes in a tuple -/
def NoneOfV (K : PySem.W.Frag) (D : Addr) : List V → Prop
  | [] => True
  | .ref C :: r => PySem.W.kitOne K (.ref D) (.ref C) = some false ∧ NoneOfV K D r
  | _ :: _ => False
theorem noneOfV {D : Addr} : ∀ {vs : List V}, NoneOfV K D vs → ∃ Cs : List Addr, vs = Cs.map V.ref ∧ NoneOf K D Cs
  | [], _ => ⟨[], rfl, trivial⟩
  | .ref C :: r, h => let ⟨Cs, e, n⟩ := noneOfV (vs := r) h.2; ⟨C :: Cs, by rw [e]; rfl, h.1, n⟩
theorem w_isxsV {a D tp : Addr} {fs : Option (List (Str × V))} {vs : List V} (hx : XcAt H a D fs) (c : ExcC K D) (ht : H tp = some (.tup vs)) (e : NoneOfV K D vs) (h : Q (.bl false) H) : uIsiT K [.ref a, .ref tp] H Q := by
  obtain ⟨Cs, rfl, n⟩ := noneOfV e
  exact w_isxs Cs hx c ht n h
/-- signs joined -/
theorem joinL_one : ∀ cs : List Nat, TL.joinL [] (cs.map fun c => [c]) = cs
  | [] => rfl
  | [_] => rfl
  | c :: d :: r => by
    show [c] ++ ([] ++ TL.joinL [] ((d :: r).map fun c => [c])) = _
    rw [joinL_one (d :: r)]; rfl
theorem join_one (cs : List Nat) : Txt.join (Str.ofString "") (cs.map fun c => (⟨#[c]⟩ : Str)) = S cs := by
  have e := join_S [] (cs.map fun c => [c])
  rw [joinL_one, List.map_map] at e
  exact e
theorem n_joinOne {cs : List Nat} (hp : H p = some (.lst (cs.map fun c => V.str ⟨#[c]⟩))) (hl : cs.length ≤ 1000000) (h : Q (.str (S cs)) H) : rJoin K (.str (Str.ofString "")) [.ref p] H Q := by
  refine w_join (ys := cs.map fun c => (⟨#[c]⟩ : Str)) (by rw [List.map_map]; exact hp) ?_ (by rw [join_one]; exact h)
  have e : ∀ cs : List Nat, ((cs.map fun c => (⟨#[c]⟩ : Str)).map (·.length)).sum = cs.length := fun cs => by
    induction cs with
    | nil => rfl
    | cons a r ih => rw [List.map_cons, List.map_cons, List.sum_cons, ih, List.length_cons]; show 1 + _ = _; omega
  rw [e]
  show cs.length + _ * 0 ≤ _
  omega
/-- texts of at most n signs -/
def AllS (n : Nat) (xs : List V) : Prop := ∀ v ∈ xs, ∃ s : Str, v = .str s ∧ s.length ≤ n
theorem AllS.nil {n : Nat} : AllS n [] := fun _ h => nomatch h
theorem AllS.cons {n m : Nat} {xs : List V} (ha : a.length ≤ m) (hm : m.ble n = true) (h : AllS n xs) : AllS n (.str a :: xs) := fun v hv => by
  rcases List.mem_cons.mp hv with rfl | hv
  · exact ⟨a, rfl, Nat.le_trans ha (Nat.le_of_ble_eq_true hm)⟩
  · exact h v hv
theorem AllS.app {n : Nat} {xs ys : List V} (h : AllS n xs) (h2 : AllS n ys) : AllS n (xs ++ ys) := fun v hv => (List.mem_append.mp hv).elim (h v) (h2 v)
theorem AllS.at_ {n : Nat} {xs : List V} (h : AllS n xs) {i : Nat} {x : V} (hx : xs[i]? = some x) : ∃ s : Str, x = .str s ∧ s.length ≤ n := h x (List.mem_of_getElem? hx)
theorem take_one {α : Type} {l : List α} {i : Nat} {x : α} (h : l[i]? = some x) : l.take (i + 1) = l.take i ++ [x] := by rw [List.take_succ, h]; rfl
theorem lenS_eq : z.length = z.cps.toList.length := TL.len_tl z
end
end Rd
/-! SupI: super().m(e, .., k = v, ..) at the head of a def of an own class; C(e, .., k = v, ..). -/
namespace Rd
open PySem PySem.Spec PyProof.Rows PySem.W PySem.Calls L2
structure SupF (K : PySem.W.Frag) (C : Addr) (m : Str) (g : Addr) : Prop where
  op : PySem.W.nsIn K cStatics "thirdparty.any" = some none
  ini : ks_superIn K C C m = some (some (.ref g))
  slf : PySem.W.mroIn K C (.ref C) = some true
  fn : typeIn K (.ref g) = some (.type "function")
  fi : PySem.W.fnIn K g = true
section
variable {fa : List He.Fa} {fn : List He.DefD} {xa : List Xa} {fs : Fs} {P : Program} {K : PySem.W.Frag} {mg : Str → Option Value}
theorem Tx.sup (T : Tx fa fn xa fs P K mg) (i : Nat) {x m y : Str} (h : xa[i]? = some (.sup x m y) := by rfl) : SupF K (He.ga K x) m (He.ma K (He.ga K y) m) := by
  obtain ⟨a, r⟩ := He.ba (T.all.own i h)
  obtain ⟨b, r⟩ := He.ba r
  obtain ⟨c, r⟩ := He.ba r
  obtain ⟨d, e⟩ := He.ba r
  exact ⟨He.eqO_ok a, He.eqO_ok b, of_decide_eq_true c, of_decide_eq_true d, e⟩
theorem Tx.heir (T : Tx fa fn xa fs P K mg) (i : Nat) {x m y : Str} (h : xa[i]? = some (.heir x m y) := by rfl) : He.ma K (He.ga K x) m = He.ma K (He.ga K y) m := of_decide_eq_true (T.all.own i h)
end
abbrev supE (m : Str) (e : Expr) (es : List Expr) (kws : List Keyword) (p0 p1 apos pos : Pos) : Expr := .Call (.Attribute (.Call (.Name "super" p0) [] [] p1) m apos) (e :: es) kws pos
def GoesSupK (env : Env) (m : Str) (e : Expr) (es : List Expr) (kws : List Keyword) (p0 p1 apos pos : Pos) : Prop := ∃ pl : Sem Bool, eval (supE m e es kws p0 p1 apos pos) env = (do
  let ov ← attributeBase (.Call (.Name "super" p0) [] [] p1) m env (eval (.Call (.Name "super" p0) [] [] p1) env)
  standAt apos.atName
  let (fx, first) ← holding [ov] (getMethod ov m pl)
  callWith pos fx first (backTo pos (starEach (e :: es) env)) (backToKw pos (keywordEach kws env)))
/-- the statement's reading: the receiver is the first slot -/
def tSup (C g : Addr) (n m : Nat) (sp : Sp) (gV : List V → List V → List V) (E : XK) (t tk : TA) : TS := fun D σ H => ∃ a dx fs, σ[0]? = some (some (.ref a)) ∧ H a = some (.ins C dx fs) ∧
  ∀ q, H q = none → t σ (upd H q (.met g a)) fun vs H1 => tk σ H1 fun zs H2 => vs.length = n ∧ zs.length = m ∧ H2 q = some (.met g a) ∧ sp (gV (.ref a :: vs) zs) H2 (fun _ H3 => D.nx σ H3) E
section
variable {CX CX' : CXT} {P : Program} {w : World} {K : PySem.W.Frag} {mg : Str → Option Value} {base : Heap} {N ps ps' : List Str} {qual : Str} {sc sc0 : Scope} {f cc C cda g : Addr} {A : Around} {outer : List Env} {s0 s : Shared} {H0 H : Hp} {E E' : XK} {σ : L2.St}
  {cl : Value} {cld : Option Addr} {csl : Array (Option Value)} {body : List Stmt} {k n : Nat} {ks : List Str} {sp' : Sp} {fd' : FuncData} {gg : List Value → List Value → List Value} {gV : List V → List V → List V} {t tk : TA}
theorem sup_kw {x m : Str} {e : Expr} {es : List Expr} {kws : List Keyword} {p0 p1 apos pos pos' : Pos} {D : Ends} (I : L2.Inv (cxD CX P w K mg base N qual sc sc0 f (.ref cda) cc A outer s0 H0 E) [] σ H s) (S : ClsScope N ps sc sc0) (U : SupAt P K mg sc f cda x) (T2 : SupF K C m g)
    (h0 : N[0]? = some x) (hx : sc.names.lookup x = some .local) (lc : K.lookup cc = some ⟨cl, cld, .cell (some (.ref C)), csl⟩)
    (F : FnOk P w K mg base CX' k g fd' ps' sp') (hr : Room k (A.deeper (cenv qual sc s0.heap.objs.size f (.ref cda) cc))) (hb : KBn K fd' ps' (n + 1) ks gg gV) (hp : Passes CX' (cxD CX P w K mg base N qual sc sc0 f (.ref cda) cc A outer s0 H0 E) E')
    (ha : PA (cxD CX P w K mg base N qual sc sc0 f (.ref cda) cc A outer s0 H0 E) (e :: es) t) (hkw : PK (cxD CX P w K mg base N qual sc sc0 f (.ref cda) cc A outer s0 H0 E) kws tk)
    (go : GoesSupK (cenv qual sc s0.heap.objs.size f (.ref cda) cc) m e es kws p0 p1 apos pos) (hsw : swapsWith (supE m e es kws p0 p1 apos pos) none pos'.line (cenv qual sc s0.heap.objs.size f (.ref cda) cc) = pure false) (hat : (m == ("__class__" : Str)) = false)
    (hall : (backToKw pos (keywordEach kws (cenv qual sc s0.heap.objs.size f (.ref cda) cc))).all (·.1.isSome) = true) (hks : (backToKw pos (keywordEach kws (cenv qual sc s0.heap.objs.size f (.ref cda) cc))).filterMap (·.1) = ks)
    (he : starEach (e :: es) (cenv qual sc s0.heap.objs.size f (.ref cda) cc) = (false, eval e (cenv qual sc s0.heap.objs.size f (.ref cda) cc)) :: starEach es (cenv qual sc s0.heap.objs.size f (.ref cda) cc))
    (hpl : ((backTo pos (starEach (e :: es) (cenv qual sc s0.heap.objs.size f (.ref cda) cc))).any (·.1) || (backToKw pos (keywordEach kws (cenv qual sc s0.heap.objs.size f (.ref cda) cc))).any (·.1.isNone)) = false)
    (h : tSup C g n ks.length sp' gV E' t tk D σ H) :
    _root_.PySem.wpAt (model P w) (A.deeper (cenv qual sc s0.heap.objs.size f (.ref cda) cc)) (.func body (cenv qual sc s0.heap.objs.size f (.ref cda) cc)) (exec (.Expr (supE m e es kws p0 p1 apos pos) pos') (cenv qual sc s0.heap.objs.size f (.ref cda) cc))
      (fun fl s' => fl = .next ∧ ∃ H3, D.nx σ H3 ∧ L2.Inv (cxD CX P w K mg base N qual sc sc0 f (.ref cda) cc A outer s0 H0 E) [] σ H3 s') (cxD CX P w K mg base N qual sc sc0 f (.ref cda) cc A outer s0 H0 E).xe s := by
  obtain ⟨a, dx, fl, hσ, e1, h⟩ := h
  obtain ⟨pl, hev⟩ := go
  obtain ⟨od, inst⟩ := inst_of I e1
  obtain ⟨cdC, hcd, hal⟩ : ∃ cdC, clsIn K C = some cdC ∧ alongIn K m ((cdC.mro.dropWhile (· != .ref C)).drop 1) = some (some (.ref g)) := by
    have q := T2.ini
    unfold ks_superIn at q
    cases z : clsIn K C with
    | none => rw [z] at q; cases q
    | some c => rw [z] at q; exact ⟨c, rfl, q⟩
  refine ks_wpAt_Expr_any ?_ I.quiet hsw
  rw [hev]
  have last : ∀ (ov : Value) (s1 : Shared), wpAny (model P w) (A.deeper (cenv qual sc s0.heap.objs.size f (.ref cda) cc)) (getMethod ov m pl) (fun fx s2 => wpAny (model P w) (A.deeper (cenv qual sc s0.heap.objs.size f (.ref cda) cc)) (callWith pos fx.1 fx.2 (backTo pos (starEach (e :: es) (cenv qual sc s0.heap.objs.size f (.ref cda) cc))) (backToKw pos (keywordEach kws (cenv qual sc s0.heap.objs.size f (.ref cda) cc))))
      (fun _ s' => Flow.next = .next ∧ ∃ H3, D.nx σ H3 ∧ L2.Inv (cxD CX P w K mg base N qual sc sc0 f (.ref cda) cc A outer s0 H0 E) [] σ H3 s') (cxD CX P w K mg base N qual sc sc0 f (.ref cda) cc A outer s0 H0 E).xe s2) (cxD CX P w K mg base N qual sc sc0 f (.ref cda) cc A outer s0 H0 E).xe s1 →
      wpAny (model P w) (A.deeper (cenv qual sc s0.heap.objs.size f (.ref cda) cc)) (do
        standAt apos.atName
        let (fx, first) ← holding [ov] (getMethod ov m pl)
        callWith pos fx first (backTo pos (starEach (e :: es) (cenv qual sc s0.heap.objs.size f (.ref cda) cc))) (backToKw pos (keywordEach kws (cenv qual sc s0.heap.objs.size f (.ref cda) cc))))
        (fun _ s' => Flow.next = .next ∧ ∃ H3, D.nx σ H3 ∧ L2.Inv (cxD CX P w K mg base N qual sc sc0 f (.ref cda) cc A outer s0 H0 E) [] σ H3 s') (cxD CX P w K mg base N qual sc sc0 f (.ref cda) cc A outer s0 H0 E).xe s1 := by
    intro ov s1 got
    apply wpAny_bind
    apply wpAny_standAt
    apply wpAny_bind
    apply wpAny_holding
    exact wpAny_mono got (fun _ _ z => z) fun _ _ z => z
  refine _root_.PySem.wpAt_bind (ks_wpAt_mono (sup_here I S U h0 hx hσ lc hcd inst.at_ inst.cls (fun c z => by cases z) T2.slf hat (Q := fun ov s1 => _) fun so h1 gso k1 => ?_) (fun ov s1 h1 => wpAt_of_wpAny (last ov s1 h1)) fun _ _ z => z)
  have I1 := I.kept (t' := s.toks) k1
  have kin : K.In h1 := I1.kIn
  obtain ⟨od1, inst1⟩ := inst_of I1 e1
  have mro : Looks (model P w) h1 (mroOf (.ref C)) cdC.mro := (looks_clsIn kin hcd).andThen .now
  obtain ⟨og, hog, hoc⟩ : ∃ og, h1.get? g = some og ∧ og.cls = .type "function" := by
    have q : (K.lookup g).map (·.cls) = some (.type "function") := T2.fn
    cases z : K.lookup g with
    | none => rw [z] at q; cases q
    | some og => rw [z] at q; exact ⟨og, kin _ _ z, Option.some.inj q⟩
  obtain ⟨hs, gs, d, tok, os⟩ := s
  refine ks_wpAny_getMethod_super gso (looks_opaque kin T2.op) mro rfl kin hal hog hoc (ks_ne kin inst1 hcd) hat ?_
  have I2 := I1.laid (t' := tok + 1) (h' := h1.push (PySem.W.methodObj (.ref g) (.ref a))) (a := h1.objs.size) (o := .met g a) (fun b u z => Heap.get?_push_of_some _ z) (Nat.le_refl _)
    (show (h1.push (PySem.W.methodObj (.ref g) (.ref a))).get? h1.objs.size = some (PySem.W.methodObj (.ref g) (.ref a)) from Heap.get?_push_size _ rfl)
  refine callwith_met (X := cxD CX P w K mg base N qual sc sc0 f (.ref cda) cc A outer s0 H0 E) (g := g) (a := a) hpl T2.fi (evalArgs_kw2 hall (wpAny_mono (ha.run pos [] _ σ _ _ I2 (h h1.objs.size (I1.hok.fresh (Nat.le_refl _)))) (fun us s2 z => ?_) fun _ _ z => z) he)
  obtain ⟨vs, H1, J1, r1, q1⟩ := z
  refine wpAny_mono (hkw.run pos [] s2 σ H1 _ J1 q1) (fun ws s3 z => ?_) fun _ _ z => z
  obtain ⟨zs, H2, J2, r2, l1, l2, hm, hq⟩ := z
  refine ⟨met_P J2 hm, ?_⟩
  dsimp only
  rw [hks]
  have rr : Vals (V.ref a :: vs) (Value.ref a :: us) := .cons rfl r1
  have ln : (Value.ref a :: us).length = n + 1 := by rw [List.length_cons, ← r1.length, l1]
  refine wpAny_call (call_met J2 hm (codeAny_mono (F.run _ _ s3 H2 ⟨Value.ref a :: us, ks.zip ws⟩ (gg (Value.ref a :: us) ws) (gV (.ref a :: vs) zs) _ E' hr J2.env0 (hb.to s3 (Value.ref a :: us) ws J2.kIn ln (r2.length.symm.trans l2)) (hb.rel rr r2) hq) fun r s' hq' => ?_))
  cases r with
  | error er => exact hp [] σ _ _ er s' J2 hq'
  | ok fw =>
    cases fw with
    | ret u =>
      obtain ⟨v, H3, J3, _, q3⟩ := J2.after hq'
      exact ⟨rfl, H3, q3, J3⟩
    | next => exact False.elim hq'
    | brk => exact False.elim hq'
    | cont => exact False.elim hq'
end
section
variable {fa : List He.Fa} {fn : List He.DefD} {xa : List Xa} {fs : Fs} {CX CX' : CXT} {P : Program} {w : World} {K : PySem.W.Frag} {mg : Str → Option Value} {base : Heap}
/-- a def whose first row is super().m(e, .., k = v, ..) -/
theorem fn_sup {N ps ps' ks : List Str} {name qual x m self : Str} {st : Stmt} {rest : List Stmt} {dvs : List V} {kwv : List (Str × V)} {f g : Addr} {fd fd' : FuncData} {k k' n : Nat} {sp sp' : Sp} {gg : List Value → List Value → List Value} {gV : List V → List V → List V} {ar : Arg}
    {e : Expr} {es : List Expr} {kws : List Keyword} {p0 p1 apos pos pos' : Pos} (T : Tx fa fn xa fs P K mg) (hs : mg "super" = none) (F : FunS K name qual st dvs kwv (He.ga K x) f fd) (T2 : SupF K (He.ga K x) m g) (G : FnOk P w K mg base CX' k' g fd' ps' sp') (hb : KBn K fd' ps' (n + 1) ks gg gV)
    (hbd : defBody st = .Expr (supE m e es kws p0 p1 apos pos) pos' :: rest) (ha : ((defArgs st).posonlyargs ++ (defArgs st).args).head? = some ar) (har : ar.arg = self) (h0 : N[0]? = some self)
    (S : ClsScope N ps (defScope st) (noCls (defScope st))) (hl : ∀ v ∈ ps, (defScope st).names.lookup v = some .local) (hnc : ∀ v ∈ ps, v ≠ "__class__") (hself : self ∈ ps) (hh : (defScope st).names.lookup ("super" : Str) = some NameKind.globalImplicit) (hat : (m == ("__class__" : Str)) = false)
    (go : ∀ L ff cda cc, GoesSupK (cenv qual (defScope st) L ff (.ref cda) cc) m e es kws p0 p1 apos pos) (hsw : ∀ L ff cda cc, swapsWith (supE m e es kws p0 p1 apos pos) none pos'.line (cenv qual (defScope st) L ff (.ref cda) cc) = pure false)
    (hall : ∀ L ff cda cc, (backToKw pos (keywordEach kws (cenv qual (defScope st) L ff (.ref cda) cc))).all (·.1.isSome) = true) (hks : ∀ L ff cda cc, (backToKw pos (keywordEach kws (cenv qual (defScope st) L ff (.ref cda) cc))).filterMap (·.1) = ks)
    (he : ∀ L ff cda cc, starEach (e :: es) (cenv qual (defScope st) L ff (.ref cda) cc) = (false, eval e (cenv qual (defScope st) L ff (.ref cda) cc)) :: starEach es (cenv qual (defScope st) L ff (.ref cda) cc))
    (hpl : ∀ L ff cda cc, ((backTo pos (starEach (e :: es) (cenv qual (defScope st) L ff (.ref cda) cc))).any (·.1) || (backToKw pos (keywordEach kws (cenv qual (defScope st) L ff (.ref cda) cc))).any (·.1.isNone)) = false)
    (hk : k' ≤ k) (len : ∀ vs H Q E, sp vs H Q E → vs.length = ps.length)
    (rd : ∀ (cda cc : Addr) (A : Around) (outer : List Env) (s : Shared) (H : Hp) (vs : List V) (Q : VK) (E : XK), Room k (A.deeper (cenv qual (defScope st) s.heap.objs.size f (.ref cda) cc)) → sp vs H Q E →
      ∃ t tk E' t2, PA (cxD CX P w K mg base N qual (defScope st) (noCls (defScope st)) f (.ref cda) cc A outer s H E) (e :: es) t ∧ PK (cxD CX P w K mg base N qual (defScope st) (noCls (defScope st)) f (.ref cda) cc A outer s H E) kws tk ∧
        Passes CX' (cxD CX P w K mg base N qual (defScope st) (noCls (defScope st)) f (.ref cda) cc A outer s H E) E' ∧ PSs (cxD CX P w K mg base N qual (defScope st) (noCls (defScope st)) f (.ref cda) cc A outer s H E) rest t2 ∧
        tSeq (tSup (He.ga K x) g n ks.length sp' gV E' t tk) t2 { nx := fun _ H' => Q .non H', rt := Q } (start N vs) H) :
    FnOk P w K mg base CX (k + 1) f fd ps sp := by
  obtain ⟨oc, od, dV, kV, doc, pm, an, cda, ct, osl, cc, cl, cld, csl, rfl, lk, hcd, hd, _, lc, ccl, cdd, vs0, sl, tf, e2, e3⟩ := F.ex
  have U : SupAt P K mg (defScope st) f cda ar.arg := sup_at T hs lk ha e2 e3 hh
  rw [har] at U
  have hl0 : ∀ v ∈ ps, (noCls (defScope st)).names.lookup v = some .local := fun v hv => (S.same v (hnc v hv)).symm.trans (hl v hv)
  rw [hbd] at lk ⊢
  refine fn_cell lk hcd lc S len (fun v hv => ⟨hl v hv, hl0 v hv⟩) fun A outer s H vs Q E s1 hr hsp I => ?_
  obtain ⟨t, tk, E', t2, a1, a2, a3, a4, q⟩ := rd cda cc A outer s H vs Q E hr hsp
  refine ks_wpAt_execs_cons (ks_wpAt_mono (sup_kw (D := ⟨t2 { nx := fun _ H' => Q .non H', rt := Q }, Q, fun _ _ => False, fun _ _ => False⟩) I S U T2 h0 (hl self hself) lc G (hr.mono hk) hb a3 a1 a2 (go _ _ _ _) (hsw _ _ _ _) hat (hall _ _ _ _) (hks _ _ _ _) (he _ _ _ _) (hpl _ _ _ _) q) (fun fl s2 z => ?_) fun _ _ z => z)
  obtain ⟨rfl, H3, q3, J⟩ := z
  exact wpAt_of_wpAny (a4.run [] s2 _ H3 _ J q3)
end
def kSup2 (g a q : Addr) (n m : Nat) (sp : Sp) (gV : List V → List V → List V) (E : XK) (tk : TA) (σ : L2.St) (nx : L2.St → Hp → Prop) : List V → Hp → Prop := fun vs H1 => tk σ H1 fun zs H2 => vs.length = n ∧ zs.length = m ∧ H2 q = some (.met g a) ∧ sp (gV (.ref a :: vs) zs) H2 (fun _ H3 => nx σ H3) E
theorem w_sup {C g : Addr} {n m : Nat} {sp : Sp} {gV : List V → List V → List V} {E : XK} {t tk : TA} {σ : L2.St} {H : Hp} {nx bk ct : L2.St → Hp → Prop} {rt : VK} {a dx : Addr} {fs : List (Str × V)} (hσ : σ[0]? = some (some (.ref a))) (ha : H a = some (.ins C dx fs))
    (h : ∀ (q : Addr) (H' : Hp), H q = none → Same H H' → H' q = some (.met g a) → t σ H' (kSup2 g a q n m sp gV E tk σ nx)) : tSup C g n m sp gV E t tk ⟨nx, rt, bk, ct⟩ σ H := ⟨a, dx, fs, hσ, ha, fun q hq => h q _ hq (same_new hq) upd_same⟩
def kSup3 (g a q : Addr) (n m : Nat) (sp : Sp) (gV : List V → List V → List V) (E : XK) (vs : List V) (σ : L2.St) (nx : L2.St → Hp → Prop) : List V → Hp → Prop := fun zs H2 => vs.length = n ∧ zs.length = m ∧ H2 q = some (.met g a) ∧ sp (gV (.ref a :: vs) zs) H2 (fun _ H3 => nx σ H3) E
section
variable {g a q : Addr} {n m : Nat} {sp : Sp} {gV : List V → List V → List V} {E : XK} {tk : TA} {σ : L2.St} {nx : L2.St → Hp → Prop} {vs zs : List V} {H : Hp}
theorem w_ksup2 (h : tk σ H (kSup3 g a q n m sp gV E vs σ nx)) : kSup2 g a q n m sp gV E tk σ nx vs H := h
theorem w_ksup3 (l1 : vs.length = n) (l2 : zs.length = m) (hq : H q = some (.met g a)) (h : sp (gV (.ref a :: vs) zs) H (fun _ H3 => nx σ H3) E) : kSup3 g a q n m sp gV E vs σ nx zs H := ⟨l1, l2, hq, h⟩
end
end Rd
/-! MkK: C(e, .., k = v, ..) of an own class whose __init__ has keyword-only parameters; written tuples as defaults. -/
namespace Rd
open PySem PySem.Spec PyProof.Rows PySem.W L2
theorem wtup_ok {K : PySem.W.Frag} {a : Addr} {is : List Int} (hl : is.length ≤ 100) (h : wtupB K a is = true) (H : Hp) : SqT K H a (is.map V.int) := by
  unfold wtupB at h
  split at h
  · rename_i c d its n sl q
    obtain ⟨e, r⟩ := He.ba h
    have e := of_decide_eq_true e
    subst e
    have v := He.relAll_ok r
    refine .inr ⟨_, its, n, q, rfl, rfl, ?_, v⟩
    have l := v.length
    simp only [List.length_map, Array.length_toList] at l
    rw [sizeLine_eq]; omega
  · cases h
section
variable {fa : List He.Fa} {fn : List He.DefD} {xa : List Xa} {fs : Fs} {P : Program} {K : PySem.W.Frag} {mg : Str → Option Value}
theorem Tx.tupD (T : Tx fa fn xa fs P K mg) (j : Nat) {x : Str} {i : Nat} {is : List Int} (h : xa[j]? = some (.tupD x i is) := by rfl) (H : Hp) : SqT K H (He.dflAt (x, some "__init__") i K) (is.map V.int) :=
  let ⟨a, b⟩ := He.ba (T.all.own j h); wtup_ok (of_decide_eq_true a) b H
theorem Tx.tupK (T : Tx fa fn xa fs P K mg) (j : Nat) {x k : Str} {is : List Int} (h : xa[j]? = some (.tupK x k is) := by rfl) (H : Hp) : SqT K H (kwAt (x, some "__init__") k K) (is.map V.int) :=
  let ⟨a, b⟩ := He.ba (T.all.own j h); wtup_ok (of_decide_eq_true a) b H
end
theorem Same.tup {K : PySem.W.Frag} {H H' : Hp} {a : Addr} {xs : List V} (e : Same H H') (h : SqT K H a xs) : SqT K H' a xs := by
  rcases h with (h | ⟨o, h⟩) | h
  · exact .inl (.inl (e _ _ h))
  · exact .inl (.inr ⟨o, e _ _ h⟩)
  · exact .inr h
/-- a class that is made by its __init__ with n values and the keywords ks -/
structure MkK (P : Program) (w : World) (K : PySem.W.Frag) (mg : Str → Option Value) (base : Heap) (CX : CXT) (k : Nat) (x : Str) (ps : List Str) (n : Nat) (ks : List Str) (gV : List V → List V → List V) (sp : Sp) : Prop where
  ex : ∃ f fd g, mg x = some (.ref (He.ga K x)) ∧ Mk K (He.ga K x) f ∧ FnOk P w K mg base CX k f fd ps sp ∧ KBn K fd ps (n + 1) ks g gV
section
variable {X : Cx} {CX : CXT} {k n : Nat} {ps ks : List Str} {sp : Sp} {E : XK} {x : Str} {p pos : Pos} {e : Expr} {es : List Expr} {kws : List Keyword} {t tk : TA} {gV : List V → List V → List V}
theorem pe_mkK (G : MkK X.prog X.w X.K X.mg X.base CX k x ps n ks gV sp) (hr : Room (k + 1) X.A) (hg : Gl X x) (hx : Passes CX X E) (ha : PA X (e :: es) t) (hkw : PK X kws tk)
    (hall : (backToKw pos (keywordEach kws X.env)).all (·.1.isSome) = true := by rfl) (hks : (backToKw pos (keywordEach kws X.env)).filterMap (·.1) = ks := by rfl) (hdb : (x == ("__debug__" : Str)) = false := by decide)
    (he : starEach (e :: es) X.env = (false, eval e X.env) :: starEach es X.env := by rfl) (hpl : ((backTo pos (starEach (e :: es) X.env)).any (·.1) || (backToKw pos (keywordEach kws X.env)).any (·.1.isNone)) = false := by rfl) :
    PE X (.Call (.Name x p) (e :: es) kws pos) (tMakeK (He.ga X.K x) n ks.length sp gV E t tk) := by
  obtain ⟨f, fd, g, hm, M, F, hb⟩ := G.ex
  exact pe_makeK M F hr hg hm hb hx ha hkw hall hks hdb he hpl
end
def kMk1 (C : Addr) (n m : Nat) (sp : Sp) (gV : List V → List V → List V) (E : XK) (tk : TA) (σ : L2.St) (Q : VK) : List V → Hp → Prop := fun vs H1 => tk σ H1 fun zs H2 => vs.length = n ∧ zs.length = m ∧
  ∀ x dx, H2 x = none → H2 dx = none → dx ≠ x → sp (gV (.ref x :: vs) zs) (upd (upd H2 dx (.own x)) x (.ins C dx [])) (fun v H3 => v = .non ∧ Q (.ref x) H3) E
def kMk2 (C : Addr) (n m : Nat) (sp : Sp) (gV : List V → List V → List V) (E : XK) (vs : List V) (Q : VK) : List V → Hp → Prop := fun zs H2 => vs.length = n ∧ zs.length = m ∧
  ∀ x dx, H2 x = none → H2 dx = none → dx ≠ x → sp (gV (.ref x :: vs) zs) (upd (upd H2 dx (.own x)) x (.ins C dx [])) (fun v H3 => v = .non ∧ Q (.ref x) H3) E
section
variable {C : Addr} {n m : Nat} {sp : Sp} {gV : List V → List V → List V} {E : XK} {t tk : TA} {σ : L2.St} {H : Hp} {Q : VK} {vs zs : List V}
theorem w_mkK (h : t σ H (kMk1 C n m sp gV E tk σ Q)) : tMakeK C n m sp gV E t tk σ H Q := h
theorem w_kmk1 (h : tk σ H (kMk2 C n m sp gV E vs Q)) : kMk1 C n m sp gV E tk σ Q vs H := h
theorem w_kmk2 (l1 : vs.length = n) (l2 : zs.length = m) (h : ∀ x dx, H x = none → H dx = none → dx ≠ x → sp (gV (.ref x :: vs) zs) (upd (upd H dx (.own x)) x (.ins C dx [])) (fun v H3 => v = .non ∧ Q (.ref x) H3) E) : kMk2 C n m sp gV E vs Q zs H := ⟨l1, l2, h⟩
end
/-! ### keywords bound, over any def -/
section
variable {K : PySem.W.Frag} {name qual : Str} {st : Stmt} {kws ms : List (Str × V)} {C f D : Addr} {fd : FuncData} {ps ks : List Str} {n : Nat}
/-- the keyword-only defaults stand in the dict at D; a chain of looks binds them -/
theorem kbn_chain (there : ∀ q ∈ ms, ∃ u, PySem.W.nsIn K D q.1 = some (some u) ∧ RelV q.2 u) (g : {α : Type} → List α → List α → List α → List α)
    (grel : ∀ {as bs cs : List V} {au bu cu : List Value}, Vals as au → Vals bs bu → Vals cs cu → Vals (g as bs cs) (g au bu cu))
    (chain : ∀ au bu cu : List Value, au.length = n → bu.length = ms.length → cu.length = ks.length → KwChain D ((ms.map (·.1)).zip bu) (bindArgs fd ⟨au, ks.zip cu⟩) (ps.zip (g au bu cu))) :
    ∃ bu : List Value, KBn K fd ps n ks (fun au cu => g au bu cu) (fun as cs => g as (ms.map (·.2)) cs) := by
  rcases kwd_vals there with ⟨bu, len, rel, looks⟩
  refine ⟨bu, { to := ?_, rel := fun a b => grel a rel b }⟩
  intro s au cu inH la lc
  apply BindsTo.of_looks
  intro M
  exact KwChain.looks inH looks (chain au bu cu la len lc)
/-- .. behind a look at the positional defaults -/
theorem kbn_chainD {T : Addr} {o : Obj} {its : List Value} {m : Nat} {dvs : List V} (lT : K.lookup T = some o) (oT : o.data = .seq its.toArray m) (rT : Vals dvs its) (there : ∀ q ∈ ms, ∃ u, PySem.W.nsIn K D q.1 = some (some u) ∧ RelV q.2 u) (g : {α : Type} → List α → List α → List α → List α → List α)
    (grel : ∀ {as ds bs cs : List V} {au du bu cu : List Value}, Vals as au → Vals ds du → Vals bs bu → Vals cs cu → Vals (g as ds bs cs) (g au du bu cu))
    (chain : ∀ au bu cu : List Value, au.length = n → bu.length = ms.length → cu.length = ks.length → ∃ k, bindArgs fd ⟨au, ks.zip cu⟩ = seqItems? (.ref T) >>= k ∧ KwChain D ((ms.map (·.1)).zip bu) (k (some its.toArray)) (ps.zip (g au its bu cu))) :
    ∃ bu : List Value, KBn K fd ps n ks (fun au cu => g au its bu cu) (fun as cs => g as dvs (ms.map (·.2)) cs) := by
  rcases kwd_vals there with ⟨bu, len, rel, looks⟩
  refine ⟨bu, { to := ?_, rel := fun a b => grel a rT rel b }⟩
  intro s au cu inH la lc
  rcases chain au bu cu la len lc with ⟨k, e, c⟩
  apply BindsTo.of_looks
  intro M
  rw [e]
  exact looks_items inH lT oT (KwChain.looks inH looks c)
/-- a def with the cell, no positional defaults -/
theorem FunS.kb (F : FunS K name qual st [] kws C f fd) (hk : kws ≠ []) (sub : ∀ q ∈ ms, q ∈ kws) (g : {α : Type} → List α → List α → List α → List α)
    (grel : ∀ {as bs cs : List V} {au bu cu : List Value}, Vals as au → Vals bs bu → Vals cs cu → Vals (g as bs cs) (g au bu cu))
    (chain : ∀ (D : Addr) (doc pm : Value) (an : Option Addr) (cda : Addr) (ct : Value) (cc : Addr) (au bu cu : List Value), au.length = n → bu.length = ms.length → cu.length = ks.length →
      KwChain D ((ms.map (·.1)).zip bu) (bindArgs (ksFn name qual (defArgs st) (defBody st) (defScope st) .none (.ref D) doc pm an (.ref cda) ct cc) ⟨au, ks.zip cu⟩) (ps.zip (g au bu cu))) :
    ∃ bu : List Value, KBn K fd ps n ks (fun au cu => g au bu cu) (fun as cs => g as (ms.map (·.2)) cs) := by
  rcases F.ex with ⟨_, _, dV, kV, doc, pm, an, cda, ct, _, cc, _, _, _, e, _, _, d, k, _⟩
  subst e
  rcases k with k | ⟨D, rfl, there⟩
  · exact (hk k).elim
  · rcases d with ⟨_, rfl⟩ | ⟨z, _⟩
    · exact kbn_chain (fun q hq => there q (sub q hq)) g grel (chain D doc pm an cda ct cc)
    · exact (z rfl).elim
/-- a def without the cell, no positional defaults -/
theorem FunD.kb {params : Arguments} {body : List Stmt} {scope : Scope} (F : FunD K name qual params body scope [] kws f fd) (hk : kws ≠ []) (sub : ∀ q ∈ ms, q ∈ kws) (g : {α : Type} → List α → List α → List α → List α)
    (grel : ∀ {as bs cs : List V} {au bu cu : List Value}, Vals as au → Vals bs bu → Vals cs cu → Vals (g as bs cs) (g au bu cu))
    (chain : ∀ (D : Addr) (doc pm : Value) (an : Option Addr) (cdv ct : Value) (au bu cu : List Value), au.length = n → bu.length = ms.length → cu.length = ks.length →
      KwChain D ((ms.map (·.1)).zip bu) (bindArgs (PySem.W.fnOf name qual params body scope .none (.ref D) doc pm an cdv ct) ⟨au, ks.zip cu⟩) (ps.zip (g au bu cu))) :
    ∃ bu : List Value, KBn K fd ps n ks (fun au cu => g au bu cu) (fun as cs => g as (ms.map (·.2)) cs) := FunD.kbinds0 F n ks ms g hk sub grel chain
end
end Rd
/-! ChainN: comparisons in a row, of any length. -/
namespace Rd
open PySem PySem.Spec PyProof.Rows L2
/-- the rest of a row, from the value on its left: as a value, as a test -/
structure PLs (X : Cx) (pos : Pos) (ops : List CmpOp) (es : List Expr) (t : V → TE) : Prop where
  val : ∀ (pins : List (Addr × Obj)) (s : Shared) (σ : L2.St) (H : Hp) (Q : VK) (x : V) (v : Value), L2.Inv X pins σ H s → RelV x v → t x σ H Q → wpAny (model X.prog X.w) X.A (compareChain pos v ops (evalEach es X.env)) (EP X pins σ Q) X.xe s
  tst : ∀ (pins : List (Addr × Obj)) (s : Shared) (σ : L2.St) (H : Hp) (Q : Bool → Hp → Prop) (x : V) (v : Value), L2.Inv X pins σ H s → RelV x v → t x σ H (fun z H' => ∃ k, z = .bl k ∧ Q k H') → wpAny (model X.prog X.w) X.A (testChain pos v ops (evalEach es X.env)) (TP X pins σ Q) X.xe s
def tLk (r : R2) (tb : TE) (rest : V → TE) : V → TE := fun x σ H Q => tb σ H fun y H1 => r x y H1 fun z H2 => ∃ k, z = .bl k ∧ if k = true then rest y σ H2 Q else Q (.bl false) H2
def tLs (r : R2) (tb : TE) : V → TE := fun x σ H Q => tb σ H fun y H1 => r x y H1 Q
def tChN (ta : TE) (t : V → TE) : TE := fun σ H Q => ta σ H fun x H1 => t x σ H1 Q
section
variable {X : Cx} {pos : Pos} {op op' : CmpOp} {ops : List CmpOp} {a b b' : Expr} {es : List Expr} {r : R2} {ta tb : TE} {t : V → TE}
theorem ls_one (ho : OpR X (compareOp op) r) (hb : PE X b tb) : PLs X pos [op] [b] (tLs r tb) where
  val := fun pins s σ H Q x v I rx q => chain_last (thn (hb.run pins s σ H _ I q) fun u s1 w => by
    obtain ⟨y, H1, I1, ry, q1⟩ := w
    exact ho pins s1 σ H1 x y v u Q I1 rx ry q1)
  tst := fun pins s σ H Q x v I rx q => test_last (thn (hb.run pins s σ H _ I q) fun u s1 w => by
    obtain ⟨y, H1, I1, ry, q1⟩ := w
    refine thn (ho pins s1 σ H1 x y v u _ I1 rx ry q1) fun d s2 w2 => ?_
    obtain ⟨z, H2, I2, rz, k, e, q2⟩ := w2
    subst e
    cases rz
    exact wpAny_truthy_bool ⟨H2, I2, q2⟩)
theorem ls_cons (ho : OpR X (compareOp op) r) (hb : PE X b tb) (h : PLs X pos (op' :: ops) (b' :: es) t) : PLs X pos (op :: op' :: ops) (b :: b' :: es) (tLk r tb t) where
  val := fun pins s σ H Q x v I rx q => chain_link (thn (hb.run pins s σ H _ I q) fun u s1 w => by
    obtain ⟨y, H1, I1, ry, q1⟩ := w
    refine thn (ho pins s1 σ H1 x y v u _ I1 rx ry q1) fun d s2 w2 => ?_
    obtain ⟨z, H2, I2, rz, k, e, q2⟩ := w2
    subst e
    cases rz
    refine wpAny_truthy_bool ?_
    cases k with
    | true => rw [if_pos rfl] at q2; exact ite_tt (h.val pins s2 σ H2 Q y u I2 ry q2)
    | false => rw [if_neg (by decide)] at q2; exact ite_ff ⟨.bl false, H2, I2, rfl, q2⟩)
  tst := fun pins s σ H Q x v I rx q => test_link (thn (hb.run pins s σ H _ I q) fun u s1 w => by
    obtain ⟨y, H1, I1, ry, q1⟩ := w
    refine thn (ho pins s1 σ H1 x y v u _ I1 rx ry q1) fun d s2 w2 => ?_
    obtain ⟨z, H2, I2, rz, k, e, q2⟩ := w2
    subst e
    cases rz
    refine wpAny_truthy_bool ?_
    cases k with
    | true => rw [if_pos rfl] at q2; exact ite_tt (h.tst pins s2 σ H2 Q y u I2 ry q2)
    | false =>
      rw [if_neg (by decide)] at q2
      obtain ⟨k2, e2, q3⟩ := q2
      cases e2
      exact ite_ff ⟨H2, I2, q3⟩)
theorem pe_chN (ha : PE X a ta) (h : PLs X pos (op :: op' :: ops) (b :: b' :: es) t) (hm : lastMarks (op :: op' :: ops) (b :: b' :: es) = false := by with_unfolding_all rfl) : PE X (.Compare a (op :: op' :: ops) (b :: b' :: es) pos) (tChN ta t) where
  run := fun pins s σ H Q I q => Compare_chain (thn (ha.run pins s σ H _ I q) fun v s1 w => let ⟨x, H1, I1, rx, q1⟩ := w; h.val pins s1 σ H1 Q x v I1 rx q1) hm
theorem pt_chN (ha : PE X a ta) (h : PLs X pos (op :: op' :: ops) (b :: b' :: es) t) (hm : lastMarks (op :: op' :: ops) (b :: b' :: es) = false := by with_unfolding_all rfl) : PT X (.Compare a (op :: op' :: ops) (b :: b' :: es) pos) (tTest (tChN ta t)) where
  run := fun pins s σ H Q I q => isTrue_chain (thn (ha.run pins s σ H _ I q) fun v s1 w => let ⟨x, H1, I1, rx, q1⟩ := w; h.tst pins s1 σ H1 Q x v I1 rx q1) hm
end
def kChN (t : V → TE) (σ : L2.St) (Q : VK) : VK := fun x H => t x σ H Q
def kLk1 (r : R2) (x : V) (rest : V → TE) (σ : L2.St) (Q : VK) : VK := fun y H1 => r x y H1 fun z H2 => ∃ k, z = .bl k ∧ if k = true then rest y σ H2 Q else Q (.bl false) H2
def kLk2 (y : V) (rest : V → TE) (σ : L2.St) (Q : VK) : VK := fun z H2 => ∃ k, z = .bl k ∧ if k = true then rest y σ H2 Q else Q (.bl false) H2
section
variable {r : R2} {ta tb : TE} {t : V → TE} {σ : L2.St} {H : Hp} {Q : VK} {x y : V} {c : Prop} {dc : Decidable c}
theorem w_chN (h : ta σ H (kChN t σ Q)) : tChN ta t σ H Q := h
theorem w_kchk (h : tb σ H (kLk1 r x t σ Q)) : kChN (tLk r tb t) σ Q x H := h
theorem w_kchs (h : tb σ H (kOp2 r x Q)) : kChN (tLs r tb) σ Q x H := h
theorem w_klk1 (h : r x y H (kLk2 y t σ Q)) : kLk1 r x t σ Q y H := h
theorem w_klk2 (h1 : c → kChN t σ Q y H) (h2 : ¬ c → Q (.bl false) H) : kLk2 y t σ Q (.bl (decide c)) H := ⟨_, rfl, by
  by_cases h : c
  · rw [if_pos (decide_eq_true h)]; exact h1 h
  · rw [if_neg (fun z => h (of_decide_eq_true z))]; exact h2 h⟩
end
end Rd
/-! DatR: data in the heap: None, bools, ints, texts, and lists and tuples of such; X: the lists that may still change. -/
namespace Rd
open PySem PySem.Spec PyProof.Rows L2
/-- all stands but the lists in X -/
def Keeps (X : List Addr) (H H' : Hp) : Prop := ∀ b o, H b = some o → (b ∉ X ∨ ∀ xs, o ≠ .lst xs) → H' b = some o
section
variable {X Y : List Addr} {H H1 H2 H' : Hp} {p l : Addr} {xs : List V} {o : HO}
theorem Keeps.refl : Keeps X H H := fun _ _ h _ => h
theorem Keeps.trans (a : Keeps X H H1) (b : Keeps X H1 H2) : Keeps X H H2 := fun c o h n => b c o (a c o h n) n
theorem Keeps.same (s : Same H H') : Keeps X H H' := fun b o h _ => s b o h
theorem Keeps.drawn (hp : p ∈ X) (d : Drawn p H H') : Keeps X H H' := fun b o h n => by
  refine d.grow b o (fun e => ?_) h
  subst e
  obtain ⟨k, w⟩ := d.was
  rw [h] at w
  rcases n with n | n
  · exact n hp
  · cases w; exact n k rfl
theorem Keeps.put (hl : l ∈ X) (h : H l = some (.lst xs)) : Keeps X H (upd H l o) := fun b u hb n => by
  by_cases e : b = l
  · subst e
    rw [h] at hb
    cases hb
    exact n.elim (fun z => absurd hl z) fun z => absurd rfl (z xs)
  · rw [upd_ne e]; exact hb
theorem Keeps.new {x : Addr} (s : Keeps X H H1) (hx : H x = none) : Keeps X H (upd H1 x o) := fun b u hb n => by
  rw [upd_ne (ne_of_none hb hx)]; exact s b u hb n
theorem Keeps.weak (h : Keeps X H H') (w : ∀ b ∈ X, b ∈ Y) : Keeps Y H H' := fun b o hb n => h b o hb (n.elim (fun z => .inl fun m => z (w b m)) .inr)
theorem goes_keeps (X : List Addr) (H : Hp) : GoesOn (Keeps X) H := ⟨.refl, .trans, .new⟩
end
inductive Dat (K : PySem.W.Frag) (X : List Addr) (H : Hp) : V → PyData → Prop
  | non : Dat K X H .non .none
  | bl (b : Bool) : Dat K X H (.bl b) (.bool b)
  | int (i : Int) : Dat K X H (.int i) (.int i)
  | str (z : Str) : Dat K X H (.str z) (.str z)
  | lst {a : Addr} {xs : List V} {ds : List PyData} (n : a ∉ X) (h : H a = some (.lst xs)) (len : xs.length = ds.length) (all : ∀ (i : Nat) (x : V) (d : PyData), xs[i]? = some x → ds[i]? = some d → Dat K X H x d) : Dat K X H (.ref a) (.list ds)
  | tup {a : Addr} {xs : List V} {ds : List PyData} (h : SqT K H a xs) (len : xs.length = ds.length) (all : ∀ (i : Nat) (x : V) (d : PyData), xs[i]? = some x → ds[i]? = some d → Dat K X H x d) : Dat K X H (.ref a) (.tuple ds)
structure DatA (K : PySem.W.Frag) (X : List Addr) (H : Hp) (xs : List V) (ds : List PyData) : Prop where
  len : xs.length = ds.length
  all : ∀ (i : Nat) (x : V) (d : PyData), xs[i]? = some x → ds[i]? = some d → Dat K X H x d
section
variable {K : PySem.W.Frag} {X Y : List Addr} {H H' : Hp} {v : V} {d : PyData} {xs ys : List V} {ds es : List PyData} {a l : Addr} {Q : VK} {i : Int}
theorem Keeps.sqL (k : Keeps X H H') (n : a ∉ X) (h : SqL K H a xs) : SqL K H' a xs := by
  rcases h with (h | ⟨o, h⟩) | h
  · exact .inl (.inl (k _ _ h (.inl n)))
  · exact .inl (.inr ⟨o, k _ _ h (.inl n)⟩)
  · exact .inr h
theorem Keeps.sqT (k : Keeps X H H') (h : SqT K H a xs) : SqT K H' a xs := by
  rcases h with (h | ⟨o, h⟩) | h
  · exact .inl (.inl (k _ _ h (.inr fun _ z => nomatch z)))
  · exact .inl (.inr ⟨o, k _ _ h (.inr fun _ z => nomatch z)⟩)
  · exact .inr h
theorem Keeps.ins {C dx : Addr} {fs : List (Str × V)} (k : Keeps X H H') (h : H a = some (.ins C dx fs)) : H' a = some (.ins C dx fs) := k _ _ h (.inr fun _ z => nomatch z)
theorem Keeps.tup (k : Keeps X H H') (h : H a = some (.tup xs)) : H' a = some (.tup xs) := k _ _ h (.inr fun _ z => nomatch z)
theorem Keeps.lst (k : Keeps X H H') (n : a ∉ X) (h : H a = some (.lst xs)) : H' a = some (.lst xs) := k _ _ h (.inl n)
theorem Dat.keep (k : Keeps X H H') (h : Dat K X H v d) : Dat K X H' v d := by
  induction h with
  | non => exact .non
  | bl b => exact .bl b
  | int i => exact .int i
  | str z => exact .str z
  | lst n h len _ ih => exact .lst n (k.lst n h) len ih
  | tup h len _ ih => exact .tup (k.sqT h) len ih
theorem Dat.weak (w : ∀ b ∈ Y, b ∈ X) (h : Dat K X H v d) : Dat K Y H v d := by
  induction h with
  | non => exact .non
  | bl b => exact .bl b
  | int i => exact .int i
  | str z => exact .str z
  | lst n h len _ ih => exact .lst (fun m => n (w _ m)) h len ih
  | tup h len _ ih => exact .tup h len ih
theorem DatA.keep (k : Keeps X H H') (h : DatA K X H xs ds) : DatA K X H' xs ds := ⟨h.len, fun i x d a b => (h.all i x d a b).keep k⟩
theorem DatA.weak (w : ∀ b ∈ Y, b ∈ X) (h : DatA K X H xs ds) : DatA K Y H xs ds := ⟨h.len, fun i x d a b => (h.all i x d a b).weak w⟩
theorem DatA.nil : DatA K X H [] [] := ⟨rfl, fun _ _ _ h => nomatch h⟩
theorem DatA.cons (h : Dat K X H v d) (t : DatA K X H xs ds) : DatA K X H (v :: xs) (d :: ds) := ⟨congrArg Nat.succ t.len, fun i x e a b => match i with
  | 0 => by cases a; cases b; exact h
  | i + 1 => t.all i x e a b⟩
theorem DatA.snoc (t : DatA K X H xs ds) (h : Dat K X H v d) : DatA K X H (xs ++ [v]) (ds ++ [d]) := by
  refine ⟨by simp [t.len], fun i x e a b => ?_⟩
  rcases Nat.lt_trichotomy i xs.length with c | c | c
  · rw [List.getElem?_append_left c] at a
    rw [List.getElem?_append_left (t.len ▸ c)] at b
    exact t.all i x e a b
  · subst c
    rw [List.getElem?_append_right (Nat.le_refl _), Nat.sub_self] at a
    rw [List.getElem?_append_right (Nat.le_of_eq t.len.symm), t.len, Nat.sub_self] at b
    cases a; cases b; exact h
  · rw [List.getElem?_eq_none (by rw [List.length_append]; show xs.length + 1 ≤ i; omega)] at a
    cases a
theorem DatA.app (t : DatA K X H xs ds) (u : DatA K X H ys es) : DatA K X H (xs ++ ys) (ds ++ es) := by
  refine ⟨by simp [t.len, u.len], fun i x e a b => ?_⟩
  by_cases c : i < xs.length
  · rw [List.getElem?_append_left c] at a
    rw [List.getElem?_append_left (t.len ▸ c)] at b
    exact t.all i x e a b
  · rw [List.getElem?_append_right (by omega)] at a
    rw [List.getElem?_append_right (by have := t.len; omega), ← t.len] at b
    exact u.all _ x e a b
theorem DatA.at_ (t : DatA K X H xs ds) {j : Nat} (hd : ds[j]? = some d) : ∃ v, xs[j]? = some v ∧ Dat K X H v d := by
  have hj : j < xs.length := by rw [t.len]; exact (List.getElem?_eq_some_iff.mp hd).1
  exact ⟨xs[j], List.getElem?_eq_getElem hj, t.all j _ _ (List.getElem?_eq_getElem hj) hd⟩
theorem DatA.set {j : Nat} (t : DatA K X H xs ds) (h : Dat K X H v d) : DatA K X H (xs.set j v) (ds.set j d) := by
  refine ⟨by simp [t.len], fun i x e a b => ?_⟩
  by_cases c : i = j
  · subst c
    have l1 : i < xs.length := by have := (List.getElem?_eq_some_iff.mp a).1; simpa using this
    rw [List.getElem?_set_self l1] at a
    rw [List.getElem?_set_self (t.len ▸ l1)] at b
    cases a; cases b; exact h
  · rw [List.getElem?_set_ne (Ne.symm c)] at a b
    exact t.all i x e a b
theorem DatA.ints (ns : List Int) : DatA K X H (ns.map V.int) (ns.map PyData.int) := ⟨by simp, fun i x d a b => by
  rw [List.getElem?_map] at a b
  cases e : ns[i]? with
  | none => rw [e] at a; cases a
  | some n => rw [e] at a b; cases a; cases b; exact .int n⟩
theorem DatA.strs (ss : List Str) : DatA K X H (ss.map V.str) (ss.map PyData.str) := ⟨by simp, fun i x d a b => by
  rw [List.getElem?_map] at a b
  cases e : ss[i]? with
  | none => rw [e] at a; cases a
  | some n => rw [e] at a b; cases a; cases b; exact .str n⟩
theorem DatA.newL (t : DatA K X H xs ds) (n : l ∉ X) (h : H l = some (.lst xs)) : Dat K X H (.ref l) (.list ds) := .lst n h t.len t.all
theorem DatA.newT (t : DatA K X H xs ds) (h : H l = some (.tup xs)) : Dat K X H (.ref l) (.tuple ds) := .tup (SqT.of h) t.len t.all
theorem Dat.list (h : Dat K X H v (.list ds)) : ∃ a xs, v = .ref a ∧ a ∉ X ∧ H a = some (.lst xs) ∧ DatA K X H xs ds := by
  cases h with
  | lst n h len all => exact ⟨_, _, rfl, n, h, len, all⟩
theorem Dat.tuple (h : Dat K X H v (.tuple ds)) : ∃ a xs, v = .ref a ∧ SqT K H a xs ∧ DatA K X H xs ds := by
  cases h with
  | tup h len all => exact ⟨_, _, rfl, h, len, all⟩
theorem Dat.int_ (h : Dat K X H v (.int i)) : v = .int i := by cases h; rfl
theorem Dat.str_ {z : Str} (h : Dat K X H v (.str z)) : v = .str z := by cases h; rfl
theorem Dat.none_ (h : Dat K X H v .none) : v = .non := by cases h; rfl
theorem dp_all : ∀ {xs : List V} {ds : List PyData}, xs.length = ds.length → (∀ (i : Nat) (x : V) (d : PyData), xs[i]? = some x → ds[i]? = some d → Dp K H x d) → DpAll K H xs ds
  | [], [], _, _ => .nil
  | [], _ :: _, l, _ => by cases l
  | _ :: _, [], l, _ => by cases l
  | x :: xs, d :: ds, l, h => .cons (h 0 x d rfl rfl) (dp_all (Nat.succ.inj l) fun i y e a b => h (i + 1) y e a b)
theorem Dat.dp (h : Dat K X H v d) : Dp K H v d := by
  induction h with
  | non => exact .non
  | bl b => exact .bl b
  | int i => exact .int i
  | str z => exact .str z
  | lst n h len _ ih => exact .lst (SqL.of h) (dp_all len ih)
  | tup h len _ ih => exact .tup h (dp_all len ih)
/-! ### reading it -/
theorem ix_D {j : Nat} (h : Dat K X H v (.list ds) ∨ Dat K X H v (.tuple ds)) (hd : ds[j]? = some d) (h0 : 0 ≤ i) (hi : i.toNat = j) (k : ∀ u, Dat K X H u d → Q u H) : rIx K v (.int i) H Q := by
  subst hi
  rcases h with h | h
  · obtain ⟨a, xs, rfl, n, hs, t⟩ := h.list
    obtain ⟨u, hu, hd⟩ := t.at_ hd
    exact w_ixL (SqL.of hs) (atI_of h0 hu) (k u hd)
  · obtain ⟨a, xs, rfl, hs, t⟩ := h.tuple
    obtain ⟨u, hu, hd⟩ := t.at_ hd
    exact w_ixT hs (atI_of h0 hu) (k u hd)
theorem ix_I {ns : List Int} {j : Nat} (h : Dat K X H v (.list (ns.map PyData.int))) (h0 : 0 ≤ i) (hi : i.toNat = j) (hj : j < ns.length) (k : Q (.int (ns.getD j 0)) H) : rIx K v (.int i) H Q :=
  ix_D (.inl h) (d := .int (ns.getD j 0)) (by rw [List.getElem?_map, List.getElem?_eq_getElem hj, List.getD_eq_getElem?_getD, List.getElem?_eq_getElem hj]; rfl) h0 hi fun u hu => by rw [hu.int_]; exact k
theorem ix_St {ss : List Str} {z : Str} {j : Nat} (h : Dat K X H v (.list (ss.map PyData.str))) (h0 : 0 ≤ i) (hi : i.toNat = j) (hj : ss[j]? = some z) (k : Q (.str z) H) : rIx K v (.int i) H Q :=
  ix_D (.inl h) (d := .str z) (by rw [List.getElem?_map, hj]; rfl) h0 hi fun u hu => by rw [hu.str_]; exact k
theorem len_D (h : Dat K X H v (.list ds) ∨ Dat K X H v (.tuple ds)) (k : Q (.int ds.length) H) : rLen K [v] H Q := by
  rcases h with h | h
  · obtain ⟨a, xs, rfl, n, hs, t⟩ := h.list
    exact w_lenL (SqL.of hs) (by rw [t.len]; exact k)
  · obtain ⟨a, xs, rfl, hs, t⟩ := h.tuple
    exact w_lenT hs (by rw [t.len]; exact k)
theorem eq_D {u : V} {e : PyData} (h1 : Dat K X H v d) (h2 : Dat K Y H u e) (s1 : SeqAt.shaped d = true) (s2 : SeqAt.shaped e = true) (k : Q (.bl (PyData.eqv d e)) H) : uEq K v u H Q := .inr ⟨d, e, h1.dp, h2.dp, s1, s2, k⟩
theorem ne_D {u : V} {e : PyData} (h1 : Dat K X H v d) (h2 : Dat K Y H u e) (s1 : SeqAt.shaped d = true) (s2 : SeqAt.shaped e = true) (k : Q (.bl (!PyData.eqv d e)) H) : uNe K v u H Q := .inr ⟨d, e, h1.dp, h2.dp, s1, s2, k⟩
theorem gt_D2 {σ : L2.St} {j k : Nat} {d1 d2 : PyData} {Qn : L2.St → Hp → Prop} (h : Dat K X H v (.tuple [d1, d2])) (q : ∀ v1 v2, Dat K X H v1 d1 → Dat K X H v2 d2 → Qn ((σ.set j (some v1)).set k (some v2)) H) : gTup K 2 (gCons (gName j) (gCons (gName k) gNil)) v σ H Qn := by
  obtain ⟨a, xs, rfl, hs, t⟩ := h.tuple
  obtain ⟨v1, v2, rfl⟩ := len2 t.len
  exact w_gt2 hs (q v1 v2 (t.all 0 _ _ rfl rfl) (t.all 1 _ _ rfl rfl))
theorem gt_D3 {σ : L2.St} {j k m : Nat} {d1 d2 d3 : PyData} {Qn : L2.St → Hp → Prop} (h : Dat K X H v (.tuple [d1, d2, d3])) (q : ∀ v1 v2 v3, Dat K X H v1 d1 → Dat K X H v2 d2 → Dat K X H v3 d3 → Qn (((σ.set j (some v1)).set k (some v2)).set m (some v3)) H) : gTup K 3 (gCons (gName j) (gCons (gName k) (gCons (gName m) gNil))) v σ H Qn := by
  obtain ⟨a, xs, rfl, hs, t⟩ := h.tuple
  obtain ⟨v1, v2, v3, rfl⟩ := len3 t.len
  exact w_gt3 hs (q v1 v2 v3 (t.all 0 _ _ rfl rfl) (t.all 1 _ _ rfl rfl) (t.all 2 _ _ rfl rfl))
theorem list_D (h : Dat K X H v (.list ds) ∨ Dat K X H v (.tuple ds)) (k : ∀ (l : Addr) (xs : List V) (H' : Hp), H l = none → Same H H' → H' l = some (.lst xs) → DatA K X H' xs ds → Q (.ref l) H') : rList K [v] H Q := by
  rcases h with h | h
  · obtain ⟨a, xs, rfl, n, hs, t⟩ := h.list
    exact w_listL (SqL.of hs) fun l hl => k l xs _ hl (same_new hl) upd_same (t.keep (.same (same_new hl)))
  · obtain ⟨a, xs, rfl, hs, t⟩ := h.tuple
    exact w_listT hs fun l hl => k l xs _ hl (same_new hl) upd_same (t.keep (.same (same_new hl)))
/-- what was free is in no data -/
theorem Dat.off (hl : H l = none) (h : Dat K X H v d) : Dat K (l :: X) H v d := by
  induction h with
  | non => exact .non
  | bl b => exact .bl b
  | int i => exact .int i
  | str z => exact .str z
  | lst n h len _ ih => exact .lst (fun m => (List.mem_cons.mp m).elim (fun e => by rw [e, hl] at h; cases h) n) h len ih
  | tup h len _ ih => exact .tup h len ih
theorem DatA.off (hl : H l = none) (h : DatA K X H xs ds) : DatA K (l :: X) H xs ds := ⟨h.len, fun i x d a b => (h.all i x d a b).off hl⟩
/-- for x in a list that stands since H0 -/
theorem for_D {H0 : Hp} {g : TG} {tb : TS} {D : Ends} {σ : L2.St} (h : Dat K X H0 v (.list ds)) (Pv : Nat → L2.St → Hp → Prop) (h0 : Pv 0 σ H) (hk : ∀ i σ H', Pv i σ H' → Keeps X H0 H')
    (hs : ∀ (i : Nat) (x : V) (d : PyData) (σ : L2.St) (H1 : Hp), ds[i]? = some d → Dat K X H1 x d → Pv i σ H1 → g x σ H1 fun σ2 H2 => tb { D with nx := Pv (i + 1), ct := Pv (i + 1), bk := D.nx } σ2 H2)
    (hd : ∀ σ H', Pv ds.length σ H' → D.nx σ H') : kFL K g tb D σ v H := by
  obtain ⟨a, xs, rfl, n, hsq, t⟩ := h.list
  refine ⟨a, rfl, ⟨_, SqL.of ((hk 0 σ H h0).lst n hsq)⟩, for_list (xs := xs) Pv h0 (fun i σ H' _ p => SqL.of ((hk i σ H' p).lst n hsq)) (fun i x σ H' hx p => ?_) (t.len ▸ hd)⟩
  obtain ⟨d, e⟩ : ∃ d, ds[i]? = some d := ⟨ds[i]'(by rw [← t.len]; exact (List.getElem?_eq_some_iff.mp hx).1), List.getElem?_eq_getElem _⟩
  exact hs i x d σ H' e ((t.all i x d hx e).keep (hk i σ H' p)) p
/-- [e for x in a list that stands since H0] -/
theorem lc_D {H0 : Hp} {G : Hp → Hp → Prop} {g : TG} {tt : TT} {te : TE} {vs : List Nat} {σ : L2.St} (gs : GoesOn G H) (h : Dat K X H0 v (.list ds)) (gk : ∀ H', G H H' → Keeps X H0 H') (R : Nat → List V → Prop) (r0 : R 0 [])
    (step : ∀ (D : Addr) (i : Nat) (x : V) (d : PyData) (acc : List V) (H1 : Hp), H D = none → ds[i]? = some d → Dat K X H1 x d → R i acc → G H H1 → H1 D = some (.lst acc) → LcStep G H D R g tt te vs σ i x H1)
    (done : ∀ (l : Addr) (acc : List V) (H' : Hp), H l = none → G H H' → H' l = some (.lst acc) → R ds.length acc → Q (.ref l) H') : kCL K g tt te vs σ Q v H := by
  obtain ⟨a, xs, rfl, n, hsq, t⟩ := h.list
  refine ⟨a, rfl, ⟨_, SqL.of ((gk H gs.refl).lst n hsq)⟩, fun D hD => lc_list (xs := xs) (LcP G H D R) ⟨[], upd_same, gs.put gs.refl hD, r0⟩ ?_ ?_ ?_⟩
  · rintro i H' _ ⟨acc, _, s, _⟩
    exact SqL.of ((gk H' s).lst n hsq)
  · rintro i x H' hxi ⟨acc, ha, s, r⟩
    obtain ⟨d, e⟩ : ∃ d, ds[i]? = some d := ⟨ds[i]'(by rw [← t.len]; exact (List.getElem?_eq_some_iff.mp hxi).1), List.getElem?_eq_getElem _⟩
    exact step D i x d acc H' hD e ((t.all i x d hxi e).keep (gk H' s)) r s ha
  · rintro H' ⟨acc, ha, s, r⟩
    exact done D acc H' hD s ha (t.len ▸ r)
/-- sorted of two ints -/
theorem sort2 {a b : Int} {ns : List Int} (p : ns.Perm [a, b]) (r : ns.Pairwise (· ≤ ·)) : ns = [min a b, max a b] := by
  have l := p.length_eq
  obtain ⟨x, y, rfl⟩ := len2 l
  have hxy : x ≤ y := by
    have := List.pairwise_cons.mp r
    exact this.1 y (List.mem_singleton.mpr rfl)
  have m1 : x = a ∨ x = b := by simpa using p.subset (List.mem_cons_self (a := x))
  have m2 : y = a ∨ y = b := by simpa using p.subset (List.mem_cons_of_mem x (List.mem_singleton.mpr (rfl : y = y)))
  have m3 : a = x ∨ a = y := by simpa using p.symm.subset (List.mem_cons_self (a := a))
  have m4 : b = x ∨ b = y := by simpa using p.symm.subset (List.mem_cons_of_mem a (List.mem_singleton.mpr (rfl : b = b)))
  have e1 : x = min a b := by omega
  have e2 : y = max a b := by omega
  rw [e1, e2]
/-- lists of ints of one length -/
def AllR (K : PySem.W.Frag) (X : List Addr) (H : Hp) (n : Nat) (xs : List V) : Prop := ∀ x ∈ xs, ∃ ns : List Int, Dat K X H x (.list (ns.map PyData.int)) ∧ ns.length = n
theorem AllR.keep {n : Nat} (h : AllR K X H n xs) (k : Keeps X H H') : AllR K X H' n xs := fun x hx => let ⟨ns, d, l⟩ := h x hx; ⟨ns, d.keep k, l⟩
theorem AllR.weak {n : Nat} (w : ∀ b ∈ Y, b ∈ X) (h : AllR K X H n xs) : AllR K Y H n xs := fun x hx => let ⟨ns, d, l⟩ := h x hx; ⟨ns, d.weak w, l⟩
theorem AllR.off {n : Nat} (hl : H l = none) (h : AllR K X H n xs) : AllR K (l :: X) H n xs := fun x hx => let ⟨ns, d, e⟩ := h x hx; ⟨ns, d.off hl, e⟩
theorem AllR.nil {n : Nat} : AllR K X H n [] := fun _ h => nomatch h
theorem AllR.cons {n : Nat} {ns : List Int} (a : Dat K X H v (.list (ns.map PyData.int))) (e : ns.length = n) (h : AllR K X H n xs) : AllR K X H n (v :: xs) := fun x hx => (List.mem_cons.mp hx).elim (fun z => ⟨ns, z ▸ a, e⟩) (h x)
theorem AllR.app {n : Nat} (h : AllR K X H n xs) (k : AllR K X H n ys) : AllR K X H n (xs ++ ys) := fun x hx => (List.mem_append.mp hx).elim (h x) (k x)
theorem Dat.ints {ns : List Int} (n : l ∉ X) (h : H l = some (.lst (ns.map V.int))) : Dat K X H (.ref l) (.list (ns.map PyData.int)) := (DatA.ints ns).newL n h
theorem Dat.strs {ss : List Str} (n : l ∉ X) (h : H l = some (.lst (ss.map V.str))) : Dat K X H (.ref l) (.list (ss.map PyData.str)) := (DatA.strs ss).newL n h
/-- data of texts are equal to themselves -/
theorem lay_strs : ∀ {ss : List Str}, (∀ z ∈ ss, PyData.strOk z = true) → PyData.canLayAll0 (ss.map PyData.str) = true ∧ PyData.depthAll (ss.map PyData.str) = 0
  | [], _ => by simp [PyData.canLayAll0, PyData.depthAll]
  | z :: r, h => by
    have ih := lay_strs fun y hy => h y (List.mem_cons_of_mem _ hy)
    have hz := h z List.mem_cons_self
    simp [PyData.canLayAll0, PyData.depthAll, PyData.canLay0, PyData.depth, ih, hz]
theorem shaped_strs {ss : List Str} (h : ∀ z ∈ ss, PyData.strOk z = true) : SeqAt.shaped (.list (ss.map PyData.str)) = true := by
  unfold SeqAt.shaped
  simp [PyData.canLay0, PyData.depth, lay_strs h]
theorem eqv_strs : ∀ ss : List Str, PyData.eqvAll (ss.map PyData.str) (ss.map PyData.str) = true
  | [] => by simp [PyData.eqvAll]
  | z :: r => by simp [PyData.eqvAll, PyData.eqv, eqv_strs r]
end
end Rd
/-! MethA: o.m(..), o.f of a property, where o is of one of several own classes; C() and f() by keyword .. -/
namespace Rd
open PySem PySem.Spec PyProof.Rows L2
/-- the class is one of these names' -/
def OneOf (K : PySem.W.Frag) (xs : List Str) (C : Addr) : Prop := ∃ x ∈ xs, C = He.ga K x
/-- o.m(..), o of a class that G names -/
def tMethA (G : Addr → Prop) (m : Str) (sp : Sp) (E : L2.St → XK) (ta : TE) (t : TA) : TE := fun σ H Q => ta σ H fun x H1 => ∃ a C dx fs, x = .ref a ∧ H1 a = some (.ins C dx fs) ∧ G C ∧ fs.lookup m = none ∧ t σ H1 fun vs H2 => sp (x :: vs) H2 Q (E σ)
section
variable {X : Cx} {CX : CXT} {k : Nat} {G : Addr → Prop} {m : Str} {ps : List Str} {sp : Sp} {E : L2.St → XK} {o e : Expr} {es : List Expr} {ta : TE} {t : TA} {pos apos : Pos} {pl : Sem Bool}
theorem pe_mgA (hG : ∀ C, G C → MtG X.prog X.w X.K X.mg X.base CX k C m ps sp) (hr : Room k X.A) (hx : ∀ σ, PassesAt CX X σ (E σ)) (ho : PE X o ta) (ha : PA X (e :: es) t) (h1 : starEach (e :: es) X.env = (false, eval e X.env) :: starEach es X.env := by rfl) (h2 : (backTo pos (starEach es X.env)).any (·.1) = false := by rfl)
    (h3 : eval (.Call (.Attribute o m apos) (e :: es) [] pos) X.env = (eval o X.env >>= fun ov => standAt apos.atName >>= fun _ => holding [ov] (getMethod ov m pl) >>= fun fx => callWith pos fx.1 fx.2 (backTo pos (starEach (e :: es) X.env)) (backToKw pos (keywordEach [] X.env))) := by rfl) : PE X (.Call (.Attribute o m apos) (e :: es) [] pos) (tMethA G m sp E ta t) where
  run := fun pins s σ H Q I h => by
    refine PySem.W.methodCall_KW (pl := pl) (wpAny_mono (ho.run pins s σ H _ I h) (fun u s1 z => ?_) fun _ _ w => w) h3
    obtain ⟨y, H1, I1, ry, a, C, dx, fs, rfl, ea, g, nl, q⟩ := z
    obtain ⟨f, fd, mt, F, b⟩ := (hG C g).ex
    cases (show u = Value.ref a from ry)
    have arg : wpAny (model X.prog X.w) X.A (spliced (backTo pos (starEach (e :: es) X.env))) (AP X pins σ _) X.xe s1 := ha.run pos pins s1 σ H1 _ I1 q
    refine getmeth_ok I1 ea (hG C g).cls mt nl (PySem.W.callWith_K (first := [.ref a]) (h₀ := X.base) I.ok.mod.kin mt.kp (wpAny_mono arg (fun us s2 z => ?_) fun _ _ w => w) h1 h2)
    obtain ⟨vs, H2, I2, rv, q2⟩ := z
    exact ⟨I2.kIn, run_fnS (us := .ref a :: us) (vs := .ref a :: vs) F hr b (hx σ) I2 (.cons ry rv) q2⟩
theorem pe_mgA1 (hG : ∀ C, G C → MtG X.prog X.w X.K X.mg X.base CX0 k C m ps sp) (hr : Room k X.A) (ho : PE X o ta) (ha : PA X (e :: es) t) (h1 : starEach (e :: es) X.env = (false, eval e X.env) :: starEach es X.env := by rfl) (h2 : (backTo pos (starEach es X.env)).any (·.1) = false := by rfl)
    (h3 : eval (.Call (.Attribute o m apos) (e :: es) [] pos) X.env = (eval o X.env >>= fun ov => standAt apos.atName >>= fun _ => holding [ov] (getMethod ov m pl) >>= fun fx => callWith pos fx.1 fx.2 (backTo pos (starEach (e :: es) X.env)) (backToKw pos (keywordEach [] X.env))) := by rfl) : PE X (.Call (.Attribute o m apos) (e :: es) [] pos) (tMethA G m sp (fun _ => E0) ta t) :=
  pe_mgA hG hr (fun σ => Passes.at_ pass0 σ) ho ha h1 h2 h3
end
def kMa (G : Addr → Prop) (m : Str) (sp : Sp) (E : XK) (t : TA) (σ : L2.St) (Q : VK) : VK := fun x H1 => ∃ a C dx fs, x = .ref a ∧ H1 a = some (.ins C dx fs) ∧ G C ∧ fs.lookup m = none ∧ t σ H1 fun vs H2 => sp (x :: vs) H2 Q E
def kMa2 (sp : Sp) (E : XK) (x : V) (Q : VK) : List V → Hp → Prop := fun vs H => sp (x :: vs) H Q E
section
variable {G : Addr → Prop} {m : Str} {sp : Sp} {E : L2.St → XK} {E1 : XK} {ta : TE} {t : TA} {σ : L2.St} {H : Hp} {Q : VK} {x : V} {a C dx : Addr} {fs : List (Str × V)} {vs : List V}
theorem w_methA (h : ta σ H (kMa G m sp (E σ) t σ Q)) : tMethA G m sp E ta t σ H Q := h
theorem w_kma (ha : H a = some (.ins C dx fs)) (g : G C) (l : fs.lookup m = none) (h : t σ H (kMa2 sp E1 (.ref a) Q)) : kMa G m sp E1 t σ Q (.ref a) H := ⟨a, C, dx, fs, rfl, ha, g, l, h⟩
theorem w_kma2 (h : sp (x :: vs) H Q E1) : kMa2 sp E1 x Q vs H := h
end
end Rd
/-! PropA: a property of an own class, by facts. -/
namespace Rd
open PySem PySem.Spec PyProof.Rows L2
theorem Tx.prop {fa : List He.Fa} {fn : List He.DefD} {xa : List Xa} {fs : Fs} {P : Program} {K : PySem.W.Frag} {mg : Str → Option Value} (T : Tx fa fn xa fs P K mg) (i : Nat) {x m : Str} (h : xa[i]? = some (.prop x m) := by rfl) : PropOf K (He.ga K x) m (He.ma K (He.ga K x) m) (wrapAt "property" x m K) := by
  obtain ⟨a, r⟩ := He.ba (T.all.own i h)
  obtain ⟨b, r⟩ := He.ba r
  obtain ⟨c, r⟩ := He.ba r
  refine ⟨He.eqO_ok a, He.eqO_ok b, of_decide_eq_true c, ?_⟩
  split at r
  · rename_i g rest e
    refine ⟨rest, ?_⟩
    have w : wrapAt "property" x m K = g := by unfold wrapAt; rw [e]
    rw [w]; exact e
  · cases r
/-- a property by its getter -/
structure PrG (P : Program) (w : World) (K : PySem.W.Frag) (mg : Str → Option Value) (base : Heap) (k : Nat) (x m : Str) (sp : Sp) : Prop where
  ex : ∃ p g fd, PropOf K (He.ga K x) m p g ∧ FnOk P w K mg base CX0 k g fd ["self"] sp ∧ Binds K fd ["self"] []
  cls : Cls K (He.ga K x)
theorem pe_prG {X : Cx} {k : Nat} {x m : Str} {sp : Sp} {e : Expr} {pos : Pos} {ta : TE} (G : PrG X.prog X.w X.K X.mg X.base k x m sp) (hr : Room (k + 1) X.A) (he : PE X e ta) (hab : attributeBase e m X.env (eval e X.env) = eval e X.env := by rfl) : PE X (.Attribute e m pos) (tProp (He.ga X.K x) sp [] E0 ta) := by
  obtain ⟨p, g, fd, hp, F, b⟩ := G.ex
  exact pe_prop he G.cls hp F hr b .nil pass0 hab
def kPr (C : Addr) (sp : Sp) (Q : VK) : VK := fun x H1 => ∃ a dx fs, x = .ref a ∧ H1 a = some (.ins C dx fs) ∧ sp [.ref a] H1 Q E0
section
variable {C a dx : Addr} {sp : Sp} {ta : TE} {σ : L2.St} {H : Hp} {Q : VK} {fs : List (Str × V)}
theorem w_prop (h : ta σ H (kPr C sp Q)) : tProp C sp [] E0 ta σ H Q := h
theorem w_kpr (ha : H a = some (.ins C dx fs)) (h : sp [.ref a] H Q E0) : kPr C sp Q (.ref a) H := ⟨a, dx, fs, rfl, ha, h⟩
end
end Rd
/-! MkKS: C(e, .., k = v, ..) inside a try. -/
namespace Rd
open PySem PySem.Spec PyProof.Rows PySem.W L2
def tMkKS (C : Addr) (n m : Nat) (sp : Sp) (gV : List V → List V → List V) (E : L2.St → XK) (t tk : TA) : TE := fun σ H Q => tMakeK C n m sp gV (E σ) t tk σ H Q
section
variable {X : Cx} {CX : CXT} {k n : Nat} {x : Str} {ps ks : List Str} {sp : Sp} {gV : List V → List V → List V} {E : L2.St → XK} {e : Expr} {es : List Expr} {kws : List Keyword} {t tk : TA} {p pos : Pos}
theorem pe_mkKS (G : MkK X.prog X.w X.K X.mg X.base CX k x ps n ks gV sp) (hr : Room (k + 1) X.A) (hg : Gl X x) (hx : ∀ σ, PassesAt CX X σ (E σ)) (ha : PA X (e :: es) t) (hkw : PK X kws tk)
    (hall : (backToKw pos (keywordEach kws X.env)).all (·.1.isSome) = true := by rfl) (hks : (backToKw pos (keywordEach kws X.env)).filterMap (·.1) = ks := by rfl) (hdb : (x == ("__debug__" : Str)) = false := by decide)
    (he : starEach (e :: es) X.env = (false, eval e X.env) :: starEach es X.env := by rfl) (hpl : ((backTo pos (starEach (e :: es) X.env)).any (·.1) || (backToKw pos (keywordEach kws X.env)).any (·.1.isNone)) = false := by rfl) :
    PE X (.Call (.Name x p) (e :: es) kws pos) (tMkKS (He.ga X.K x) n ks.length sp gV E t tk) where
  run := fun pins s σ H Q I h => by
    obtain ⟨f, fd, g, hm, M, F, hb⟩ := G.ex
    refine wpAny_Call_Name_kw (ld_glob I hg hm ?_ hdb)
    refine PySem.W.callWith_KW (h₀ := X.base) I.ok.mod.kin M.kp hall (thn (ha.run pos pins s σ H _ I h) fun us s1 w1 => ?_) hpl he
    obtain ⟨vs, H1, I1, r1, w1⟩ := w1
    refine thn (hkw.run pos pins s1 σ H1 _ I1 w1) fun ws s2 w2 => ?_
    obtain ⟨zs, H2, I2, r2, l1, l2, say⟩ := w2
    refine ⟨I2.kIn, ?_⟩
    rw [hks]
    have new := Inv.made (C := He.ga X.K x) I2
    have wish := say (s2.heap.objs.size + 1) s2.heap.objs.size (I2.hok.fresh (Nat.le_succ _)) (I2.hok.fresh (Nat.le_refl _)) (Nat.ne_of_lt (Nat.lt_succ_self _))
    have rr : Vals (V.ref (s2.heap.objs.size + 1) :: vs) (Value.ref (s2.heap.objs.size + 1) :: us) := .cons rfl r1
    have ln : (Value.ref (s2.heap.objs.size + 1) :: us).length = n + 1 := by rw [List.length_cons, ← r1.length, l1]
    have lw : ws.length = ks.length := r2.length.symm.trans l2
    refine wpAny_call (make_map (f := f) I2.kIn M.makes M.init (beq_iff_eq.mp M.fn) (codeAny_mono (F.run _ X.stack _ _ ⟨Value.ref (s2.heap.objs.size + 1) :: us, ks.zip ws⟩ (g (Value.ref (s2.heap.objs.size + 1) :: us) ws) _ _ (E σ) (hr.make _ us (ks.zip ws)) (new.env0.make _ us (ks.zip ws)) (hb.to _ _ ws new.kIn ln lw) (hb.rel rr r2) wish) fun r s3 c => ?_))
    have z := came_of new (hx σ) c
    cases r with
    | error e2 => exact z
    | ok fl => cases fl with
      | ret u =>
        obtain ⟨v, H3, I3, ru, ev, q⟩ := z
        cases ev
        exact ⟨ru, V.ref (s2.heap.objs.size + 1), H3, I3, rfl, q⟩
      | _ => exact (show False from z).elim
theorem pe_mkKC (C : Addr) (hC : He.ga X.K x = C) (G : MkK X.prog X.w X.K X.mg X.base CX k x ps n ks gV sp) (hr : Room (k + 1) X.A) (hg : Gl X x) (hx : ∀ σ, PassesAt CX X σ (E σ)) (ha : PA X (e :: es) t) (hkw : PK X kws tk)
    (hall : (backToKw pos (keywordEach kws X.env)).all (·.1.isSome) = true := by rfl) (hks : (backToKw pos (keywordEach kws X.env)).filterMap (·.1) = ks := by rfl) (hdb : (x == ("__debug__" : Str)) = false := by decide)
    (he : starEach (e :: es) X.env = (false, eval e X.env) :: starEach es X.env := by rfl) (hpl : ((backTo pos (starEach (e :: es) X.env)).any (·.1) || (backToKw pos (keywordEach kws X.env)).any (·.1.isNone)) = false := by rfl) :
    PE X (.Call (.Name x p) (e :: es) kws pos) (tMkKS C n ks.length sp gV E t tk) := hC ▸ pe_mkKS G hr hg hx ha hkw hall hks hdb he hpl
end
theorem w_mkKS {C : Addr} {n m : Nat} {sp : Sp} {gV : List V → List V → List V} {E : L2.St → XK} {t tk : TA} {σ : L2.St} {H : Hp} {Q : VK} (h : t σ H (kMk1 C n m sp gV (E σ) tk σ Q)) : tMkKS C n m sp gV E t tk σ H Q := h
end Rd
/-! GridM: bars, in plain numbers. -/
namespace GridM
theorem div_uniq {s q r x : Int} (hs : 0 < s) (h : x = s * q + r) (h0 : 0 ≤ r) (h1 : r < s) : x / s = q ∧ x % s = r := by
  have h2 : r / s = 0 := Int.ediv_eq_zero_of_lt h0 h1
  have h3 : r % s = r := Int.emod_eq_of_lt h0 h1
  subst h
  constructor
  · rw [Int.add_comm, Int.add_mul_ediv_left r q (by omega), h2]; omega
  · rw [Int.add_comm, Int.add_mul_emod_self_left, h3]
theorem split (s x : Int) : x = s * (x / s) + x % s := (Int.mul_ediv_add_emod x s).symm
def fb (s o t : Int) : Int := t + (o - t) % s
def lb (s o t : Int) : Int := t - (t - o) % s
theorem fb_eq {s o t : Int} : fb s o t = o - s * ((o - t) / s) := by
  have h := split s (o - t)
  unfold fb; omega
theorem lb_eq {s o t : Int} : lb s o t = o + s * ((t - o) / s) := by
  have h := split s (t - o)
  unfold lb; omega
/-- o and its rest differ by a multiple -/
theorem rest_eq (s o : Int) : o % s = o - s * (o / s) := by have h := split s o; omega
theorem fb_bar {s o t : Int} : (fb s (o % s) t - o) % s = 0 := by
  rw [fb_eq, rest_eq s o]
  have e : o - s * (o / s) - s * ((o - s * (o / s) - t) / s) - o = s * (-(o / s) - (o - s * (o / s) - t) / s) := by
    rw [Int.mul_sub, Int.mul_neg]; omega
  rw [e, Int.mul_emod_right]
theorem lb_bar {s o t : Int} : (lb s (o % s) t - o) % s = 0 := by
  rw [lb_eq, rest_eq s o]
  have e : o - s * (o / s) + s * ((t - (o - s * (o / s))) / s) - o = s * (-(o / s) + (t - (o - s * (o / s))) / s) := by
    rw [Int.mul_add, Int.mul_neg]; omega
  rw [e, Int.mul_emod_right]
theorem in_iff {s o t : Int} : (t - o % s) % s = (t - o) % s := by
  rw [rest_eq s o]
  have e : t - (o - s * (o / s)) = t - o + s * (o / s) := by omega
  rw [e, Int.add_mul_emod_self_left]
theorem fb_ge {s o t : Int} (hs : 0 < s) : 0 ≤ fb s o t - t ∧ fb s o t - t < s := by
  have h1 := Int.emod_nonneg (o - t) (show s ≠ 0 by omega)
  have h2 := Int.emod_lt_of_pos (o - t) hs
  unfold fb; omega
theorem lb_le {s o t : Int} (hs : 0 < s) : 0 ≤ t - lb s o t ∧ t - lb s o t < s := by
  have h1 := Int.emod_nonneg (t - o) (show s ≠ 0 by omega)
  have h2 := Int.emod_lt_of_pos (t - o) hs
  unfold lb; omega
/-- how many bars from low on, before high, by two floors -/
def cnt (s o lo hi : Int) : Int := (hi - 1 - o) / s - (lo - 1 - o) / s
theorem neg_div {s x : Int} (hs : 0 < s) : (-x) / s = -((x - 1) / s) - 1 := by
  have h := split s (x - 1)
  have h1 := Int.emod_nonneg (x - 1) (show s ≠ 0 by omega)
  have h2 := Int.emod_lt_of_pos (x - 1) hs
  refine (div_uniq (r := s - 1 - (x - 1) % s) hs ?_ (by omega) (by omega)).1
  have e : s * (-((x - 1) / s) - 1) = -(s * ((x - 1) / s)) - s := by rw [Int.mul_sub, Int.mul_neg, Int.mul_one]
  rw [e]; omega
theorem fb_cnt {s o lo hi : Int} (hs : 0 < s) : (fb s (o % s) hi - fb s (o % s) lo) / s = cnt s o lo hi := by
  have sh : ∀ t, (o % s - t) / s = (o - t) / s - o / s := fun t => by
    rw [rest_eq s o]
    have e : o - s * (o / s) - t = (o - t) + s * (-(o / s)) := by rw [Int.mul_neg]; omega
    rw [e, Int.add_mul_ediv_left _ _ (by omega)]; omega
  rw [fb_eq, fb_eq, sh, sh]
  have e : o % s - s * ((o - hi) / s - o / s) - (o % s - s * ((o - lo) / s - o / s)) = s * ((o - lo) / s - (o - hi) / s) := by
    rw [Int.mul_sub, Int.mul_sub, Int.mul_sub]; omega
  rw [e, Int.mul_ediv_cancel_left _ (by omega)]
  have h1 := neg_div (x := hi - o) hs
  have h2 := neg_div (x := lo - o) hs
  have e1 : -(hi - o) = o - hi := by omega
  have e2 : -(lo - o) = o - lo := by omega
  have e3 : hi - o - 1 = hi - 1 - o := by omega
  have e4 : lo - o - 1 = lo - 1 - o := by omega
  rw [e1, e3] at h1
  rw [e2, e4] at h2
  unfold cnt; omega
theorem step_div {s x : Int} (hs : 0 < s) : x / s - (x - 1) / s = if x % s = 0 then 1 else 0 := by
  have h := split s x
  have h1 := Int.emod_nonneg x (show s ≠ 0 by omega)
  have h2 := Int.emod_lt_of_pos x hs
  split
  · rename_i e
    have q := (div_uniq (s := s) (x := x - 1) (q := x / s - 1) (r := s - 1) hs (by rw [Int.mul_sub, Int.mul_one]; omega) (by omega) (by omega)).1
    omega
  · rename_i e
    have q := (div_uniq (s := s) (x := x - 1) (q := x / s) (r := x % s - 1) hs (by omega) (by omega) (by omega)).1
    omega
/-- the same, counted one by one -/
theorem cnt_count {s o lo : Int} (hs : 0 < s) : ∀ n : Nat, (((List.range n).filter fun i : Nat => decide ((lo + (i : Int) - o) % s = 0)).length : Int) = cnt s o lo (lo + n)
  | 0 => by unfold cnt; simp
  | n + 1 => by
    rw [List.range_succ, List.filter_append, List.length_append, Int.natCast_add, cnt_count hs n]
    have h := step_div (x := lo + (n : Int) - o) hs
    have e1 : lo + ((n + 1 : Nat) : Int) - 1 - o = lo + (n : Int) - o := by omega
    have e2 : lo + (n : Int) - 1 - o = lo + (n : Int) - o - 1 := by omega
    unfold cnt
    rw [e1, e2]
    by_cases z : (lo + (n : Int) - o) % s = 0
    · rw [if_pos z] at h
      simp [z]; omega
    · rw [if_neg z] at h
      simp [z]; omega
theorem fb_mono {s o t u : Int} (hs : 0 < s) (h : t ≤ u) : fb s o t ≤ fb s o u := by
  rw [fb_eq, fb_eq]
  have := Int.mul_le_mul_of_nonneg_left (Int.ediv_le_ediv hs (show o - u ≤ o - t by omega)) (Int.le_of_lt hs)
  omega
end GridM
/-! NumM: written numbers, plainly. -/
namespace NumM
open PySem PySem.NumText PyProof.Rows L2 SX
/-- without the minus -/
def dg (l : List Nat) : List Nat := if l.head? = some 45 then l.tail else l
def Good (l : List Nat) : Prop := (1 ≤ (dg l).length ∧ (dg l).length ≤ 40) ∧ AllDigits (dg l) ∧ ¬ ((dg l).head? = some 48 ∧ l ≠ [48])
def val (l : List Nat) : Int := if l.head? = some 45 then -((digitsVal (dg l) : Nat) : Int) else ((digitsVal (dg l) : Nat) : Int)
theorem dv_snoc (e : List Nat) (c : Nat) : digitsVal (e ++ [c]) = digitsVal e * 10 + (c - 48) := by unfold digitsVal; rw [List.foldl_append]; rfl
theorem rev_ind {P : List Nat → Prop} (h0 : P []) (hs : ∀ e c, P e → P (e ++ [c])) (l : List Nat) : P l := by
  have key : ∀ m : List Nat, P m.reverse := fun m => by
    induction m with
    | nil => exact h0
    | cons a r ih => rw [List.reverse_cons]; exact hs _ _ ih
  have := key l.reverse
  rw [List.reverse_reverse] at this
  exact this
theorem dv_lt : ∀ {d : List Nat}, AllDigits d → digitsVal d < 10 ^ d.length := by
  intro d
  induction d using rev_ind with
  | h0 => intro _; decide
  | hs e c ih =>
    intro h
    have h1 := ih fun x hx => h x (List.mem_append_left _ hx)
    have h2 := h c (List.mem_append_right _ (List.mem_singleton.mpr rfl))
    rw [dv_snoc, List.length_append, List.length_singleton, Nat.pow_succ]
    omega
theorem dv_pos : ∀ {d : List Nat}, AllDigits d → d ≠ [] → d.head? ≠ some 48 → 1 ≤ digitsVal d := by
  intro d
  induction d using rev_ind with
  | h0 => intro _ h; exact absurd rfl h
  | hs e c ih =>
    intro h _ h0
    have hc := h c (List.mem_append_right _ (List.mem_singleton.mpr rfl))
    rw [dv_snoc]
    by_cases he : e = []
    · subst he
      have : c ≠ 48 := fun z => h0 (by rw [z]; rfl)
      omega
    · have h1 := ih (fun x hx => h x (List.mem_append_left _ hx)) he (fun z => h0 (by rw [List.head?_append, z]; rfl))
      omega
/-- written back -/
theorem num_back : ∀ {d : List Nat}, AllDigits d → d ≠ [] → (d.head? = some 48 → d = [48]) → TL.numL (digitsVal d) = d := by
  intro d
  induction d using rev_ind with
  | h0 => intro _ h; exact absurd rfl h
  | hs e c ih =>
    intro h _ h0
    have hc := h c (List.mem_append_right _ (List.mem_singleton.mpr rfl))
    by_cases he : e = []
    · subst he
      have e1 : digitsVal ([] ++ [c]) = c - 48 := by rw [dv_snoc]; show 0 * 10 + _ = _; omega
      rw [e1, TL.numL_lt (by omega), List.nil_append]
      congr 1; omega
    · have ha : AllDigits e := fun x hx => h x (List.mem_append_left _ hx)
      have hh : e.head? ≠ some 48 := fun z => by
        have e2 := h0 (by rw [List.head?_append, z]; rfl)
        have := congrArg List.length e2
        rw [List.length_append, List.length_singleton, List.length_singleton] at this
        exact he (List.eq_nil_of_length_eq_zero (by omega))
      have h1 := dv_pos ha he hh
      rw [dv_snoc, TL.numL_step (by omega), show (digitsVal e * 10 + (c - 48)) / 10 = digitsVal e by omega, show (digitsVal e * 10 + (c - 48)) % 10 = c - 48 by omega, ih ha he (fun z => absurd z hh)]
      congr 2; omega
theorem cons_of {l : List Nat} (h : l.head? = some 45) : l = 45 :: dg l := by
  unfold dg
  rw [if_pos h]
  cases l with
  | nil => cases h
  | cons a r => cases h; rfl
theorem same_of {l : List Nat} (h : ¬ l.head? = some 45) : dg l = l := if_neg h
theorem Good.ne {l : List Nat} (h : Good l) : dg l ≠ [] := fun z => by have := h.1.1; rw [z] at this; exact absurd this (by decide)
theorem int_good {z : Str} (h : Good z.cps.toList) (hl : z.length ≤ 640) : intText? z = some (val z.cps.toList) := by
  unfold val
  by_cases c : z.cps.toList.head? = some 45
  · rw [if_pos c]
    exact intText_neg (cons_of c) h.2.1 h.ne (by omega)
  · rw [if_neg c, same_of c]
    have ha := h.2.1
    have hn := h.ne
    rw [same_of c] at ha hn
    exact intText_digits ha hn (by omega)
theorem neg_text (m : Nat) : TL.tl (Str.ofString (toString (-((m + 1 : Nat) : Int)))) = 45 :: TL.numL (m + 1) := by
  have e : toString (-((m + 1 : Nat) : Int)) = "-" ++ toString ((m + 1 : Nat) : Int) := rfl
  have f := TL.tl_num (m + 1)
  rw [TL.tl_ofString] at f
  rw [e, TL.tl_ofString, String.toList_append, List.map_append, f]
  rfl
theorem write_good {z : Str} (h : Good z.cps.toList) : Str.ofString (toString (val z.cps.toList)) = z := by
  refine TL.ext_tl ?_
  obtain ⟨⟨l1, l2⟩, ha, hz⟩ := id h
  unfold val
  by_cases c : z.cps.toList.head? = some 45
  · rw [if_pos c]
    have ez := cons_of c
    have hh : (dg z.cps.toList).head? ≠ some 48 := fun q => hz ⟨q, fun w => by rw [w] at c; cases c⟩
    have pos := dv_pos ha h.ne hh
    obtain ⟨m, hm⟩ : ∃ m, digitsVal (dg z.cps.toList) = m + 1 := ⟨digitsVal (dg z.cps.toList) - 1, by omega⟩
    rw [hm, neg_text, ← hm, num_back ha h.ne (fun q => absurd q hh)]
    exact ez.symm
  · rw [if_neg c, TL.tl_num, same_of c]
    rw [same_of c] at ha hz
    have hn := h.ne
    rw [same_of c] at hn
    exact num_back ha hn fun q => Classical.byContradiction fun w => hz ⟨q, w⟩
theorem val_small {l : List Nat} (h : Good l) : (val l).natAbs.log2 < 1920 := by
  have lt := dv_lt h.2.1
  have l2 : 10 ^ (dg l).length ≤ 10 ^ 40 := Nat.pow_le_pow_right (by decide) h.1.2
  have e : (val l).natAbs = digitsVal (dg l) := by unfold val; split <;> omega
  rw [e]
  by_cases z : digitsVal (dg l) = 0
  · rw [z]; decide
  · rw [Nat.log2_lt z]
    have : (10 : Nat) ^ 40 < 2 ^ 1920 := by decide +kernel
    omega
/-- the law's own words for a written number -/
theorem good_iff {l : List Nat} (h1 : 1 ≤ (dg l).length ∧ (dg l).length ≤ 40) (ha : AllDigits (dg l)) : Good l ↔ ¬ ((dg l).head? = some 48 ∧ (l.head? = some 45 ∨ 1 < (dg l).length)) := by
  refine ⟨fun g z => g.2.2 ⟨z.1, fun w => ?_⟩, fun z => ⟨h1, ha, fun w => z ⟨w.1, ?_⟩⟩⟩
  · rcases z.2 with c | c
    · rw [w] at c; cases c
    · rw [w] at c; exact absurd c (by decide)
  · by_cases c : l.head? = some 45
    · exact .inl c
    · refine .inr (Classical.byContradiction fun q => w.2 ?_)
      rw [same_of c] at w h1 q
      have len : l.length = 1 := by omega
      obtain ⟨a, rfl⟩ := List.length_eq_one_iff.mp len
      have := w.1
      cases this
      rfl
theorem pre1 (l : List Nat) (c : Nat) : TL.pre [c] l = true ↔ l.head? = some c := by
  unfold TL.pre
  cases l with
  | nil => simp
  | cons a r =>
    show (([a] : List Nat) == [c]) = true ↔ some a = some c
    rw [beq_iff_eq]
    exact ⟨fun h => by cases h; rfl, fun h => by cases h; rfl⟩
theorem at1 {z : Str} {c i : Nat} : StrLaws.At z ⟨#[c]⟩ z.length i ↔ z.cps.toList[i]? = some c := by
  rw [TL.at_iff (by show [c] ≠ []; simp)]
  show TL.pre [c] (z.cps.toList.drop i) = true ↔ _
  rw [pre1, List.head?_drop]
theorem remP (z : Str) : Txt.removeprefix z "-" = S (dg z.cps.toList) := by
  rw [StrLaws.removeprefix_eq]
  have e : StrLaws.At z ⟨#[45]⟩ z.length 0 ↔ z.cps.toList[0]? = some 45 := at1
  have e2 : (decide (0 + ("-" : Str).length ≤ z.length) && Builtin.Str.subAt z "-" 0) = true ↔ z.cps.toList.head? = some 45 := by
    rw [List.head?_eq_getElem?, ← e, Bool.and_eq_true, decide_eq_true_eq]
    exact Iff.rfl
  by_cases c : z.cps.toList.head? = some 45
  · rw [if_pos (e2.mpr c)]
    have ez := cons_of c
    refine congrArg (fun l : List Nat => (⟨l.toArray⟩ : Str)) ?_
    show (z.cps.toList.drop 1).take (z.length - 1) = _
    rw [TL.len_tl]
    show (z.cps.toList.drop 1).take (z.cps.toList.length - 1) = _
    generalize z.cps.toList = l at ez
    generalize dg l = r at ez
    subst ez
    show r.take (r.length + 1 - 1) = r
    exact List.take_of_length_le (by omega)
  · rw [if_neg (fun q => c (e2.mp q)), same_of c, S_tl]
abbrev DIG : Str := "0123456789"
theorem dig_at : ∀ i : Nat, i < 10 → DIG.cps.toList[i]? = some (48 + i) := by decide +kernel
theorem dig_len : DIG.cps.toList.length = 10 := by decide +kernel
theorem dig_mem {c : Nat} : c ∈ DIG.cps.toList ↔ 48 ≤ c ∧ c ≤ 57 := by
  have e : DIG.cps.toList = [48, 49, 50, 51, 52, 53, 54, 55, 56, 57] := by decide +kernel
  rw [e]
  simp only [List.mem_cons, List.not_mem_nil, or_false]
  omega
theorem find_dig {c : Nat} : Txt.find DIG ⟨#[c]⟩ = if 48 ≤ c ∧ c ≤ 57 then ((c - 48 : Nat) : Int) else -1 := by
  rcases find_whole DIG ⟨#[c]⟩ with ⟨e, hn⟩ | ⟨i, e, hi, _⟩
  · rw [e, if_neg]
    intro hc
    exact hn (c - 48) (at1.mpr (by rw [dig_at _ (by omega)]; congr 1; omega))
  · have h := at1.mp hi
    have hl : i < 10 := by
      have := (List.getElem?_eq_some_iff.mp h).1
      rw [dig_len] at this; exact this
    rw [dig_at i hl] at h
    cases h
    rw [e, if_pos (by omega)]
    congr 1; omega
/-- the law's loop -/
theorem fold_dig (l : List Nat) (h : AllDigits l) (k : Nat) : ((digitsVal (l.take k) : Nat) : Int) = (l.take k).foldl (fun (t : Int) (c : Nat) => t * 10 + ((c : Int) - 48)) 0 := by
  have := TL.fold_digits (l.take k) 0 (fun c hc => h c (List.mem_of_mem_take hc))
  exact this.symm
end NumM
/-! NameM: names, plainly. -/
namespace NameM
open PySem PyProof.Rows L2 SX NumM
abbrev LET : Str := "abcdefghijklmnopqrstuvwxyz"
/-- the first of a text's signs is a letter -/
def Fst (l : List Nat) : Prop := ∃ c, l.head? = some c ∧ c ∈ LET.cps.toList
def Sgn (c : Nat) : Prop := c ∈ LET.cps.toList ∨ c ∈ DIG.cps.toList
def IsName (l : List Nat) : Prop := (1 ≤ l.length ∧ l.length ≤ 12) ∧ Fst l ∧ ∀ c ∈ l, Sgn c
instance (l : List Nat) : Decidable (Fst l) := match l with
  | [] => .isFalse fun ⟨_, h, _⟩ => nomatch h
  | a :: _ => if h : a ∈ LET.cps.toList then .isTrue ⟨a, rfl, h⟩ else .isFalse fun ⟨_, e, m⟩ => h (by cases e; exact m)
instance (c : Nat) : Decidable (Sgn c) := inferInstanceAs (Decidable (_ ∨ _))
instance (l : List Nat) : Decidable (IsName l) := inferInstanceAs (Decidable (_ ∧ _ ∧ _))
theorem fst_cons {l : List Nat} {c : Nat} (h : l.head? = some c) : Fst l ↔ c ∈ LET.cps.toList := ⟨fun ⟨d, e, m⟩ => by rw [h] at e; cases e; exact m, fun m => ⟨c, h, m⟩⟩
theorem find_lt {z : Str} {c : Nat} : Txt.find z ⟨#[c]⟩ < 0 ↔ c ∉ z.cps.toList := by
  rcases find_whole z ⟨#[c]⟩ with ⟨e, hn⟩ | ⟨i, e, hi, _⟩
  · rw [e]
    refine ⟨fun _ m => ?_, fun _ => by decide⟩
    obtain ⟨i, hi⟩ := List.getElem?_of_mem m
    exact hn i (at1.mpr hi)
  · rw [e]
    exact ⟨fun h => absurd h (by omega), fun h => absurd (List.mem_of_getElem? (at1.mp hi)) h⟩
theorem all_ok {l : List Nat} : (l.map fun c => decide (Sgn c)).all id = decide (∀ c ∈ l, Sgn c) := by
  rw [Bool.eq_iff_iff, List.all_eq_true, decide_eq_true_eq]
  refine ⟨fun h c hc => of_decide_eq_true (h _ (List.mem_map.mpr ⟨c, hc, rfl⟩)), fun h x hx => ?_⟩
  obtain ⟨c, hc, rfl⟩ := List.mem_map.mp hx
  exact decide_eq_true (h c hc)
theorem IsName.short {z : Str} (h : IsName z.cps.toList) : z.length ≤ 12 := by rw [(TL.len_tl z : z.length = z.cps.toList.length)]; exact h.1.2
theorem let_lt : ∀ c ∈ LET.cps.toList, c < 128 := by decide +kernel
theorem dig_lt : ∀ c ∈ DIG.cps.toList, c < 128 := by decide +kernel
theorem IsName.ok {z : Str} (h : IsName z.cps.toList) : PyData.strOk z = true := by
  unfold PyData.strOk
  rw [← Array.all_toList, List.all_eq_true]
  intro c hc
  have : c < 128 := (h.2.2 c hc).elim (let_lt c) (dig_lt c)
  exact decide_eq_true (by omega)
theorem let_at : ∀ k : Nat, k < 26 → LET.cps.toList[k]? = some (97 + k) := by decide +kernel
theorem let_mem {k : Nat} (h : k < 26) : 97 + k ∈ LET.cps.toList := List.mem_of_getElem? (let_at k h)
abbrev SIG : Str := LET ++ DIG
theorem sig_sgn {c : Nat} (h : c ∈ SIG.cps.toList) : Sgn c := by
  have e : SIG.cps.toList = LET.cps.toList ++ DIG.cps.toList := TL.tl_append LET DIG
  rw [e] at h
  exact List.mem_append.mp h
theorem name_lets {cs : List Nat} (h1 : 1 ≤ cs.length) (h2 : cs.length ≤ 12) (h : ∀ c ∈ cs, c ∈ LET.cps.toList) : IsName cs := by
  refine ⟨⟨h1, h2⟩, ?_, fun c hc => .inl (h c hc)⟩
  cases cs with
  | nil => exact absurd h1 (by decide)
  | cons a r => exact ⟨a, rfl, h a List.mem_cons_self⟩
theorem name_cons {c : Nat} {ds : List Nat} (hc : c ∈ LET.cps.toList) (h : ∀ d ∈ ds, Sgn d) (hl : ds.length ≤ 11) : IsName (c :: ds) :=
  ⟨⟨by simp, by rw [List.length_cons]; omega⟩, ⟨c, rfl, hc⟩, fun d hd => (List.mem_cons.mp hd).elim (fun e => .inl (e ▸ hc)) (h d)⟩
theorem IsName.head {cs : List Nat} {c : Nat} (n : IsName cs) (hc : c ∈ LET.cps.toList) : IsName (c :: cs.tail) :=
  name_cons hc (fun d hd => n.2.2 d (List.mem_of_mem_tail hd)) (by have := n.1.2; rw [List.length_tail]; omega)
theorem nodup_len {α : Type} [DecidableEq α] : ∀ {l m : List α}, l.Nodup → (∀ x ∈ l, x ∈ m) → l.length ≤ m.length
  | [], _, _, _ => Nat.zero_le _
  | a :: r, m, h, s => by
    have hn := List.nodup_cons.mp h
    have ha := s a List.mem_cons_self
    have := nodup_len (l := r) (m := m.erase a) hn.2 fun x hx => (List.mem_erase_of_ne (fun (e : x = a) => hn.1 (e ▸ hx))).mpr (s x (List.mem_cons_of_mem _ hx))
    rw [List.length_erase_of_mem ha] at this
    have pos := List.length_pos_of_mem ha
    rw [List.length_cons]; omega
/-- the letter that stands for the turn -/
def ltr (turn t : Int) : Nat := 97 + ((turn + t) % 26).toNat
theorem ltr_mem (turn t : Int) : ltr turn t ∈ LET.cps.toList := let_mem (by have := Int.emod_lt_of_pos (turn + t) (show (0 : Int) < 26 by decide); omega)
/-- the names so far; the text now, behind i turns -/
structure Tries (ss : List Str) (turn : Int) (i : Nat) (z : Str) : Prop where
  name : IsName z.cps.toList
  done : z ∉ ss ∨ ∃ tl : List Nat, z.cps.toList.tail = tl ∧ (0 < i → z = S (ltr turn ((i : Int) - 1) :: tl)) ∧ ∀ j : Nat, j + 1 < i → S (ltr turn (j : Int) :: tl) ∈ ss
theorem Tries.start {ss : List Str} {turn : Int} {z : Str} (n : IsName z.cps.toList) : Tries ss turn 0 z := ⟨n, .inr ⟨_, rfl, fun h => absurd h (by decide), fun j h => by omega⟩⟩
theorem Tries.stay {ss : List Str} {turn : Int} {i : Nat} {z : Str} (h : Tries ss turn i z) (n : z ∉ ss) : Tries ss turn (i + 1) z := ⟨h.name, .inl n⟩
theorem Tries.next {ss : List Str} {turn : Int} {i : Nat} {z : Str} (h : Tries ss turn i z) (m : z ∈ ss) : Tries ss turn (i + 1) (S (ltr turn (i : Int) :: z.cps.toList.tail)) := by
  refine ⟨h.name.head (ltr_mem _ _), .inr ⟨z.cps.toList.tail, rfl, fun _ => by rw [show ((i + 1 : Nat) : Int) - 1 = (i : Int) by omega], fun j hj => ?_⟩⟩
  rcases h.done with d | ⟨tl, e, d1, d2⟩
  · exact absurd m d
  · subst e
    by_cases c : j + 1 < i
    · exact d2 j c
    · have e : i = j + 1 := by omega
      subst e
      have := d1 (by omega)
      rw [show ((j + 1 : Nat) : Int) - 1 = (j : Int) by omega] at this
      rw [← this]; exact m
theorem Tries.end_ {ss : List Str} {turn : Int} {z : Str} (h : Tries ss turn 26 z) (hl : ss.length ≤ 20) : z ∉ ss := by
  rcases h.done with d | ⟨tl, e, d1, d2⟩
  · exact d
  · exfalso
    have := nodup_len (l := (List.range 25).map fun j : Nat => S (ltr turn (j : Int) :: tl)) (m := ss) ?_ ?_
    · rw [List.length_map, List.length_range] at this
      omega
    · refine List.pairwise_map.mpr ?_
      refine List.Pairwise.imp_of_mem ?_ List.nodup_range
      intro a b ha hb ne q
      have ha := List.mem_range.mp ha
      have hb := List.mem_range.mp hb
      have q := S_inj q
      have q := (List.cons.inj q).1
      unfold ltr at q
      omega
    · intro x hx
      obtain ⟨j, hj, rfl⟩ := List.mem_map.mp hx
      exact d2 j (by have := List.mem_range.mp hj; omega)
end NameM
/-! ErrM: what a def may raise, by a value. -/
namespace Rd
open PySem PySem.Spec PyProof.Rows L2
/-- an own error with its fields, as its dict has them -/
structure Er where
  cls : Str
  fds : List (Str × V)
abbrev eNum (i : Int) : Er := ⟨"BadNumber", [("number", .int i)]⟩
abbrev eName (z : Str) : Er := ⟨"BadName", [("name", .str z)]⟩
abbrev eTwice (z : Str) : Er := ⟨"Twice", [("name", .str z)]⟩
abbrev eUnk (z : Str) : Er := ⟨"Unknown", [("name", .str z)]⟩
abbrev eText (z : Str) : Er := ⟨"BadText", [("text", .str z)]⟩
abbrev eSpan (i j : Int) : Er := ⟨"BadSpan", [("high", .int j), ("low", .int i)]⟩
abbrev eMany (z : Str) (i : Int) : Er := ⟨"TooMany", [("most", .int i), ("what", .str z)]⟩
/-- the end of a def: none: it goes on; some e: it raises e -/
def Outs (K : PySem.W.Frag) (er : Option Er) (H : Hp) (ok : Hp → Prop) (E : XK) : Prop := match er with
  | none => ∀ H', Same H H' → ok H'
  | some e => ∀ (d : Addr) (H' : Hp), Same H H' → H' d = none → E (.ref (He.ga K e.cls)) (some d) (upd H' d (.xd e.fds))
section
variable {K : PySem.W.Frag} {er er' : Option Er} {e : Er} {H H' : Hp} {ok : Hp → Prop} {E : XK} {c : Prop} {d : Addr}
theorem Outs.go (h : Outs K er H ok E) (n : er = none) (s : Same H H') : ok H' := by subst n; exact h H' s
theorem Outs.bad (h : Outs K er H ok E) (n : er = some e) (s : Same H H') (hd : H' d = none) : E (.ref (He.ga K e.cls)) (some d) (upd H' d (.xd e.fds)) := by subst n; exact h d H' s hd
theorem Outs.mk (h1 : er = none → ∀ H', Same H H' → ok H') (h2 : ∀ e, er = some e → ∀ (d : Addr) (H' : Hp), Same H H' → H' d = none → E (.ref (He.ga K e.cls)) (some d) (upd H' d (.xd e.fds))) : Outs K er H ok E := by
  cases er with
  | none => exact h1 rfl
  | some e => exact h2 e rfl
theorem Outs.keep (s : Same H H') (h : Outs K er H ok E) : Outs K er H' ok E := Outs.mk (fun n H2 s2 => h.go n (s.trans s2)) fun e n d H2 s2 hd => h.bad n (s.trans s2) hd
end
/-- the first that is due -/
def due {α : Type} (e : Option α) (r : Option α) : Option α := match e with
  | some x => some x
  | none => r
theorem due_n {α : Type} {e r : Option α} (h : e = none) : due e r = r := by subst h; rfl
theorem due_s {α : Type} {e r : Option α} {x : α} (h : e = some x) : due e r = some x := by subst h; rfl
def bad {α : Type} (c : Prop) [Decidable c] (e : α) : Option α := if c then some e else none
theorem bad_t {α : Type} {c : Prop} [Decidable c] {e : α} (h : c) : bad c e = some e := if_pos h
theorem bad_f {α : Type} {c : Prop} [Decidable c] {e : α} (h : ¬ c) : bad c e = none := if_neg h
/-! ### an instance that is being made -/
/-- all but x stands -/
def But (x : Addr) (H H' : Hp) : Prop := ∀ b o, b ≠ x → H b = some o → H' b = some o
section
variable {H H1 H2 H' : Hp} {x dx b : Addr} {o o1 o2 : HO}
theorem But.refl : But x H H := fun _ _ _ h => h
theorem But.trans (a : But x H H1) (c : But x H1 H2) : But x H H2 := fun b o n h => c b o n (a b o n h)
theorem But.same (s : Same H H1) : But x H H1 := fun b o _ h => s b o h
theorem But.put (a : But x H H1) : But x H (upd H1 x o) := fun b u n h => by rw [upd_ne n]; exact a b u n h
theorem But.made (hx : H x = none) (hd : H dx = none) (a : But x (upd (upd H dx o1) x o2) H') : Same H H' := fun b u h => by
  have n1 : b ≠ x := ne_of_none h hx
  have n2 : b ≠ dx := ne_of_none h hd
  exact a b u n1 (by rw [upd_ne n1, upd_ne n2]; exact h)
end
def Inits (K : PySem.W.Frag) (er : Option Er) (x C dx : Addr) (F : List (Str × V)) (H : Hp) (Q : VK) (E : XK) : Prop := match er with
  | none => ∀ H', But x H H' → H' x = some (.ins C dx F) → Q .non H'
  | some e => ∀ (d : Addr) (H' : Hp), But x H H' → H' d = none → E (.ref (He.ga K e.cls)) (some d) (upd H' d (.xd e.fds))
section
variable {K : PySem.W.Frag} {er : Option Er} {e : Er} {x C dx d : Addr} {F : List (Str × V)} {H H' : Hp} {Q : VK} {E : XK}
theorem Inits.go (h : Inits K er x C dx F H Q E) (n : er = none) (s : But x H H') (hx : H' x = some (.ins C dx F)) : Q .non H' := by subst n; exact h H' s hx
theorem Inits.bad (h : Inits K er x C dx F H Q E) (n : er = some e) (s : But x H H') (hd : H' d = none) : E (.ref (He.ga K e.cls)) (some d) (upd H' d (.xd e.fds)) := by subst n; exact h d H' s hd
theorem Inits.mk (h1 : er = none → ∀ H', But x H H' → H' x = some (.ins C dx F) → Q .non H') (h2 : ∀ e, er = some e → ∀ (d : Addr) (H' : Hp), But x H H' → H' d = none → E (.ref (He.ga K e.cls)) (some d) (upd H' d (.xd e.fds))) : Inits K er x C dx F H Q E := by
  cases er with
  | none => exact h1 rfl
  | some e => exact h2 e rfl
end
end Rd
/-! DayR: grids, spans, items and houses: how they stand, and what their classes promise. -/
namespace Rd
open PySem PySem.Spec PyProof.Rows L2
def gridF (s o : Int) : List (Str × V) := putF "offset" (.int o) (putF "step" (.int s) [])
def IsGrid (K : PySem.W.Frag) (H : Hp) (a : Addr) (s o : Int) : Prop := ∃ dx, H a = some (.ins (He.ga K "Grid") dx (gridF s o))
def spanF (l h : Int) : List (Str × V) := putF "high" (.int h) (putF "low" (.int l) [])
def IsSpan (K : PySem.W.Frag) (H : Hp) (a : Addr) (l h : Int) : Prop := ∃ dx, H a = some (.ins (He.ga K "Span") dx (spanF l h))
theorem IsGrid.keep {K : PySem.W.Frag} {H H' : Hp} {a : Addr} {s o : Int} (h : IsGrid K H a s o) (k : Same H H') : IsGrid K H' a s o := let ⟨dx, e⟩ := h; ⟨dx, k _ _ e⟩
theorem IsSpan.keep {K : PySem.W.Frag} {H H' : Hp} {a : Addr} {s o : Int} (h : IsSpan K H a s o) (k : Same H H') : IsSpan K H' a s o := let ⟨dx, e⟩ := h; ⟨dx, k _ _ e⟩
theorem IsGrid.drawn {K : PySem.W.Frag} {H H' : Hp} {p a : Addr} {s o : Int} (h : IsGrid K H a s o) (k : Drawn p H H') : IsGrid K H' a s o := let ⟨dx, e⟩ := h; ⟨dx, k.ins e⟩
theorem IsSpan.drawn {K : PySem.W.Frag} {H H' : Hp} {p a : Addr} {s o : Int} (h : IsSpan K H a s o) (k : Drawn p H H') : IsSpan K H' a s o := let ⟨dx, e⟩ := h; ⟨dx, k.ins e⟩
/-- a minute or none -/
def optV : Option Int → V
  | none => .non
  | some i => .int i
def namedF (z : Str) : List (Str × V) := putF "name" (.str z) []
def timedF (g : Addr) (m : Option Int) (d : Int) (fs : List (Str × V)) : List (Str × V) := putF "delay" (.int d) (putF "minute" (optV m) (putF "grid" (.ref g) fs))
def itemF (z : Str) (g : Addr) (m : Option Int) (d : Int) : List (Str × V) := timedF g m d (namedF z)
def pieceF (z : Str) (g : Addr) (m : Option Int) (d lo hi : Int) : List (Str × V) := putF "most" (.int hi) (putF "least" (.int lo) (itemF z g m d))
def breakF (z : Str) (g : Addr) (m d pl un pa : Int) : List (Str × V) := putF "patience" (.int pa) (putF "unit" (.int un) (putF "places" (.int pl) (itemF z g (some m) d)))
def houseF (st cr : Int) (ks w p : Addr) (ah ap : Int) : List (Str × V) := putF "apart" (.int ap) (putF "ahead" (.int ah) (putF "pack" (.ref p) (putF "walk" (.ref w) (putF "kinds" (.ref ks) (putF "crews" (.int cr) (putF "studios" (.int st) []))))))
/-! what is refused -/
def nameEr (z : Str) : Option Er := bad (¬ NameM.IsName z.cps.toList) (eName z)
def delayEr (d : Int) : Option Er := bad (¬ (0 ≤ d ∧ d ≤ 8)) (eNum d)
def itemEr (z : Str) (d : Int) : Option Er := due (nameEr z) (delayEr d)
def pieceEr (z : Str) (d lo hi : Int) : Option Er := due (itemEr z d) (due (bad (lo < 1) (eNum lo)) (bad (¬ (lo ≤ hi ∧ hi ≤ lo + 8)) (eNum hi)))
def breakEr (z : Str) (d pl un pa : Int) : Option Er := due (itemEr z d) (due (bad (¬ (1 ≤ pl ∧ pl ≤ 12)) (eNum pl)) (due (bad (un < 1) (eNum un)) (bad (¬ (1 ≤ pa ∧ pa ≤ 64)) (eNum pa))))
/-! what the __init__ promise -/
def NoAts (K : PySem.W.Frag) (C : Addr) (fs : List Str) : Prop := ∀ f ∈ fs, NoAttr K C f
def spGridI (K : PySem.W.Frag) : Sp := fun vs H Q E => ∃ (x dx : Addr) (s o : Int), vs = [.ref x, .int s, .int o] ∧ H x = some (.ins (He.ga K "Grid") dx []) ∧ Inits K (bad (s < 1) (eNum s)) x (He.ga K "Grid") dx (gridF s (o % s)) H Q E
def spSpanI (K : PySem.W.Frag) : Sp := fun vs H Q E => ∃ (x dx : Addr) (l h : Int), vs = [.ref x, .int l, .int h] ∧ H x = some (.ins (He.ga K "Span") dx []) ∧ Inits K (bad (l > h) (eSpan l h)) x (He.ga K "Span") dx (spanF l h) H Q E
def spNamedI (K : PySem.W.Frag) : Sp := fun vs H Q E => ∃ (x C dx : Addr) (z : Str), vs = [.ref x, .str z] ∧ z.length ≤ 1000 ∧ Cls K C ∧ NoAttr K C "name" ∧ H x = some (.ins C dx []) ∧ Inits K (nameEr z) x C dx (namedF z) H Q E
def spTimedI (K : PySem.W.Frag) : Sp := fun vs H Q E => ∃ (x C dx g : Addr) (m : Option Int) (d : Int) (fs : List (Str × V)), vs = [.ref x, .ref g, optV m, .int d] ∧ Cls K C ∧ NoAttr K C "grid" ∧ NoAttr K C "minute" ∧ NoAttr K C "delay" ∧ (fs = [] ∨ ∃ z, fs = namedF z) ∧ H x = some (.ins C dx fs) ∧ Inits K (delayEr d) x C dx (timedF g m d fs) H Q E
def spItemI (K : PySem.W.Frag) : Sp := fun vs H Q E => ∃ (x C dx g : Addr) (z : Str) (m : Option Int) (d : Int), vs = [.ref x, .str z, .ref g, optV m, .int d] ∧ z.length ≤ 1000 ∧ Cls K C ∧ NoAttr K C "name" ∧ NoAttr K C "grid" ∧ NoAttr K C "minute" ∧ NoAttr K C "delay" ∧ H x = some (.ins C dx []) ∧ Inits K (itemEr z d) x C dx (itemF z g m d) H Q E
def spPieceI (K : PySem.W.Frag) : Sp := fun vs H Q E => ∃ (x dx g : Addr) (z : Str) (m : Option Int) (d lo hi : Int), vs = [.ref x, .str z, .ref g, .int lo, .int hi, optV m, .int d] ∧ z.length ≤ 1000 ∧ H x = some (.ins (He.ga K "Piece") dx []) ∧ Inits K (pieceEr z d lo hi) x (He.ga K "Piece") dx (pieceF z g m d lo hi) H Q E
def spBreakI (K : PySem.W.Frag) : Sp := fun vs H Q E => ∃ (x dx g : Addr) (z : Str) (m d pl un pa : Int), vs = [.ref x, .str z, .ref g, .int m, .int pl, .int un, .int d, .int pa] ∧ z.length ≤ 1000 ∧ H x = some (.ins (He.ga K "Break") dx []) ∧ Inits K (breakEr z d pl un pa) x (He.ga K "Break") dx (breakF z g m d pl un pa) H Q E
/-! making them -/
section
variable {K : PySem.W.Frag} {H H' : Hp} {Q : VK} {E : XK}
/-- what is made, or what is raised, over the heap ahead of the call -/
def Makes (K : PySem.W.Frag) (er : Option Er) (C : Addr) (F : List (Str × V)) (H : Hp) (Q : VK) (E : XK) : Prop := match er with
  | none => ∀ (x dx : Addr) (H' : Hp), H x = none → Same H H' → H' x = some (.ins C dx F) → Q (.ref x) H'
  | some e => ∀ (d : Addr) (H' : Hp), Same H H' → H' d = none → E (.ref (He.ga K e.cls)) (some d) (upd H' d (.xd e.fds))
theorem Makes.init {er : Option Er} {C x dx : Addr} {F : List (Str × V)} (h : Makes K er C F H Q E) (hx : H x = none) (hd : H dx = none) : Inits K er x C dx F (upd (upd H dx (.own x)) x (.ins C dx [])) (fun v H3 => v = .non ∧ Q (.ref x) H3) E := by
  cases er with
  | none => exact fun H' b e => ⟨rfl, h x dx H' hx (b.made hx hd) e⟩
  | some e => exact fun d H' b hn => h d H' (b.made hx hd) hn
theorem use_grid {s o : Int} (h : Makes K (bad (s < 1) (eNum s)) (He.ga K "Grid") (gridF s (o % s)) H Q E) : kMake (He.ga K "Grid") (spGridI K) [] E Q [.int s, .int o] H :=
  w_kmake fun x dx hx hdx _ => ⟨x, dx, s, o, rfl, upd_same, h.init hx hdx⟩
theorem use_grid0 {s : Int} (h : Makes K (bad (s < 1) (eNum s)) (He.ga K "Grid") (gridF s (0 % s)) H Q E) : kMake (He.ga K "Grid") (spGridI K) [.int 0] E Q [.int s] H :=
  w_kmake fun x dx hx hdx _ => ⟨x, dx, s, 0, rfl, upd_same, h.init hx hdx⟩
theorem use_span {l u : Int} (h : Makes K (bad (l > u) (eSpan l u)) (He.ga K "Span") (spanF l u) H Q E) : kMake (He.ga K "Span") (spSpanI K) [] E Q [.int l, .int u] H :=
  w_kmake fun x dx hx hdx _ => ⟨x, dx, l, u, rfl, upd_same, h.init hx hdx⟩
end
/-! ### kinds, bounds, houses -/
def kindsGo : List Str → List Str → Option Er
  | _, [] => none
  | pre, z :: r => due (nameEr z) (due (bad (z ∈ pre) (eTwice z)) (kindsGo (pre ++ [z]) r))
def kindsEr (ks : List Str) : Option Er := due (bad (5 < ks.length) (eMany "kinds" 5)) (kindsGo [] ks)
def boundsEr (l h : Int) : Option Er := bad (¬ (0 ≤ l ∧ l ≤ h ∧ h ≤ l + 8)) (eSpan l h)
def houseEr (st cr : Int) (ks : List Str) (w p : Int × Int) (ah ap : Int) : Option Er :=
  due (bad (¬ (1 ≤ st ∧ st ≤ 6)) (eNum st)) (due (bad (¬ (1 ≤ cr ∧ cr ≤ 6)) (eNum cr)) (due (kindsEr ks) (due (boundsEr w.1 w.2) (due (boundsEr p.1 p.2) (due (bad (¬ (1 ≤ ah ∧ ah ≤ 3)) (eNum ah)) (bad (ap < 1) (eNum ap)))))))
/-- a list or a tuple of texts stands at a -/
def SqS (K : PySem.W.Frag) (H : Hp) (a : Addr) (ss : List Str) : Prop := SqA K H a (ss.map V.str)
theorem SqS.keep {K : PySem.W.Frag} {H H' : Hp} {a : Addr} {ss : List Str} (h : SqS K H a ss) (s : Same H H') : SqS K H' a ss := h.elim (fun h => .inl (s.seq h)) fun h => .inr (Same.tup s h)
def spKinds (K : PySem.W.Frag) : Sp := fun vs H Q E => ∃ (k : Addr) (ks : List Str), vs = [.ref k] ∧ SqS K H k ks ∧ ks.length ≤ 1000 ∧ (∀ z ∈ ks, z.length ≤ 1000) ∧ Outs K (kindsEr ks) H (fun H' => Q .non H') E
def spBounds (K : PySem.W.Frag) : Sp := fun vs H Q E => ∃ (b : Addr) (l h : Int), vs = [.ref b] ∧ SqT K H b [.int l, .int h] ∧ match boundsEr l h with
  | none => ∀ (x : Addr) (H' : Hp), H x = none → Same H H' → IsSpan K H' x l h → Q (.ref x) H'
  | some e => ∀ (d : Addr) (H' : Hp), Same H H' → H' d = none → E (.ref (He.ga K e.cls)) (some d) (upd H' d (.xd e.fds))
structure IsHouse (K : PySem.W.Frag) (H : Hp) (a : Addr) (st cr : Int) (ks : List Str) (w p : Int × Int) (ah ap : Int) : Prop where
  ex : ∃ dx t sw sp, H a = some (.ins (He.ga K "House") dx (houseF st cr t sw sp ah ap)) ∧ SqT K H t (ks.map V.str) ∧ IsSpan K H sw w.1 w.2 ∧ IsSpan K H sp p.1 p.2
theorem IsHouse.keep {K : PySem.W.Frag} {H H' : Hp} {a : Addr} {st cr : Int} {ks : List Str} {w p : Int × Int} {ah ap : Int} (h : IsHouse K H a st cr ks w p ah ap) (s : Same H H') : IsHouse K H' a st cr ks w p ah ap :=
  let ⟨dx, t, sw, sp, e, f, g, i⟩ := h.ex; ⟨dx, t, sw, sp, s _ _ e, Same.tup s f, g.keep s, i.keep s⟩
def spHouseI (K : PySem.W.Frag) : Sp := fun vs H Q E => ∃ (x dx k wa pa : Addr) (st cr ah ap : Int) (ks : List Str) (w p : Int × Int), vs = [.ref x, .int st, .int cr, .ref k, .ref wa, .ref pa, .int ah, .int ap] ∧ SqS K H k ks ∧ ks.length ≤ 1000 ∧ (∀ z ∈ ks, z.length ≤ 1000) ∧
  SqT K H wa [.int w.1, .int w.2] ∧ SqT K H pa [.int p.1, .int p.2] ∧ H x = some (.ins (He.ga K "House") dx []) ∧ match houseEr st cr ks w p ah ap with
  | none => ∀ (t sw sp : Addr) (H' : Hp), But x H H' → H' x = some (.ins (He.ga K "House") dx (houseF st cr t sw sp ah ap)) → SqT K H' t (ks.map V.str) → IsSpan K H' sw w.1 w.2 → IsSpan K H' sp p.1 p.2 → Q .non H'
  | some e => ∀ (d : Addr) (H' : Hp), But x H H' → H' d = none → E (.ref (He.ga K e.cls)) (some d) (upd H' d (.xd e.fds))
section
variable {K : PySem.W.Frag} {H H' : Hp} {Q : VK} {E : XK} {a : Addr} {ss : List Str} {xs : List V}
/-- an instance changes: what is no instance stands -/
theorem SqT.putI {x C dx : Addr} {fs : List (Str × V)} {o : HO} (h : SqT K H a xs) (hx : H x = some (.ins C dx fs)) : SqT K (upd H x o) a xs := by
  rcases h with (h | ⟨u, h⟩) | h
  · exact .inl (.inl (by rw [upd_ne (fun z => by rw [z, hx] at h; cases h)]; exact h))
  · exact .inl (.inr ⟨u, by rw [upd_ne (fun z => by rw [z, hx] at h; cases h)]; exact h⟩)
  · exact .inr h
theorem SqL.putI {x C dx : Addr} {fs : List (Str × V)} {o : HO} (h : SqL K H a xs) (hx : H x = some (.ins C dx fs)) : SqL K (upd H x o) a xs := by
  rcases h with (h | ⟨u, h⟩) | h
  · exact .inl (.inl (by rw [upd_ne (fun z => by rw [z, hx] at h; cases h)]; exact h))
  · exact .inl (.inr ⟨u, by rw [upd_ne (fun z => by rw [z, hx] at h; cases h)]; exact h⟩)
  · exact .inr h
theorem SqS.putI {x C dx : Addr} {fs : List (Str × V)} {o : HO} (h : SqS K H a ss) (hx : H x = some (.ins C dx fs)) : SqS K (upd H x o) a ss := h.elim (fun h => .inl (SqL.putI h hx)) fun h => .inr (SqT.putI h hx)
theorem len_S (hs : SqS K H a ss) (h : Q (.int ss.length) H) : rLen K [.ref a] H Q := hs.elim (fun hs => w_lenL hs (by rw [List.length_map]; exact h)) fun hs => w_lenT hs (by rw [List.length_map]; exact h)
theorem tup_A (hs : SqA K H a xs) (h : ∀ (t : Addr) (H' : Hp), Same H H' → SqT K H' t xs → Q (.ref t) H') : rTuple K [.ref a] H Q := hs.elim (fun hs => w_tupL hs fun t ht => h t _ (same_new ht) (SqT.of upd_same)) fun hs => w_tupT hs (h a H (Same.refl H) hs)
theorem in_strs {z : Str} : inV (.str z) (ss.map V.str) = decide (z ∈ ss) := by
  rw [Bool.eq_iff_iff]
  have e : ∀ b : Str, eqV (.str b) (.str z) = (b == z) := fun b => rfl
  simp [inV, e]
theorem flat_strs (ss : List Str) : (ss.map V.str).all flatV = true := by simp [flatV]
theorem in_S {z : Str} (hs : SqS K H a ss) (h : Q (.bl (decide (z ∈ ss))) H) : rIn K false (.str z) (.ref a) H Q :=
  ⟨a, _, rfl, hs, rfl, flat_strs ss, by rw [if_neg (by decide), in_strs]; exact h⟩
theorem slice_S {n : Nat} (hs : SqS K H a ss) (h : ∀ (l : Addr) (H' : Hp), Same H H' → SqS K H' l (ss.take n) → Q (.ref l) H') : uSl K (.ref a) none (some (n : Int)) H Q := by
  have e : cutV (ss.map V.str) none (some (n : Int)) = (ss.take n).map V.str := by rw [cut_take (by omega), List.map_take]; rfl
  rcases hs with hs | hs
  · exact .inl ⟨a, _, rfl, hs, fun q hq => h q _ (same_new hq) (.inl (SqL.of (by rw [upd_same, e])))⟩
  · exact .inr ⟨a, _, rfl, hs, fun w => h a H (Same.refl H) (.inr (by rw [← e, cut_whole w]; exact hs)), fun _ q hq => h q _ (same_new hq) (.inr (SqT.of (by rw [upd_same, e])))⟩
end
section
variable {K : PySem.W.Frag} {H H' : Hp} {Q : VK} {E : XK} {a : Addr} {ss : List Str} {xs : List V} {er : Option Er} {C : Addr} {F : List (Str × V)}
theorem Makes.mk (h1 : er = none → ∀ (x dx : Addr) (H' : Hp), H x = none → Same H H' → H' x = some (.ins C dx F) → Q (.ref x) H') (h2 : ∀ e, er = some e → ∀ (d : Addr) (H' : Hp), Same H H' → H' d = none → E (.ref (He.ga K e.cls)) (some d) (upd H' d (.xd e.fds))) : Makes K er C F H Q E := by
  cases er with
  | none => exact h1 rfl
  | some e => exact h2 e rfl
theorem Makes.ok (n : er = none) (h1 : ∀ (x dx : Addr) (H' : Hp), H x = none → Same H H' → H' x = some (.ins C dx F) → Q (.ref x) H') : Makes K er C F H Q E := by
  subst n; exact h1
theorem use_named {z : Str} (hz : z.length ≤ 1000) (hc : Cls K (He.ga K "Named")) (hn : NoAttr K (He.ga K "Named") "name") (h : Makes K (nameEr z) (He.ga K "Named") (namedF z) H Q E) : kMake (He.ga K "Named") (spNamedI K) [] E Q [.str z] H :=
  w_kmake fun x dx hx hdx _ => ⟨x, _, dx, z, rfl, hz, hc, hn, upd_same, h.init hx hdx⟩
theorem use_item1 {z : Str} {g : Addr} (hz : z.length ≤ 1000) (hc : Cls K (He.ga K "Item")) (h1 : NoAttr K (He.ga K "Item") "name") (h2 : NoAttr K (He.ga K "Item") "grid") (h3 : NoAttr K (He.ga K "Item") "minute") (h4 : NoAttr K (He.ga K "Item") "delay")
    (h : Makes K (itemEr z 0) (He.ga K "Item") (itemF z g none 0) H Q E) : kMk2 (He.ga K "Item") 1 1 (spItemI K) (fun vs zs => vs ++ zs ++ [.non, .int 0]) E [.str z] Q [.ref g] H :=
  w_kmk2 rfl rfl fun x dx hx hdx _ => ⟨x, _, dx, g, z, none, 0, rfl, hz, hc, h1, h2, h3, h4, upd_same, h.init hx hdx⟩
theorem use_piece3 {z : Str} {g : Addr} {lo hi : Int} (hz : z.length ≤ 1000) (h : Makes K (pieceEr z 0 lo hi) (He.ga K "Piece") (pieceF z g none 0 lo hi) H Q E) : kMk2 (He.ga K "Piece") 1 3 (spPieceI K) (fun vs zs => vs ++ zs ++ [.non, .int 0]) E [.str z] Q [.ref g, .int lo, .int hi] H :=
  w_kmk2 rfl rfl fun x dx hx hdx _ => ⟨x, dx, g, z, none, 0, lo, hi, rfl, hz, upd_same, h.init hx hdx⟩
theorem use_piece5 {z : Str} {g : Addr} {m : Option Int} {d lo hi : Int} (hz : z.length ≤ 1000) (h : Makes K (pieceEr z d lo hi) (He.ga K "Piece") (pieceF z g m d lo hi) H Q E) : kMk2 (He.ga K "Piece") 1 5 (spPieceI K) (fun vs zs => vs ++ zs) E [.str z] Q [.ref g, .int lo, .int hi, optV m, .int d] H :=
  w_kmk2 rfl rfl fun x dx hx hdx _ => ⟨x, dx, g, z, m, d, lo, hi, rfl, hz, upd_same, h.init hx hdx⟩
theorem use_break4 {z : Str} {g : Addr} {m pl un : Int} (hz : z.length ≤ 1000) (h : Makes K (breakEr z 0 pl un 1) (He.ga K "Break") (breakF z g m 0 pl un 1) H Q E) : kMk2 (He.ga K "Break") 1 4 (spBreakI K) (fun vs zs => vs ++ zs ++ [.int 0, .int 1]) E [.str z] Q [.ref g, .int m, .int pl, .int un] H :=
  w_kmk2 rfl rfl fun x dx hx hdx _ => ⟨x, dx, g, z, m, 0, pl, un, 1, rfl, hz, upd_same, h.init hx hdx⟩
theorem use_break6 {z : Str} {g : Addr} {m d pl un pa : Int} (hz : z.length ≤ 1000) (h : Makes K (breakEr z d pl un pa) (He.ga K "Break") (breakF z g m d pl un pa) H Q E) : kMk2 (He.ga K "Break") 1 6 (spBreakI K) (fun vs zs => vs ++ zs) E [.str z] Q [.ref g, .int m, .int pl, .int un, .int d, .int pa] H :=
  w_kmk2 rfl rfl fun x dx hx hdx _ => ⟨x, dx, g, z, m, d, pl, un, pa, rfl, hz, upd_same, h.init hx hdx⟩
theorem use_timed3 {g : Addr} {m : Option Int} {d : Int} (hc : Cls K (He.ga K "Timed")) (h1 : NoAttr K (He.ga K "Timed") "grid") (h2 : NoAttr K (He.ga K "Timed") "minute") (h3 : NoAttr K (He.ga K "Timed") "delay") (h : Makes K (delayEr d) (He.ga K "Timed") (timedF g m d []) H Q E) : kMake (He.ga K "Timed") (spTimedI K) [] E Q [.ref g, optV m, .int d] H :=
  w_kmake fun x dx hx hdx _ => ⟨x, _, dx, g, m, d, [], rfl, hc, h1, h2, h3, .inl rfl, upd_same, h.init hx hdx⟩
theorem use_item3 {z : Str} {g : Addr} {m : Option Int} {d : Int} (hz : z.length ≤ 1000) (hc : Cls K (He.ga K "Item")) (h1 : NoAttr K (He.ga K "Item") "name") (h2 : NoAttr K (He.ga K "Item") "grid") (h3 : NoAttr K (He.ga K "Item") "minute") (h4 : NoAttr K (He.ga K "Item") "delay")
    (h : Makes K (itemEr z d) (He.ga K "Item") (itemF z g m d) H Q E) : kMk2 (He.ga K "Item") 1 3 (spItemI K) (fun vs zs => vs ++ zs) E [.str z] Q [.ref g, optV m, .int d] H :=
  w_kmk2 rfl rfl fun x dx hx hdx _ => ⟨x, _, dx, g, z, m, d, rfl, hz, hc, h1, h2, h3, h4, upd_same, h.init hx hdx⟩
/-- a house that is made, over the heap ahead of the call -/
def MakesH (K : PySem.W.Frag) (st cr : Int) (ks : List Str) (w p : Int × Int) (ah ap : Int) (H : Hp) (Q : VK) (E : XK) : Prop := match houseEr st cr ks w p ah ap with
  | none => ∀ (x : Addr) (H' : Hp), H x = none → Same H H' → IsHouse K H' x st cr ks w p ah ap → Q (.ref x) H'
  | some e => ∀ (d : Addr) (H' : Hp), Same H H' → H' d = none → E (.ref (He.ga K e.cls)) (some d) (upd H' d (.xd e.fds))
theorem MakesH.mk {st cr : Int} {ks : List Str} {w p : Int × Int} {ah ap : Int} (h1 : houseEr st cr ks w p ah ap = none → ∀ (x : Addr) (H' : Hp), H x = none → Same H H' → IsHouse K H' x st cr ks w p ah ap → Q (.ref x) H')
    (h2 : ∀ e, houseEr st cr ks w p ah ap = some e → ∀ (d : Addr) (H' : Hp), Same H H' → H' d = none → E (.ref (He.ga K e.cls)) (some d) (upd H' d (.xd e.fds))) : MakesH K st cr ks w p ah ap H Q E := by
  unfold MakesH
  split
  · exact h1 (by assumption)
  · exact h2 _ (by assumption)
theorem same_made1 {x dx : Addr} {o1 o2 : HO} (hx : H x = none) (hd : H dx = none) : Same H (upd (upd H dx o1) x o2) := fun b o hb => by
  rw [upd_ne (ne_of_none hb hx), upd_ne (ne_of_none hb hd)]; exact hb
theorem house_made {x dx k wa pa : Addr} {st cr ah ap : Int} {ks : List Str} {w p : Int × Int} (hx : H x = none) (hdx : H dx = none) (hk : SqS K H k ks) (hl : ks.length ≤ 1000) (hz : ∀ z ∈ ks, z.length ≤ 1000) (hw : SqT K H wa [.int w.1, .int w.2]) (hp : SqT K H pa [.int p.1, .int p.2]) (h : MakesH K st cr ks w p ah ap H Q E) :
    spHouseI K [.ref x, .int st, .int cr, .ref k, .ref wa, .ref pa, .int ah, .int ap] (upd (upd H dx (.own x)) x (.ins (He.ga K "House") dx [])) (fun v H3 => v = .non ∧ Q (.ref x) H3) E := by
  have s := same_made1 (o1 := .own x) (o2 := .ins (He.ga K "House") dx []) hx hdx
  refine ⟨x, dx, k, wa, pa, st, cr, ah, ap, ks, w, p, rfl, hk.keep s, hl, hz, Same.tup s hw, Same.tup s hp, upd_same, ?_⟩
  unfold MakesH at h
  split
  · rename_i n
    rw [n] at h
    exact fun t sw sp H' b e ht h1 h2 => ⟨rfl, h x H' hx (b.made hx hdx) ⟨dx, t, sw, sp, e, ht, h1, h2⟩⟩
  · rename_i e n
    rw [n] at h
    exact fun d H' b hd => h d H' (b.made hx hdx) hd
theorem use_house3 {k wa pa : Addr} {st cr : Int} {ks : List Str} {w p : Int × Int} (hk : SqS K H k ks) (hl : ks.length ≤ 1000) (hz : ∀ z ∈ ks, z.length ≤ 1000) (hw : SqT K H wa [.int w.1, .int w.2]) (hp : SqT K H pa [.int p.1, .int p.2]) (h : MakesH K st cr ks w p 1 1 H Q E) :
    kMake (He.ga K "House") (spHouseI K) [.ref wa, .ref pa, .int 1, .int 1] E Q [.int st, .int cr, .ref k] H := w_kmake fun _ _ hx hdx _ => house_made hx hdx hk hl hz hw hp h
theorem use_house2 {k wa pa : Addr} {st cr ah ap : Int} {ks : List Str} {w p : Int × Int} (hk : SqS K H k ks) (hl : ks.length ≤ 1000) (hz : ∀ z ∈ ks, z.length ≤ 1000) (hw : SqT K H wa [.int w.1, .int w.2]) (hp : SqT K H pa [.int p.1, .int p.2]) (h : MakesH K st cr ks w p ah ap H Q E) :
    kMk2 (He.ga K "House") 3 2 (spHouseI K) (fun vs zs => vs ++ [.ref wa, .ref pa] ++ zs) E [.int st, .int cr, .ref k] Q [.int ah, .int ap] H := w_kmk2 rfl rfl fun _ _ hx hdx _ => house_made hx hdx hk hl hz hw hp h
theorem use_house4 {k wa pa : Addr} {st cr ah ap : Int} {ks : List Str} {w p : Int × Int} (hk : SqS K H k ks) (hl : ks.length ≤ 1000) (hz : ∀ z ∈ ks, z.length ≤ 1000) (hw : SqT K H wa [.int w.1, .int w.2]) (hp : SqT K H pa [.int p.1, .int p.2]) (h : MakesH K st cr ks w p ah ap H Q E) :
    kMk2 (He.ga K "House") 3 4 (spHouseI K) (fun vs zs => vs ++ zs) E [.int st, .int cr, .ref k] Q [.ref wa, .ref pa, .int ah, .int ap] H := w_kmk2 rfl rfl fun _ _ hx hdx _ => house_made hx hdx hk hl hz hw hp h
/-- isinstance of a tuple -/
theorem ty_tup (h : SqT K H a xs) : TyX K H (.ref a) (.type "tuple") := by
  rcases h with (h | ⟨o, h⟩) | ⟨o, its, n, h, c, _⟩
  · exact .base (.tup h)
  · exact .fTuple h
  · exact .kTuple h c
theorem w_isi_T {t : String} {b : Bool} (ht : SqT K H a xs) (e : PySem.W.kitOne K (.type "tuple") (.type t) = some b) (h : Q (.bl b) H) : uIsi K [.ref a, .ty t] H Q := .inl ⟨_, _, _, _, b, rfl, .ty _, ty_tup ht, e, h⟩
theorem w_isi_str {z : Str} {t : String} {b : Bool} (e : PySem.W.kitOne K (.type "str") (.type t) = some b) (h : Q (.bl b) H) : uIsi K [.str z, .ty t] H Q := .inl ⟨_, _, _, _, b, rfl, .ty _, .base (.str z), e, h⟩
/-- == of a tuple with one text -/
theorem w_eqT1 {a b : Addr} {z : Str} (ok : PyData.strOk z = true) (ha : SqT K H a [.str z]) (hb : SqT K H b [.str z]) (h : Q (.bl true) H) : uEq K (.ref a) (.ref b) H Q := by
  refine .inr ⟨_, _, .tup ha (.cons (.str z) .nil), .tup hb (.cons (.str z) .nil), ?_, ?_, ?_⟩
  · unfold SeqAt.shaped; simp [PyData.canLay0, PyData.depth, PyData.canLayAll0, PyData.depthAll, ok]
  · unfold SeqAt.shaped; simp [PyData.canLay0, PyData.depth, PyData.canLayAll0, PyData.depthAll, ok]
  · have e : PyData.eqv (.tuple [.str z]) (.tuple [.str z]) = true := by simp [PyData.eqv, PyData.eqvAll]
    rw [e]; exact h
def rUpper : V → List V → Hp → VK → Prop := fun x xs H Q => match x, xs with
  | .str a, [] => a.length ≤ 5592405 ∧ Q (.str (Txt.upper a)) H
  | _, _ => False
theorem mUpper {X : Cx} : MtR X "str.upper" rUpper := by
  intro pins s σ H x xs v us Q I rx rs h
  unfold rUpper at h
  split at h
  · exact mt_upper pins s σ H _ _ v us Q I rx rs ⟨_, rfl, rfl, h.1, h.2⟩
  · exact h.elim
def kM0 (r : V → List V → Hp → VK → Prop) (Q : VK) : VK := fun x H => (∃ a, x = .str a) ∧ r x [] H Q
theorem w_m0 {r : V → List V → Hp → VK → Prop} {to : TE} {σ : L2.St} (h : to σ H (kM0 r Q)) : tM0 r to σ H Q := h
theorem w_km0 {r : V → List V → Hp → VK → Prop} {z : Str} (h : r (.str z) [] H Q) : kM0 r Q (.str z) H := ⟨⟨z, rfl⟩, h⟩
theorem w_neB {b b' : Bool} (h : Q (.bl (!decide (b = b'))) H) : rNe (.bl b) (.bl b') H Q := by
  refine ⟨rfl, ?_⟩
  cases b <;> cases b' <;> exact h
theorem n_mulS2 {a : Str} {k : Int} {m : Nat} (ha : a.length ≤ 2) (h0 : -5 ≤ k) (hk : k ≤ (m : Int)) (hm : (2 * m).ble 1000000 = true) (h : ∀ s : Str, s.length ≤ 2 * m → Q (.str s) H) : rMulS (.str a) (.int k) H Q := by
  have := Nat.le_of_ble_eq_true hm
  refine w_mulS (mulOk_of 2 m ha hk (by omega) (by omega) (by omega)) (h _ ?_)
  have := len_mul_leN ha hk
  omega
theorem n_upper {z : Str} {m : Nat} (hz : z.length ≤ m) (hm : m.ble 1000000 = true) (h : ∀ s : Str, s.length ≤ 3 * m → Q (.str s) H) : rUpper (.str z) [] H Q :=
  ⟨by have := Nat.le_of_ble_eq_true hm; omega, h _ (by have := PyProof.Rows.len_upper z; omega)⟩
end
/-! ### what is timed -/
def startAt (m : Option Int) (mo : Int) : Int := match m with
  | none => mo
  | some c => max mo c
def beginAt (s o : Int) (m : Option Int) (mo de : Int) : Int := GridM.fb s o (startAt m mo + de)
/-- an instance with a grid and a minute -/
structure TimedAt (K : PySem.W.Frag) (H : Hp) (a C g : Addr) (m : Option Int) : Prop where
  ex : ∃ dx fs, H a = some (.ins C dx fs) ∧ fs.lookup ("grid" : Str) = some (V.ref g) ∧ fs.lookup ("minute" : Str) = some (optV m) ∧ fs.lookup ("begin_at" : Str) = none
  cls : Cls K C
  ng : NoAttr K C "grid"
  nm : NoAttr K C "minute"
theorem TimedAt.keep {K : PySem.W.Frag} {X : List Addr} {H H' : Hp} {a C g : Addr} {m : Option Int} (h : TimedAt K H a C g m) (k : Keeps X H H') : TimedAt K H' a C g m :=
  let ⟨dx, fs, e, r⟩ := h.ex; ⟨⟨dx, fs, k.ins e, r⟩, h.cls, h.ng, h.nm⟩
theorem IsGrid.keeps {K : PySem.W.Frag} {X : List Addr} {H H' : Hp} {a : Addr} {s o : Int} (h : IsGrid K H a s o) (k : Keeps X H H') : IsGrid K H' a s o := let ⟨dx, e⟩ := h; ⟨dx, k.ins e⟩
theorem IsSpan.keeps {K : PySem.W.Frag} {X : List Addr} {H H' : Hp} {a : Addr} {s o : Int} (h : IsSpan K H a s o) (k : Keeps X H H') : IsSpan K H' a s o := let ⟨dx, e⟩ := h; ⟨dx, k.ins e⟩
theorem startAt_mono {m : Option Int} {a b : Int} (h : a ≤ b) : startAt m a ≤ startAt m b := by
  cases m with
  | none => exact h
  | some c => show max a c ≤ max b c; omega
theorem beginAt_mono {s o : Int} {m : Option Int} {a b x y : Int} (hs : 0 < s) (h : a ≤ b) (k : x ≤ y) : beginAt s o m a x ≤ beginAt s o m b y := GridM.fb_mono hs (by have := startAt_mono (m := m) h; omega)
def spFirst (K : PySem.W.Frag) : Sp := fun vs H Q _ => ∃ (a : Addr) (s o t : Int), vs = [.ref a, .int t] ∧ IsGrid K H a s o ∧ 1 ≤ s ∧ Q (.int (GridM.fb s o t)) H
def spBegin (K : PySem.W.Frag) : Sp := fun vs H Q _ => ∃ (a C g : Addr) (m : Option Int) (mo de s o : Int), vs = [.ref a, .int mo, .int de] ∧ TimedAt K H a C g m ∧ IsGrid K H g s o ∧ 1 ≤ s ∧ Q (.int (beginAt s o m mo de)) H
/-! ### a break's length and limit -/
def spLength (K : PySem.W.Frag) : Sp := fun vs H Q _ => ∃ (a dx g : Addr) (z : Str) (m d pl un pa : Int), vs = [.ref a] ∧ H a = some (.ins (He.ga K "Break") dx (breakF z g m d pl un pa)) ∧ 0 ≤ pl ∧ pl ≤ 12 ∧ Q (.int (pl * un)) H
def spLimit (K : PySem.W.Frag) : Sp := fun vs H Q _ => ∃ (a dx g : Addr) (z : Str) (m d pl un pa s o : Int), vs = [.ref a] ∧ H a = some (.ins (He.ga K "Break") dx (breakF z g m d pl un pa)) ∧ IsGrid K H g s o ∧ 1 ≤ s ∧ 1 ≤ pa ∧ pa ≤ 64 ∧ Q (.int (GridM.fb s o m + (pa - 1) * s)) H
end Rd
/-! ExV: own exceptions as values; own exceptions without arguments and without fields. -/
namespace Rd
open PySem PySem.Spec PyProof.Rows PySem.W L2
section
variable {X : Cx} {e : Expr} {t : L2.St → Hp → XK → Prop}
/-- what makes an exception gives it as a value -/
theorem pe_of_pmk (he : PMk X e t) : PE X e (fun σ H Q => t σ H fun cls d H1 => ∀ a, H1 a = none → Q (.ref a) (upd H1 a (XcO cls d a))) where
  run := fun pins s σ H Q I h => wpAny_mono (he pins s σ H _ I h) (fun u s' hu => by
    obtain ⟨a, oe, vs, sI, H', cls, d, rfl, J, k, hne, ha, hz, hd, _, na, os, ag, _, q⟩ := hu
    exact ⟨.ref a, _, J.call' (s' := s') (ch := []) os (Un.laidN k hne na) (HOk.laidN J.hok k na (xcO_is ha hz hd)) ag (fun b z => absurd z (by simp)), rfl, q a na⟩) fun _ _ x => x
end
/-! ### no arguments, no fields -/
section
variable {H : Hp} {a C : Addr} {hp h2 : Heap} {fs : List Addr} {o : HO}
/-- a thing made and let go: what stands without it -/
theorem un_gone {hp2 G : Heap} (ha : hp.objs.size ≤ a) (n : H a = none) (k : ∀ b o, hp.get? b = some o → hp2.get? b = some o) (gk : ∀ b, b ≠ a → G.get? b = h2.get? b) (un : Un fs [] (upd H a o) (upd H a o) hp2 h2) : Un fs [] H H hp G :=
  have old : ∀ {b : Addr} {u : Obj}, hp.get? b = some u → b ≠ a := fun {b u} z e => Nat.lt_irrefl _ (Nat.lt_of_lt_of_le (Heap.lt_size z) (e ▸ ha))
  have off : ∀ {b : Addr}, b ≠ a → upd H a o b = H b := fun {b} e => upd_ne e
  ⟨fun b u z m f x => (gk b (old z)).trans (un.keep b u (k b u z) ((off (old z)).trans m) f x),
   fun b u z m f x => let ⟨sl, q⟩ := un.slot b u (k b u z) ((off (old z)).trans m) f x; ⟨sl, (gk b (old z)).trans q⟩,
   fun _ _ _ m _ => m,
   fun b u z x => let ⟨u', q⟩ := un.there b u (k b u z) x; ⟨u', (gk b (old z)).trans q⟩,
   fun _ _ z => z, fun _ _ _ z => z, fun _ ps z => ⟨#[], by simpa using z⟩⟩
theorem hok_gone {P : Program} {w : World} {G : Heap} (n : H a = none) (no : ∀ x, o ≠ .own x) (nt : ∀ xs, o ≠ .tup xs) (gk : ∀ b, b ≠ a → G.get? b = h2.get? b) (hok : HOk P w (upd H a o) h2) : HOk P w H G := fun b u z => by
  have ba : b ≠ a := ne_of_none z n
  refine (hok b u ((upd_ne ba).trans z)).stay (fun c v hc q => ?_) (fun c hc => ?_) fun c xs hc => ?_
  · refine (gk c ?_).trans q
    rcases hc with rfl | hc
    · exact ba
    · intro e
      rw [e, upd_same] at hc
      cases hc
      exact no _ rfl
  · by_cases e : c = a
    · rw [e, upd_same] at hc
      cases hc
      exact absurd rfl (no b)
    · rwa [upd_ne e] at hc
  · by_cases e : c = a
    · rw [e, upd_same] at hc
      cases hc
      exact absurd rfl (nt xs)
    · rwa [upd_ne e] at hc
end
section
variable {X : Cx} {CX : CXT} {x : Str} {p pos : Pos} {k : Nat} {ps : List Str}
/-- raise X(), X's own __init__ setting no field -/
theorem pmk_g0 (G : ExcG X.prog X.w X.K X.mg X.base k x ps (spX0 (He.ga X.K x))) (hr : Room (k + 1) X.A) (hg : Gl X x) (hdb : (x == ("__debug__" : Str)) = false := by decide) : PMk X (.Call (.Name x p) [] [] pos) (fun _ H Q => Q (.ref (He.ga X.K x)) none H) := by
  obtain ⟨fd, hm, T, Fi, hb⟩ := G.ex
  intro pins s σ H Q I q
  obtain ⟨nm, qn, N, bs, bm, sn, sub, ab, col, dd, k0, k1, k2, k3, k5, hC, hbm⟩ := T.oex.cls
  refine wpAny_Call_Name_kw (ld_glob I hg hm (PySem.W.callWith_K0 I.kIn T.oex.kC ?_) hdb)
  obtain ⟨hp, g, dr, tk, os⟩ := s
  have n : H (hp.objs.size + 1) = none := I.hok.fresh (Nat.le_succ _)
  have kk : ∀ b o, hp.get? b = some o → ((hp.push (PySem.W.kdv_tup [])).push (PySem.HandSPX.excO (He.ga X.K x) hp.objs.size)).get? b = some o := fun b o e => Heap.get?_push_of_some _ (Heap.get?_push_of_some _ e)
  have there : ((hp.push (PySem.W.kdv_tup [])).push (PySem.HandSPX.excO (He.ga X.K x) hp.objs.size)).get? (hp.objs.size + 1) = some (PySem.HandSPX.excO (He.ga X.K x) hp.objs.size) := by heap_get
  have J := I.laid (t' := tk) (o := exo (hp.objs.size + 1) (He.ga X.K x) none) kk (Nat.le_succ hp.objs.size) (exo_ok there)
  have prem : spX0 (He.ga X.K x) [.ref (hp.objs.size + 1)] (upd H (hp.objs.size + 1) (exo (hp.objs.size + 1) (He.ga X.K x) none)) (fun v H2 => v = .non ∧ H2 = upd H (hp.objs.size + 1) (exo (hp.objs.size + 1) (He.ga X.K x) none)) (fun _ _ _ => False) := ⟨_, rfl, upd_same, rfl, rfl⟩
  have one : 1 = ps.length := Fi.len _ _ _ _ prem
  refine wpAny_call (PySem.HandSPX.call_own F.excBase_ValueError (fun Y => PySem.HandSPX.refsVE_contains Y bm hbm) (I.kIn _ _ hC) (PySem.W.looks_findIn I.kIn T.ini) (fun self => PySem.W.bind_fn I.kIn self T.fn) (Nat.zero_le _)
    (codeAny_mono (Fi.run _ X.stack _ _ ⟨[Value.ref (hp.objs.size + 1)], []⟩ [Value.ref (hp.objs.size + 1)] [V.ref (hp.objs.size + 1)] (fun v H2 => v = .non ∧ H2 = upd H (hp.objs.size + 1) (exo (hp.objs.size + 1) (He.ga X.K x) none)) (fun _ _ _ => False) (hr.make (He.ga X.K x) [] []) (J.env0.make (He.ga X.K x) [] []) (hb _ [Value.ref (hp.objs.size + 1)] J.kIn one) (.cons rfl .nil) prem) fun r s' hq => ?_))
  cases r with
  | error er => exact (show False from hq).elim
  | ok fl =>
    cases fl with
    | ret u =>
      obtain ⟨v, H2, os2, ag, un, hok, rv, rfl, rfl⟩ := hq
      obtain ⟨t0, ho⟩ := exo_at hok upd_same
      obtain ⟨G, g1, g2⟩ := restrict s'.heap fun b => decide (b ≠ hp.objs.size + 1)
      have gk : ∀ b, b ≠ hp.objs.size + 1 → G.get? b = s'.heap.get? b := fun b e => g1 b (decide_eq_true e)
      have ge : G.get? (hp.objs.size + 1) = none := g2 _ (by simp)
      have Z : Inv X pins σ H { s' with heap := G } := I.call' (ch := []) os2 (un_gone (Nat.le_succ _) n kk gk un) (hok_gone n (fun _ => exo_own) (fun _ => exo_tup) gk hok) ag (fun b z => absurd z (by simp))
      exact ⟨rv, _, _, _, _, _, .ref (He.ga X.K x), none, rfl, Z, fun b o z => (gk b (fun e => by rw [e, ge] at z; cases z)).symm.trans z, ge, ho, ⟨rfl, rfl⟩, rfl, rfl, n, rfl, ag, raises_own T.oex.exC T.oex.tyC, q⟩
    | next => exact (show False from hq)
    | brk => exact (show False from hq)
    | cont => exact (show False from hq)
end
/-! ### the __init__ without fields -/
section
variable {fa : List He.Fa} {fn : List He.DefD} {xa : List Xa} {fs : Fs} {P : Program} {w : World} {K : PySem.W.Frag} {mg : Str → Option Value} {base : Heap} {x qual self : Str} {st : Stmt} {fd : FuncData} {txt : Str} {j : Nat} {p0 p1 p2 p3 p4 p5 : Pos}
theorem exc_zero {ar : Arg} (T : Tx fa fn xa fs P K mg) (hs : mg "super" = none) (hm : mg x = some (.ref (He.ga K x))) (X : ExcT K x) (F : FunS K "__init__" qual st [] [] (He.ga K x) (iAd K x) fd)
    (hb : defBody st = [.Expr (supCall txt j p0 p1 p2 p3 p4) p5]) (ha : ((defArgs st).posonlyargs ++ (defArgs st).args).head? = some ar) (har : ar.arg = self)
    (S : ClsScope [self] [self] (defScope st) (noCls (defScope st))) (hl : ∀ v ∈ [self], (defScope st).names.lookup v = some .local) (hh : (defScope st).names.lookup ("super" : Str) = some NameKind.globalImplicit) (nc : self ≠ "__class__")
    (go : ∀ L ff cda cc, GoesSup (cenv qual (defScope st) L ff (.ref cda) cc) txt j p0 p1 p2 p3 p4) (hsw : ∀ L ff cda cc, swapsWith (supCall txt j p0 p1 p2 p3 p4) none p5.line (cenv qual (defScope st) L ff (.ref cda) cc) = pure false)
    (hbind : ∀ (kV doc pm : Value) (an : Option Addr) (cda : Addr) (ct : Value) (cc : Addr) (us : List Value), us.length = 1 → bindArgs (PySem.W.ksFn "__init__" qual (defArgs st) (defBody st) (defScope st) .none kV doc pm an (.ref cda) ct cc) ⟨us, []⟩ = pure ([self].zip us)) :
    ExcG P w K mg base 1 x [self] (spX0 (He.ga K x)) := by
  obtain ⟨oc, od, dV, kV, doc, pm, an, cda, ct, osl, cc, cl, cld, csl, rfl, lk, hcd, hd, _, lc, ccl, cdd, vs, sl, tf, e2, e3⟩ := F.ex
  have U : SupAt P K mg (defScope st) (iAd K x) cda ar.arg := sup_at T hs lk ha e2 e3 hh
  rw [har] at U
  have edV : dV = .none := by rcases hd with ⟨_, e⟩ | ⟨e, _⟩; exact e; exact absurd rfl e
  subst edV
  have B := Binds.all (K := K) (fun us hu => hbind kV doc pm an cda ct cc us hu)
  have s0 := hl self List.mem_cons_self
  refine ⟨_, hm, X, ?_, B⟩
  rw [hb] at lk ⊢
  refine fn_exc (k := 0) lk hcd lc S (fun vs H Q E h => ?_) (fun v hv => ?_) U X.sup rfl s0 (fun L => go L _ _ _) (fun L => hsw L _ _ _) (fun vs H Q E h => ?_) (fun A outer s H vs Q E hr h => ?_)
  · obtain ⟨a, rfl, _⟩ := h; rfl
  · cases List.mem_singleton.mp hv
    exact ⟨s0, (S.same _ nc).symm.trans s0⟩
  · obtain ⟨a, rfl, e, _⟩ := h; exact ⟨a, _, rfl, e⟩
  · obtain ⟨a, rfl, e, hQ⟩ := h
    exact ⟨_, pss_nil, hQ⟩
end
/-! ### such values, by their heads -/
def kXv (Q : VK) : XK := fun cls d H1 => ∀ a, H1 a = none → Q (.ref a) (upd H1 a (XcO cls d a))
def tXv (t : L2.St → Hp → XK → Prop) : TE := fun σ H Q => t σ H (kXv Q)
def tX0 (C : Addr) : L2.St → Hp → XK → Prop := fun _ H Q => Q (.ref C) none H
theorem pe_xv {X : Cx} {e : Expr} {t : L2.St → Hp → XK → Prop} (he : PMk X e t) : PE X e (tXv t) := pe_of_pmk he
theorem pe_xv0 {X : Cx} {C : Addr} {e : Expr} (he : PMk X e (fun _ H Q => Q (.ref C) none H)) : PE X e (tXv (tX0 C)) := pe_of_pmk he
section
variable {K : PySem.W.Frag} {H : Hp} {σ : L2.St} {C T : Addr} {Q : VK} {y z v w1 v1 v2 v3 v4 : V} {f g : Str} {t : L2.St → Hp → XK → Prop}
theorem w_xv (h : t σ H (kXv Q)) : tXv t σ H Q := h
theorem n_xv0 (h : ∀ (a : Addr) (H' : Hp), H a = none → Same H H' → XcAt H' a C none → Q (.ref a) H') : tX0 C σ H (kXv Q) := fun a n => h a _ n (same_new n) upd_same
theorem n_xvd {d : Addr} {l : List (Str × V)} (hd : H d = none) (h : ∀ (a : Addr) (H' : Hp), H a = none → Same H H' → XcAt H' a C (some l) → Q (.ref a) H') : kXv Q (.ref C) (some d) (upd H d (.xd l)) := fun a na => by
  obtain ⟨s, x⟩ := xmade hd na
  refine h a _ ?_ s x
  have ad : a ≠ d := fun e => by rw [e, upd_same] at na; cases na
  rwa [upd_ne ad] at na
theorem n_xv1 (h : ∀ (a : Addr) (H' : Hp), H a = none → Same H H' → XcAt H' a C (some [(f, y)]) → Q (.ref a) H') : kMkO C (spX1 C f) [] (kXv Q) [y] H := use_raise1 fun _ hd => n_xvd hd h
theorem n_xv2 (h : ∀ (a : Addr) (H' : Hp), H a = none → Same H H' → XcAt H' a C (some [(g, z), (f, y)]) → Q (.ref a) H') : kMkO C (spX2 C f g) [] (kXv Q) [y, z] H := use_raise2 fun _ hd => n_xvd hd h
theorem w_gl4 {i j k m : Nat} {Qn : L2.St → Hp → Prop} (h : SqL K H T [v1, v2, v3, v4]) (q : Qn ((((σ.set i (some v1)).set j (some v2)).set k (some v3)).set m (some v4)) H) : gUnl K 4 (gCons (gName i) (gCons (gName j) (gCons (gName k) (gCons (gName m) gNil)))) (.ref T) σ H Qn := ⟨T, _, rfl, h, rfl, _, _, rfl, _, _, rfl, _, _, rfl, _, _, rfl, rfl, q⟩
/-- a field read, of any expression -/
def kXk (K : PySem.W.Frag) (f : Str) (Q : VK) : VK := fun x H1 => match x with
  | .ref a => ∃ C l v, XcAt H1 a C (some l) ∧ XfC K C ∧ PySem.W.findIn K (.ref C) f = some none ∧ l.lookup f = some v ∧ Q v H1
  | _ => False
theorem w_xkE {te : TE} (h : te σ H (kXk K f Q)) : tXk K f te σ H Q := h
theorem w_kxk {a : Addr} {l : List (Str × V)} (hx : XcAt H a C (some l)) (hc : XfC K C) (hn : PySem.W.findIn K (.ref C) f = some none) (hl : l.lookup f = some v) (h : Q v H) : kXk K f Q (.ref a) H := ⟨C, l, v, hx, hc, hn, hl, h⟩
end
end Rd
/-! DayI: the day that is drawn, as data and as things of the program. -/
namespace Rd
open PySem PySem.Spec PyProof.Rows L2 NameM
def optD : Option Int → PyData
  | none => .none
  | some i => .int i
inductive Itm where
  | pc (z : Str) (st of : Int) (m : Option Int) (de lo hi : Int)
  | br (z : Str) (st of mi de pl un pa : Int)
def Itm.dat : Itm → PyData
  | .pc z st of m de lo hi => .tuple [.str "piece", .str z, .tuple [.int st, .int of], optD m, .int de, .int lo, .int hi]
  | .br z st of mi de pl un pa => .tuple [.str "break", .str z, .tuple [.int st, .int of], .int mi, .int de, .int pl, .int un, .int pa]
def Itm.nm : Itm → Str
  | .pc z _ _ _ _ _ _ => z
  | .br z _ _ _ _ _ _ _ => z
def Itm.pl : Itm → Int
  | .pc _ _ _ _ _ _ _ => 0
  | .br _ _ _ _ _ pl _ _ => pl
def Itm.isPc : Itm → Bool
  | .pc _ _ _ _ _ _ _ => true
  | .br _ _ _ _ _ _ _ _ => false
def ItmOk : Itm → Prop
  | .pc z st of _ de lo hi => IsName z.cps.toList ∧ 1 ≤ st ∧ (0 ≤ of ∧ of < st) ∧ (0 ≤ de ∧ de ≤ 8) ∧ 1 ≤ lo ∧ lo ≤ hi ∧ hi ≤ lo + 8
  | .br z st of _ de pl un pa => IsName z.cps.toList ∧ 1 ≤ st ∧ (0 ≤ of ∧ of < st) ∧ (0 ≤ de ∧ de ≤ 8) ∧ (1 ≤ pl ∧ pl ≤ 12) ∧ 1 ≤ un ∧ 1 ≤ pa ∧ pa ≤ 64
/-- its numbers are bounded -/
def ItmB : Itm → Prop
  | .pc _ st _ m _ lo _ => st ≤ 10 ^ 28 ∧ (∀ y, m = some y → -(10 ^ 40) ≤ y ∧ y ≤ 10 ^ 40) ∧ lo ≤ 10 ^ 40
  | .br _ st _ mi _ _ un _ => st ≤ 10 ^ 28 ∧ (-(10 ^ 40) ≤ mi ∧ mi ≤ 10 ^ 40) ∧ un ≤ 10 ^ 40
def plSum : List Itm → Int
  | [] => 0
  | i :: r => i.pl + plSum r
def pcCount : List Itm → Nat
  | [] => 0
  | i :: r => (if i.isPc = true then 1 else 0) + pcCount r
theorem plSum_snoc (i : Itm) : ∀ l : List Itm, plSum (l ++ [i]) = plSum l + i.pl
  | [] => by show i.pl + 0 = 0 + i.pl; omega
  | a :: r => by show a.pl + plSum (r ++ [i]) = a.pl + plSum r + i.pl; rw [plSum_snoc i r]; omega
theorem pcCount_snoc (i : Itm) : ∀ l : List Itm, pcCount (l ++ [i]) = pcCount l + (if i.isPc = true then 1 else 0)
  | [] => by show (if i.isPc = true then 1 else 0) + 0 = 0 + (if i.isPc = true then 1 else 0); omega
  | a :: r => by show (if a.isPc = true then 1 else 0) + pcCount (r ++ [i]) = (if a.isPc = true then 1 else 0) + pcCount r + (if i.isPc = true then 1 else 0); rw [pcCount_snoc i r]; omega
/-- the items of a lineup -/
structure ItmsOk (its : List Itm) (k : Int) : Prop where
  all : ∀ i ∈ its, ItmOk i
  len : its.length ≤ 8
  nd : (its.map Itm.nm).Nodup
  pl : plSum its ≤ 30
  pc : (pcCount its : Int) ≤ k
structure DayD where
  st : Int
  cr : Int
  ks : List Str
  w : Int × Int
  p : Int × Int
  ah : Int
  ap : Int
  op : Int
  its : List Itm
def prD (q : Int × Int) : PyData := .tuple [.int q.1, .int q.2]
def DayD.row (d : DayD) : List PyData := [.int d.st, .int d.cr, .list (d.ks.map PyData.str), prD d.w, prD d.p, .int d.ah, .int d.ap, .int d.op, .list (d.its.map Itm.dat)]
def DayD.dat (d : DayD) : PyData := .list d.row
def WdOk (q : Int × Int) : Prop := 0 ≤ q.1 ∧ q.1 ≤ q.2 ∧ q.2 ≤ q.1 + 8
structure DayOk (d : DayD) (k : Int) : Prop where
  st : 1 ≤ d.st ∧ d.st ≤ 6
  cr : 1 ≤ d.cr ∧ d.cr ≤ 6
  ks : d.ks.length ≤ 5
  kn : ∀ z ∈ d.ks, IsName z.cps.toList
  kd : d.ks.Nodup
  w : WdOk d.w
  p : WdOk d.p
  ah : 1 ≤ d.ah ∧ d.ah ≤ 3
  ap : 1 ≤ d.ap
  its : ItmsOk d.its k
  bd : ∀ i ∈ d.its, ItmB i
  ob : -(10 ^ 28) ≤ d.op ∧ d.op ≤ 10 ^ 28
  kz : ∀ z ∈ d.ks, z ∉ d.its.map Itm.nm
  kl : d.ks.length + d.its.length ≤ 11
theorem Dat.flat {K : PySem.W.Frag} {X Y : List Addr} {H : Hp} {v : V} {d : PyData} (h : Dat K X H v d) (n : ∀ (ds : List PyData), d ≠ .list ds) (m : ∀ ds es, d = .tuple ds → PyData.list es ∉ ds ∧ ∀ es, PyData.tuple es ∈ ds → ∀ e ∈ es, ∃ i, e = .int i) : Dat K Y H v d := by
  cases h with
  | non => exact .non
  | bl b => exact .bl b
  | int i => exact .int i
  | str z => exact .str z
  | lst _ _ _ _ => exact absurd rfl (n _)
  | tup h len all =>
    refine .tup h len fun i x d a b => ?_
    have q := all i x d a b
    have md := List.mem_of_getElem? b
    cases q with
    | non => exact .non
    | bl b => exact .bl _
    | int i => exact .int i
    | str z => exact .str z
    | lst _ _ _ _ => exact absurd md (m _ _ rfl).1
    | tup h2 len2 all2 =>
      refine .tup h2 len2 fun j y e a2 b2 => ?_
      have q2 := all2 j y e a2 b2
      obtain ⟨i2, rfl⟩ := (m _ [] rfl).2 _ md e (List.mem_of_getElem? b2)
      rw [q2.int_]
      exact .int _
theorem Itm.flat {K : PySem.W.Frag} {X Y : List Addr} {H : Hp} {v : V} {i : Itm} (h : Dat K X H v i.dat) : Dat K Y H v i.dat := by
  refine h.flat (fun ds => ?_) fun ds es e => ?_
  · cases i <;> (intro z; cases z)
  · cases i with
    | pc z st of mi de lo hi =>
      cases e
      refine ⟨fun z => ?_, fun es m e he => ?_⟩
      · cases mi <;> simp [optD] at z
      · have : es = [.int st, .int of] := by cases mi <;> simpa [optD] using m
        subst this
        simp only [List.mem_cons, List.not_mem_nil, or_false] at he
        rcases he with rfl | rfl <;> exact ⟨_, rfl⟩
    | br z st of mi de pl un pa =>
      cases e
      refine ⟨fun z => ?_, fun es m e he => ?_⟩
      · simp at z
      · have : es = [.int st, .int of] := by simpa using m
        subst this
        simp only [List.mem_cons, List.not_mem_nil, or_false] at he
        rcases he with rfl | rfl <;> exact ⟨_, rfl⟩
theorem Dat.opt {K : PySem.W.Frag} {X : List Addr} {H : Hp} (m : Option Int) : Dat K X H (optV m) (optD m) := by
  cases m with
  | none => exact .non
  | some i => exact .int i
theorem optD_v {K : PySem.W.Frag} {X : List Addr} {H : Hp} {v : V} {m : Option Int} (h : Dat K X H v (optD m)) : v = optV m := by
  cases m with
  | none => exact h.none_
  | some i => exact h.int_
/-! ### as things -/
/-- a piece or a break stands at a -/
def ItemAt (K : PySem.W.Frag) (H : Hp) (a : Addr) : Itm → Prop
  | .pc z st of m de lo hi => ∃ dx g, H a = some (.ins (He.ga K "Piece") dx (pieceF z g m de lo hi)) ∧ IsGrid K H g st of
  | .br z st of mi de pl un pa => ∃ dx g, H a = some (.ins (He.ga K "Break") dx (breakF z g mi de pl un pa)) ∧ IsGrid K H g st of
theorem ItemAt.keeps {K : PySem.W.Frag} {X : List Addr} {H H' : Hp} {a : Addr} {i : Itm} (h : ItemAt K H a i) (k : Keeps X H H') : ItemAt K H' a i := by
  cases i with
  | pc z st of m de lo hi => obtain ⟨dx, g, e, q⟩ := h; exact ⟨dx, g, k.ins e, q.keeps k⟩
  | br z st of mi de pl un pa => obtain ⟨dx, g, e, q⟩ := h; exact ⟨dx, g, k.ins e, q.keeps k⟩
theorem ItemAt.keep {K : PySem.W.Frag} {H H' : Hp} {a : Addr} {i : Itm} (h : ItemAt K H a i) (s : Same H H') : ItemAt K H' a i := h.keeps (X := []) (.same s)
def ItemsAt (K : PySem.W.Frag) (H : Hp) (as : List Addr) (its : List Itm) : Prop := as.length = its.length ∧ ∀ (i : Nat) (a : Addr) (t : Itm), as[i]? = some a → its[i]? = some t → ItemAt K H a t
theorem ItemsAt.keeps {K : PySem.W.Frag} {X : List Addr} {H H' : Hp} {as : List Addr} {its : List Itm} (h : ItemsAt K H as its) (k : Keeps X H H') : ItemsAt K H' as its := ⟨h.1, fun i a t x y => (h.2 i a t x y).keeps k⟩
theorem ItemsAt.keep {K : PySem.W.Frag} {H H' : Hp} {as : List Addr} {its : List Itm} (h : ItemsAt K H as its) (s : Same H H') : ItemsAt K H' as its := h.keeps (X := []) (.same s)
theorem same_none {H H' : Hp} {x : Addr} (s : Same H H') (h : H' x = none) : H x = none := Option.eq_none_iff_forall_ne_some.mpr fun o z => by
  rw [s _ _ z] at h; cases h
/-! ### data read -/
theorem datA_itms {K : PySem.W.Frag} {X Y : List Addr} {H : Hp} {xs : List V} {its : List Itm} (h : DatA K X H xs (its.map Itm.dat)) : DatA K Y H xs (its.map Itm.dat) := ⟨h.len, fun i x d a b => by
  have q := h.all i x d a b
  rw [List.getElem?_map] at b
  cases e : its[i]? with
  | none => rw [e] at b; cases b
  | some t => rw [e] at b; cases b; exact Itm.flat q⟩
theorem pr_dat {K : PySem.W.Frag} {X : List Addr} {H : Hp} {a : Addr} {q : Int × Int} (h : SqT K H a [.int q.1, .int q.2]) : Dat K X H (.ref a) (prD q) :=
  .tup h rfl fun i x d a b => match i with
  | 0 => by cases a; cases b; exact .int _
  | 1 => by cases a; cases b; exact .int _
  | _ + 2 => nomatch a
theorem len7 {α : Type} {l : List α} (h : l.length = 7) : ∃ a b c d e f g, l = [a, b, c, d, e, f, g] := match l, h with
  | [a, b, c, d, e, f, g], _ => ⟨a, b, c, d, e, f, g, rfl⟩
theorem len8 {α : Type} {l : List α} (h : l.length = 8) : ∃ a b c d e f g x, l = [a, b, c, d, e, f, g, x] := match l, h with
  | [a, b, c, d, e, f, g, x], _ => ⟨a, b, c, d, e, f, g, x, rfl⟩
theorem len9 {α : Type} {l : List α} (h : l.length = 9) : ∃ a b c d e f g x y, l = [a, b, c, d, e, f, g, x, y] := match l, h with
  | [a, b, c, d, e, f, g, x, y], _ => ⟨a, b, c, d, e, f, g, x, y, rfl⟩
theorem datA_strs {K : PySem.W.Frag} {X : List Addr} {H : Hp} {xs : List V} {ss : List Str} (h : DatA K X H xs (ss.map PyData.str)) : xs = ss.map V.str := by
  refine List.ext_getElem? fun i => ?_
  by_cases c : i < ss.length
  · have c1 : i < xs.length := by have := h.len; rw [List.length_map] at this; omega
    have e := h.all i _ _ (List.getElem?_eq_getElem c1) (by rw [List.getElem?_map, List.getElem?_eq_getElem c]; rfl)
    rw [List.getElem?_eq_getElem c1, List.getElem?_map, List.getElem?_eq_getElem c, e.str_]; rfl
  · rw [List.getElem?_eq_none (by have := h.len; rw [List.length_map] at this; omega), List.getElem?_eq_none (by rw [List.length_map]; omega)]
theorem dat_pr {K : PySem.W.Frag} {X : List Addr} {H : Hp} {v : V} {q : Int × Int} (h : Dat K X H v (prD q)) : ∃ a, v = .ref a ∧ SqT K H a [.int q.1, .int q.2] := by
  obtain ⟨a, xs, rfl, hs, t⟩ := Dat.tuple h
  obtain ⟨v1, v2, rfl⟩ := len2 t.len
  have e1 := (t.all 0 _ _ rfl rfl).int_
  have e2 := (t.all 1 _ _ rfl rfl).int_
  subst e1
  subst e2
  exact ⟨a, rfl, hs⟩
theorem eqv_pr (q : Int × Int) : PyData.eqv (prD q) (prD (0, 0)) = decide (q = (0, 0)) := by
  obtain ⟨a, b⟩ := q
  simp [prD, PyData.eqv, PyData.eqvAll, Bool.decide_and]
  rfl
theorem shaped_pr (q : Int × Int) : SeqAt.shaped (prD q) = true := by
  unfold SeqAt.shaped prD
  simp [PyData.canLay0, PyData.depth, PyData.canLayAll0, PyData.depthAll]
theorem Itm.pcAt {K : PySem.W.Frag} {X : List Addr} {H : Hp} {v : V} {z : Str} {st of : Int} {m : Option Int} {de lo hi : Int} (h : Dat K X H v (Itm.pc z st of m de lo hi).dat) : ∃ t g, v = .ref t ∧ SqT K H t [.str "piece", .str z, .ref g, optV m, .int de, .int lo, .int hi] ∧ SqT K H g [.int st, .int of] := by
  obtain ⟨t, xs, rfl, hs, a⟩ := Dat.tuple h
  obtain ⟨x0, x1, x2, x3, x4, x5, x6, rfl⟩ := len7 a.len
  have e0 := (a.all 0 _ _ rfl rfl).str_
  have e1 := (a.all 1 _ _ rfl rfl).str_
  have e2 : Dat K X H x2 (prD (st, of)) := a.all 2 _ _ rfl rfl
  have e3 := optD_v (a.all 3 _ _ rfl rfl)
  have e4 := (a.all 4 _ _ rfl rfl).int_
  have e5 := (a.all 5 _ _ rfl rfl).int_
  have e6 := (a.all 6 _ _ rfl rfl).int_
  obtain ⟨g, rfl, hg⟩ := dat_pr e2
  subst e0 e1 e3 e4 e5 e6
  exact ⟨t, g, rfl, hs, hg⟩
theorem Itm.brAt {K : PySem.W.Frag} {X : List Addr} {H : Hp} {v : V} {z : Str} {st of mi de pl un pa : Int} (h : Dat K X H v (Itm.br z st of mi de pl un pa).dat) : ∃ t g, v = .ref t ∧ SqT K H t [.str "break", .str z, .ref g, .int mi, .int de, .int pl, .int un, .int pa] ∧ SqT K H g [.int st, .int of] := by
  obtain ⟨t, xs, rfl, hs, a⟩ := Dat.tuple h
  obtain ⟨x0, x1, x2, x3, x4, x5, x6, x7, rfl⟩ := len8 a.len
  have e0 := (a.all 0 _ _ rfl rfl).str_
  have e1 := (a.all 1 _ _ rfl rfl).str_
  have e2 : Dat K X H x2 (prD (st, of)) := a.all 2 _ _ rfl rfl
  have e3 := (a.all 3 _ _ rfl rfl).int_
  have e4 := (a.all 4 _ _ rfl rfl).int_
  have e5 := (a.all 5 _ _ rfl rfl).int_
  have e6 := (a.all 6 _ _ rfl rfl).int_
  have e7 := (a.all 7 _ _ rfl rfl).int_
  obtain ⟨g, rfl, hg⟩ := dat_pr e2
  subst e0 e1 e3 e4 e5 e6 e7
  exact ⟨t, g, rfl, hs, hg⟩
theorem Itm.nm_ok {i : Itm} (h : ItmOk i) : IsName i.nm.cps.toList := by
  cases i with
  | pc z st of m de lo hi => exact h.1
  | br z st of mi de pl un pa => exact h.1
theorem pc_er {z : Str} {st of : Int} {m : Option Int} {de lo hi : Int} (h : ItmOk (.pc z st of m de lo hi)) : pieceEr z de lo hi = none := by
  obtain ⟨h1, _, _, h4, h5, h6, h7⟩ := h
  exact (due_n ((due_n (show nameEr z = none from bad_f fun n => n h1)).trans (show delayEr de = none from bad_f fun n => n h4))).trans ((due_n (bad_f (by omega))).trans (bad_f fun n => n ⟨h6, h7⟩))
theorem br_er {z : Str} {st of mi de pl un pa : Int} (h : ItmOk (.br z st of mi de pl un pa)) : breakEr z de pl un pa = none := by
  obtain ⟨h1, _, _, h4, h5, h6, h7⟩ := h
  exact (due_n ((due_n (show nameEr z = none from bad_f fun n => n h1)).trans (show delayEr de = none from bad_f fun n => n h4))).trans ((due_n (bad_f fun n => n h5)).trans ((due_n (bad_f (by omega))).trans (bad_f fun n => n h7)))
/-! ### the house of a day -/
def HouseAt (K : PySem.W.Frag) (H : Hp) (a : Addr) (D : DayD) : Prop := IsHouse K H a D.st D.cr D.ks D.w D.p D.ah D.ap
theorem HouseAt.keeps {K : PySem.W.Frag} {X : List Addr} {H H' : Hp} {x : Addr} {d : DayD} (h : HouseAt K H x d) (k : Keeps X H H') : HouseAt K H' x d :=
  let ⟨dx, t, sw, sp, e, ht, hw, hp⟩ := IsHouse.ex h; ⟨dx, t, sw, sp, k.ins e, k.sqT ht, hw.keeps k, hp.keeps k⟩
theorem kindsGo_ok : ∀ (ks pre : List Str), (∀ z ∈ ks, IsName z.cps.toList) → (pre ++ ks).Nodup → kindsGo pre ks = none
  | [], _, _, _ => rfl
  | z :: r, pre, h, n => by
    have m : z ∉ pre := fun m => by
      have := (List.nodup_append.mp n).2.2 z m z List.mem_cons_self
      exact this rfl
    exact (due_n (show nameEr z = none from bad_f fun q => q (h z List.mem_cons_self))).trans ((due_n (bad_f m)).trans (kindsGo_ok r (pre ++ [z]) (fun y hy => h y (List.mem_cons_of_mem _ hy)) (by rw [List.append_assoc]; exact n)))
theorem DayOk.house {d : DayD} {k : Int} (h : DayOk d k) : houseEr d.st d.cr d.ks d.w d.p d.ah d.ap = none :=
  (due_n (bad_f fun n => n h.st)).trans ((due_n (bad_f fun n => n h.cr)).trans ((due_n ((due_n (bad_f (Nat.not_lt.mpr h.ks))).trans (kindsGo_ok _ [] h.kn h.kd))).trans ((due_n (bad_f fun n => n h.w)).trans ((due_n (bad_f fun n => n h.p)).trans ((due_n (bad_f fun n => n h.ah)).trans (bad_f (by have := h.ap; omega)))))))
end Rd
/-! DicR: dicts whose keys are texts and ints, by their heads. -/
namespace Rd
open PySem PySem.Spec PyProof.Rows L2
def rInDk : R2 := fun x y H Q => match y with
  | .ref a => ∃ o, DGet H a x o ∧ Q (.bl o.isSome) H
  | _ => False
def rNotInDk : R2 := fun x y H Q => match y with
  | .ref a => ∃ o, DGet H a x o ∧ Q (.bl (!o.isSome)) H
  | _ => False
section
variable {X : Cx} {k : Nat}
theorem oInDk (hr : Room k X.A) : OpR X (compareOp .In) rInDk := by
  intro pins s σ H x y v u Q I rx ry h
  unfold rInDk at h
  split at h
  · obtain ⟨o, g, q⟩ := h
    cases ry
    exact d_in (by have := hr.un; omega) I g rx fun s' J => ⟨.bl o.isSome, H, J, rfl, q⟩
  · exact h.elim
theorem oNotInDk (hr : Room k X.A) : OpR X (compareOp .NotIn) rNotInDk := by
  intro pins s σ H x y v u Q I rx ry h
  unfold rNotInDk at h
  split at h
  · obtain ⟨o, g, q⟩ := h
    cases ry
    exact d_notIn (by have := hr.un; omega) I g rx fun s' J => ⟨.bl (!o.isSome), H, J, rfl, q⟩
  · exact h.elim
theorem oIdx (hr : Room k X.A) : MtR X "list.index" (rIndexD X.K) := mt_indexD (by have := hr.un; omega)
theorem pe_dix {o i : Expr} {td ty : TE} {pos : Pos} (hr : Room k X.A) (ho : PE X o td) (hi : PE X i ty) (hs : NoSl i) : PE X (.Subscript o i pos) (tDGet td ty) := pe_dget (by have := hr.un; omega) ho hi hs
theorem ps_dpt {o i value : Expr} {td ty tv : TE} {pos pos' : Pos} (hr : Room k X.A) (ho : PE X o td) (hi : PE X i ty) (hv : PE X value tv) (hs : swapsWith value (some (.Subscript o i pos')) pos.line X.env = pure false := by rfl) : PS X (.Assign [.Subscript o i pos'] value pos) (sDPut td ty tv) :=
  ps_dput (by have := hr.un; omega) ho hi hv hs
end
/-! heads -/
def kDx1 (ty : TE) (σ : L2.St) (Q : VK) : VK := fun x H1 => ty σ H1 fun y H2 => ∃ a v, x = .ref a ∧ DGet H2 a y (some v) ∧ Q v H2
def kDx2 (x : V) (Q : VK) : VK := fun y H2 => ∃ a v, x = .ref a ∧ DGet H2 a y (some v) ∧ Q v H2
def kDp1 (td ty : TE) (D : Ends) (σ : L2.St) : VK := fun v H1 => td σ H1 fun x H2 => ty σ H2 fun y H3 => ∃ a H4, x = .ref a ∧ DPut H3 a y v H4 ∧ D.nx σ H4
def kDp2 (ty : TE) (D : Ends) (σ : L2.St) (v : V) : VK := fun x H2 => ty σ H2 fun y H3 => ∃ a H4, x = .ref a ∧ DPut H3 a y v H4 ∧ D.nx σ H4
def kDp3 (D : Ends) (σ : L2.St) (v x : V) : VK := fun y H3 => ∃ a H4, x = .ref a ∧ DPut H3 a y v H4 ∧ D.nx σ H4
section
variable {σ : L2.St} {H : Hp} {Q : VK} {td ty tv : TE} {D : Ends} {v x y : V} {a : Addr} {kvs : List (Key × V)} {z : Str}
theorem w_dix (h : td σ H (kDx1 ty σ Q)) : tDGet td ty σ H Q := h
theorem w_kdx1 (h : ty σ H (kDx2 x Q)) : kDx1 ty σ Q x H := h
theorem w_kdx2 (e : H a = some (.dK kvs)) (g : valV kvs (.inr z) = some v) (h : Q v H) : kDx2 (.ref a) Q (.str z) H := ⟨a, v, rfl, by rw [← g]; exact DGet.k (k := .inr z) e, h⟩
theorem w_dnew (h : ∀ p H', H p = none → Same H H' → H' p = some (.dK []) → Q (.ref p) H') : tDNewK σ H Q := fun p n => h p _ n (same_new n) upd_same
theorem w_dput (h : tv σ H (kDp1 td ty D σ)) : sDPut td ty tv D σ H := h
theorem w_kdp1 (h : td σ H (kDp2 ty D σ v)) : kDp1 td ty D σ v H := h
theorem w_kdp2 (h : ty σ H (kDp3 D σ v x)) : kDp2 ty D σ v x H := h
theorem w_kdp3 (e : H a = some (.dK kvs)) (hl : kvs.length < sizeLine) (h : D.nx σ (upd H a (.dK (putK kvs (.inr z) v)))) : kDp3 D σ v (.ref a) (.str z) H := ⟨a, _, rfl, DPut.k (k := .inr z) e hl, h⟩
theorem w_inDk (e : H a = some (.dK kvs)) (h : Q (.bl (valV kvs (.inr z)).isSome) H) : rInDk (.str z) (.ref a) H Q := ⟨_, DGet.k (k := .inr z) e, h⟩
theorem w_notInDk (e : H a = some (.dK kvs)) (h : Q (.bl (!(valV kvs (.inr z)).isSome)) H) : rNotInDk (.str z) (.ref a) H Q := ⟨_, DGet.k (k := .inr z) e, h⟩
end
/-! ### names and their numbers -/
def numK : Nat → List Str → List (Key × V)
  | _, [] => []
  | n, z :: r => (.inr z, .int n) :: numK (n + 1) r
theorem numK_snoc (z : Str) : ∀ (zs : List Str) (n : Nat), numK n (zs ++ [z]) = numK n zs ++ [(.inr z, .int ((n + zs.length : Nat) : Int))]
  | [], n => rfl
  | a :: r, n => by
    show (.inr a, .int n) :: numK (n + 1) (r ++ [z]) = (.inr a, .int n) :: (numK (n + 1) r ++ _)
    rw [numK_snoc z r (n + 1), List.length_cons, show n + 1 + r.length = n + (r.length + 1) by omega]
theorem numK_len : ∀ (zs : List Str) (n : Nat), (numK n zs).length = zs.length
  | [], _ => rfl
  | _ :: r, n => congrArg Nat.succ (numK_len r (n + 1))
theorem numK_none {z : Str} : ∀ {zs : List Str} {n : Nat}, z ∉ zs → valV (numK n zs) (.inr z) = none
  | [], _, _ => rfl
  | a :: r, n, h => by
    have ne : ¬ (Sum.inr a : Key) = .inr z := fun e => h (by cases e; exact List.mem_cons_self)
    show valV ((.inr a, .int n) :: numK (n + 1) r) (.inr z) = none
    rw [valV_neg ne]
    exact numK_none fun m => h (List.mem_cons_of_mem _ m)
theorem numK_at {z : Str} : ∀ {zs : List Str} {n i : Nat}, zs.Nodup → zs[i]? = some z → valV (numK n zs) (.inr z) = some (.int ((n + i : Nat) : Int))
  | [], _, _, _, h => nomatch h
  | a :: r, n, 0, _, h => by
    cases h
    exact valV_pos rfl
  | a :: r, n, i + 1, nd, h => by
    have h : r[i]? = some z := h
    have ne : ¬ (Sum.inr a : Key) = .inr z := fun e => by
      cases e
      exact (List.nodup_cons.mp nd).1 (List.mem_of_getElem? h)
    show valV ((.inr a, .int n) :: numK (n + 1) r) (.inr z) = _
    rw [valV_neg ne, numK_at (List.nodup_cons.mp nd).2 h, show n + 1 + i = n + (i + 1) by omega]
theorem numK_some {z : Str} {zs : List Str} {n : Nat} (nd : zs.Nodup) (m : z ∈ zs) : ∃ i, zs[i]? = some z ∧ valV (numK n zs) (.inr z) = some (.int ((n + i : Nat) : Int)) := by
  obtain ⟨i, h⟩ := List.getElem?_of_mem m
  exact ⟨i, h, numK_at nd h⟩
end Rd
/-! OrdI: orders, as they stand and are made. -/
namespace Rd
open PySem PySem.Spec PyProof.Rows L2 NameM
def orderF (h : Addr) (op : Int) (t nd : Addr) : List (Str × V) := putF "_numbers" (.ref nd) (putF "lineup" (.ref t) (putF "opens" (.int op) (putF "house" (.ref h) [])))
def twiceGo : List Str → List Str → Option Er
  | _, [] => none
  | pre, z :: r => due (bad (z ∈ pre) (eTwice z)) (twiceGo (pre ++ [z]) r)
def orderEr (its : List Itm) : Option Er := due (bad (8 < its.length) (eMany "items" 8)) (due (twiceGo [] (its.map Itm.nm)) (bad (30 < plSum its) (eMany "places" 30)))
theorem twice_ok : ∀ (ks pre : List Str), (pre ++ ks).Nodup → twiceGo pre ks = none
  | [], _, _ => rfl
  | z :: r, pre, n => by
    have m : z ∉ pre := fun m => (List.nodup_append.mp n).2.2 z m z List.mem_cons_self rfl
    exact (due_n (bad_f m)).trans (twice_ok r (pre ++ [z]) (by rw [List.append_assoc]; exact n))
theorem twice_nd : ∀ (ks pre : List Str), pre.Nodup → twiceGo pre ks = none → (pre ++ ks).Nodup
  | [], pre, n, _ => by rw [List.append_nil]; exact n
  | z :: r, pre, n, h => by
    have m : z ∉ pre := fun m => by
      have h : due (bad (z ∈ pre) (eTwice z)) (twiceGo (pre ++ [z]) r) = none := h
      rw [due_s (bad_t m)] at h
      cases h
    have h : due (bad (z ∈ pre) (eTwice z)) (twiceGo (pre ++ [z]) r) = none := h
    rw [due_n (bad_f m)] at h
    have := twice_nd r (pre ++ [z]) (by
      refine List.nodup_append.mpr ⟨n, by simp, fun a ha b hb e => ?_⟩
      cases List.mem_singleton.mp hb
      exact m (e ▸ ha)) h
    rw [List.append_assoc] at this
    exact this
theorem ItmsOk.er {its : List Itm} {k : Int} (h : ItmsOk its k) : orderEr its = none :=
  (due_n (bad_f (Nat.not_lt.mpr h.len))).trans ((due_n (twice_ok _ [] h.nd)).trans (bad_f (by have := h.pl; omega)))
/-- an order of the items its stands at o -/
structure OrderIs (K : PySem.W.Frag) (H : Hp) (o h : Addr) (op : Int) (its : List Itm) (as : List Addr) (t nd : Addr) : Prop where
  ins : ∃ dx, H o = some (.ins (He.ga K "Order") dx (orderF h op t nd))
  tup : SqT K H t (as.map V.ref)
  at_ : ItemsAt K H as its
  nums : H nd = some (.dK (numK 0 (its.map Itm.nm)))
theorem OrderIs.keeps {K : PySem.W.Frag} {X : List Addr} {H H' : Hp} {o h : Addr} {op : Int} {its : List Itm} {as : List Addr} {t nd : Addr} (x : OrderIs K H o h op its as t nd) (k : Keeps X H H') : OrderIs K H' o h op its as t nd :=
  ⟨let ⟨dx, e⟩ := x.ins; ⟨dx, k.ins e⟩, k.sqT x.tup, x.at_.keeps k, k _ _ x.nums (.inr fun _ z => nomatch z)⟩
theorem OrderIs.keep {K : PySem.W.Frag} {H H' : Hp} {o h : Addr} {op : Int} {its : List Itm} {as : List Addr} {t nd : Addr} (x : OrderIs K H o h op its as t nd) (s : Same H H') : OrderIs K H' o h op its as t nd := x.keeps (X := []) (.same s)
def spOrderI (K : PySem.W.Frag) : Sp := fun vs H Q E => ∃ (x dx h l : Addr) (op : Int) (as : List Addr) (its : List Itm), vs = [.ref x, .ref h, .int op, .ref l] ∧ SqA K H l (as.map V.ref) ∧ ItemsAt K H as its ∧ its.length ≤ 1000 ∧ H x = some (.ins (He.ga K "Order") dx []) ∧ match orderEr its with
  | none => ∀ (t nd : Addr) (H' : Hp), But x H H' → H' x = some (.ins (He.ga K "Order") dx (orderF h op t nd)) → SqT K H' t (as.map V.ref) → H' nd = some (.dK (numK 0 (its.map Itm.nm))) → Q .non H'
  | some e => ∀ (d : Addr) (H' : Hp), But x H H' → H' d = none → E (.ref (He.ga K e.cls)) (some d) (upd H' d (.xd e.fds))
theorem ItemAt.but {K : PySem.W.Frag} {H H' : Hp} {x a : Addr} {i : Itm} (h : ItemAt K H a i) (b : But x H H') (hx : ∃ dx, H x = some (.ins (He.ga K "Order") dx [])) : ItemAt K H' a i := by
  obtain ⟨dx, ex⟩ := hx
  have ne : ∀ {c C d : Addr} {fs : List (Str × V)}, H c = some (.ins C d fs) → fs ≠ [] → c ≠ x := fun {c C d fs} e n z => by
    rw [z, ex] at e
    cases e
    exact n rfl
  cases i with
  | pc z st of m de lo hi =>
    obtain ⟨dx, g, e, dg, q⟩ := h
    exact ⟨dx, g, b _ _ (ne e (fun n => absurd (congrArg List.length n) (by show ¬ 6 = 0; decide))) e, dg, b _ _ (ne q (fun n => absurd (congrArg List.length n) (by show ¬ 2 = 0; decide))) q⟩
  | br z st of mi de pl un pa =>
    obtain ⟨dx, g, e, dg, q⟩ := h
    exact ⟨dx, g, b _ _ (ne e (fun n => absurd (congrArg List.length n) (by show ¬ 7 = 0; decide))) e, dg, b _ _ (ne q (fun n => absurd (congrArg List.length n) (by show ¬ 2 = 0; decide))) q⟩
theorem ItemsAt.but {K : PySem.W.Frag} {H H' : Hp} {x : Addr} {as : List Addr} {its : List Itm} (h : ItemsAt K H as its) (b : But x H H') (hx : ∃ dx, H x = some (.ins (He.ga K "Order") dx [])) : ItemsAt K H' as its := ⟨h.1, fun i a t p q => (h.2 i a t p q).but b hx⟩
/-- Order(..) -/
def MakesO (K : PySem.W.Frag) (h : Addr) (op : Int) (as : List Addr) (its : List Itm) (H : Hp) (Q : VK) (E : XK) : Prop := match orderEr its with
  | none => ∀ (o t nd : Addr) (H' : Hp), H o = none → Same H H' → OrderIs K H' o h op its as t nd → Q (.ref o) H'
  | some e => ∀ (d : Addr) (H' : Hp), Same H H' → H' d = none → E (.ref (He.ga K e.cls)) (some d) (upd H' d (.xd e.fds))
theorem use_order {K : PySem.W.Frag} {H : Hp} {Q : VK} {E : XK} {h l : Addr} {op : Int} {as : List Addr} {its : List Itm} (hl : SqA K H l (as.map V.ref)) (hi : ItemsAt K H as its) (h1000 : its.length ≤ 1000) (m : MakesO K h op as its H Q E) :
    kMake (He.ga K "Order") (spOrderI K) [] E Q [.ref h, .int op, .ref l] H := w_kmake fun x dx hx hdx _ => by
  have s := same_made1 (o1 := .own x) (o2 := .ins (He.ga K "Order") dx []) hx hdx
  refine ⟨x, dx, h, l, op, as, its, rfl, (hl.elim (fun e => .inl (s.seq e)) fun e => .inr (Same.tup s e)), hi.keep s, h1000, upd_same, ?_⟩
  unfold MakesO at m
  split
  · rename_i n
    rw [n] at m
    exact fun t nd H' b e ht hn => ⟨rfl, m x t nd H' hx (b.made hx hdx) ⟨⟨dx, e⟩, ht, (hi.keep s).but b ⟨dx, upd_same⟩, hn⟩⟩
  · rename_i e n
    rw [n] at m
    exact fun d H' b hd => m d H' (b.made hx hdx) hd
/-! ### a dict that changes -/
theorem numK_mem {z : Str} : ∀ {zs : List Str} {n : Nat}, z ∈ zs → ∃ v, valV (numK n zs) (.inr z) = some v
  | a :: r, n, h => by
    by_cases e : a = z
    · subst e
      exact ⟨_, valV_pos rfl⟩
    · have ne : ¬ (Sum.inr a : Key) = .inr z := fun q => e (by cases q; rfl)
      obtain ⟨v, hv⟩ := numK_mem (zs := r) (n := n + 1) ((List.mem_cons.mp h).elim (fun q => absurd q.symm e) id)
      exact ⟨v, (valV_neg ne).trans hv⟩
theorem SqT.butD {K : PySem.W.Frag} {H H' : Hp} {nd a : Addr} {xs : List V} {kv : List (Key × V)} (h : SqT K H a xs) (b : But nd H H') (e : H nd = some (.dK kv)) : SqT K H' a xs := by
  rcases h with (h | ⟨o, h⟩) | h
  · exact .inl (.inl (b _ _ (fun z => by rw [z, e] at h; cases h) h))
  · exact .inl (.inr ⟨o, b _ _ (fun z => by rw [z, e] at h; cases h) h⟩)
  · exact .inr h
theorem ItemAt.butD {K : PySem.W.Frag} {H H' : Hp} {nd a : Addr} {i : Itm} {kv : List (Key × V)} (h : ItemAt K H a i) (b : But nd H H') (e : H nd = some (.dK kv)) : ItemAt K H' a i := by
  have ne : ∀ {c C d : Addr} {fs : List (Str × V)}, H c = some (.ins C d fs) → c ≠ nd := fun {c C d fs} h z => by rw [z, e] at h; cases h
  cases i with
  | pc z st of m de lo hi => obtain ⟨dx, g, h1, dg, q⟩ := h; exact ⟨dx, g, b _ _ (ne h1) h1, dg, b _ _ (ne q) q⟩
  | br z st of mi de pl un pa => obtain ⟨dx, g, h1, dg, q⟩ := h; exact ⟨dx, g, b _ _ (ne h1) h1, dg, b _ _ (ne q) q⟩
theorem ItemsAt.butD {K : PySem.W.Frag} {H H' : Hp} {nd : Addr} {as : List Addr} {its : List Itm} {kv : List (Key × V)} (h : ItemsAt K H as its) (b : But nd H H') (e : H nd = some (.dK kv)) : ItemsAt K H' as its := ⟨h.1, fun i a t p q => (h.2 i a t p q).butD b e⟩
theorem plSum_take {its : List Itm} {i : Nat} {t : Itm} (h : its[i]? = some t) : plSum (its.take (i + 1)) = plSum (its.take i) + t.pl := by rw [take_one h, plSum_snoc]
/-- [e for x in a tuple] -/
theorem lc_T2 {K : PySem.W.Frag} {G : Hp → Hp → Prop} {H : Hp} {p : Addr} {xs : List V} {g : TG} {tt : TT} {te : TE} {vs : List Nat} {σ : L2.St} {Q : VK} (gs : GoesOn G H) (hp : SqT K H p xs) (hx : ∀ H', G H H' → SqT K H' p xs) (R : Nat → List V → Prop) (r0 : R 0 [])
    (step : ∀ (D : Addr) i x acc H1, H D = none → xs[i]? = some x → R i acc → G H H1 → H1 D = some (.lst acc) → LcStep G H D R g tt te vs σ i x H1)
    (done : ∀ (l : Addr) (acc : List V) (H' : Hp), H l = none → G H H' → H' l = some (.lst acc) → R xs.length acc → Q (.ref l) H') : kCT K g tt te vs σ Q (.ref p) H := by
  refine ⟨p, rfl, ⟨_, hp⟩, fun D hD => lc_tup (xs := xs) (LcP G H D R) ⟨[], upd_same, gs.put gs.refl hD, r0⟩ ?_ ?_ ?_⟩
  · rintro i H' _ ⟨acc, _, s, _⟩
    exact hx H' s
  · rintro i x H' hi ⟨acc, ha, s, r⟩
    exact step D i x acc H' hD hi r s ha
  · rintro H' ⟨acc, ha, s, r⟩
    exact done D acc H' hD s ha r
/-! ### [e for x in a list], what is made told by the heap -/
def LcH (G : Hp → Hp → Prop) (H : Hp) (D : Addr) (R : Nat → List V → Hp → Prop) (i : Nat) (H' : Hp) : Prop := ∃ acc, H' D = some (.lst acc) ∧ G H H' ∧ R i acc H'
def kEltH (G : Hp → Hp → Prop) (H : Hp) (D : Addr) (R : Nat → List V → Hp → Prop) (i : Nat) : VK := fun y H4 => ∃ acc, H4 D = some (.lst acc) ∧ acc.length < sizeLine ∧ LcH G H D R (i + 1) (upd H4 D (.lst (acc ++ [y])))
abbrev LcStepH (G : Hp → Hp → Prop) (H : Hp) (D : Addr) (R : Nat → List V → Hp → Prop) (g : TG) (tt : TT) (te : TE) (vs : List Nat) (σ : L2.St) (i : Nat) (x : V) (H1 : Hp) : Prop :=
  g x (wipe σ vs) H1 fun σ2 H2 => wipe σ2 vs = wipe σ vs ∧ tt σ2 H2 fun b H3 => if b = true then te σ2 H3 (kEltH G H D R i) else LcH G H D R (i + 1) H3
theorem lc_DH {K : PySem.W.Frag} {X : List Addr} {H0 H : Hp} {v : V} {ds : List PyData} {G : Hp → Hp → Prop} {g : TG} {tt : TT} {te : TE} {vs : List Nat} {σ : L2.St} {Q : VK} (gs : GoesOn G H) (h : Dat K X H0 v (.list ds)) (gk : ∀ H', G H H' → Keeps X H0 H') (R : Nat → List V → Hp → Prop) (r0 : ∀ H', G H H' → R 0 [] H')
    (step : ∀ (D : Addr) (i : Nat) (x : V) (d : PyData) (acc : List V) (H1 : Hp), H D = none → ds[i]? = some d → Dat K X H1 x d → R i acc H1 → G H H1 → H1 D = some (.lst acc) → LcStepH G H D R g tt te vs σ i x H1)
    (done : ∀ (l : Addr) (acc : List V) (H' : Hp), H l = none → G H H' → H' l = some (.lst acc) → R ds.length acc H' → Q (.ref l) H') : kCL K g tt te vs σ Q v H := by
  obtain ⟨a, xs, rfl, n, hsq, t⟩ := h.list
  refine ⟨a, rfl, ⟨_, SqL.of ((gk H gs.refl).lst n hsq)⟩, fun D hD => lc_list (xs := xs) (LcH G H D R) ⟨[], upd_same, gs.put gs.refl hD, r0 _ (gs.put gs.refl hD)⟩ ?_ ?_ ?_⟩
  · rintro i H' _ ⟨acc, _, s, _⟩
    exact SqL.of ((gk H' s).lst n hsq)
  · rintro i x H' hxi ⟨acc, ha, s, r⟩
    obtain ⟨d, e⟩ : ∃ d, ds[i]? = some d := ⟨ds[i]'(by rw [← t.len]; exact (List.getElem?_eq_some_iff.mp hxi).1), List.getElem?_eq_getElem _⟩
    exact step D i x d acc H' hD e ((t.all i x d hxi e).keep (gk H' s)) r s ha
  · rintro H' ⟨acc, ha, s, r⟩
    exact done D acc H' hD s ha (t.len ▸ r)
theorem eltH_done {G : Hp → Hp → Prop} {H H4 : Hp} {D : Addr} {R : Nat → List V → Hp → Prop} {i : Nat} {acc : List V} {y : V} (gs : GoesOn G H) (hD : H D = none) (ha : H4 D = some (.lst acc)) (hz : acc.length ≤ 1000000) (s : G H H4) (r : R (i + 1) (acc ++ [y]) (upd H4 D (.lst (acc ++ [y])))) : kEltH G H D R i y H4 := ⟨acc, ha, by rw [sizeLine_eq]; omega, _, upd_same, gs.put s hD, r⟩
theorem ItemsAt.snoc {K : PySem.W.Frag} {H : Hp} {as : List Addr} {its : List Itm} {a : Addr} {i : Itm} (h : ItemsAt K H as its) (ha : ItemAt K H a i) : ItemsAt K H (as ++ [a]) (its ++ [i]) := by
  refine ⟨by rw [List.length_append, List.length_append, h.1]; rfl, fun j b t e1 e2 => ?_⟩
  rcases Nat.lt_trichotomy j as.length with c | c | c
  · rw [List.getElem?_append_left c] at e1
    rw [List.getElem?_append_left (h.1 ▸ c)] at e2
    exact h.2 j b t e1 e2
  · subst c
    rw [List.getElem?_append_right (Nat.le_refl _), Nat.sub_self] at e1
    rw [List.getElem?_append_right (Nat.le_of_eq h.1.symm), h.1, Nat.sub_self] at e2
    cases e1; cases e2; exact ha
  · rw [List.getElem?_eq_none (by rw [List.length_append]; show as.length + 1 ≤ j; omega)] at e1
    cases e1
theorem ItemsAt.put {K : PySem.W.Frag} {H : Hp} {as : List Addr} {its : List Itm} {D : Addr} {xs ys : List V} (h : ItemsAt K H as its) (e : H D = some (.lst xs)) : ItemsAt K (upd H D (.lst ys)) as its := h.keeps (X := [D]) (.put (by simp) e)
end Rd
/-! ZipN: zip of two or three things, each of them a list or a tuple. -/
namespace Rd
open PySem PySem.Spec PyProof.Rows L2
/-- a tuple (true) or a list (false) stands at a -/
def SqB (K : PySem.W.Frag) (t : Bool) (H : Hp) (a : Addr) (xs : List V) : Prop := match t with
  | true => SqT K H a xs
  | false => SqL K H a xs
def BIs (t : Bool) (h : Heap) (a : Addr) (us : Array Value) : Prop := match t with
  | true => h.IsTuple a us
  | false => h.IsList a us
def BIt (t : Bool) (h : Heap) (it a : Addr) (i : Nat) : Prop := match t with
  | true => h.IsTupleIter it a i
  | false => h.IsListIter it a i
def bOb (t : Bool) (a : Addr) : Obj := match t with
  | true => { cls := .type "tuple_iterator", data := .fields #[.ref a, .int 0 0] }
  | false => { cls := .type "list_iterator", data := .fields #[.ref a, .int 0 0] }
theorem bDraws {P : Program} {w : World} {A : Around} (hh : A.handled = none) (t : Bool) (it a : Addr) (ne : a ≠ it) (us : Array Value) : Draws P w A it [it, a] us.size (fun i v => us[i]? = some v) (fun i h => BIt t h it a i ∧ BIs t h a us) := match t with
  | true => Draws.tuple hh it a ne us
  | false => Draws.list hh it a ne us
theorem bBegins (t : Bool) (a : Addr) (us : Array Value) : Begins (.ref a) (bOb t a) (fun h => BIs t h a us) := match t with
  | true => begins_tuple a us
  | false => begins_list a us
theorem bIt0 {t : Bool} {h : Heap} {it a : Addr} (e : h.get? it = some (bOb t a)) : BIt t h it a 0 := match t, e with
  | true, e => ⟨_, e, rfl, rfl⟩
  | false, e => ⟨_, e, rfl, rfl⟩
theorem bIt_ob {t : Bool} {h : Heap} {it a : Addr} {i : Nat} (e : BIt t h it a i) : ∃ o, h.get? it = some o ∧ ∀ v, o.data ≠ .cell v := match t, e with
  | true, ⟨o, e, _, d⟩ => ⟨o, e, fun v q => by rw [d] at q; cases q⟩
  | false, ⟨o, e, _, d⟩ => ⟨o, e, fun v q => by rw [d] at q; cases q⟩
theorem bIt_at {t : Bool} {h h' : Heap} {it a : Addr} {i : Nat} (e : BIt t h it a i) (k : ∀ o, h.get? it = some o → h'.get? it = some o) : BIt t h' it a i := match t, e with
  | true, e => Heap.IsTupleIter.at e k
  | false, e => Heap.IsListIter.at e k
theorem bSq {X : Cx} {pins : List (Addr × Obj)} {σ : L2.St} {H : Hp} {s : Shared} {t : Bool} {a : Addr} {xs : List V} (I : Inv X pins σ H s) (h : SqB X.K t H a xs) : ∃ us : List Value, Vals xs us ∧ BIs t s.heap a us.toArray ∧ a < s.heap.objs.size := match t, h with
  | true, h => let ⟨us, r, p, _⟩ := I.tuple h; ⟨us, r, p, let ⟨_, e, _⟩ := p; Heap.lt_size e⟩
  | false, h => let ⟨us, r, p, _⟩ := I.list h; ⟨us, r, p.isList, p.lt⟩
theorem bInj {X : Cx} {pins : List (Addr × Obj)} {σ : L2.St} {H : Hp} {s : Shared} {t : Bool} {a : Addr} {xs ys : List V} (I : Inv X pins σ H s) (h : SqB X.K t H a xs) (k : SqB X.K t H a ys) : xs = ys := match t, h, k with
  | true, h, k => I.tuple_inj h k
  | false, h, k => I.list_inj h k
/-- a walk of tuples (WalksT) that a turn of the hand layer makes -/
structure TupTurn (X : Cx) (J : It) (z : Addr) (cs : List Addr) (tn : Nat → Heap → Prop) (i : Nat) (s : Shared) (σ : L2.St) (H : Hp) : Prop where
  ex : ∃ (fp wr : List Addr) (n : Nat) (Pt : Nat → Array Value → Prop) (St : Nat → Heap → Prop) (Mid : Nat → Addr → Heap → Prop), WalksT X.prog X.w X.A z fp wr n Pt St Mid ∧ (∀ b ∈ wr, b ∈ cs) ∧ St i s.heap ∧
    (J.go i H → i < n ∧ (∀ h, St (i + 1) h → tn (i + 1) h) ∧ ∀ us, Pt i us → ∃ vs : List V, Vals vs us.toList ∧ vs.length ≤ 3 ∧ ∀ T, H T = none → J.yld i H (.ref T) (upd H T (.tup vs))) ∧ (J.stop i H → i = n)
theorem tup_turn {P : Program} {w : World} {K : PySem.W.Frag} {elts : List Expr} {kk : Nat} {tpos : Pos} {J : It} {z : Addr} {cs : List Addr} {tn : Nat → Heap → Prop} (mem : z ∈ cs)
    (obj : ∀ i h, tn i h → ∀ b ∈ cs, ∃ o, h.get? b = some o ∧ ∀ v, o.data ≠ .cell v) (keep : ∀ i h h', tn i h → (∀ b ∈ cs, ∀ o, h.get? b = some o → h'.get? b = some o) → tn i h')
    (self : ∀ (A : Around) (i : Nat) (s : Shared) (Q : Value → Shared → Prop) (E : Value → Shared → Prop), tn i s.heap → Q (.ref z) s → wpAny (model P w) A (pyIter (.ref z)) Q E s)
    (W : ∀ (X : Cx), X.prog = P → X.w = w → X.K = K → X.calm = true → ∀ (i : Nat) (pins : List (Addr × Obj)) (s : Shared) (σ : L2.St) (H : Hp), Inv X pins σ H s → tn i s.heap → (J.go i H ∨ J.stop i H) → TupTurn X J z cs tn i s σ H) :
    Turn P w K (.Tuple elts kk tpos) J cs z tn where
  mem := mem
  obj := obj
  keep := keep
  self := self
  item := fun X hP hw hK hc i pins s σ H E I fp st go => by
    obtain ⟨fp', wr, n, Pt, St, Mid, V, sub, s0, g, _⟩ := (W X hP hw hK hc i pins s σ H I st (.inl go)).ex
    subst hP hw hK
    obtain ⟨lt, nx, ys⟩ := g go
    refine V.item i s _ _ lt s0 fun T us h1 tk pt new tu mid k1 => ⟨_, rfl, V.go elts kk tpos i T _ _ _ mid fun h2 s2 k2 => ?_⟩
    obtain ⟨vs, rv, l3, y⟩ := ys us pt
    have fr : H T = none := I.hok.fresh new
    have nT := V.apart i T _ mid
    obtain ⟨o, ho, oc, on, od⟩ := tu
    have J2 := I.turnedNew (t' := tk) (ch := cs) (T := T) (ob := .tup vs) (h' := h2) (fun b o hb e => k2 b o (fun q => hb (sub b q)) (k1 b o (fun q => hb (sub b q)) e)) fp new
      ⟨by rw [sizeLine_eq]; omega, us.toList, rv, o, k2 T o nT ho, oc, on, od⟩
    refine ⟨.ref T, _, J2, rfl, y T fr, nx _ s2, fun b hb => ?_⟩
    obtain ⟨o', ho', _⟩ := obj i _ st b hb
    have lb : b < s.heap.objs.size := Heap.lt_size ho'
    rw [upd_ne (Nat.ne_of_lt (Nat.lt_of_lt_of_le lb new))]
    exact (fp b hb).1
  done := fun X hP hw hK hc i pins s σ H E I fp st go => by
    obtain ⟨fp', wr, n, Pt, St, Mid, V, sub, s0, _, g⟩ := (W X hP hw hK hc i pins s σ H I st (.inr go)).ex
    subst hP hw hK
    have e := g go
    subst e
    exact V.done s _ _ s0 fun h1 tk k1 => ⟨rfl, I.turnedL (t' := tk) (ch := cs) (fun b o hb e => k1 b o (fun q => hb (sub b q)) e) fp⟩
theorem no2 {x a b : Nat} (h : x ≠ a) (k : x ≠ b) : (x : Addr) ∉ ([a, b] : List Addr) := fun m => (List.mem_cons.mp m).elim h fun m => k (List.mem_singleton.mp m)
theorem ge5 {c n : Nat} {x1 x2 x3 x4 x5 : Nat} (m : (c : Addr) ∈ ([x1, x2, x3, x4, x5] : List Addr)) (h : n ≤ x1 ∧ n ≤ x2 ∧ n ≤ x3 ∧ n ≤ x4 ∧ n ≤ x5) : n ≤ c := by
  simp only [List.mem_cons, List.not_mem_nil, or_false] at m
  rcases m with rfl | rfl | rfl | rfl | rfl
  · exact h.1
  · exact h.2.1
  · exact h.2.2.1
  · exact h.2.2.2.1
  · exact h.2.2.2.2
theorem ge6 {c n : Nat} {x1 x2 x3 x4 x5 x6 : Nat} (m : (c : Addr) ∈ ([x1, x2, x3, x4, x5, x6] : List Addr)) (h : n ≤ x1 ∧ n ≤ x2 ∧ n ≤ x3 ∧ n ≤ x4 ∧ n ≤ x5 ∧ n ≤ x6) : n ≤ c := by
  simp only [List.mem_cons, List.not_mem_nil, or_false] at m
  rcases m with rfl | rfl | rfl | rfl | rfl | rfl
  · exact h.1
  · exact h.2.1
  · exact h.2.2.1
  · exact h.2.2.2.1
  · exact h.2.2.2.2.1
  · exact h.2.2.2.2.2
/-! ### two -/
def ItZ2 (K : PySem.W.Frag) (t u : Bool) (a b : Addr) : It :=
  ⟨fun i H => ∃ (xs ys : List V), SqB K t H a xs ∧ SqB K u H b ys ∧ i < xs.length ∧ i < ys.length,
   fun i H v H' => ∃ T x y, v = .ref T ∧ H T = none ∧ H' = upd H T (.tup [x, y]) ∧ (∀ xs, SqB K t H a xs → xs[i]? = some x) ∧ (∀ ys, SqB K u H b ys → ys[i]? = some y),
   fun i H => ∃ (xs ys : List V), SqB K t H a xs ∧ SqB K u H b ys ∧ i = min xs.length ys.length⟩
def Zs2 (t u : Bool) (a b n : Addr) (i : Nat) (h : Heap) : Prop := IsZip h (n + 4) (n + 2) (n + 3) .none ∧ IsTupOf2 h (n + 2) (.ref n) (.ref (n + 1)) ∧ (∃ x y, IsTupOf2 h (n + 3) x y) ∧ BIt t h n a i ∧ BIt u h (n + 1) b i
theorem turn_z2 {P : Program} {w : World} {K : PySem.W.Frag} {elts : List Expr} {kk : Nat} {tpos : Pos} (t u : Bool) {a b n : Nat} (la : a < n) (lb : b < n) : Turn P w K (.Tuple elts kk tpos) (ItZ2 K t u a b) [n + 4, n + 2, n + 3, n, n + 1] (n + 4) (Zs2 t u a b n) := by
  refine tup_turn (by simp) (fun i h st c hc => ?_) (fun i h h' st k => ?_) (fun A i s Q E st q => wpAny_pyIter_zip st.1 q) (fun X hP hw hK hc i pins s σ H I st gs => ⟨?_⟩)
  · obtain ⟨z, ti, ⟨x, y, to⟩, s1, s2⟩ := st
    simp only [List.mem_cons, List.not_mem_nil, or_false] at hc
    rcases hc with rfl | rfl | rfl | rfl | rfl
    · exact ⟨_, z, fun v q => nomatch q⟩
    · exact ⟨_, ti, fun v q => nomatch q⟩
    · exact ⟨_, to, fun v q => nomatch q⟩
    · exact bIt_ob s1
    · exact bIt_ob s2
  · obtain ⟨z, ti, ⟨x, y, to⟩, s1, s2⟩ := st
    exact ⟨k _ (by simp) _ z, k _ (by simp) _ ti, ⟨x, y, k _ (by simp) _ to⟩, bIt_at s1 (k _ (by simp)), bIt_at s2 (k _ (by simp))⟩
  · subst hP hw hK
    obtain ⟨xs, ys, hx, hy⟩ : ∃ xs ys, SqB X.K t H a xs ∧ SqB X.K u H b ys := gs.elim (fun ⟨xs, ys, p, q, _⟩ => ⟨xs, ys, p, q⟩) fun ⟨xs, ys, p, q, _⟩ => ⟨xs, ys, p, q⟩
    obtain ⟨us, ru, pu, _⟩ := bSq I hx
    obtain ⟨ws, rw_, pw, _⟩ := bSq I hy
    have l1 : xs.length = us.toArray.size := by rw [ru.length]; simp
    have l2 : ys.length = ws.toArray.size := by rw [rw_.length]; simp
    obtain ⟨z, ti, to, s1, s2⟩ := id st
    have sep : ZipSep2 (n + 4) (n + 2) (n + 3) n (n + 1) [n, a] [n + 1, b] := by
      constructor <;> first | exact List.mem_cons_self | exact no2 (by omega) (by omega) | exact Nat.ne_of_lt (by omega) | exact Nat.ne_of_gt (by omega)
    refine ⟨_, _, _, _, _, _, WalksT.zipD2 sep (bDraws (A := X.A.in1) (I.ok.hd hc) t n a (Nat.ne_of_lt la) us.toArray) (bDraws (A := X.A.in1) (I.ok.hd hc) u (n + 1) b (Nat.ne_of_lt (Nat.lt_succ_of_lt lb)) ws.toArray), fun c m => ?_, ⟨z, ti, to, ⟨s1, pu⟩, s2, pw⟩, fun go => ⟨?_, fun h q => ?_, fun vs q => ?_⟩, fun stp => ?_⟩
    · simp only [List.mem_cons, List.not_mem_nil, or_false] at m ⊢
      rcases m with rfl | rfl | rfl | rfl <;> simp
    · obtain ⟨xs', ys', p, q, g1, g2⟩ := go
      rw [bInj I p hx] at g1
      rw [bInj I q hy] at g2
      omega
    · obtain ⟨z', ti', to', ⟨q1, _⟩, q2, _⟩ := q
      exact ⟨z', ti', to', q1, q2⟩
    · obtain ⟨xs', ys', p, q', g1, g2⟩ := go
      rw [bInj I p hx] at g1
      rw [bInj I q' hy] at g2
      obtain ⟨v1, v2, e1, e2, rfl⟩ := q
      obtain ⟨w1, f1, r1⟩ := ru.get (List.getElem?_eq_getElem g1)
      obtain ⟨w2, f2, r2⟩ := rw_.get (List.getElem?_eq_getElem g2)
      have e1 : us[i]? = some v1 := by simpa using e1
      have e2 : ws[i]? = some v2 := by simpa using e2
      rw [e1] at f1; cases f1
      rw [e2] at f2; cases f2
      exact ⟨[xs[i], ys[i]], .cons r1 (.cons r2 .nil), (show 2 ≤ 3 by decide), fun T hT => ⟨T, _, _, rfl, hT, rfl, fun l hl => by rw [bInj I hl hx]; exact List.getElem?_eq_getElem g1, fun l hl => by rw [bInj I hl hy]; exact List.getElem?_eq_getElem g2⟩⟩
    · obtain ⟨xs', ys', p, q, g⟩ := stp
      rw [bInj I p hx, bInj I q hy] at g
      omega
def iZ2 (K : PySem.W.Frag) (ta : TA) : TI := fun σ H R => ta σ H fun vs H1 => ∃ (t u : Bool) (a b : Addr) (xs ys : List V), vs = [.ref a, .ref b] ∧ SqB K t H1 a xs ∧ SqB K u H1 b ys ∧ R (ItZ2 K t u a b) H1
theorem pi_z2 {X : Cx} {e e2 : Expr} {ta : TA} {p pos tpos : Pos} {elts : List Expr} {kk : Nat} (hg : Gl X "zip") (hm : X.mg "zip" = none) (ha : PA X [e, e2] ta)
    (n1 : starEach [e, e2] X.env = (false, eval e X.env) :: starEach [e2] X.env := by rfl) (n2 : (backTo pos (starEach [e2] X.env)).any (·.1) = false := by rfl) : PI X (.Tuple elts kk tpos) (.Call (.Name "zip" p) [e, e2] [] pos) (iZ2 X.K ta) where
  run := fun pins s σ H R I h => Call_ (ld_blt I hg hm boot_zip (callWith_type1 (thn (ha.run pos pins s σ H _ I h) fun us s1 q => by
    obtain ⟨vs, H1, I1, rv, t, u, a, b, xs, ys, rfl, hx, hy, r⟩ := q
    match us, rv with
    | [_, _], .cons (rfl : _ = _) (.cons (rfl : _ = _) .nil) =>
      obtain ⟨us, _, pu, la⟩ := bSq I1 hx
      obtain ⟨ws, _, pw, lb⟩ := bSq I1 hy
      refine zip_begins2 (bBegins t a us.toArray) (bBegins u b ws.toArray) pu pw fun h' z ti to o1 o2 sz k => wpAny_pyIter_zip z ?_
      exact ⟨_, [s1.heap.objs.size + 4, s1.heap.objs.size + 2, s1.heap.objs.size + 3, s1.heap.objs.size, s1.heap.objs.size + 1], _, _, H1, rfl, I1.kept (t' := s1.toks) k, turn_z2 t u la lb, ⟨z, ti, ⟨_, _, to⟩, bIt0 o1, bIt0 o2⟩, fun c m => by
        have le : s1.heap.objs.size ≤ c := ge5 m (by omega)
        exact I1.fpOk le (I1.hok.fresh le), r⟩) n1 n2))
theorem walk_z2 {K : PySem.W.Frag} {t u : Bool} {a b : Addr} {xs ys : List V} {n : Nat} (hn : n = min xs.length ys.length) : Walk (ItZ2 K t u a b) n (fun H => SqB K t H a xs ∧ SqB K u H b ys) (YPair (fun i => xs[i]?) (fun i => ys[i]?)) where
  goes := fun i _ hi g => ⟨xs, ys, g.1, g.2, by omega, by omega⟩
  stops := fun _ g => ⟨xs, ys, g.1, g.2, hn⟩
  yields := fun i _ _ _ _ g y => let ⟨T, x, z, e1, e2, e3, e4, e5⟩ := y; ⟨T, x, z, e1, e2, e3, e4 xs g.1, e5 ys g.2⟩
/-! ### three -/
def ItZ3 (K : PySem.W.Frag) (t u r : Bool) (a b c : Addr) : It :=
  ⟨fun i H => ∃ (xs ys zs : List V), (SqB K t H a xs ∧ SqB K u H b ys ∧ SqB K r H c zs) ∧ i < xs.length ∧ i < ys.length ∧ i < zs.length,
   fun i H v H' => ∃ T x y z, v = .ref T ∧ H T = none ∧ H' = upd H T (.tup [x, y, z]) ∧ (∀ xs, SqB K t H a xs → xs[i]? = some x) ∧ (∀ ys, SqB K u H b ys → ys[i]? = some y) ∧ (∀ zs, SqB K r H c zs → zs[i]? = some z),
   fun i H => ∃ (xs ys zs : List V), (SqB K t H a xs ∧ SqB K u H b ys ∧ SqB K r H c zs) ∧ i = min (min xs.length ys.length) zs.length⟩
def Zs3 (t u r : Bool) (a b c n : Addr) (i : Nat) (h : Heap) : Prop := IsZip h (n + 5) (n + 3) (n + 4) .none ∧ IsTupOf3 h (n + 3) (.ref n) (.ref (n + 1)) (.ref (n + 2)) ∧ (∃ x y z, IsTupOf3 h (n + 4) x y z) ∧ BIt t h n a i ∧ BIt u h (n + 1) b i ∧ BIt r h (n + 2) c i
theorem turn_z3 {P : Program} {w : World} {K : PySem.W.Frag} {elts : List Expr} {kk : Nat} {tpos : Pos} (t u r : Bool) {a b c n : Nat} (la : a < n) (lb : b < n) (lc : c < n) : Turn P w K (.Tuple elts kk tpos) (ItZ3 K t u r a b c) [n + 5, n + 3, n + 4, n, n + 1, n + 2] (n + 5) (Zs3 t u r a b c n) := by
  refine tup_turn (by simp) (fun i h st c hc => ?_) (fun i h h' st k => ?_) (fun A i s Q E st q => wpAny_pyIter_zip st.1 q) (fun X hP hw hK hc i pins s σ H I st gs => ⟨?_⟩)
  · obtain ⟨z, ti, ⟨x, y, v, to⟩, s1, s2, s3⟩ := st
    simp only [List.mem_cons, List.not_mem_nil, or_false] at hc
    rcases hc with rfl | rfl | rfl | rfl | rfl | rfl
    · exact ⟨_, z, fun v q => nomatch q⟩
    · exact ⟨_, ti, fun v q => nomatch q⟩
    · exact ⟨_, to, fun v q => nomatch q⟩
    · exact bIt_ob s1
    · exact bIt_ob s2
    · exact bIt_ob s3
  · obtain ⟨z, ti, ⟨x, y, v, to⟩, s1, s2, s3⟩ := st
    exact ⟨k _ (by simp) _ z, k _ (by simp) _ ti, ⟨x, y, v, k _ (by simp) _ to⟩, bIt_at s1 (k _ (by simp)), bIt_at s2 (k _ (by simp)), bIt_at s3 (k _ (by simp))⟩
  · subst hP hw hK
    obtain ⟨xs, ys, zs, hx, hy, hz⟩ : ∃ xs ys zs, SqB X.K t H a xs ∧ SqB X.K u H b ys ∧ SqB X.K r H c zs := gs.elim (fun ⟨xs, ys, zs, p, _⟩ => ⟨xs, ys, zs, p⟩) fun ⟨xs, ys, zs, p, _⟩ => ⟨xs, ys, zs, p⟩
    obtain ⟨us, ru, pu, _⟩ := bSq I hx
    obtain ⟨ws, rw_, pw, _⟩ := bSq I hy
    obtain ⟨ts, rt, pt, _⟩ := bSq I hz
    have l1 : xs.length = us.toArray.size := by rw [ru.length]; simp
    have l2 : ys.length = ws.toArray.size := by rw [rw_.length]; simp
    have l3 : zs.length = ts.toArray.size := by rw [rt.length]; simp
    obtain ⟨z, ti, to, s1, s2, s3⟩ := id st
    have sep : ZipSep3 (n + 5) (n + 3) (n + 4) n (n + 1) (n + 2) [n, a] [n + 1, b] [n + 2, c] := by
      constructor <;> first | exact List.mem_cons_self | exact no2 (by omega) (by omega) | exact Nat.ne_of_lt (by omega) | exact Nat.ne_of_gt (by omega)
    refine ⟨_, _, _, _, _, _, WalksT.zipD3 sep (bDraws (A := X.A.in1) (I.ok.hd hc) t n a (Nat.ne_of_lt la) us.toArray) (bDraws (A := X.A.in1) (I.ok.hd hc) u (n + 1) b (Nat.ne_of_lt (Nat.lt_succ_of_lt lb)) ws.toArray) (bDraws (A := X.A.in1) (I.ok.hd hc) r (n + 2) c (Nat.ne_of_lt (Nat.lt_add_right 2 lc)) ts.toArray), fun c m => ?_, ⟨z, ti, to, ⟨s1, pu⟩, ⟨s2, pw⟩, s3, pt⟩, fun go => ⟨?_, fun h q => ?_, fun vs q => ?_⟩, fun stp => ?_⟩
    · simp only [List.mem_cons, List.not_mem_nil, or_false] at m ⊢
      rcases m with rfl | rfl | rfl | rfl | rfl <;> simp
    · obtain ⟨xs', ys', zs', ⟨p1, p2, p3⟩, g1, g2, g3⟩ := go
      rw [bInj I p1 hx] at g1
      rw [bInj I p2 hy] at g2
      rw [bInj I p3 hz] at g3
      omega
    · obtain ⟨z', ti', to', ⟨q1, _⟩, ⟨q2, _⟩, q3, _⟩ := q
      exact ⟨z', ti', to', q1, q2, q3⟩
    · obtain ⟨xs', ys', zs', ⟨p1, p2, p3⟩, g1, g2, g3⟩ := go
      rw [bInj I p1 hx] at g1
      rw [bInj I p2 hy] at g2
      rw [bInj I p3 hz] at g3
      obtain ⟨v1, v2, v3, e1, e2, e3, rfl⟩ := q
      obtain ⟨w1, f1, r1⟩ := ru.get (List.getElem?_eq_getElem g1)
      obtain ⟨w2, f2, r2⟩ := rw_.get (List.getElem?_eq_getElem g2)
      obtain ⟨w3, f3, r3⟩ := rt.get (List.getElem?_eq_getElem g3)
      have e1 : us[i]? = some v1 := by simpa using e1
      have e2 : ws[i]? = some v2 := by simpa using e2
      have e3 : ts[i]? = some v3 := by simpa using e3
      rw [e1] at f1; cases f1
      rw [e2] at f2; cases f2
      rw [e3] at f3; cases f3
      exact ⟨[xs[i], ys[i], zs[i]], .cons r1 (.cons r2 (.cons r3 .nil)), Nat.le_refl 3, fun T hT => ⟨T, _, _, _, rfl, hT, rfl, fun l hl => by rw [bInj I hl hx]; exact List.getElem?_eq_getElem g1, fun l hl => by rw [bInj I hl hy]; exact List.getElem?_eq_getElem g2, fun l hl => by rw [bInj I hl hz]; exact List.getElem?_eq_getElem g3⟩⟩
    · obtain ⟨xs', ys', zs', ⟨p1, p2, p3⟩, g⟩ := stp
      rw [bInj I p1 hx, bInj I p2 hy, bInj I p3 hz] at g
      omega
def iZ3 (K : PySem.W.Frag) (ta : TA) : TI := fun σ H R => ta σ H fun vs H1 => ∃ (t u r : Bool) (a b c : Addr) (xs ys zs : List V), vs = [.ref a, .ref b, .ref c] ∧ SqB K t H1 a xs ∧ SqB K u H1 b ys ∧ SqB K r H1 c zs ∧ R (ItZ3 K t u r a b c) H1
theorem pi_z3 {X : Cx} {e e2 e3 : Expr} {ta : TA} {p pos tpos : Pos} {elts : List Expr} {kk : Nat} (hg : Gl X "zip") (hm : X.mg "zip" = none) (ha : PA X [e, e2, e3] ta)
    (n1 : starEach [e, e2, e3] X.env = (false, eval e X.env) :: starEach [e2, e3] X.env := by rfl) (n2 : (backTo pos (starEach [e2, e3] X.env)).any (·.1) = false := by rfl) : PI X (.Tuple elts kk tpos) (.Call (.Name "zip" p) [e, e2, e3] [] pos) (iZ3 X.K ta) where
  run := fun pins s σ H R I h => Call_ (ld_blt I hg hm boot_zip (callWith_type1 (thn (ha.run pos pins s σ H _ I h) fun us s1 q => by
    obtain ⟨vs, H1, I1, rv, t, u, r, a, b, c, xs, ys, zs, rfl, hx, hy, hz, q⟩ := q
    match us, rv with
    | [_, _, _], .cons (rfl : _ = _) (.cons (rfl : _ = _) (.cons (rfl : _ = _) .nil)) =>
      obtain ⟨us, _, pu, la⟩ := bSq I1 hx
      obtain ⟨ws, _, pw, lb⟩ := bSq I1 hy
      obtain ⟨ts, _, pt, lc⟩ := bSq I1 hz
      refine zip_begins3 (bBegins t a us.toArray) (bBegins u b ws.toArray) (bBegins r c ts.toArray) pu pw pt fun h' z ti to o1 o2 o3 sz k => wpAny_pyIter_zip z ?_
      exact ⟨_, [s1.heap.objs.size + 5, s1.heap.objs.size + 3, s1.heap.objs.size + 4, s1.heap.objs.size, s1.heap.objs.size + 1, s1.heap.objs.size + 2], _, _, H1, rfl, I1.kept (t' := s1.toks) k, turn_z3 t u r la lb lc, ⟨z, ti, ⟨_, _, _, to⟩, bIt0 o1, bIt0 o2, bIt0 o3⟩, fun c m => by
        have le : s1.heap.objs.size ≤ c := ge6 m (by omega)
        exact I1.fpOk le (I1.hok.fresh le), q⟩) n1 n2))
/-- a new triple of the i-th of each -/
def YTri (xs ys zs : List V) : Nat → Hp → V → Hp → Prop := fun i H v H' => ∃ T x y z, v = .ref T ∧ H T = none ∧ H' = upd H T (.tup [x, y, z]) ∧ xs[i]? = some x ∧ ys[i]? = some y ∧ zs[i]? = some z
theorem walk_z3 {K : PySem.W.Frag} {t u r : Bool} {a b c : Addr} {xs ys zs : List V} {n : Nat} (hn : n = min (min xs.length ys.length) zs.length) : Walk (ItZ3 K t u r a b c) n (fun H => SqB K t H a xs ∧ SqB K u H b ys ∧ SqB K r H c zs) (YTri xs ys zs) where
  goes := fun i _ hi g => ⟨xs, ys, zs, g, by omega, by omega, by omega⟩
  stops := fun _ g => ⟨xs, ys, zs, g, hn⟩
  yields := fun i _ _ _ _ g y => let ⟨T, x, z, v, e1, e2, e3, e4, e5, e6⟩ := y; ⟨T, x, z, v, e1, e2, e3, e4 xs g.1, e5 ys g.2.1, e6 zs g.2.2⟩
/-! ### heads -/
section
variable {K : PySem.W.Frag} {g : TG} {tb : TS} {D : Ends} {σ : L2.St} {H : Hp} {tl : TA} {tt : TT} {ty : TE} {vs : List Nat} {Q : VK}
def kFZ2 (K : PySem.W.Frag) (g : TG) (tb : TS) (D : Ends) (σ : L2.St) : List V → Hp → Prop := fun vs H => tFor (iZ2 K (tAc vs)) g tb D σ H
def kFZ3 (K : PySem.W.Frag) (g : TG) (tb : TS) (D : Ends) (σ : L2.St) : List V → Hp → Prop := fun vs H => tFor (iZ3 K (tAc vs)) g tb D σ H
def kCZ2 (K : PySem.W.Frag) (g : TG) (tt : TT) (ty : TE) (vs : List Nat) (σ : L2.St) (Q : VK) : List V → Hp → Prop := fun xs H => tLc (iZ2 K (tAc xs)) g tt ty vs σ H Q
theorem w_forZ2 (h : tl σ H (kFZ2 K g tb D σ)) : tFor (iZ2 K tl) g tb D σ H := h
theorem w_forZ3 (h : tl σ H (kFZ3 K g tb D σ)) : tFor (iZ3 K tl) g tb D σ H := h
theorem w_lcZ2 (h : tl σ H (kCZ2 K g tt ty vs σ Q)) : tLc (iZ2 K tl) g tt ty vs σ H Q := h
end
theorem for_Z2 {K : PySem.W.Frag} {t u : Bool} {a b : Addr} {xs ys : List V} {g : TG} {tb : TS} {D : Ends} {σ : L2.St} {H : Hp} {n : Nat} (hn : n = min xs.length ys.length) (Pv : Nat → L2.St → Hp → Prop) (h0 : Pv 0 σ H) (hx : ∀ i σ H', Pv i σ H' → SqB K t H' a xs ∧ SqB K u H' b ys)
    (hs : ∀ (i : Nat) (x y : V) (T : Addr) (σ : L2.St) (H1 H2 : Hp), xs[i]? = some x → ys[i]? = some y → Pv i σ H1 → Same H1 H2 → H2 T = some (.tup [x, y]) → g (.ref T) σ H2 fun σ2 H3 => tb { D with nx := Pv (i + 1), ct := Pv (i + 1), bk := D.nx } σ2 H3)
    (hd : ∀ σ H', Pv n σ H' → D.nx σ H') : kFZ2 K g tb D σ [.ref a, .ref b] H := by
  obtain ⟨p, q⟩ := hx 0 σ H h0
  refine ⟨t, u, a, b, xs, ys, rfl, p, q, for_it (walk_z2 hn) Pv h0 (fun i σ H' _ z => hx i σ H' z) ?_ hd⟩
  rintro i v σ H1 H2 hi z ⟨T, x, y, rfl, hT, rfl, ex, ey⟩
  exact hs i x y T σ H1 _ ex ey z (same_new hT) upd_same
theorem for_Z3 {K : PySem.W.Frag} {t u r : Bool} {a b c : Addr} {xs ys zs : List V} {g : TG} {tb : TS} {D : Ends} {σ : L2.St} {H : Hp} {n : Nat} (hn : n = min (min xs.length ys.length) zs.length) (Pv : Nat → L2.St → Hp → Prop) (h0 : Pv 0 σ H) (hx : ∀ i σ H', Pv i σ H' → SqB K t H' a xs ∧ SqB K u H' b ys ∧ SqB K r H' c zs)
    (hs : ∀ (i : Nat) (x y z : V) (T : Addr) (σ : L2.St) (H1 H2 : Hp), xs[i]? = some x → ys[i]? = some y → zs[i]? = some z → Pv i σ H1 → Same H1 H2 → H2 T = some (.tup [x, y, z]) → g (.ref T) σ H2 fun σ2 H3 => tb { D with nx := Pv (i + 1), ct := Pv (i + 1), bk := D.nx } σ2 H3)
    (hd : ∀ σ H', Pv n σ H' → D.nx σ H') : kFZ3 K g tb D σ [.ref a, .ref b, .ref c] H := by
  obtain ⟨p, q, w⟩ := hx 0 σ H h0
  refine ⟨t, u, r, a, b, c, xs, ys, zs, rfl, p, q, w, for_it (walk_z3 hn) Pv h0 (fun i σ H' _ z => hx i σ H' z) ?_ hd⟩
  rintro i v σ H1 H2 hi z ⟨T, x, y, v', rfl, hT, rfl, ex, ey, ez⟩
  exact hs i x y v' T σ H1 _ ex ey ez z (same_new hT) upd_same
theorem lc_Z2 {K : PySem.W.Frag} {t u : Bool} {G : Hp → Hp → Prop} {a b : Addr} {xs ys : List V} {g : TG} {tt : TT} {te : TE} {vs : List Nat} {σ : L2.St} {H : Hp} {Q : VK} {n : Nat} (gs : GoesOn G H) (hn : n = min xs.length ys.length) (hx : ∀ H', G H H' → SqB K t H' a xs ∧ SqB K u H' b ys) (R : Nat → List V → Prop) (r0 : R 0 [])
    (step : ∀ (D : Addr) (i : Nat) (x y : V) (T : Addr) (acc : List V) (H1 : Hp), H D = none → xs[i]? = some x → ys[i]? = some y → R i acc → G H H1 → H1 D = some (.lst acc) → H1 T = some (.tup [x, y]) → LcStep G H D R g tt te vs σ i (.ref T) H1)
    (done : ∀ (l : Addr) (acc : List V) (H' : Hp), H l = none → G H H' → H' l = some (.lst acc) → R n acc → Q (.ref l) H') (new : ∀ {H1 : Hp} {T : Addr} {o : HO}, G H H1 → H1 T = none → G H (upd H1 T o)) : kCZ2 K g tt te vs σ Q [.ref a, .ref b] H := by
  obtain ⟨p, q⟩ := hx H gs.refl
  refine ⟨t, u, a, b, xs, ys, rfl, p, q, fun D hD => lc_it (walk_z2 hn) (LcP G H D R) ⟨[], upd_same, gs.put gs.refl hD, r0⟩ ?_ ?_ ?_⟩
  · rintro i H' _ ⟨acc, _, s, _⟩
    exact hx H' s
  · rintro i v H1 H2 hi ⟨acc, ha, s, r⟩ ⟨T, x, y, rfl, hT, rfl, ex, ey⟩
    have DT : D ≠ T := fun z => by rw [← z, ha] at hT; cases hT
    exact step D i x y T acc _ hD ex ey r (new s hT) (by rw [upd_ne DT]; exact ha) upd_same
  · rintro H' ⟨acc, ha, s, r⟩
    exact done D acc H' hD s ha r
theorem new_same {H H1 : Hp} {T : Addr} {o : HO} (s : Same H H1) (h : H1 T = none) : Same H (upd H1 T o) := s.trans (same_new h)
theorem SqB.l {K : PySem.W.Frag} {H : Hp} {a : Addr} {xs : List V} (h : H a = some (.lst xs)) : SqB K false H a xs := SqL.of h
theorem SqB.t {K : PySem.W.Frag} {H : Hp} {a : Addr} {xs : List V} (h : SqT K H a xs) : SqB K true H a xs := h
theorem SqB.keep {K : PySem.W.Frag} {t : Bool} {H H' : Hp} {a : Addr} {xs : List V} (s : Same H H') (h : SqB K t H a xs) : SqB K t H' a xs := match t, h with
  | true, h => Same.tup s h
  | false, h => s.seq h
theorem SqB.any {K : PySem.W.Frag} {t : Bool} {H : Hp} {a : Addr} {xs : List V} (h : SqB K t H a xs) : SqA K H a xs := match t, h with
  | true, h => .inr h
  | false, h => .inl h
end Rd
/-! ListV: list(d.values()). -/
namespace Rd
open PySem PySem.Spec PyProof.Rows L2
/-- a new list of the values -/
def tLVals (td : TE) : TE := fun σ H Q => td σ H fun x H1 => ∃ (a : Addr) (kvs : List (Key × V)), x = .ref a ∧ H1 a = some (.dK kvs) ∧ ∀ l, H1 l = none → Q (.ref l) (upd H1 l (.lst (kvs.map Prod.snd)))
theorem kv_all : ∀ {kvs : List (Key × V)} {vs : List (Key × Value)}, KV kvs vs → Vals (kvs.map Prod.snd) (vs.map Prod.snd) := fun {kvs vs} r => by
  have ln := KV.length r
  have go : ∀ (xs : List V) (us : List Value), xs.length = us.length → (∀ (i : Nat) (x : V), xs[i]? = some x → ∃ u, us[i]? = some u ∧ RelV x u) → Vals xs us := fun xs => by
    induction xs with
    | nil => intro us l _; match us, l with | [], _ => exact .nil
    | cons x xs ih =>
      intro us l h
      match us, l with
      | u :: us, l =>
        obtain ⟨u', e, q⟩ := h 0 x rfl
        cases e
        exact .cons q (ih us (Nat.succ.inj l) fun i y z => h (i + 1) y z)
  refine go _ _ (by rw [List.length_map, List.length_map, ln]) fun i x h => ?_
  rw [List.getElem?_map] at h
  cases e : kvs[i]? with
  | none => rw [e] at h; cases h
  | some q =>
    rw [e] at h
    cases h
    have i2 : i < vs.length := by have := (List.getElem?_eq_some_iff.mp e).1; omega
    obtain ⟨x', h1, h2⟩ := KV.at' r (i := i) (k := vs[i].1) (v := vs[i].2) (List.getElem?_eq_getElem i2)
    rw [e] at h1
    cases h1
    exact ⟨vs[i].2, by rw [List.getElem?_map, List.getElem?_eq_getElem i2]; rfl, h2⟩
section
variable {X : Cx} {o : Expr} {p pos apos mpos : Pos} {td : TE}
theorem pe_lvals (hg : Gl X "list") (hm : X.mg "list" = none) (hd : PE X o td) (calm : X.calm = true := by rfl) (b1 : attributeBase o "values" X.env (eval o X.env) = eval o X.env := by rfl) (b2 : (apos.endLine == mpos.line) = true := by rfl)
    (b3 : starEach [Expr.Call (.Attribute o "values" apos) [] [] mpos] X.env = (false, eval (Expr.Call (.Attribute o "values" apos) [] [] mpos) X.env) :: starEach [] X.env := by rfl) : PE X (.Call (.Name "list" p) [.Call (.Attribute o "values" apos) [] [] mpos] [] pos) (tLVals td) where
  run := fun pins s σ H Q I h => Call_ (ld_blt I hg hm boot_list (callWith_type1 (args_cons (wpAny_Call_method0_late b1 b2 (thn (hd.run pins s σ H _ I h) fun v s1 q => by
    obtain ⟨x, H1, I1, r1, a, kvs, rfl, ha, q⟩ := q
    cases (show v = Value.ref a from r1)
    obtain ⟨small, sys, vs, rel, dict⟩ := dk_of I1.hok ha
    obtain ⟨ep, at_⟩ := dict.dictAt
    obtain ⟨ob, _, hob, exact_, _⟩ := id at_
    have ty : s1.TypeIs (.ref a) "dict" := ⟨ob, hob, exact_.1⟩
    refine ⟨"dict", "dict.values", F.plainAttrs_dict, F.slot_dict_values, F.type_dict_values, ty, fun b e => by cases e; exact ⟨ob, hob, exact_.2.1⟩, Calls.callWith_builtin rfl (PySem.evalArgs_none (call_meetsIn F.slot_dict_values ty F.entry_dict_values (F.args_dict_values_1 _) (meets_dict_values (mixKind X.prog X.w) a sys) ⟨⟨vs, dict⟩, args_nil ?_⟩))⟩
    have keep1 : ∀ b u, s1.heap.get? b = some u → (s1.heap.push { cls := .type "dict_values", data := .fields #[.ref a] }).get? b = some u := fun b u e => Heap.get?_push_of_some _ e
    have ln := KV.length rel
    refine W.kdl_call (W.kdl_values (kvs := vs) (r := s1.heap.objs.size)) (I.ok.hd calm) ⟨⟨_, Heap.get?_push_size _ rfl, rfl, rfl⟩, at_.keep keep1⟩ (by omega) fun h' tk acc c' keep2 new all => ?_
    have fresh : s1.heap.objs.size ≤ (s1.heap.push { cls := .type "dict_values", data := .fields #[.ref a] }).objs.size := by rw [Heap.size_push]; exact Nat.le_succ _
    have eacc : acc.toList = vs.map Prod.snd := W.kdl_vals_eq acc.toList (by rw [Array.length_toList]; exact all.1) fun j u hu => all.2 j u (by simpa using hu)
    have J := I1.laid (t' := tk) (o := .lst (kvs.map Prod.snd)) (fun b u e => keep2 b u (keep1 b u e)) fresh ⟨by rw [List.length_map]; exact small, acc.toList, c', by rw [eacc]; exact kv_all rel, by rw [Array.toArray_toList]; exact new⟩
    exact ⟨.ref (s1.heap.push { cls := .type "dict_values", data := .fields #[.ref a] }).objs.size, _, J, rfl, q _ (I1.hok.fresh fresh)⟩)) b3) b3 rfl))
end
section
variable {σ : L2.St} {H : Hp} {Q : VK} {td : TE} {a : Addr} {kvs : List (Key × V)}
def kLVals (Q : VK) : VK := fun x H1 => ∃ (a : Addr) (kvs : List (Key × V)), x = .ref a ∧ H1 a = some (.dK kvs) ∧ ∀ l, H1 l = none → Q (.ref l) (upd H1 l (.lst (kvs.map Prod.snd)))
theorem w_lvals (h : td σ H (kLVals Q)) : tLVals td σ H Q := h
theorem w_klv (e : H a = some (.dK kvs)) (h : ∀ (l : Addr) (H' : Hp), H l = none → Same H H' → H' l = some (.lst (kvs.map Prod.snd)) → Q (.ref l) H') : kLVals Q (.ref a) H := ⟨a, kvs, rfl, e, fun l hl => h l _ hl (same_new hl) upd_same⟩
end
/-! ### l.clear() -/
def kBM0 (K : PySem.W.Frag) (T : String) (r : V → List V → Hp → VK → Prop) (Q : VK) : VK := fun x H => tyV K T x H ∧ r x [] H Q
theorem w_bm0 {K : PySem.W.Frag} {T : String} {r : V → List V → Hp → VK → Prop} {to : TE} {σ : L2.St} {H : Hp} {Q : VK} (h : to σ H (kBM0 K T r Q)) : tBM0 K T r to σ H Q := h
theorem w_clear {K : PySem.W.Frag} {H : Hp} {Q : VK} {l : Addr} {xs : List V} (e : H l = some (.lst xs)) (h : Q .non (upd H l (.lst []))) : kBM0 K "list" rClear Q (.ref l) H := ⟨.inl ⟨rfl, xs, SqL.of e⟩, l, xs, rfl, rfl, e, h⟩
/-! ### {k: v} -/
def kDs1 (p : Addr) (x : V) (Q : VK) : VK := fun y H2 => H2 p = some (.dK []) ∧ ∃ kvs : List (Key × V), [(x, y)] = kvs.map (fun kv => (kV kv.1, kv.2)) ∧ kvs.length ≤ 15 ∧ Q (.ref p) (upd H2 p (.dK (mergeK [] kvs)))
def kDs0 (p : Addr) (tv : TE) (σ : L2.St) (Q : VK) : VK := fun x H1 => tv σ H1 (kDs1 p x Q)
section
variable {σ : L2.St} {H : Hp} {Q : VK} {tk tv : TE} {p : Addr} {x y : V} {z : Str}
theorem w_disp1 (h : ∀ p H', H p = none → Same H H' → H' p = some (.dK []) → tk σ H' (kDs0 p tv σ Q)) : tDisp [(tk, tv)] σ H Q := fun p hp => h p _ hp (same_new hp) upd_same
theorem w_kds0 (h : tv σ H (kDs1 p x Q)) : kDs0 p tv σ Q x H := h
theorem w_kds1 (e : H p = some (.dK [])) (h : Q (.ref p) (upd H p (.dK [(.inr z, y)]))) : kDs1 p (.str z) Q y H := ⟨e, [(.inr z, y)], rfl, (show 1 ≤ 15 by decide), h⟩
end
theorem IsSpan.putD {K : PySem.W.Frag} {H : Hp} {d a : Addr} {l u : Int} {kv : List (Key × V)} {o : HO} (h : IsSpan K H a l u) (e : H d = some (.dK kv)) : IsSpan K (upd H d o) a l u := let ⟨dx, q⟩ := h; ⟨dx, by rw [upd_ne (fun z => by rw [z, e] at q; cases q)]; exact q⟩
end Rd
/-! SameD: values that are the same data. -/
namespace Rd
open PySem PySem.Spec PyProof.Rows L2
/-- data not deeper than n, of no great width -/
def Nar : Nat → PyData → Prop
  | 0, _ => False
  | n + 1, .list ds => ds.length ≤ 1000000 ∧ ∀ d ∈ ds, Nar n d
  | n + 1, .tuple ds => ds.length ≤ 1000000 ∧ ∀ d ∈ ds, Nar n d
  | _ + 1, _ => True
theorem nar_list {n : Nat} {ds : List PyData} (h : ds.length ≤ 1000000) (k : ∀ d ∈ ds, Nar n d) : Nar (n + 1) (.list ds) := ⟨h, k⟩
theorem nar_tup {n : Nat} {ds : List PyData} (h : ds.length ≤ 1000000) (k : ∀ d ∈ ds, Nar n d) : Nar (n + 1) (.tuple ds) := ⟨h, k⟩
theorem nar_int {n : Nat} {i : Int} : Nar (n + 1) (.int i) := trivial
theorem nar_str {n : Nat} {z : Str} : Nar (n + 1) (.str z) := trivial
theorem nar_non {n : Nat} : Nar (n + 1) .none := trivial
theorem nar_bl {n : Nat} {b : Bool} : Nar (n + 1) (.bool b) := trivial
def spSameD (K : PySem.W.Frag) (n : Nat) : Sp := fun vs H Q _ => ∃ (v w : V) (X Y : List Addr) (e : PyData), vs = [v, w] ∧ Dat K X H v e ∧ Dat K Y H w e ∧ Nar n e ∧ Q (.bl true) H
theorem recD {K : PySem.W.Frag} {vs : List V} {H : Hp} {Q : VK} {E : XK} (h : spSameD K 0 vs H Q E) : False := by
  obtain ⟨_, _, _, _, _, _, _, _, h, _⟩ := h
  exact h
section
variable {K : PySem.W.Frag} {H : Hp} {Q : VK} {E : XK} {a : Addr} {xs : List V} {v w : V} {X Y : List Addr} {e : PyData} {n : Nat}
theorem use_sameD (h1 : Dat K X H v e) (h2 : Dat K Y H w e) (nr : Nar n e) (q : Q (.bl true) H) : spSameD K n [v, w] H Q E := ⟨v, w, X, Y, e, rfl, h1, h2, nr, q⟩
theorem sqT_ty (h : SqT K H a xs) : TyX K H (.ref a) (.type "tuple") := by
  rcases h with (h | ⟨o, h⟩) | ⟨o, _, _, k, c, _⟩
  · exact .base (.tup h)
  · exact .fTuple h
  · exact .kTuple k c
theorem w_isT_bool (e : SqT K H a xs) (h : Q (.bl false) H) : uIsi K [.ref a, .ty "bool"] H Q := w_isB (sqT_ty e) (by decide +kernel) h
theorem w_isT_int (e : SqT K H a xs) (h : Q (.bl false) H) : uIsi K [.ref a, .ty "int"] H Q := w_isB (sqT_ty e) (by decide +kernel) h
theorem w_isT_str (e : SqT K H a xs) (h : Q (.bl false) H) : uIsi K [.ref a, .ty "str"] H Q := w_isB (sqT_ty e) (by decide +kernel) h
theorem w_isT_dict (e : SqT K H a xs) (h : Q (.bl false) H) : uIsi K [.ref a, .ty "dict"] H Q := w_isB (sqT_ty e) (by decide +kernel) h
theorem w_isT_list (e : SqT K H a xs) (h : Q (.bl false) H) : uIsi K [.ref a, .ty "list"] H Q := w_isB (sqT_ty e) (by decide +kernel) h
theorem w_isT_tuple (e : SqT K H a xs) (h : Q (.bl true) H) : uIsi K [.ref a, .ty "tuple"] H Q := w_isB (sqT_ty e) (by decide +kernel) h
end
end Rd
/-! RowM: rows of lags, the moments of a run; spans, rows and runs as they stand. -/
namespace Rd
open PySem PySem.Spec PyProof.Rows L2 NameM
/-- two lists, item by item -/
def Each {α β : Type} (R : α → β → Prop) (as : List α) (bs : List β) : Prop := as.length = bs.length ∧ ∀ (i : Nat) (a : α) (b : β), as[i]? = some a → bs[i]? = some b → R a b
section
variable {α β : Type} {R S : α → β → Prop} {as : List α} {bs : List β} {a : α} {b : β} {i : Nat}
theorem Each.nil : Each R [] [] := ⟨rfl, fun _ _ _ h => nomatch h⟩
theorem Each.mono (h : Each R as bs) (k : ∀ a b, R a b → S a b) : Each S as bs := ⟨h.1, fun i a b x y => k a b (h.2 i a b x y)⟩
theorem Each.snoc (h : Each R as bs) (r : R a b) : Each R (as ++ [a]) (bs ++ [b]) := by
  refine ⟨by rw [List.length_append, List.length_append, h.1]; rfl, fun i x y e1 e2 => ?_⟩
  rcases Nat.lt_trichotomy i as.length with c | c | c
  · rw [List.getElem?_append_left c] at e1
    rw [List.getElem?_append_left (h.1 ▸ c)] at e2
    exact h.2 i x y e1 e2
  · subst c
    rw [List.getElem?_append_right (Nat.le_refl _), Nat.sub_self] at e1
    rw [List.getElem?_append_right (Nat.le_of_eq h.1.symm), h.1, Nat.sub_self] at e2
    cases e1; cases e2; exact r
  · rw [List.getElem?_eq_none (by rw [List.length_append]; show as.length + 1 ≤ i; omega)] at e1
    cases e1
theorem Each.at_ (h : Each R as bs) (e : bs[i]? = some b) : ∃ a, as[i]? = some a ∧ R a b := by
  have hi : i < as.length := by rw [h.1]; exact (List.getElem?_eq_some_iff.mp e).1
  exact ⟨as[i], List.getElem?_eq_getElem hi, h.2 i _ _ (List.getElem?_eq_getElem hi) e⟩
theorem Each.atL (h : Each R as bs) (e : as[i]? = some a) : ∃ b, bs[i]? = some b ∧ R a b := by
  have hi : i < bs.length := by rw [← h.1]; exact (List.getElem?_eq_some_iff.mp e).1
  exact ⟨bs[i], List.getElem?_eq_getElem hi, h.2 i _ _ e (List.getElem?_eq_getElem hi)⟩
end
/-! ### bounds of lags -/
def lim (D : DayD) : Itm → List (Int × Int)
  | .pc _ _ _ _ de lo hi => [(0, de), (lo, hi), D.w, D.p]
  | .br _ _ _ _ de _ _ _ => [(0, de)]
def inB (l : Int) (s : Int × Int) : Bool := decide (s.1 ≤ l) && decide (l ≤ s.2)
def fitB : List Int → List (Int × Int) → Bool
  | [], [] => true
  | l :: ls, s :: ss => inB l s && fitB ls ss
  | _, _ => false
theorem fitB_len : ∀ {ls : List Int} {ss : List (Int × Int)}, fitB ls ss = true → ls.length = ss.length
  | [], [], _ => rfl
  | l :: ls, s :: ss, h => by
    have h : (inB l s && fitB ls ss) = true := h
    rw [Bool.and_eq_true] at h
    exact congrArg Nat.succ (fitB_len h.2)
  | [], _ :: _, h => nomatch h
  | _ :: _, [], h => nomatch h
theorem fitB_all : ∀ {ls : List Int} {ss : List (Int × Int)}, ls.length = ss.length → ((List.zipWith inB ls ss).all id) = fitB ls ss
  | [], [], _ => rfl
  | l :: ls, s :: ss, h => by
    show (inB l s && (List.zipWith inB ls ss).all id) = (inB l s && fitB ls ss)
    rw [fitB_all (Nat.succ.inj h)]
  | [], _ :: _, h => nomatch h
  | _ :: _, [], h => nomatch h
theorem fitB_at : ∀ {ls : List Int} {ss : List (Int × Int)} {i : Nat} {l : Int} {s : Int × Int}, fitB ls ss = true → ls[i]? = some l → ss[i]? = some s → s.1 ≤ l ∧ l ≤ s.2
  | l :: ls, s :: ss, i, x, y, h, hx, hy => by
    have h : (inB l s && fitB ls ss) = true := h
    rw [Bool.and_eq_true] at h
    match i with
    | 0 =>
      cases hx; cases hy
      have q : (decide (s.1 ≤ l) && decide (l ≤ s.2)) = true := h.1
      rw [Bool.and_eq_true] at q
      exact ⟨of_decide_eq_true q.1, of_decide_eq_true q.2⟩
    | i + 1 => exact fitB_at h.2 hx hy
  | [], _, _, _, _, _, hx, _ => nomatch hx
  | _ :: _, [], _, _, _, _, _, hy => nomatch hy
theorem fitB_mk : ∀ {ls : List Int} {ss : List (Int × Int)}, ls.length = ss.length → (∀ (i : Nat) (l : Int) (s : Int × Int), ls[i]? = some l → ss[i]? = some s → s.1 ≤ l ∧ l ≤ s.2) → fitB ls ss = true
  | [], [], _, _ => rfl
  | l :: ls, s :: ss, h, k => by
    obtain ⟨k1, k2⟩ := k 0 l s rfl rfl
    show (inB l s && fitB ls ss) = true
    rw [fitB_mk (Nat.succ.inj h) fun i x y hx hy => k (i + 1) x y hx hy, Bool.and_true]
    show (decide (s.1 ≤ l) && decide (l ≤ s.2)) = true
    rw [decide_eq_true k1, decide_eq_true k2]; rfl
  | [], _ :: _, h, _ => nomatch h
  | _ :: _, [], h, _ => nomatch h
/-- the row fits -/
def RowFits (D : DayD) (rs : List (List Int)) : Prop := Each (fun l it => fitB l (lim D it) = true) rs D.its
abbrev eSize (i : Int) : Er := ⟨"BadSize", [("count", .int i)]⟩
abbrev eRow (z : Str) : Er := ⟨"BadRow", [("name", .str z)]⟩
def rowGo : List Str → List (List (Int × Int)) → List (List Int) → Option Er
  | z :: zs, s :: ss, l :: ls => due (bad (fitB l s = false) (eRow z)) (rowGo zs ss ls)
  | _, _, _ => none
def rowEr (zs : List Str) (ss : List (List (Int × Int))) (ls : List (List Int)) : Option Er := due (bad (¬ ls.length = ss.length) (eSize ls.length)) (rowGo zs ss ls)
theorem rowGo_ok : ∀ {zs : List Str} {ss : List (List (Int × Int))} {ls : List (List Int)}, (∀ (i : Nat) (l : List Int) (s : List (Int × Int)), ls[i]? = some l → ss[i]? = some s → fitB l s = true) → rowGo zs ss ls = none
  | z :: zs, s :: ss, l :: ls, h => (due_n (bad_f (by rw [h 0 l s rfl rfl]; exact Bool.noConfusion))).trans (rowGo_ok fun i x y hx hy => h (i + 1) x y hx hy)
  | [], _, _, _ => rfl
  | _ :: _, [], _, _ => rfl
  | _ :: _, _ :: _, [], _ => rfl
theorem rowEr_ok {D : DayD} {rs : List (List Int)} (h : RowFits D rs) : rowEr (D.its.map Itm.nm) (D.its.map (lim D)) rs = none := by
  refine (due_n (bad_f (by rw [h.1, List.length_map]; exact fun n => n rfl))).trans (rowGo_ok fun i l s hl hs => ?_)
  rw [List.getElem?_map] at hs
  cases e : D.its[i]? with
  | none => rw [e] at hs; cases hs
  | some it => rw [e] at hs; cases hs; exact h.2 i l it hl e
/-! ### moments -/
def begM (m : Int) (it : Itm) (l : List Int) : Int := match it with
  | .pc _ st of mi _ _ _ => beginAt st of mi m (l.getD 0 0)
  | .br _ st of mi _ _ _ _ => beginAt st of (some mi) m (l.getD 0 0)
def lenM (it : Itm) (l : List Int) : Int := match it with
  | .pc _ _ _ _ _ _ _ => l.getD 1 0
  | .br _ _ _ _ _ pl un _ => pl * un
def momGo : Int → List Itm → List (List Int) → List Int
  | m, it :: r, l :: ls => begM m it l :: (begM m it l + lenM it l) :: momGo (begM m it l + lenM it l) r ls
  | _, _, _ => []
def moms (D : DayD) (rs : List (List Int)) : List Int := D.op :: momGo D.op D.its rs
theorem mom_len : ∀ {its : List Itm} {rs : List (List Int)} {m : Int}, rs.length = its.length → (momGo m its rs).length = 2 * its.length
  | [], [], _, _ => rfl
  | it :: r, l :: ls, m, h => by
    show (momGo _ r ls).length + 1 + 1 = _
    rw [mom_len (Nat.succ.inj h), List.length_cons]; omega
  | [], _ :: _, _, h => nomatch h
  | _ :: _, [], _, h => nomatch h
theorem mom_snoc {it : Itm} {l : List Int} : ∀ {its : List Itm} {rs : List (List Int)} {m : Int}, rs.length = its.length → momGo m (its ++ [it]) (rs ++ [l]) = momGo m its rs ++ [begM ((m :: momGo m its rs).getLastD 0) it l, begM ((m :: momGo m its rs).getLastD 0) it l + lenM it l]
  | [], [], _, _ => rfl
  | a :: r, b :: ls, m, h => by
    show _ :: _ :: momGo _ (r ++ [it]) (ls ++ [l]) = _ :: _ :: (momGo _ r ls ++ _)
    rw [mom_snoc (Nat.succ.inj h)]; rfl
  | [], _ :: _, _, h => nomatch h
  | _ :: _, [], _, h => nomatch h
theorem mom_at : ∀ {its : List Itm} {rs : List (List Int)} {m : Int} {k : Nat} {it : Itm} {l : List Int}, its[k]? = some it → rs[k]? = some l → ∃ mk, (m :: momGo m its rs)[2 * k]? = some mk ∧ (m :: momGo m its rs)[2 * k + 1]? = some (begM mk it l) ∧ (m :: momGo m its rs)[2 * k + 2]? = some (begM mk it l + lenM it l)
  | a :: r, b :: ls, m, 0, it, l, h1, h2 => by
    cases h1; cases h2
    exact ⟨m, rfl, rfl, rfl⟩
  | a :: r, b :: ls, m, k + 1, it, l, h1, h2 => by
    have h1 : r[k]? = some it := h1
    have h2 : ls[k]? = some l := h2
    obtain ⟨mk, q⟩ := mom_at (m := begM m a b + lenM a b) h1 h2
    exact ⟨mk, by rw [show 2 * (k + 1) = 2 * k + 1 + 1 by omega, show 2 * k + 1 + 1 + 1 = 2 * k + 1 + 1 + 1 from rfl]; exact q⟩
  | [], _, _, _, _, _, h1, _ => nomatch h1
  | _ :: _, [], _, _, _, _, _, h2 => nomatch h2
/-! ### as they stand -/
def SpanL (K : PySem.W.Frag) (H : Hp) : List Addr → List (Int × Int) → Prop := Each fun a s => IsSpan K H a s.1 s.2
def LimL (K : PySem.W.Frag) (H : Hp) : List Addr → List (List (Int × Int)) → Prop := Each fun l sp => ∃ as : List Addr, H l = some (.lst (as.map V.ref)) ∧ SpanL K H as sp
def RowT (K : PySem.W.Frag) (H : Hp) : List Addr → List (List Int) → Prop := Each fun t l => SqT K H t (l.map V.int)
theorem SpanL.keeps {K : PySem.W.Frag} {X : List Addr} {H H' : Hp} {as : List Addr} {sp : List (Int × Int)} (h : SpanL K H as sp) (k : Keeps X H H') : SpanL K H' as sp := Each.mono h fun _ _ q => q.keeps k
theorem SpanL.keep {K : PySem.W.Frag} {H H' : Hp} {as : List Addr} {sp : List (Int × Int)} (h : SpanL K H as sp) (s : Same H H') : SpanL K H' as sp := h.keeps (X := []) (.same s)
theorem LimL.keep {K : PySem.W.Frag} {H H' : Hp} {ls : List Addr} {ss : List (List (Int × Int))} (h : LimL K H ls ss) (s : Same H H') : LimL K H' ls ss := Each.mono h fun _ _ ⟨as, e, q⟩ => ⟨as, s _ _ e, q.keep s⟩
theorem RowT.keeps {K : PySem.W.Frag} {X : List Addr} {H H' : Hp} {ts : List Addr} {rs : List (List Int)} (h : RowT K H ts rs) (k : Keeps X H H') : RowT K H' ts rs := Each.mono h fun _ _ q => k.sqT q
theorem RowT.keep {K : PySem.W.Frag} {H H' : Hp} {ts : List Addr} {rs : List (List Int)} (h : RowT K H ts rs) (s : Same H H') : RowT K H' ts rs := h.keeps (X := []) (.same s)
def lagD (l : List Int) : PyData := .tuple (l.map PyData.int)
def rowD (rs : List (List Int)) : PyData := .list (rs.map lagD)
theorem datA_ints {K : PySem.W.Frag} {X : List Addr} {H : Hp} {xs : List V} {ns : List Int} (h : DatA K X H xs (ns.map PyData.int)) : xs = ns.map V.int := by
  refine List.ext_getElem? fun i => ?_
  by_cases c : i < ns.length
  · have c1 : i < xs.length := by have := h.len; rw [List.length_map] at this; omega
    have e := h.all i _ _ (List.getElem?_eq_getElem c1) (by rw [List.getElem?_map, List.getElem?_eq_getElem c]; rfl)
    rw [List.getElem?_eq_getElem c1, List.getElem?_map, List.getElem?_eq_getElem c, e.int_]; rfl
  · rw [List.getElem?_eq_none (by have := h.len; rw [List.length_map] at this; omega), List.getElem?_eq_none (by rw [List.length_map]; omega)]
theorem lag_of {K : PySem.W.Frag} {X : List Addr} {H : Hp} {v : V} {l : List Int} (h : Dat K X H v (lagD l)) : ∃ t, v = .ref t ∧ SqT K H t (l.map V.int) := by
  obtain ⟨t, xs, rfl, hs, a⟩ := Dat.tuple h
  obtain rfl := datA_ints a
  exact ⟨t, rfl, hs⟩
theorem lag_dat {K : PySem.W.Frag} {X : List Addr} {H : Hp} {t : Addr} {l : List Int} (h : SqT K H t (l.map V.int)) : Dat K X H (.ref t) (lagD l) := .tup h (by rw [List.length_map, List.length_map]) (DatA.ints l).all
theorem rowA_of {K : PySem.W.Frag} {X : List Addr} {H : Hp} {xs : List V} {rs : List (List Int)} (h : DatA K X H xs (rs.map lagD)) : ∃ ts : List Addr, xs = ts.map V.ref ∧ RowT K H ts rs := by
  have go : ∀ (rs : List (List Int)) (xs : List V), DatA K X H xs (rs.map lagD) → ∃ ts : List Addr, xs = ts.map V.ref ∧ RowT K H ts rs := fun rs => by
    induction rs with
    | nil =>
      intro xs h
      have := List.eq_nil_of_length_eq_zero h.len
      subst this
      exact ⟨[], rfl, Each.nil⟩
    | cons l r ih =>
      intro xs h
      match xs, h with
      | x :: xs, h =>
        obtain ⟨t, rfl, ht⟩ := lag_of (h.all 0 _ _ rfl rfl)
        obtain ⟨ts, rfl, q⟩ := ih xs ⟨Nat.succ.inj h.len, fun i x d a b => h.all (i + 1) x d a b⟩
        refine ⟨t :: ts, rfl, congrArg Nat.succ q.1, fun i a b x y => ?_⟩
        match i with
        | 0 => cases x; cases y; exact ht
        | i + 1 => exact q.2 i a b x y
      | [], h => exact absurd h.len (by simp)
  exact go rs xs h
theorem rowA_dat {K : PySem.W.Frag} {X : List Addr} {H : Hp} {ts : List Addr} {rs : List (List Int)} (h : RowT K H ts rs) : DatA K X H (ts.map V.ref) (rs.map lagD) := by
  refine ⟨by rw [List.length_map, List.length_map, h.1], fun i x d a b => ?_⟩
  rw [List.getElem?_map] at a b
  cases e1 : ts[i]? with
  | none => rw [e1] at a; cases a
  | some t =>
    cases e2 : rs[i]? with
    | none => rw [e2] at b; cases b
    | some l => rw [e1] at a; rw [e2] at b; cases a; cases b; exact lag_dat (h.2 i t l e1 e2)
theorem row_of {K : PySem.W.Frag} {X : List Addr} {H : Hp} {v : V} {rs : List (List Int)} (h : Dat K X H v (rowD rs)) : ∃ (a : Addr) (ts : List Addr), v = .ref a ∧ a ∉ X ∧ H a = some (.lst (ts.map V.ref)) ∧ RowT K H ts rs := by
  obtain ⟨a, xs, rfl, n, e, q⟩ := Dat.list h
  obtain ⟨ts, rfl, r⟩ := rowA_of q
  exact ⟨a, ts, rfl, n, e, r⟩
theorem row_dat {K : PySem.W.Frag} {X : List Addr} {H : Hp} {a : Addr} {ts : List Addr} {rs : List (List Int)} (n : a ∉ X) (e : H a = some (.lst (ts.map V.ref))) (h : RowT K H ts rs) : Dat K X H (.ref a) (rowD rs) := (rowA_dat h).newL n e
/-- an order with its house -/
structure OrdD (K : PySem.W.Frag) (H : Hp) (o : Addr) (D : DayD) : Prop where
  ex : ∃ (h : Addr) (as : List Addr) (t nd : Addr), OrderIs K H o h D.op D.its as t nd ∧ HouseAt K H h D
theorem OrdD.keeps {K : PySem.W.Frag} {X : List Addr} {H H' : Hp} {o : Addr} {D : DayD} (x : OrdD K H o D) (k : Keeps X H H') : OrdD K H' o D := let ⟨h, as, t, nd, p, q⟩ := x.ex; ⟨h, as, t, nd, p.keeps k, HouseAt.keeps q k⟩
theorem OrdD.keep {K : PySem.W.Frag} {H H' : Hp} {o : Addr} {D : DayD} (x : OrdD K H o D) (s : Same H H') : OrdD K H' o D := x.keeps (X := []) (.same s)
def runF (o rl ml : Addr) : List (Str × V) := putF "moments" (.ref ml) (putF "row" (.ref rl) (putF "order" (.ref o) []))
structure RunD (K : PySem.W.Frag) (X : List Addr) (H : Hp) (y : Addr) (D : DayD) (rs : List (List Int)) : Prop where
  ex : ∃ (o dx rl ml : Addr), H y = some (.ins (He.ga K "Run") dx (runF o rl ml)) ∧ OrdD K H o D ∧ Dat K X H (.ref rl) (rowD rs) ∧ ml ∉ X ∧ H ml = some (.lst ((moms D rs).map V.int))
theorem RunD.keeps {K : PySem.W.Frag} {X : List Addr} {H H' : Hp} {y : Addr} {D : DayD} {rs : List (List Int)} (x : RunD K X H y D rs) (k : Keeps X H H') : RunD K X H' y D rs :=
  let ⟨o, dx, rl, ml, e, p, q, n, m⟩ := x.ex; ⟨o, dx, rl, ml, k.ins e, p.keeps k, q.keep k, n, k.lst n m⟩
theorem RunD.off {K : PySem.W.Frag} {X : List Addr} {H : Hp} {y l : Addr} {D : DayD} {rs : List (List Int)} (hl : H l = none) (x : RunD K X H y D rs) : RunD K (l :: X) H y D rs :=
  let ⟨o, dx, rl, ml, e, p, q, n, m⟩ := x.ex; ⟨o, dx, rl, ml, e, p, q.off hl, fun z => (List.mem_cons.mp z).elim (fun w => by rw [w, hl] at m; cases m) n, m⟩
theorem RunD.weak {K : PySem.W.Frag} {X Y : List Addr} {H : Hp} {y : Addr} {D : DayD} {rs : List (List Int)} (w : ∀ b ∈ Y, b ∈ X) (x : RunD K X H y D rs) : RunD K Y H y D rs :=
  let ⟨o, dx, rl, ml, e, p, q, n, m⟩ := x.ex; ⟨o, dx, rl, ml, e, p, q.weak w, fun z => n (w _ z), m⟩
/-- the new list D grows: the lists of spans are others -/
theorem LimL.put {K : PySem.W.Frag} {H : Hp} {D : Addr} {ls : List Addr} {ss : List (List (Int × Int))} {ys : List V} (h : LimL K H ls ss) (e : H D = some (.lst (ls.map V.ref))) : LimL K (upd H D (.lst ys)) ls ss := by
  refine ⟨h.1, fun i l sp e1 e2 => ?_⟩
  obtain ⟨as, el, q⟩ := h.2 i l sp e1 e2
  have ne : l ≠ D := fun z => by
    rw [z, e] at el
    have w : ls.map V.ref = as.map V.ref := by injection el with el; injection el
    have w2 : (as.map V.ref)[i]? = some (.ref l) := by rw [← w, List.getElem?_map, e1]; rfl
    rw [List.getElem?_map] at w2
    cases c : as[i]? with
    | none => rw [c] at w2; cases w2
    | some a =>
      rw [c] at w2
      cases w2
      obtain ⟨s, _, dx, x⟩ := Each.atL q c
      rw [z, e] at x
      cases x
  exact ⟨as, by rw [upd_ne ne]; exact el, q.keeps (X := [D]) (.put (by simp) e)⟩
/-- [e for x in a tuple], what is made told by the heap -/
theorem lc_TH {K : PySem.W.Frag} {G : Hp → Hp → Prop} {H : Hp} {p : Addr} {xs : List V} {g : TG} {tt : TT} {te : TE} {vs : List Nat} {σ : L2.St} {Q : VK} (gs : GoesOn G H) (hp : SqT K H p xs) (hx : ∀ H', G H H' → SqT K H' p xs) (R : Nat → List V → Hp → Prop) (r0 : ∀ H', G H H' → R 0 [] H')
    (step : ∀ (D : Addr) (i : Nat) (x : V) (acc : List V) (H1 : Hp), H D = none → xs[i]? = some x → R i acc H1 → G H H1 → H1 D = some (.lst acc) → LcStepH G H D R g tt te vs σ i x H1)
    (done : ∀ (l : Addr) (acc : List V) (H' : Hp), H l = none → G H H' → H' l = some (.lst acc) → R xs.length acc H' → Q (.ref l) H') : kCT K g tt te vs σ Q (.ref p) H := by
  refine ⟨p, rfl, ⟨_, hp⟩, fun D hD => lc_tup (xs := xs) (LcH G H D R) ⟨[], upd_same, gs.put gs.refl hD, r0 _ (gs.put gs.refl hD)⟩ ?_ ?_ ?_⟩
  · rintro i H' _ ⟨acc, _, s, _⟩
    exact hx H' s
  · rintro i x H' hi ⟨acc, ha, s, r⟩
    exact step D i x acc H' hD hi r s ha
  · rintro H' ⟨acc, ha, s, r⟩
    exact done D acc H' hD s ha r
theorem same_keeps {H H1 H2 : Hp} {l : Addr} (s : Same H H1) (hl : H l = none) (k : Keeps [l] H1 H2) : Same H H2 := fun b o hb => k b o (s b o hb) (.inl fun m => ne_of_none hb hl (List.mem_singleton.mp m))
theorem list_B {K : PySem.W.Frag} {t : Bool} {H : Hp} {a : Addr} {xs : List V} {Q : VK} (h : SqB K t H a xs) (q : ∀ (l : Addr) (H' : Hp), H l = none → Same H H' → H' l = some (.lst xs) → Q (.ref l) H') : rList K [.ref a] H Q := match t, h with
  | true, h => w_listT h fun l hl => q l _ hl (same_new hl) upd_same
  | false, h => w_listL h fun l hl => q l _ hl (same_new hl) upd_same
theorem at_map {α : Type} {f : α → V} {l : List α} {i : Nat} {v : V} (h : (l.map f)[i]? = some v) : ∃ a, l[i]? = some a ∧ v = f a := by
  rw [List.getElem?_map] at h
  cases q : l[i]? with
  | none => rw [q] at h; cases h
  | some a => rw [q] at h; exact ⟨a, rfl, (Option.some.inj h).symm⟩
end Rd
/-! DayL: what the laws read of a day and of its items. -/
namespace Rd
open PySem PySem.Spec PyProof.Rows L2 NameM
section
variable {K : PySem.W.Frag} {X Y : List Addr} {H : Hp} {v : V} {D : DayD} {Q : VK} {p a b : Addr} {xs ys : List V} {lo hi : Option Int} {i : Itm}
theorem day_3 (h : Dat K X H v D.dat) (q : ∀ a, SqT K H a [.int D.w.1, .int D.w.2] → Q (.ref a) H) : rIx K v (.int 3) H Q := ix_D (.inl h) (d := prD D.w) (j := 3) rfl (by decide) rfl fun u hu => by
  obtain ⟨a, rfl, s⟩ := dat_pr hu
  exact q a s
theorem day_4 (h : Dat K X H v D.dat) (q : ∀ a, SqT K H a [.int D.p.1, .int D.p.2] → Q (.ref a) H) : rIx K v (.int 4) H Q := ix_D (.inl h) (d := prD D.p) (j := 4) rfl (by decide) rfl fun u hu => by
  obtain ⟨a, rfl, s⟩ := dat_pr hu
  exact q a s
theorem day_0 (h : Dat K X H v D.dat) (q : Q (.int D.st) H) : rIx K v (.int 0) H Q := ix_D (.inl h) (d := .int D.st) (j := 0) rfl (by decide) rfl fun u hu => by rw [hu.int_]; exact q
theorem day_1 (h : Dat K X H v D.dat) (q : Q (.int D.cr) H) : rIx K v (.int 1) H Q := ix_D (.inl h) (d := .int D.cr) (j := 1) rfl (by decide) rfl fun u hu => by rw [hu.int_]; exact q
theorem day_5 (h : Dat K X H v D.dat) (q : Q (.int D.ah) H) : rIx K v (.int 5) H Q := ix_D (.inl h) (d := .int D.ah) (j := 5) rfl (by decide) rfl fun u hu => by rw [hu.int_]; exact q
theorem day_6 (h : Dat K X H v D.dat) (q : Q (.int D.ap) H) : rIx K v (.int 6) H Q := ix_D (.inl h) (d := .int D.ap) (j := 6) rfl (by decide) rfl fun u hu => by rw [hu.int_]; exact q
theorem day_7 (h : Dat K X H v D.dat) (q : Q (.int D.op) H) : rIx K v (.int 7) H Q := ix_D (.inl h) (d := .int D.op) (j := 7) rfl (by decide) rfl fun u hu => by rw [hu.int_]; exact q
theorem day_8 (h : Dat K X H v D.dat) (q : ∀ u, Dat K X H u (.list (D.its.map Itm.dat)) → Q u H) : rIx K v (.int 8) H Q := ix_D (.inl h) (d := .list (D.its.map Itm.dat)) (j := 8) rfl (by decide) rfl q
theorem day_its (h : Dat K X H v D.dat) {u : V} {k : Int} {j : Nat} {it : Itm} (hu : Dat K X H u (.list (D.its.map Itm.dat))) (hit : D.its[j]? = some it) (hk : k = j) (q : ∀ w, Dat K X H w it.dat → Q w H) : rIx K u (.int k) H Q :=
  ix_D (.inl hu) (d := it.dat) (j := j) (by rw [List.getElem?_map, hit]; rfl) (by omega) (by omega) q
theorem itm_0 (h : Dat K X H v i.dat) (q : Q (.str (if i.isPc = true then "piece" else "break")) H) : rIx K v (.int 0) H Q := by
  cases i with
  | pc z st of m de lo hi => obtain ⟨t, g, rfl, ht, _⟩ := Itm.pcAt h; exact w_ixT ht rfl q
  | br z st of mi de pl un pa => obtain ⟨t, g, rfl, ht, _⟩ := Itm.brAt h; exact w_ixT ht rfl q
theorem itm_1 (h : Dat K X H v i.dat) (q : Q (.str i.nm) H) : rIx K v (.int 1) H Q := by
  cases i with
  | pc z st of m de lo hi => obtain ⟨t, g, rfl, ht, _⟩ := Itm.pcAt h; exact w_ixT ht rfl q
  | br z st of mi de pl un pa => obtain ⟨t, g, rfl, ht, _⟩ := Itm.brAt h; exact w_ixT ht rfl q
/-- slices and sums of tuples -/
theorem n_usB (hs : SqT K H p xs) (h : ∀ (l : Addr) (H' : Hp), Same H H' → SqT K H' l (cutV xs lo hi) → Q (.ref l) H') : uSl K (.ref p) lo hi H Q :=
  .inr ⟨p, xs, rfl, hs, fun w => h p H (Same.refl H) (by rw [cut_whole w]; exact hs), fun _ q hq => h q _ (same_new hq) (SqT.of upd_same)⟩
theorem n_catT (h1 : SqT K H a xs) (h2 : SqT K H b ys) (n1 : xs ≠ []) (hl : xs.length + ys.length ≤ sizeLine) (h : ∀ (l : Addr) (H' : Hp), Same H H' → SqT K H' l (xs ++ ys) → Q (.ref l) H') : rCatT K (.ref a) (.ref b) H Q :=
  ⟨a, b, xs, ys, rfl, rfl, h1, h2, n1, hl, fun e => h a H (Same.refl H) (by rw [e, List.append_nil]; exact h1), fun _ q hq => h q _ (same_new hq) (SqT.of upd_same)⟩
end
/-- the spans of the lags, as data -/
def spanD (s : List (Int × Int)) : PyData := .list (s.map prD)
def spansD (ss : List (List (Int × Int))) : PyData := .list (ss.map spanD)
/-- an item with another minute, grid, length or unit -/
structure Like (i j : Itm) : Prop where
  nm : j.nm = i.nm
  pl : j.pl = i.pl
  pc : j.isPc = i.isPc
  bd : ItmB i → ItmB j
  ok : ItmOk j
theorem like_sum : ∀ {is js : List Itm}, Each Like is js → js.map Itm.nm = is.map Itm.nm ∧ plSum js = plSum is ∧ pcCount js = pcCount is
  | [], [], _ => ⟨rfl, rfl, rfl⟩
  | i :: is, j :: js, h => by
    obtain ⟨e1, e2, e3⟩ := like_sum (is := is) (js := js) ⟨Nat.succ.inj h.1, fun k a b x y => h.2 (k + 1) a b x y⟩
    have l := h.2 0 i j rfl rfl
    refine ⟨?_, ?_, ?_⟩
    · rw [List.map_cons, List.map_cons, e1, l.nm]
    · show j.pl + plSum js = i.pl + plSum is
      rw [e2, l.pl]
    · show (if j.isPc = true then 1 else 0) + pcCount js = (if i.isPc = true then 1 else 0) + pcCount is
      rw [e3, l.pc]
  | [], _ :: _, h => nomatch h.1
  | _ :: _, [], h => nomatch h.1
theorem like_ok {k : Int} {is js : List Itm} (e : Each Like is js) (h : ItmsOk is k) : ItmsOk js k := by
  obtain ⟨e1, e2, e3⟩ := like_sum e
  refine ⟨fun j hj => ?_, by rw [← e.1]; exact h.len, by rw [e1]; exact h.nd, by rw [e2]; exact h.pl, by rw [e3]; exact h.pc⟩
  obtain ⟨n, hn⟩ := List.getElem?_of_mem hj
  obtain ⟨i, _, l⟩ := Each.at_ e hn
  exact l.ok
theorem lim_fit {D : DayD} {k : Int} (h : DayOk D k) {it : Itm} (m : it ∈ D.its) : ∀ q ∈ lim D it, q.1 ≤ q.2 ∧ q.2 ≤ q.1 + 8 := by
  have o := h.its.all it m
  intro q hq
  cases it with
  | pc z st of mi de lo hi =>
    obtain ⟨_, _, _, ⟨d0, d8⟩, _, l1, l2⟩ := o
    simp only [lim, List.mem_cons, List.not_mem_nil, or_false] at hq
    rcases hq with rfl | rfl | rfl | rfl
    · exact ⟨d0, by show de ≤ 0 + 8; omega⟩
    · exact ⟨l1, l2⟩
    · exact ⟨h.w.2.1, h.w.2.2⟩
    · exact ⟨h.p.2.1, h.p.2.2⟩
  | br z st of mi de pl un pa =>
    obtain ⟨_, _, _, ⟨d0, d8⟩, _⟩ := o
    simp only [lim, List.mem_cons, List.not_mem_nil, or_false] at hq
    subst hq
    exact ⟨d0, by show de ≤ 0 + 8; omega⟩
theorem lim_len (D : DayD) (it : Itm) : (lim D it).length ≤ 4 := by cases it <;> exact Nat.le_of_ble_eq_true rfl
section
variable {K : PySem.W.Frag} {X : List Addr} {H : Hp} {t g : Addr} {z : Str} {st of de lo hi mi pl un pa : Int} {m : Option Int}
theorem pc_dat (h : SqT K H t [.str "piece", .str z, .ref g, optV m, .int de, .int lo, .int hi]) (hg : SqT K H g [.int st, .int of]) : Dat K X H (.ref t) (Itm.pc z st of m de lo hi).dat :=
  have a : DatA K X H [.str "piece", .str z, .ref g, optV m, .int de, .int lo, .int hi] [.str "piece", .str z, Rd.prD (st, of), optD m, .int de, .int lo, .int hi] := .cons (.str _) (.cons (.str _) (.cons (pr_dat (q := (st, of)) hg) (.cons (Dat.opt m) (.cons (.int _) (.cons (.int _) (.cons (.int _) .nil))))))
  .tup h a.len a.all
theorem br_dat (h : SqT K H t [.str "break", .str z, .ref g, .int mi, .int de, .int pl, .int un, .int pa]) (hg : SqT K H g [.int st, .int of]) : Dat K X H (.ref t) (Itm.br z st of mi de pl un pa).dat :=
  have a : DatA K X H [.str "break", .str z, .ref g, .int mi, .int de, .int pl, .int un, .int pa] [.str "break", .str z, Rd.prD (st, of), .int mi, .int de, .int pl, .int un, .int pa] := .cons (.str _) (.cons (.str _) (.cons (pr_dat (q := (st, of)) hg) (.cons (.int _) (.cons (.int _) (.cons (.int _) (.cons (.int _) (.cons (.int _) .nil)))))))
  .tup h a.len a.all
end
theorem nar_itm (it : Itm) (n : Nat) : Nar (n + 3) it.dat := by
  have nq : ∀ q : Int × Int, Nar (n + 2) (.tuple [.int q.1, .int q.2]) := fun q => nar_tup (show 2 ≤ 1000000 by decide) fun d m => by
    simp only [List.mem_cons, List.not_mem_nil, or_false] at m
    rcases m with rfl | rfl <;> exact trivial
  cases it with
  | pc z st of mi de lo hi =>
    refine nar_tup (show 7 ≤ 1000000 by decide) fun d m => ?_
    simp only [List.mem_cons, List.not_mem_nil, or_false] at m
    rcases m with rfl | rfl | rfl | rfl | rfl | rfl | rfl
    · exact trivial
    · exact trivial
    · exact nq (st, of)
    · cases mi <;> exact trivial
    · exact trivial
    · exact trivial
    · exact trivial
  | br z st of mi de pl un pa =>
    refine nar_tup (show 8 ≤ 1000000 by decide) fun d m => ?_
    simp only [List.mem_cons, List.not_mem_nil, or_false] at m
    rcases m with rfl | rfl | rfl | rfl | rfl | rfl | rfl | rfl
    · exact trivial
    · exact trivial
    · exact nq (st, of)
    all_goals exact trivial
theorem nar_day {D : DayD} {k : Int} (ok : DayOk D k) (n : Nat) : Nar (n + 5) D.dat := by
  have nq : ∀ q : Int × Int, Nar (n + 4) (Rd.prD q) := fun q => nar_tup (show 2 ≤ 1000000 by decide) fun d m => by
    simp only [List.mem_cons, List.not_mem_nil, or_false] at m
    rcases m with rfl | rfl <;> exact trivial
  refine nar_list (show 9 ≤ 1000000 by decide) fun d m => ?_
  simp only [DayD.row, List.mem_cons, List.not_mem_nil, or_false] at m
  rcases m with rfl | rfl | rfl | rfl | rfl | rfl | rfl | rfl | rfl
  · exact trivial
  · exact trivial
  · refine nar_list (by rw [List.length_map]; have := ok.ks; omega) fun d m => ?_
    obtain ⟨z, _, rfl⟩ := List.mem_map.mp m
    exact trivial
  · exact nq _
  · exact nq _
  · exact trivial
  · exact trivial
  · exact trivial
  · refine nar_list (by rw [List.length_map]; have := ok.its.len; omega) fun d m => ?_
    obtain ⟨t, _, rfl⟩ := List.mem_map.mp m
    exact nar_itm t n
theorem nar_row {D : DayD} {rs : List (List Int)} {k : Int} (f : RowFits D rs) (ok : DayOk D k) (n : Nat) : Nar (n + 3) (rowD rs) := by
  refine nar_list (by rw [List.length_map, f.1]; have := ok.its.len; omega) fun d m => ?_
  obtain ⟨l, hl, rfl⟩ := List.mem_map.mp m
  obtain ⟨i, e⟩ := List.getElem?_of_mem hl
  obtain ⟨it, _, q⟩ := Each.atL f e
  refine nar_tup (by rw [List.length_map, fitB_len q]; have := lim_len D it; omega) fun d m => ?_
  obtain ⟨x, _, rfl⟩ := List.mem_map.mp m
  exact trivial
theorem each_map {α β γ : Type} {R : α → γ → Prop} {f : β → γ} {as : List α} {bs : List β} (h : Each R as (bs.map f)) : Each (fun a b => R a (f b)) as bs := ⟨by rw [h.1, List.length_map], fun i a b x y => h.2 i a (f b) x (by rw [List.getElem?_map, y]; rfl)⟩
theorem lims_ok {D : DayD} {k : Int} (ok : DayOk D k) : (D.its.map (lim D)).length ≤ 20 ∧ ∀ s ∈ D.its.map (lim D), s.length ≤ 20 ∧ ∀ q ∈ s, q.1 ≤ q.2 ∧ q.2 ≤ q.1 + 8 := by
  refine ⟨by rw [List.length_map]; have := ok.its.len; omega, fun s m => ?_⟩
  obtain ⟨it, hi, rfl⟩ := List.mem_map.mp m
  exact ⟨by have := lim_len D it; omega, lim_fit ok hi⟩
theorem rows_l {D : DayD} {k : Int} {rs : List (List Int)} (ok : DayOk D k) (f : RowFits D rs) : rs.length ≤ 1000 ∧ ∀ l ∈ rs, l.length ≤ 1000 := by
  refine ⟨by rw [f.1]; have := ok.its.len; omega, fun l m => ?_⟩
  obtain ⟨i, e⟩ := List.getElem?_of_mem m
  obtain ⟨it, _, q⟩ := Each.atL f e
  rw [fitB_len q]; have := lim_len D it; omega
theorem len1 {α : Type} {l : List α} (h : l.length = 1) : ∃ a, l = [a] := match l, h with
  | [a], _ => ⟨a, rfl⟩
theorem len4 {α : Type} {l : List α} (h : l.length = 4) : ∃ a b c d, l = [a, b, c, d] := match l, h with
  | [a, b, c, d], _ => ⟨a, b, c, d, rfl⟩
theorem Drawn.keeps {p l : Addr} {H H1 H2 : Hp} (d : Drawn p H H1) (hl : H l = none) (k : Keeps [l] H1 H2) : Drawn p H H2 := ⟨fun a o n h => k a o (d.grow a o n h) (.inl fun m => ne_of_none h hl (List.mem_singleton.mp m)), by
  obtain ⟨q, l0, l', ns, h1, h2, h3, h4, h5, h6⟩ := d.core
  exact ⟨q, l0, l', ns, h1, h2, h3, h4, k _ _ h5 (.inl fun m => ne_of_none h1 hl (List.mem_singleton.mp m)), h6⟩⟩
theorem some_ne {H : Hp} {b : Addr} {o : HO} (e : H b = some o) : H b ≠ none := by rw [e]; exact fun z => nomatch z
theorem PoolAt.ne {H : Hp} {p : Addr} (h : PoolAt H p) : ∀ b ∈ [p], H b ≠ none := fun b hb => by
  rw [List.mem_singleton.mp hb]
  obtain ⟨q, e⟩ := h.lst
  exact some_ne e
/-- for x in a tuple -/
theorem for_T {K : PySem.W.Frag} {H : Hp} {p : Addr} {xs : List V} {g : TG} {tb : TS} {D : Ends} {σ : L2.St} (Pv : Nat → L2.St → Hp → Prop) (h0 : Pv 0 σ H) (hx : ∀ i σ H', Pv i σ H' → SqT K H' p xs)
    (hs : ∀ (i : Nat) (x : V) (σ : L2.St) (H1 : Hp), xs[i]? = some x → Pv i σ H1 → g x σ H1 fun σ2 H2 => tb { D with nx := Pv (i + 1), ct := Pv (i + 1), bk := D.nx } σ2 H2)
    (hd : ∀ σ H', Pv xs.length σ H' → D.nx σ H') : kFT K g tb D σ (.ref p) H :=
  ⟨p, rfl, ⟨_, hx 0 σ H h0⟩, for_tup (xs := xs) Pv h0 (fun i σ H' _ q => hx i σ H' q) (fun i x σ H' e q => hs i x σ H' e q) hd⟩
theorem at_dat {α : Type} {f : α → PyData} {l : List α} {i : Nat} {d : PyData} (h : (l.map f)[i]? = some d) : ∃ a, l[i]? = some a ∧ d = f a := by
  rw [List.getElem?_map] at h
  cases q : l[i]? with
  | none => rw [q] at h; cases h
  | some a => rw [q] at h; exact ⟨a, rfl, (Option.some.inj h).symm⟩
theorem getD_of {α : Type} {l : List α} {i : Nat} {x d : α} (h : l[i]? = some x) : l.getD i d = x := by
  rw [List.getD_eq_getElem?_getD, h]; rfl
theorem row_at {K : PySem.W.Frag} {X : List Addr} {H : Hp} {v : V} {Q : VK} {rs : List (List Int)} {l : List Int} {k : Int} {j : Nat} (h : Dat K X H v (rowD rs)) (e : rs[j]? = some l) (hk : k = j) (q : ∀ t, SqT K H t (l.map V.int) → Q (.ref t) H) : rIx K v (.int k) H Q :=
  ix_D (.inl h) (d := lagD l) (j := j) (by rw [List.getElem?_map, e]; rfl) (by omega) (by omega) fun w hw => by
    obtain ⟨t, rfl, s⟩ := lag_of hw
    exact q t s
theorem lag_at {l : List Int} {i : Nat} (h : i < l.length) : atI (l.map V.int) i = some (.int (l.getD i 0)) := by
  refine atI_of (by omega) ?_
  show (l.map V.int)[(i : Int).toNat]? = _
  rw [Int.toNat_natCast, List.getElem?_map, List.getElem?_eq_getElem h, List.getD_eq_getElem?_getD, List.getElem?_eq_getElem h]; rfl
/-- what a begin is -/
theorem begin_ok {st of m late : Int} {mi : Option Int} (s1 : 1 ≤ st) (o0 : 0 ≤ of) (o1 : of < st) : startAt mi m + late ≤ beginAt st of mi m late ∧ beginAt st of mi m late < startAt mi m + late + st ∧ (beginAt st of mi m late - of) % st = 0 := by
  have q := GridM.fb_ge (s := st) (o := of) (t := startAt mi m + late) (by omega)
  have b := GridM.fb_bar (s := st) (o := of) (t := startAt mi m + late)
  rw [Int.emod_eq_of_lt o0 o1] at b
  exact ⟨by show _ ≤ GridM.fb _ _ _; omega, by show GridM.fb _ _ _ < _; omega, b⟩
theorem SqT.go {K : PySem.W.Frag} {p : Addr} {H H' : Hp} {a : Addr} {xs : List V} (h : SqT K H a xs) (d : Drawn p H H') : SqT K H' a xs := (Keeps.drawn (X := [p]) (by simp) d).sqT h
theorem DayOk.like {k : Int} {D : DayD} {js : List Itm} (h : DayOk D k) (e : Each Like D.its js) : DayOk { D with its := js } k := ⟨h.st, h.cr, h.ks, h.kn, h.kd, h.w, h.p, h.ah, h.ap, like_ok e h.its, fun j m => by
  obtain ⟨n, hn⟩ := List.getElem?_of_mem m
  obtain ⟨i, hi, l⟩ := Each.at_ e hn
  exact l.bd (h.bd i (List.mem_of_getElem? hi)), h.ob, fun z m => by
  show z ∉ js.map Itm.nm
  rw [(like_sum e).1]; exact h.kz z m, by
  show D.ks.length + js.length ≤ 11
  rw [← e.1]; exact h.kl⟩
end Rd
/-! IxG: o[k] by an own __getitem__, x not in o by an own __contains__. -/
namespace Rd
open PySem PySem.Spec PyProof.Rows PySem.W L2
/-- an own __getitem__ -/
structure GetG (P : Program) (w : World) (K : PySem.W.Frag) (mg : Str → Option Value) (base : Heap) (CX : CXT) (k : Nat) (C : Addr) (ps : List Str) (sp : Sp) : Prop where
  ex : ∃ f fd, Meth K C "__getitem__" f ∧ PySem.W.fnIn K f = true ∧ FnOk P w K mg base CX k f fd ps sp ∧ Binds K fd ps []
theorem fnIn_of {K : PySem.W.Frag} {x qual : Str} {params : Arguments} {body : List Stmt} {scope : Scope} {dvs : List V} {kws : List (Str × V)} {f : Addr} {fd : FuncData} (F : FunD K x qual params body scope dvs kws f fd) : PySem.W.fnIn K f = true := by
  obtain ⟨oc, od, dV, kV, doc, pm, an, cdv, ct, osl, _, lk, _⟩ := F.ex
  unfold PySem.W.fnIn
  rw [lk]
def rIxG (C : Addr) (sp : Sp) (E : XK) : R2 := fun x y H Q => ∃ a dx fs, x = .ref a ∧ H a = some (.ins C dx fs) ∧ sp [.ref a, y] H Q E
section
variable {X : Cx} {k : Nat} {C : Addr} {ps : List Str} {sp : Sp} {CX : CXT} {E : XK}
theorem run_fn1 {f : Addr} {fd : FuncData} {pins : List (Addr × Obj)} {σ : L2.St} {H : Hp} {s : Shared} {Q : VK} {us : List Value} {vs : List V} (F : FnOk X.prog X.w X.K X.mg X.base CX k f fd ps sp) (hr : Room k X.A.in1) (hb : Binds X.K fd ps []) (hx : Passes CX X E)
    (I : L2.Inv X pins σ H s) (r : Vals vs us) (h : sp vs H Q E) : wpAny (model X.prog X.w) X.A.in1 (call (.ref f) us) (EP X pins σ Q) X.xe s := by
  have hl : us.length = ps.length := by rw [← r.length]; exact F.len _ _ _ _ h
  have b := hb s us I.kIn (by rw [List.append_nil]; exact hl)
  rw [List.append_nil] at b
  refine wpAny_call (codeAny_mono (F.run X.A.in1 X.stack s H ⟨us, []⟩ us vs Q E hr I.env0.in1 b r h) fun r s' hq => ?_)
  cases r with
  | error e => exact hx pins σ H s e s' I hq
  | ok fl =>
    cases fl with
    | ret u => exact I.after hq
    | next => exact False.elim hq
    | brk => exact False.elim hq
    | cont => exact False.elim hq
theorem pe_ixG {a b : Expr} {ta tb : TE} {pos : Pos} (G : GetG X.prog X.w X.K X.mg X.base CX k C ps sp) (hr : Room (k + 1) X.A) (hx : Passes CX X E) (ha : PE X a ta) (hb : PE X b tb)
    (hs : ∀ o i, subscripted b true o i = runValue (.builtin "lifetime.subscript" ⟨[o, i], []⟩)) : PE X (.Subscript a b pos) (tOp (rIxG C sp E) ta tb) := by
  obtain ⟨f, fd, m, fi, F, bn⟩ := G.ex
  refine ⟨fun pins s σ H Q I h => ?_⟩
  refine Subscript_ (binT ha hb I h fun v u s2 x y H2 I2 rx ry q => ?_)
  obtain ⟨o, dx, fs, rfl, e, q⟩ := q
  obtain ⟨od, i⟩ := inst_of I2 e
  obtain ⟨_, fr⟩ := I2.fr
  cases rx
  exact PySem.W.sub_K fr I2.mod.kin i m.at_ fi m.fn (run_fn1 F hr.in1 bn hx I2 (.cons (show RelV (V.ref o) (Value.ref o) from rfl) (.cons ry .nil)) q) (hs _ _)
def rNotInG (C : Addr) (sp : Sp) : R2 := fun x y H Q => match y with
  | .ref a => ∃ dx fs, H a = some (.ins C dx fs) ∧ sp [.ref a, x] H (fun v H2 => ∃ b, v = .bl b ∧ Q (.bl (!b)) H2) E0
  | _ => False
theorem oNotInG (G : MtG X.prog X.w X.K X.mg X.base CX0 k C "__contains__" ps sp) (hr : Room k X.A) : OpR X (compareOp .NotIn) (rNotInG C sp) := by
  intro pins s σ H x y u v Q I rx ry h
  unfold rNotInG at h
  split at h
  · rename_i a
    obtain ⟨dx, fs, e, h⟩ := h
    obtain ⟨f, fd, m, F, b⟩ := G.ex
    obtain ⟨od, i⟩ := inst_of I e
    obtain ⟨_, fr⟩ := I.fr
    cases ry
    refine PySem.W.notIn_K fr I.mod.kin i m.at_ m.fn (thn (run_fn (vs := [V.ref a, x]) (dvs := []) F hr b .nil pass0 I (.cons (show RelV (V.ref a) (Value.ref a) from rfl) (.cons rx .nil)) h) fun r s1 w => ?_)
    obtain ⟨z, H1, I1, rz, c, rfl, q⟩ := w
    cases rz
    exact thn (tru_ok pins s1 σ H1 (.bl c) _ (fun b H' => Q (.bl (!b)) H') I1 rfl ⟨c, rfl, q⟩) fun b2 s2 w2 => let ⟨H2, I2, q2⟩ := w2; ⟨.bl (!b2), H2, I2, rfl, q2⟩
  · exact h.elim
end
section
variable {K : PySem.W.Frag} {H : Hp} {Q : VK} {C a dx : Addr} {fs : List (Str × V)} {sp : Sp} {x : V} {E : XK}
theorem w_notInG (e : H a = some (.ins C dx fs)) (h : sp [.ref a, x] H (fun v H2 => ∃ b, v = .bl b ∧ Q (.bl (!b)) H2) E0) : rNotInG C sp x (.ref a) H Q := ⟨dx, fs, e, h⟩
theorem w_ixG (e : H a = some (.ins C dx fs)) (h : sp [.ref a, x] H Q E) : rIxG C sp E (.ref a) x H Q := ⟨a, dx, fs, rfl, e, h⟩
end
end Rd
/-! EvM: events of an order, their points and moments. -/
namespace Rd
open PySem PySem.Spec PyProof.Rows L2 NameM
/-- tuples of one or two texts, or of two texts and an integer -/
inductive EvD where
  | one (w : Str)
  | two (w z : Str)
  | three (w z : Str) (i : Int)
def EvD.vals : EvD → List V
  | .one w => [.str w]
  | .two w z => [.str w, .str z]
  | .three w z i => [.str w, .str z, .int i]
def EvD.row : EvD → List PyData
  | .one w => [.str w]
  | .two w z => [.str w, .str z]
  | .three w z i => [.str w, .str z, .int i]
def EvD.dat (e : EvD) : PyData := .tuple e.row
def EvD.word : EvD → Str
  | .one w => w
  | .two w _ => w
  | .three w _ _ => w
def numI (its : List Itm) (z : Str) : Nat := (its.map Itm.nm).idxOf z
def findI (its : List Itm) (z : Str) : Option Itm := its[numI its z]?
theorem numI_of {its : List Itm} {z : Str} {i : Nat} (nd : (its.map Itm.nm).Nodup) (h : (its.map Itm.nm)[i]? = some z) : numI its z = i := by
  obtain ⟨hi, e⟩ := List.getElem?_eq_some_iff.mp h
  unfold numI
  rw [← e]
  exact List.Nodup.idxOf_getElem nd i hi
theorem numI_at {its : List Itm} {it : Itm} {i : Nat} (nd : (its.map Itm.nm).Nodup) (h : its[i]? = some it) : numI its it.nm = i := numI_of nd (by rw [List.getElem?_map, h]; rfl)
theorem findI_at {its : List Itm} {it : Itm} {i : Nat} (nd : (its.map Itm.nm).Nodup) (h : its[i]? = some it) : findI its it.nm = some it := by
  unfold findI; rw [numI_at nd h]; exact h
theorem findI_some {its : List Itm} {z : Str} (h : z ∈ its.map Itm.nm) : ∃ it, findI its z = some it ∧ it.nm = z ∧ (its.map Itm.nm)[numI its z]? = some z := by
  have hi : numI its z < (its.map Itm.nm).length := List.idxOf_lt_length_of_mem h
  have e : (its.map Itm.nm)[numI its z]? = some z := by
    rw [List.getElem?_eq_getElem hi]; exact congrArg some (List.getElem_idxOf hi)
  have hj : numI its z < its.length := by rwa [List.length_map] at hi
  refine ⟨its[numI its z], List.getElem?_eq_getElem hj, ?_, e⟩
  rw [List.getElem?_map, List.getElem?_eq_getElem hj] at e
  exact Option.some.inj e
theorem findI_none {its : List Itm} {z : Str} (h : z ∉ its.map Itm.nm) : findI its z = none := by
  unfold findI numI
  refine List.getElem?_eq_none ?_
  rw [List.idxOf_eq_length h, List.length_map]; exact Nat.le_refl _
abbrev pcW : List Str := ["begin", "end", "call", "enter", "out"]
abbrev brW : List Str := ["begin", "end"]
/-- the order has this event -/
def hasEv (its : List Itm) : EvD → Bool
  | .one w => decide (w = "opens")
  | .two w z => match findI its z with
    | none => false
    | some it => if it.isPc = true then decide (w ∈ pcW) else decide (w ∈ brW)
  | .three w z i => match findI its z with
    | none => false
    | some it => decide (w = "place") && (!it.isPc && (decide (0 ≤ i) && decide (i < it.pl)))
theorem hasEv_2n {its : List Itm} {w z : Str} (h : findI its z = none) : hasEv its (.two w z) = false := by simp only [hasEv, h]
theorem hasEv_2p {its : List Itm} {w z : Str} {it : Itm} (h : findI its z = some it) (p : it.isPc = true) : hasEv its (.two w z) = decide (w ∈ pcW) := by simp only [hasEv, h]; rw [if_pos p]
theorem hasEv_2b {its : List Itm} {w z : Str} {it : Itm} (h : findI its z = some it) (p : it.isPc = false) : hasEv its (.two w z) = decide (w ∈ brW) := by simp only [hasEv, h]; rw [if_neg (by rw [p]; exact Bool.false_ne_true)]
theorem hasEv_3n {its : List Itm} {w z : Str} {i : Int} (h : findI its z = none) : hasEv its (.three w z i) = false := by simp only [hasEv, h]
theorem hasEv_3 {its : List Itm} {w z : Str} {i : Int} {it : Itm} (h : findI its z = some it) : hasEv its (.three w z i) = (decide (w = "place") && (!it.isPc && (decide (0 ≤ i) && decide (i < it.pl)))) := by simp only [hasEv, h]
def callPt (ah : Int) (k : Nat) : Int := if (k : Int) < ah then 0 else 2 * ((k : Int) - ah) + 1
def wordPt (ah : Int) (k : Nat) (w : Str) : Int := if w = "call" ∨ w = "enter" then callPt ah k else if w = "end" ∨ w = "out" then 2 * (k : Int) + 2 else 2 * (k : Int) + 1
/-- the point on which it hangs -/
def ptEv (its : List Itm) (ah : Int) : EvD → Int
  | .one _ => 0
  | .two w z => wordPt ah (numI its z) w
  | .three w z _ => wordPt ah (numI its z) w
theorem callPt_le {ah : Int} {k : Nat} (h : 1 ≤ ah) : 0 ≤ callPt ah k ∧ callPt ah k ≤ 2 * (k : Int) + 1 := by
  unfold callPt; split <;> omega
theorem wordPt_le {ah : Int} {k : Nat} {w : Str} (h : 1 ≤ ah) : 0 ≤ wordPt ah k w ∧ wordPt ah k w ≤ 2 * (k : Int) + 2 := by
  have := callPt_le (k := k) h
  unfold wordPt; split
  · omega
  · split <;> omega
theorem mem2 {w a b : Str} : w ∈ [a, b] ↔ w = a ∨ w = b := by simp
theorem wordPt_c {ah : Int} {k : Nat} {w : Str} (h : w ∈ (["call", "enter"] : List Str)) : wordPt ah k w = callPt ah k := if_pos (mem2.mp h)
theorem wordPt_e {ah : Int} {k : Nat} {w : Str} (n : w ∉ (["call", "enter"] : List Str)) (h : w ∈ (["end", "out"] : List Str)) : wordPt ah k w = 2 * (k : Int) + 2 := (if_neg (fun z => n (mem2.mpr z))).trans (if_pos (mem2.mp h))
theorem wordPt_b {ah : Int} {k : Nat} {w : Str} (n : w ∉ (["call", "enter"] : List Str)) (h : w ∉ (["end", "out"] : List Str)) : wordPt ah k w = 2 * (k : Int) + 1 := (if_neg (fun z => n (mem2.mpr z))).trans (if_neg fun z => h (mem2.mpr z))
/-- what it takes to be an event -/
theorem hasEv_two {its : List Itm} {w z : Str} (h : hasEv its (.two w z) = true) : ∃ it, findI its z = some it ∧ it.nm = z ∧ (its.map Itm.nm)[numI its z]? = some z ∧ w ≠ "opens" ∧ w ≠ "place" ∧ (it.isPc = false → w ∈ brW) ∧ w ∈ pcW := by
  by_cases m : z ∈ its.map Itm.nm
  · obtain ⟨it, hf, hz, hk⟩ := findI_some m
    cases p : it.isPc with
    | true =>
      rw [hasEv_2p hf p, decide_eq_true_eq] at h
      exact ⟨it, hf, hz, hk, fun e => absurd (e ▸ h) (by decide), fun e => absurd (e ▸ h) (by decide), fun q => (Bool.noConfusion (p.symm.trans q)), h⟩
    | false =>
      rw [hasEv_2b hf p, decide_eq_true_eq] at h
      refine ⟨it, hf, hz, hk, fun e => absurd (e ▸ h) (by decide), fun e => absurd (e ▸ h) (by decide), fun _ => h, ?_⟩
      rcases mem2.mp h with rfl | rfl <;> decide
  · rw [hasEv_2n (findI_none m)] at h; cases h
theorem hasEv_three {its : List Itm} {w z : Str} {i : Int} (h : hasEv its (.three w z i) = true) : ∃ it, findI its z = some it ∧ it.nm = z ∧ (its.map Itm.nm)[numI its z]? = some z ∧ w = "place" ∧ it.isPc = false ∧ 0 ≤ i ∧ i < it.pl := by
  by_cases m : z ∈ its.map Itm.nm
  · obtain ⟨it, hf, hz, hk⟩ := findI_some m
    rw [hasEv_3 hf] at h
    simp only [Bool.and_eq_true, decide_eq_true_eq, Bool.not_eq_true'] at h
    exact ⟨it, hf, hz, hk, h.1, h.2.1, h.2.2.1, h.2.2.2⟩
  · rw [hasEv_3n (findI_none m)] at h; cases h
def unitI : Itm → Int
  | .pc _ _ _ _ _ _ _ => 0
  | .br _ _ _ _ _ _ un _ => un
/-- its moment in a run -/
def momEv (D : DayD) (rs : List (List Int)) (e : EvD) : Int := (moms D rs).getD (ptEv D.its D.ah e).toNat 0 + match e with
  | .one _ => 0
  | .two w z => if w = "enter" then (rs.getD (numI D.its z) []).getD 2 0 else if w = "out" then (rs.getD (numI D.its z) []).getD 3 0 else 0
  | .three _ z i => i * ((findI D.its z).map unitI).getD 0
theorem mom_call {D : DayD} {rs : List (List Int)} {it : Itm} {k : Nat} (nd : (D.its.map Itm.nm).Nodup) (h : D.its[k]? = some it) : momEv D rs (.two "call" it.nm) = (moms D rs).getD (callPt D.ah k).toNat 0 := by
  unfold momEv ptEv
  dsimp only
  rw [numI_at nd h, wordPt_c (by decide), if_neg (by decide), if_neg (by decide), Int.add_zero]
theorem mom_enter {D : DayD} {rs : List (List Int)} {it : Itm} {k : Nat} {l : List Int} (nd : (D.its.map Itm.nm).Nodup) (h : D.its[k]? = some it) (e : rs[k]? = some l) : momEv D rs (.two "enter" it.nm) = (moms D rs).getD (callPt D.ah k).toNat 0 + l.getD 2 0 := by
  unfold momEv ptEv
  dsimp only
  rw [numI_at nd h, wordPt_c (by decide), if_pos rfl, getD_of e]
theorem mom_out {D : DayD} {rs : List (List Int)} {it : Itm} {k : Nat} {l : List Int} (nd : (D.its.map Itm.nm).Nodup) (h : D.its[k]? = some it) (e : rs[k]? = some l) : momEv D rs (.two "out" it.nm) = (moms D rs).getD (2 * (k : Int) + 2).toNat 0 + l.getD 3 0 := by
  unfold momEv ptEv
  dsimp only
  rw [numI_at nd h, wordPt_e (by decide) (by decide), if_neg (by decide), if_pos rfl, getD_of e]
theorem callPt_max {ah : Int} {k : Nat} : max 0 (2 * ((k : Int) - ah) + 1) = callPt ah k := by
  unfold callPt; split <;> omega
abbrev piecesN (its : List Itm) : List Str := (its.filter fun i => i.isPc).map Itm.nm
/-- a stay: the name, call, enter, out -/
def stayD (D : DayD) (rs : List (List Int)) (z : Str) : PyData := .tuple [.str z, .int (momEv D rs (.two "call" z)), .int (momEv D rs (.two "enter" z)), .int (momEv D rs (.two "out" z))]
theorem stay_of {K : PySem.W.Frag} {X : List Addr} {H : Hp} {v : V} {D : DayD} {rs : List (List Int)} {z : Str} (h : Dat K X H v (stayD D rs z)) : ∃ t, v = .ref t ∧ SqT K H t [.str z, .int (momEv D rs (.two "call" z)), .int (momEv D rs (.two "enter" z)), .int (momEv D rs (.two "out" z))] := by
  obtain ⟨t, xs, rfl, hs, a⟩ := Dat.tuple h
  obtain ⟨x0, x1, x2, x3, rfl⟩ := len4 a.len
  have e0 := (a.all 0 _ _ rfl rfl).str_
  have e1 := (a.all 1 _ _ rfl rfl).int_
  have e2 := (a.all 2 _ _ rfl rfl).int_
  have e3 := (a.all 3 _ _ rfl rfl).int_
  subst e0 e1 e2 e3
  exact ⟨t, rfl, hs⟩
theorem stay_dat {K : PySem.W.Frag} {X : List Addr} {H : Hp} {t : Addr} {D : DayD} {rs : List (List Int)} {z : Str} {a b c : Int} (h : SqT K H t [.str z, .int a, .int b, .int c]) (e1 : a = momEv D rs (.two "call" z)) (e2 : b = momEv D rs (.two "enter" z)) (e3 : c = momEv D rs (.two "out" z)) : Dat K X H (.ref t) (stayD D rs z) := by
  subst e1 e2 e3
  have a : DatA K X H [.str z, .int (momEv D rs (.two "call" z)), .int (momEv D rs (.two "enter" z)), .int (momEv D rs (.two "out" z))] [.str z, .int (momEv D rs (.two "call" z)), .int (momEv D rs (.two "enter" z)), .int (momEv D rs (.two "out" z))] := .cons (.str _) (.cons (.int _) (.cons (.int _) (.cons (.int _) .nil)))
  exact .tup h a.len a.all
def staysD (D : DayD) (rs : List (List Int)) : PyData := .list ((piecesN D.its).map (stayD D rs))
theorem filt_snoc {f : Str → Bool} {zs : List Str} {i : Nat} {z : Str} (hz : zs[i]? = some z) : ((zs.take (i + 1)).filter f).map V.str = ((zs.take i).filter f).map V.str ++ (if f z = true then [.str z] else []) := by
  rw [take_one hz, List.filter_append, List.map_append, List.filter_cons]
  split <;> rfl
theorem filt_yes {f : Str → Bool} {zs : List Str} {i : Nat} {z : Str} (hz : zs[i]? = some z) (h : f z = true) : ((zs.take (i + 1)).filter f).map V.str = ((zs.take i).filter f).map V.str ++ [.str z] := by rw [filt_snoc hz, if_pos h]
theorem filt_no {f : Str → Bool} {zs : List Str} {i : Nat} {z : Str} (hz : zs[i]? = some z) (h : f z = false) : ((zs.take (i + 1)).filter f).map V.str = ((zs.take i).filter f).map V.str := by rw [filt_snoc hz, if_neg (by rw [h]; exact Bool.false_ne_true), List.append_nil]
theorem nar_strs {n : Nat} {ss : List Str} (h : ss.length ≤ 1000000) : Nar (n + 2) (.list (ss.map PyData.str)) := nar_list (by rw [List.length_map]; exact h) fun d m => by
  obtain ⟨z, _, rfl⟩ := List.mem_map.mp m
  exact trivial
theorem pieces_len (its : List Itm) : (piecesN its).length ≤ its.length := by rw [List.length_map]; exact List.length_filter_le _ _
theorem OrdD.nums {K : PySem.W.Frag} {H : Hp} {o : Addr} {D : DayD} (x : OrdD K H o D) : ∃ h as t nd dx, OrderIs K H o h D.op D.its as t nd ∧ HouseAt K H h D ∧ H o = some (.ins (He.ga K "Order") dx (orderF h D.op t nd)) :=
  let ⟨h, as, t, nd, p, q⟩ := x.ex; let ⟨dx, e⟩ := p.ins; ⟨h, as, t, nd, dx, p, q, e⟩
theorem ev_dat {K : PySem.W.Frag} {X : List Addr} {H : Hp} {t : Addr} {e : EvD} (h : SqT K H t e.vals) : Dat K X H (.ref t) e.dat := by
  cases e with
  | one w => exact (DatA.cons (.str w) .nil : DatA K X H [.str w] [.str w]) |> fun a => .tup h a.len a.all
  | two w z => exact (DatA.cons (.str w) (.cons (.str z) .nil) : DatA K X H [.str w, .str z] [.str w, .str z]) |> fun a => .tup h a.len a.all
  | three w z i => exact (DatA.cons (.str w) (.cons (.str z) (.cons (.int i) .nil)) : DatA K X H [.str w, .str z, .int i] [.str w, .str z, .int i]) |> fun a => .tup h a.len a.all
theorem ev_of {K : PySem.W.Frag} {X : List Addr} {H : Hp} {v : V} {e : EvD} (h : Dat K X H v e.dat) : ∃ t, v = .ref t ∧ SqT K H t e.vals := by
  obtain ⟨t, xs, rfl, hs, a⟩ := Dat.tuple h
  refine ⟨t, rfl, ?_⟩
  cases e with
  | one w =>
    obtain ⟨x, rfl⟩ := len1 a.len
    have e0 := (a.all 0 _ _ rfl rfl).str_
    subst e0
    exact hs
  | two w z =>
    obtain ⟨x, y, rfl⟩ := len2 a.len
    have e0 := (a.all 0 _ _ rfl rfl).str_
    have e1 := (a.all 1 _ _ rfl rfl).str_
    subst e0 e1
    exact hs
  | three w z i =>
    obtain ⟨x, y, u, rfl⟩ := len3 a.len
    have e0 := (a.all 0 _ _ rfl rfl).str_
    have e1 := (a.all 1 _ _ rfl rfl).str_
    have e2 := (a.all 2 _ _ rfl rfl).int_
    subst e0 e1 e2
    exact hs
theorem in_T {K : PySem.W.Frag} {H : Hp} {Q : VK} {a : Addr} {z : Str} (ss : List Str) (hs : SqT K H a (ss.map V.str)) (h : Q (.bl (decide (z ∈ ss))) H) : rIn K false (.str z) (.ref a) H Q := in_S (.inr hs) h
end Rd
/-! EvT: the list of all events, tables of them, lists that grow. -/
namespace Rd
open PySem PySem.Spec PyProof.Rows L2 NameM
/-- the list l, new since H0, holds ds -/
structure LSt (K : PySem.W.Frag) (Y : List Addr) (H0 : Hp) (l : Addr) (H : Hp) (ds : List PyData) : Prop where
  ex : ∃ xs : List V, Keeps [l] H0 H ∧ H l = some (.lst xs) ∧ DatA K (l :: Y) H xs ds
section
variable {K : PySem.W.Frag} {Y : List Addr} {H0 H H' : Hp} {l a : Addr} {ds es : List PyData} {d : PyData} {v : V} {Q : VK} {xs : List V}
theorem LSt.at_ (h : LSt K Y H0 l H ds) : ∃ xs, H l = some (.lst xs) := let ⟨xs, _, e, _⟩ := h.ex; ⟨xs, e⟩
theorem LSt.same (h : LSt K Y H0 l H ds) (s : Same H H') : LSt K Y H0 l H' ds := let ⟨xs, k, e, a⟩ := h.ex; ⟨xs, k.trans (.same s), s _ _ e, a.keep (.same s)⟩
theorem LSt.keeps (h : LSt K Y H0 l H ds) : Keeps [l] H0 H := let ⟨_, k, _⟩ := h.ex; k
theorem LSt.weak (h : LSt K Y H0 l H ds) (A : List Addr) : Keeps (l :: A) H0 H := h.keeps.weak fun b hb => by
  simp only [List.mem_cons, List.not_mem_nil, or_false] at hb; rw [hb]; exact List.mem_cons_self
theorem w_appL (h : LSt K Y H0 l H ds) (hl : ds.length ≤ 1000000) (hv : Dat K (l :: Y) H v d) (q : ∀ H', Keeps [l] H H' → LSt K Y H0 l H' (ds ++ [d]) → Q .non H') : rAppend (.ref l) [v] H Q := by
  obtain ⟨xs, k, e, a⟩ := h.ex
  refine w_app e (by rw [a.len, sizeLine_eq]; omega) ?_
  have kl : Keeps [l] H (upd H l (.lst (xs ++ [v]))) := .put (by simp) e
  have kl2 : Keeps (l :: Y) H (upd H l (.lst (xs ++ [v]))) := .put (by simp) e
  exact q _ kl ⟨_, k.trans kl, upd_same, (a.snoc hv).keep kl2⟩
theorem LSt.done (h : LSt K Y H0 l H ds) (n : l ∉ Y) : Dat K Y H (.ref l) (.list ds) := by
  obtain ⟨xs, k, e, a⟩ := h.ex
  exact (a.weak (Y := Y) (fun _ z => List.mem_cons_of_mem _ z)).newL n e
theorem LSt.new (e : H l = some (.lst xs)) (a : DatA K (l :: Y) H xs ds) : LSt K Y H l H ds := ⟨xs, .refl, e, a⟩
theorem w_extL {ys : List V} {b : Addr} (h : LSt K Y H0 l H ds) (hl : ds.length ≤ 1000000) (hb : H b = some (.lst ys)) (ha : DatA K (l :: Y) H ys es) (hl2 : es.length ≤ 1000000) (q : ∀ H', Keeps [l] H H' → LSt K Y H0 l H' (ds ++ es) → Q .non H') : rExtend (.ref l) [.ref b] H Q := by
  obtain ⟨xs, k, e, a⟩ := h.ex
  have kl : Keeps [l] H (upd H l (.lst (xs ++ ys))) := .put (by simp) e
  have kl2 : Keeps (l :: Y) H (upd H l (.lst (xs ++ ys))) := .put (by simp) e
  exact w_ext e hb (by rw [a.len, ha.len, sizeLine_eq]; omega) (q _ kl ⟨_, k.trans kl, upd_same, (a.app ha).keep kl2⟩)
end
/-! ### comprehensions over a range, what is made told by the heap -/
theorem lc_RH {G : Hp → Hp → Prop} {H : Hp} {g : TG} {tt : TT} {te : TE} {vs : List Nat} {σ : L2.St} {Q : VK} {n : Int} (gs : GoesOn G H) (h0 : -(2 ^ 62) ≤ n) (h1 : n < 2 ^ 62) (R : Nat → List V → Hp → Prop) (r0 : ∀ H', G H H' → R 0 [] H')
    (step : ∀ (D : Addr) (i : Nat) (acc : List V) (H1 : Hp), H D = none → i < n.toNat → R i acc H1 → G H H1 → H1 D = some (.lst acc) → LcStepH G H D R g tt te vs σ i (.int (0 + (i : Int))) H1)
    (done : ∀ (l : Addr) (acc : List V) (H' : Hp), H l = none → G H H' → H' l = some (.lst acc) → R n.toNat acc H' → Q (.ref l) H') : kCR1 g tt te vs σ Q [.int n] H := by
  refine ⟨n, rfl, h0, h1, fun D hD => lc_range (n := n.toNat) (LcH G H D R) ⟨[], upd_same, gs.put gs.refl hD, r0 _ (gs.put gs.refl hD)⟩ ?_ ?_⟩
  · rintro i H' hi ⟨acc, ha, s, r⟩
    exact step D i acc H' hD hi r s ha
  · rintro H' ⟨acc, ha, s, r⟩
    exact done D acc H' hD s ha r
/-! ### all events -/
def placesEv (z : Str) (n : Nat) : List EvD := (List.range n).map fun j : Nat => EvD.three "place" z (j : Int)
def evIt : Itm → List EvD
  | .pc z _ _ _ _ _ _ => [.two "begin" z, .two "end" z, .two "call" z, .two "enter" z, .two "out" z]
  | .br z _ _ _ _ pl _ _ => [.two "begin" z, .two "end" z] ++ placesEv z pl.toNat
def evsOf (its : List Itm) : List EvD := .one "opens" :: its.flatMap evIt
theorem evs_snoc {its : List Itm} {i : Nat} {it : Itm} (h : its[i]? = some it) : evsOf (its.take (i + 1)) = evsOf (its.take i) ++ evIt it := by
  unfold evsOf
  rw [take_one h, List.flatMap_append]; simp
theorem ev_len {it : Itm} (h : ItmOk it) : (evIt it).length ≤ 14 := by
  cases it with
  | pc z st of m de lo hi => exact Nat.le_of_ble_eq_true rfl
  | br z st of mi de pl un pa =>
    have p := h.2.2.2.2.1.2
    show (placesEv z pl.toNat).length + 1 + 1 ≤ 14
    rw [placesEv, List.length_map, List.length_range]; omega
theorem evs_len {its : List Itm} (h : ∀ i ∈ its, ItmOk i) : (evsOf its).length ≤ 1 + 14 * its.length := by
  have go : ∀ l : List Itm, (∀ i ∈ l, ItmOk i) → (l.flatMap evIt).length ≤ 14 * l.length := fun l => by
    induction l with
    | nil => intro _; exact Nat.le_refl _
    | cons a r ih =>
      intro h
      rw [List.flatMap_cons, List.length_append, List.length_cons]
      have := ev_len (h a List.mem_cons_self)
      have := ih fun i m => h i (List.mem_cons_of_mem _ m)
      omega
  have := go its h
  show (its.flatMap evIt).length + 1 ≤ _
  omega
theorem evs_has {its : List Itm} (nd : (its.map Itm.nm).Nodup) : ∀ e ∈ evsOf its, hasEv its e = true := by
  intro e m
  rcases List.mem_cons.mp m with rfl | m
  · show decide (("opens" : Str) = "opens") = true
    exact decide_eq_true rfl
  obtain ⟨it, hi, he⟩ := List.mem_flatMap.mp m
  obtain ⟨k, hk⟩ := List.getElem?_of_mem hi
  have hf := findI_at nd hk
  cases it with
  | pc z st of mi de lo hi =>
    have hf : findI its z = some _ := hf
    simp only [evIt, List.mem_cons, List.not_mem_nil, or_false] at he
    rcases he with rfl | rfl | rfl | rfl | rfl <;> (rw [hasEv_2p hf rfl]; exact decide_eq_true (by decide))
  | br z st of mi de pl un pa =>
    have hf : findI its z = some _ := hf
    simp only [evIt, List.mem_append, List.mem_cons, List.not_mem_nil, or_false] at he
    rcases he with (rfl | rfl) | he
    · rw [hasEv_2b hf rfl]; exact decide_eq_true (by decide)
    · rw [hasEv_2b hf rfl]; exact decide_eq_true (by decide)
    · obtain ⟨j, hj, rfl⟩ := List.mem_map.mp he
      have hj := List.mem_range.mp hj
      rw [hasEv_3 hf]
      show (decide (("place" : Str) = "place") && (!false && (decide (0 ≤ (j : Int)) && decide ((j : Int) < pl)))) = true
      rw [decide_eq_true rfl, decide_eq_true (by omega), decide_eq_true (by omega)]; rfl
theorem places_snoc (z : Str) (i : Nat) : placesEv z (i + 1) = placesEv z i ++ [EvD.three "place" z (i : Int)] := by
  unfold placesEv
  rw [List.range_succ, List.map_append]; rfl
/-- events, as they stand -/
def EvsAt (K : PySem.W.Frag) (H : Hp) : List Addr → List EvD → Prop := Each fun t e => SqT K H t e.vals
theorem EvsAt.keeps {K : PySem.W.Frag} {X : List Addr} {H H' : Hp} {ts : List Addr} {es : List EvD} (h : EvsAt K H ts es) (k : Keeps X H H') : EvsAt K H' ts es := Each.mono h fun _ _ q => k.sqT q
theorem EvsAt.dat {K : PySem.W.Frag} {X : List Addr} {H : Hp} {ts : List Addr} {es : List EvD} (h : EvsAt K H ts es) : DatA K X H (ts.map V.ref) (es.map EvD.dat) := by
  refine ⟨by rw [List.length_map, List.length_map, h.1], fun i x d a b => ?_⟩
  obtain ⟨t, e1, rfl⟩ := at_map a
  obtain ⟨e, e2, rfl⟩ := at_dat b
  exact ev_dat (h.2 i t e e1 e2)
theorem EvsAt.nil {K : PySem.W.Frag} {H : Hp} : EvsAt K H [] [] := Each.nil
theorem EvsAt.snoc {K : PySem.W.Frag} {H : Hp} {ts : List Addr} {es : List EvD} {t : Addr} {e : EvD} (h : EvsAt K H ts es) (r : SqT K H t e.vals) : EvsAt K H (ts ++ [t]) (es ++ [e]) := Each.snoc h r
/-- a row of the table: the event, its point, its moment -/
def tabE (D : DayD) (rs : List (List Int)) (e : EvD) : PyData := .tuple [e.dat, .int (ptEv D.its D.ah e), .int (momEv D rs e)]
theorem tab_dat {K : PySem.W.Frag} {X : List Addr} {H : Hp} {t u : Addr} {D : DayD} {rs : List (List Int)} {e : EvD} {a b : Int} (h : SqT K H t [.ref u, .int a, .int b]) (hu : SqT K H u e.vals) (e1 : a = ptEv D.its D.ah e) (e2 : b = momEv D rs e) : Dat K X H (.ref t) (tabE D rs e) := by
  subst e1 e2
  have a : DatA K X H [.ref u, .int (ptEv D.its D.ah e), .int (momEv D rs e)] [e.dat, .int (ptEv D.its D.ah e), .int (momEv D rs e)] := .cons (ev_dat hu) (.cons (.int _) (.cons (.int _) .nil))
  exact .tup h a.len a.all
theorem tab_of {K : PySem.W.Frag} {X : List Addr} {H : Hp} {v : V} {D : DayD} {rs : List (List Int)} {e : EvD} (h : Dat K X H v (tabE D rs e)) : ∃ t u, v = .ref t ∧ SqT K H t [.ref u, .int (ptEv D.its D.ah e), .int (momEv D rs e)] ∧ SqT K H u e.vals := by
  obtain ⟨t, xs, rfl, hs, a⟩ := Dat.tuple h
  obtain ⟨x0, x1, x2, rfl⟩ := len3 a.len
  obtain ⟨u, rfl, hu⟩ := ev_of (a.all 0 _ _ rfl rfl)
  have e1 := (a.all 1 _ _ rfl rfl).int_
  have e2 := (a.all 2 _ _ rfl rfl).int_
  subst e1 e2
  exact ⟨t, u, rfl, hs, hu⟩
def tableD (D : DayD) (rs : List (List Int)) : PyData := .list ((evsOf D.its).map (tabE D rs))
section
variable {D : DayD} {rs : List (List Int)} {it : Itm} {k : Nat}
theorem pt_two {w : Str} (nd : (D.its.map Itm.nm).Nodup) (h : D.its[k]? = some it) : ptEv D.its D.ah (.two w it.nm) = wordPt D.ah k w := by
  show wordPt D.ah (numI D.its it.nm) w = _
  rw [numI_at nd h]
theorem pt_three {w : Str} {i : Int} (nd : (D.its.map Itm.nm).Nodup) (h : D.its[k]? = some it) : ptEv D.its D.ah (.three w it.nm i) = wordPt D.ah k w := by
  show wordPt D.ah (numI D.its it.nm) w = _
  rw [numI_at nd h]
theorem mom_begin (nd : (D.its.map Itm.nm).Nodup) (h : D.its[k]? = some it) : momEv D rs (.two "begin" it.nm) = (moms D rs).getD (2 * (k : Int) + 1).toNat 0 := by
  unfold momEv ptEv
  dsimp only
  rw [numI_at nd h, wordPt_b (by decide) (by decide), if_neg (by decide), if_neg (by decide), Int.add_zero]
theorem mom_end (nd : (D.its.map Itm.nm).Nodup) (h : D.its[k]? = some it) : momEv D rs (.two "end" it.nm) = (moms D rs).getD (2 * (k : Int) + 2).toNat 0 := by
  unfold momEv ptEv
  dsimp only
  rw [numI_at nd h, wordPt_e (by decide) (by decide), if_neg (by decide), if_neg (by decide), Int.add_zero]
theorem mom_place {i : Int} (nd : (D.its.map Itm.nm).Nodup) (h : D.its[k]? = some it) : momEv D rs (.three "place" it.nm i) = (moms D rs).getD (2 * (k : Int) + 1).toNat 0 + i * unitI it := by
  unfold momEv ptEv
  dsimp only
  rw [numI_at nd h, wordPt_b (by decide) (by decide), findI_at nd h]; rfl
end
/-- what the law tells of an event -/
def outD (D : DayD) (rs : List (List Int)) (e : EvD) (way : Int) : PyData := if hasEv D.its e = true then .list [.int (if way = 0 then ptEv D.its D.ah e else momEv D rs e)] else .tuple [e.dat, .bool true, .bool true, .bool false, .bool false, .bool false]
theorem Itm.nm_len {i : Itm} (h : ItmOk i) : i.nm.length ≤ 12 := by exact (Itm.nm_ok h).short
theorem day_2 {K : PySem.W.Frag} {X : List Addr} {H : Hp} {v : V} {D : DayD} {Q : VK} (h : Dat K X H v D.dat) (q : ∀ lk, lk ∉ X → H lk = some (.lst (D.ks.map V.str)) → Q (.ref lk) H) : rIx K v (.int 2) H Q := ix_D (.inl h) (d := .list (D.ks.map PyData.str)) (j := 2) rfl (by decide) rfl fun u hu => by
  obtain ⟨a, xs, rfl, n, e, t⟩ := Dat.list hu
  obtain rfl := datA_strs t
  exact q a n e
theorem nin_S {K : PySem.W.Frag} {H : Hp} {a : Addr} {ss : List Str} {Q : VK} {z : Str} (hs : SqS K H a ss) (h : Q (.bl (!decide (z ∈ ss))) H) : rIn K true (.str z) (.ref a) H Q :=
  ⟨a, _, rfl, hs, rfl, flat_strs ss, by rw [if_pos rfl, in_strs]; exact h⟩
theorem bad_one {its : List Itm} {w : Str} (h : w ≠ "opens") : hasEv its (.one w) = false := decide_eq_false h
theorem bad_w3 {its : List Itm} {w z : Str} {i : Int} (h : w ≠ "place") : hasEv its (.three w z i) = false := by
  cases e : findI its z with
  | none => exact hasEv_3n e
  | some it => rw [hasEv_3 e, decide_eq_false h]; rfl
theorem bad_place {its : List Itm} {z : Str} {i : Int} {it : Itm} (e : findI its z = some it) (h : it.isPc = true ∨ i < 0 ∨ it.pl ≤ i) : hasEv its (.three "place" z i) = false := by
  rw [hasEv_3 e]
  rcases h with h | h | h
  · rw [h]; exact Bool.and_false _
  · rw [decide_eq_false (show ¬ 0 ≤ i by omega), Bool.false_and, Bool.and_false, Bool.and_false]
  · rw [decide_eq_false (show ¬ i < it.pl by omega), Bool.and_false, Bool.and_false, Bool.and_false]
theorem bad_w2 {its : List Itm} {w z : Str} {it : Itm} (e : findI its z = some it) (h : w ∉ pcW) : hasEv its (.two w z) = false := by
  cases p : it.isPc with
  | true => rw [hasEv_2p e p]; exact decide_eq_false h
  | false => rw [hasEv_2b e p]; exact decide_eq_false fun m => h (by rcases mem2.mp m with rfl | rfl <;> decide)
theorem bad_b2 {its : List Itm} {w z : Str} {it : Itm} (e : findI its z = some it) (p : it.isPc = false) (h : w ∉ brW) : hasEv its (.two w z) = false := by rw [hasEv_2b e p]; exact decide_eq_false h
/-- a list of tuples that are no events -/
structure BadS (K : PySem.W.Frag) (D : DayD) (p l : Addr) (H0 H : Hp) (n : Nat) : Prop where
  ex : ∃ (ts : List Addr) (es : List EvD), Drawn p H0 H ∧ H l = some (.lst (ts.map V.ref)) ∧ EvsAt K H ts es ∧ (∀ e ∈ es, hasEv D.its e = false) ∧ ts.length ≤ n
section
variable {K : PySem.W.Frag} {D : DayD} {p l t : Addr} {H0 H H' : Hp} {n m : Nat} {e : EvD} {Q : VK}
theorem BadS.at_ (h : BadS K D p l H0 H n) : ∃ xs, H l = some (.lst xs) := let ⟨ts, _, _, e, _⟩ := h.ex; ⟨_, e⟩
theorem BadS.dr (h : BadS K D p l H0 H n) : Drawn p H0 H := let ⟨_, _, d, _⟩ := h.ex; d
theorem BadS.same (h : BadS K D p l H0 H n) (s : Same H H') : BadS K D p l H0 H' n := let ⟨ts, es, d, e, a, b, c⟩ := h.ex; ⟨ts, es, d.same s, s _ _ e, a.keeps (X := []) (.same s), b, c⟩
theorem BadS.drawn (h : BadS K D p l H0 H n) (lp : l ≠ p) (d2 : Drawn p H H') : BadS K D p l H0 H' n := let ⟨ts, es, d, e, a, b, c⟩ := h.ex; ⟨ts, es, d.trans d2, d2.lst lp e, a.keeps (X := [p]) (.drawn (by simp) d2), b, c⟩
theorem BadS.mono (h : BadS K D p l H0 H n) (q : n ≤ m) : BadS K D p l H0 H m := let ⟨ts, es, d, e, a, b, c⟩ := h.ex; ⟨ts, es, d, e, a, b, Nat.le_trans c q⟩
theorem w_appB (h : BadS K D p l H0 H n) (hl : H0 l = none) (hn : n ≤ 100000) (ht : SqT K H t e.vals) (he : hasEv D.its e = false) (q : ∀ H', Keeps [l] H H' → BadS K D p l H0 H' (n + 1) → Q .non H') : rAppend (.ref l) [.ref t] H Q := by
  obtain ⟨ts, es, d, x, a, b, c⟩ := h.ex
  refine w_app x (by rw [List.length_map, sizeLine_eq]; omega) ?_
  have kl : Keeps [l] H (upd H l (.lst (ts.map V.ref ++ [.ref t]))) := .put (by simp) x
  refine q _ kl ⟨ts ++ [t], es ++ [e], d.keeps hl kl, by rw [upd_same, List.map_append]; rfl, EvsAt.keeps (X := [l]) (Each.snoc a ht) kl, fun e' m => ?_, by rw [List.length_append]; show ts.length + 1 ≤ _; omega⟩
  rcases List.mem_append.mp m with m | m
  · exact b e' m
  · rw [List.mem_singleton.mp m]; exact he
theorem BadS.new (hp : Drawn p H0 H) {ts : List Addr} {es : List EvD} (e : H l = some (.lst (ts.map V.ref))) (a : EvsAt K H ts es) (b : ∀ e ∈ es, hasEv D.its e = false) (c : ts.length ≤ n) : BadS K D p l H0 H n := ⟨ts, es, hp, e, a, b, c⟩
end
theorem nar_ev (e : EvD) (n : Nat) : Nar (n + 2) e.dat := by
  cases e with
  | one w =>
    refine nar_tup (show 1 ≤ 1000000 by decide) fun d m => ?_
    simp only [EvD.row, List.mem_cons, List.not_mem_nil, or_false] at m
    rcases m with rfl; exact trivial
  | two w z =>
    refine nar_tup (show 2 ≤ 1000000 by decide) fun d m => ?_
    simp only [EvD.row, List.mem_cons, List.not_mem_nil, or_false] at m
    rcases m with rfl | rfl <;> exact trivial
  | three w z i =>
    refine nar_tup (show 3 ≤ 1000000 by decide) fun d m => ?_
    simp only [EvD.row, List.mem_cons, List.not_mem_nil, or_false] at m
    rcases m with rfl | rfl | rfl <;> exact trivial
theorem nar_evs {es : List EvD} {n : Nat} (h : es.length ≤ 1000000) : Nar (n + 3) (.list (es.map EvD.dat)) := nar_list (by rw [List.length_map]; exact h) fun d m => by
  obtain ⟨e, _, rfl⟩ := List.mem_map.mp m
  exact nar_ev e n
theorem nar_out {D : DayD} {rs : List (List Int)} {e : EvD} {way : Int} {n : Nat} : Nar (n + 3) (outD D rs e way) := by
  unfold outD
  split
  · refine nar_list (show 1 ≤ 1000000 by decide) fun d m => ?_
    simp only [List.mem_cons, List.not_mem_nil, or_false] at m
    rcases m with rfl; exact trivial
  · refine nar_tup (show 6 ≤ 1000000 by decide) fun d m => ?_
    simp only [List.mem_cons, List.not_mem_nil, or_false] at m
    rcases m with rfl | rfl | rfl | rfl | rfl | rfl
    · exact nar_ev e n
    all_goals exact trivial
end Rd
/-! DicC: dict comprehensions over a tuple and over d.items(), dict(d), things that are locked while they are read. -/
namespace Rd
open PySem PySem.Spec PyProof.Rows L2
def DcH (G : Hp → Hp → Prop) (H : Hp) (D : Addr) (R : Nat → List (Key × V) → Hp → Prop) (i : Nat) (H' : Hp) : Prop := ∃ kvs, H' D = some (.dK kvs) ∧ G H H' ∧ R i kvs H'
def kDcv (G : Hp → Hp → Prop) (H : Hp) (D : Addr) (R : Nat → List (Key × V) → Hp → Prop) (i : Nat) (y : V) : VK := fun z H5 => ∃ kvs k, y = kV k ∧ H5 D = some (.dK kvs) ∧ kvs.length < sizeLine ∧ DcH G H D R (i + 1) (upd H5 D (.dK (putK kvs k z)))
def kDck (tv : TE) (σ : L2.St) (G : Hp → Hp → Prop) (H : Hp) (D : Addr) (R : Nat → List (Key × V) → Hp → Prop) (i : Nat) : VK := fun y H4 => tv σ H4 (kDcv G H D R i y)
abbrev DcStep (G : Hp → Hp → Prop) (H : Hp) (D : Addr) (R : Nat → List (Key × V) → Hp → Prop) (g : TG) (tt : TT) (tk tv : TE) (vs : List Nat) (σ : L2.St) (i : Nat) (x : V) (H1 : Hp) : Prop :=
  g x (wipe σ vs) H1 fun σ2 H2 => wipe σ2 vs = wipe σ vs ∧ tt σ2 H2 fun b H3 => if b = true then tk σ2 H3 (kDck tv σ2 G H D R i) else DcH G H D R (i + 1) H3
def kDcT (K : PySem.W.Frag) (g : TG) (tt : TT) (tk tv : TE) (vs : List Nat) (σ : L2.St) (Q : VK) : VK := fun x H => tDc (iTup K (tC x)) g tt tk tv vs σ H Q
def kDcI (g : TG) (tt : TT) (tk tv : TE) (vs : List Nat) (σ : L2.St) (Q : VK) : VK := fun x H => tDc (iItems (tC x)) g tt tk tv vs σ H Q
section
variable {K : PySem.W.Frag} {g : TG} {tt : TT} {tk tv te : TE} {vs : List Nat} {σ : L2.St} {H : Hp} {Q : VK} {G : Hp → Hp → Prop} {D : Addr} {R : Nat → List (Key × V) → Hp → Prop} {i : Nat} {y z : V}
theorem w_dcT (h : te σ H (kDcT K g tt tk tv vs σ Q)) : tDc (iTup K te) g tt tk tv vs σ H Q := h
theorem w_dcI (h : te σ H (kDcI g tt tk tv vs σ Q)) : tDc (iItems te) g tt tk tv vs σ H Q := h
theorem w_kdck {H0 : Hp} (h : tv σ H (kDcv G H0 D R i y)) : kDck tv σ G H0 D R i y H := h
/-- an entry is there -/
theorem dc_done {H0 : Hp} {kvs : List (Key × V)} {s : Str} (gs : GoesOn G H0) (hD : H0 D = none) (e : H D = some (.dK kvs)) (hl : kvs.length ≤ 1000000) (go : G H0 H) (r : R (i + 1) (putK kvs (.inr s) z) (upd H D (.dK (putK kvs (.inr s) z)))) : kDcv G H0 D R i (.str s) z H :=
  ⟨kvs, .inr s, rfl, e, by rw [sizeLine_eq]; omega, _, upd_same, gs.put go hD, r⟩
theorem dcl_T {p : Addr} {xs : List V} (gs : GoesOn G H) (hp : SqT K H p xs) (hx : ∀ H', G H H' → SqT K H' p xs) (R : Nat → List (Key × V) → Hp → Prop) (r0 : ∀ H', G H H' → R 0 [] H')
    (step : ∀ (D : Addr) (i : Nat) (x : V) (kvs : List (Key × V)) (H1 : Hp), H D = none → xs[i]? = some x → R i kvs H1 → G H H1 → H1 D = some (.dK kvs) → DcStep G H D R g tt tk tv vs σ i x H1)
    (done : ∀ (l : Addr) (kvs : List (Key × V)) (H' : Hp), H l = none → G H H' → H' l = some (.dK kvs) → R xs.length kvs H' → Q (.ref l) H') : kDcT K g tt tk tv vs σ Q (.ref p) H := by
  refine ⟨p, rfl, ⟨_, hp⟩, fun D hD => dc_tup (xs := xs) (Qd := fun H => Q (.ref D) H) (DcH G H D R) ⟨[], upd_same, gs.put gs.refl hD, r0 _ (gs.put gs.refl hD)⟩ ?_ ?_ ?_⟩
  · rintro i H' _ ⟨kvs, _, s, _⟩
    exact hx H' s
  · rintro i x H' hi ⟨kvs, ha, s, r⟩
    exact step D i x kvs H' hD hi r s ha
  · rintro H' ⟨kvs, ha, s, r⟩
    exact done D kvs H' hD s ha r
theorem dc_items {d : Addr} {o : Obj} {kvs : List (Key × V)} {H1 : Hp} {Qd : Hp → Prop} (Pv : Nat → Hp → Prop) (h0 : Pv 0 (upd H1 D (.dK []))) (hl : ∀ i H, Pv i H → H d = some (.frz o (.dK kvs)))
    (hs : ∀ i k v T H, kvs[i]? = some (k, v) → Pv i H → H T = none → g (.ref T) (wipe σ vs) (upd H T (.tup [kV k, v])) fun σ2 H2 => wipe σ2 vs = wipe σ vs ∧ tt σ2 H2 fun b H3 =>
      if b = true then tk σ2 H3 fun y H4 => tv σ2 H4 fun z H5 => ∃ kvs k, y = kV k ∧ H5 D = some (.dK kvs) ∧ kvs.length < sizeLine ∧ Pv (i + 1) (upd H5 D (.dK (putK kvs k z))) else Pv (i + 1) H3) (hd : ∀ H, Pv kvs.length H → Qd H) :
    ∃ W : Nat → Nat → Hp → Prop, (∃ m, W 0 m (upd H1 D (.dK []))) ∧ ∀ i m H, W i m H →
      ((Iti d o kvs).stop i H ∧ Qd H) ∨ ((Iti d o kvs).go i H ∧ ∃ Nx : Hp → Prop, (∀ H', Nx H' → ∃ m', m' < m ∧ W (i + 1) m' H') ∧ ∀ x H', (Iti d o kvs).yld i H x H' → g x (wipe σ vs) H' fun σ2 H2 => wipe σ2 vs = wipe σ vs ∧ tt σ2 H2 fun b H3 =>
        if b = true then tk σ2 H3 fun y H4 => tv σ2 H4 fun z H5 => ∃ kvs k, y = kV k ∧ H5 D = some (.dK kvs) ∧ kvs.length < sizeLine ∧ Nx (upd H5 D (.dK (putK kvs k z))) else Nx H3) := by
  refine ⟨fun i m H => m = kvs.length - i ∧ i ≤ kvs.length ∧ Pv i H, ⟨kvs.length, by simp, Nat.zero_le _, h0⟩, ?_⟩
  rintro i m H ⟨rfl, hi, p⟩
  have q := hl i H p
  by_cases hlt : i < kvs.length
  · refine .inr ⟨⟨q, hlt⟩, Pv (i + 1), fun H' p' => ⟨kvs.length - (i + 1), by omega, rfl, hlt, p'⟩, fun x H' y => ?_⟩
    obtain ⟨T, k, v, e, rfl, hT, rfl⟩ := y
    exact hs i k v T H e p hT
  · have e : i = kvs.length := by omega
    subst e
    exact .inl ⟨⟨q, Nat.le_refl _⟩, hd H p⟩
theorem dcl_I {d : Addr} {o : Obj} {ks : List (Key × V)} (hd : H d = some (.frz o (.dK ks))) (R : Nat → List (Key × V) → Hp → Prop) (r0 : ∀ H', Same H H' → R 0 [] H')
    (step : ∀ (D : Addr) (i : Nat) (k : Key) (v : V) (T : Addr) (kvs : List (Key × V)) (H1 H2 : Hp), H D = none → ks[i]? = some (k, v) → R i kvs H1 → Same H H1 → H1 D = some (.dK kvs) → Same H1 H2 → SqT K H2 T [kV k, v] → H1 T = none → DcStep Same H D R g tt tk tv vs σ i (.ref T) H2)
    (done : ∀ (l : Addr) (kvs : List (Key × V)) (H' : Hp), H l = none → Same H H' → H' l = some (.dK kvs) → R ks.length kvs H' → Q (.ref l) H') : kDcI g tt tk tv vs σ Q (.ref d) H := by
  have gs := goes_same H
  refine ⟨d, o, ks, rfl, hd, fun D hD => dc_items (Qd := fun H => Q (.ref D) H) (DcH Same H D R) ⟨[], upd_same, gs.put gs.refl hD, r0 _ (gs.put gs.refl hD)⟩ ?_ ?_ ?_⟩
  · rintro i H' ⟨kvs, _, s, _⟩
    exact s _ _ hd
  · rintro i k v T H' hi ⟨kvs, ha, s, r⟩ hT
    exact step D i k v T kvs H' _ hD hi r s ha (same_new hT) (SqT.of upd_same) hT
  · rintro H' ⟨kvs, ha, s, r⟩
    exact done D kvs H' hD s ha r
/-- what is locked is let go again -/
def kLk (d : Addr) (od : Obj) (u : HO) (Q : VK) : VK := fun v H' => H' d = some (.frz od u) ∧ Q v (upd H' d u)
theorem w_lockE {t : TE} {d : Addr} {kvs : List (Key × V)} (e : H d = some (.dK kvs)) (h : ∀ od, t σ (upd H d (.frz od (.dK kvs))) (kLk d od (.dK kvs) Q)) : tLockE t σ H Q := ⟨d, .dK kvs, e, trivial, h⟩
/-- the ends of a statement that runs under a lock -/
abbrev lockD (d : Addr) (od : Obj) (u : HO) (D : Ends) : Ends := ⟨fun σ' H' => H' d = some (.frz od u) ∧ D.nx σ' (upd H' d u), fun v H' => H' d = some (.frz od u) ∧ D.rt v (upd H' d u), fun σ' H' => H' d = some (.frz od u) ∧ D.bk σ' (upd H' d u), fun σ' H' => H' d = some (.frz od u) ∧ D.ct σ' (upd H' d u)⟩
theorem w_lockS {t : TS} {D : Ends} {d : Addr} {kvs : List (Key × V)} (e : H d = some (.dK kvs)) (h : ∀ od, t (lockD d od (.dK kvs) D) σ (upd H d (.frz od (.dK kvs)))) : tLock t D σ H := ⟨d, .dK kvs, e, trivial, h⟩
theorem same_lock {d : Addr} {od : Obj} {u : HO} {H' : Hp} (e : H d = some u) (s : Same (upd H d (.frz od u)) H') : Same H (upd H' d u) := fun b o hb => by
  by_cases q : b = d
  · subst q; rw [e] at hb; cases hb; exact upd_same
  · rw [upd_ne q]; exact s b o (by rw [upd_ne q]; exact hb)
/-- dict(d) -/
def rDictD : List V → Hp → VK → Prop := fun xs H Q => ∃ (a : Addr) (kvs : List (Key × V)), xs = [.ref a] ∧ L2.Rd H a (.dK kvs) ∧ ∀ p, H p = none → Q (.ref p) (upd H p (.dK kvs))
theorem cDictD {X : Cx} : CallR X (.type "dict") rDictD := call_dictD
theorem w_dictD {a : Addr} {kvs : List (Key × V)} (e : H a = some (.dK kvs)) (h : ∀ (p : Addr) (H' : Hp), H p = none → Same H H' → H' p = some (.dK kvs) → Q (.ref p) H') : rDictD [.ref a] H Q := ⟨a, kvs, rfl, .inl e, fun p hp => h p _ hp (same_new hp) upd_same⟩
end
/-! x = {k: v for ..}: the name is stored while the comprehension's frame stands -/
section
variable {X : Cx} {pins : List (Addr × Obj)} {σ : L2.St} {D : Ends} {i : Nat} {y : Str} {py : Pos}
theorem named_post {H' : Hp} {s' : Shared} {m : Str → Option Value} {a C : Addr} (hN : X.N.Nodup) (hy : X.N[i]? = some y) (hyl : X.env.scope.names.lookup y = some .local) (I : L2.Inv X pins σ H' s') (hn : s'.heap.Ns C m) (f : FpOk X pins H' C) (q : D.nx (σ.set i (some (.ref a))) H') :
    compPost (model X.prog X.w) X.A X.xe (some (assign (.Name y py) X.env)) (fun _ s2 => SP X pins D .next s2) (.ref a) C (.ok .next) s' := by
  obtain ⟨f0, f1, f2, f3, f4, f5⟩ := f
  refine wpAny_assign_Name (store_ok2 (v := V.ref a) I hN hy (.inl hyl) rfl (fun s2 J w => ?_) (.inr hyl))
  obtain ⟨b, sb, hb⟩ := w
  refine ⟨m, hn.sameBut sb (hb.elim (fun z => by rw [z]; exact f1) fun z e => f4 y b z e.symm), fun h3 s3 => ⟨_, H', ?_, q⟩⟩
  exact J.turned (t' := s2.toks) (fun c o hc e => (s3.2 c hc).trans e) f0 f1 f3 f4 f5
theorem sw_dict {kx vx : Expr} {gs : List Comprehension} {scope : Scope} {pos : Pos} {l : Nat} {env : Env} (hk : env.scope.kind = .function) (hy : env.scope.names.lookup y = some .local) (hl : (py.line == pos.line) = true)
    (ha : (scope.names.any fun (n, k) => n == y && (k == .local || k == .cell)) = false) : swapsWith (.DictComp kx vx gs scope pos) (some (.Name y py)) l env = pure true := by
  unfold swapsWith
  simp only [show env.blockKind = .function from by unfold Env.blockKind; rw [hk]; rfl, show env.kindOf y = some .local from hy, ha, Expr.pos, hl]
  rfl
theorem ps_setDc {kx vx tg iter : Expr} {ifs : List Expr} {scope : Scope} {own : List (Str × Nat)} {pos spos : Pos} {wi : TI} {g : TG} {tt : TT} {tk tv : TE} (hc : X.calm = true) (hN : X.N.Nodup) (hy : X.N[i]? = some y) (hyl : X.env.scope.names.lookup y = some .local)
    (hsw : swapsWith (.DictComp kx vx [⟨tg, iter, ifs, 0⟩] scope pos) (some (.Name y py)) spos.line X.env = pure true) (hi : PI X tg iter wi) (ok : BlkOk X.N X.env.scope scope own)
    (hg : ∀ (s : Shared) (H : Hp) (C : Addr) (cl : List (Str × Addr)) (fp : List Addr), PG (X.blk s H scope (compEnvC scope cl C X.env) fp) tg g) (ht : ∀ (s : Shared) (H : Hp) (C : Addr) (cl : List (Str × Addr)) (fp : List Addr), PTs (X.blk s H scope (compEnvC scope cl C X.env) fp) ifs tt)
    (hk : ∀ (s : Shared) (H : Hp) (C : Addr) (cl : List (Str × Addr)) (fp : List Addr), PE (X.blk s H scope (compEnvC scope cl C X.env) fp) kx tk)
    (he : ∀ (s : Shared) (H : Hp) (C : Addr) (cl : List (Str × Addr)) (fp : List Addr), PE (X.blk s H scope (compEnvC scope cl C X.env) fp) vx tv) (hs : ∀ x, foldedSetIterable iter X.env x = pure x := by intro _; rfl) :
    PS X (.Assign [.Name y py] (.DictComp kx vx [⟨tg, iter, ifs, 0⟩] scope pos) spos) (tAsg (tDc wi g tt tk tv (own.map (·.2))) (gName i)) where
  run pins s σ H D I h := by
    rw [exec_Assign_Name_used _ _ _ _ hsw]
    have core := dc_core (Qf := fun _ s2 => SP X pins D .next s2) (Q := fun x H1 => D.nx (σ.set i (some x)) H1) (use := some (assign (.Name y py) X.env)) (kx := kx) (vx := vx) (scope := scope) (pos := pos) (pos' := firstIterPos [⟨tg, iter, ifs, 0⟩] pos) hc hN I hi ok hg ht hk he hs h
      fun D C s' m H' J q hn f => named_post hN hy hyl J hn f q
    exact wpAny_bind (wpAny_standAt (wpAny_bind (wpAny_bind (thn core fun _ s2 hq => wpAny_pure (wpAny_pure hq)))))
end
end Rd
/-! OutM: dicts from texts to things, outlooks as they stand. -/
namespace Rd
open PySem PySem.Spec PyProof.Rows L2 NameM
/-- names and what stands under them -/
def refK (zs : List Str) (as : List Addr) : List (Key × V) := (List.zip zs as).map fun q => (.inr q.1, .ref q.2)
theorem refK_len {zs : List Str} {as : List Addr} (h : zs.length = as.length) : (refK zs as).length = zs.length := by
  rw [refK, List.length_map, List.length_zip, h, Nat.min_self]
theorem refK_none {z : Str} : ∀ {zs : List Str} {as : List Addr}, z ∉ zs → valV (refK zs as) (.inr z) = none
  | [], _, _ => rfl
  | _ :: _, [], _ => rfl
  | a :: r, b :: s, h => by
    have ne : ¬ (Sum.inr a : Key) = .inr z := fun e => h (by cases e; exact List.mem_cons_self)
    show valV ((.inr a, .ref b) :: refK r s) (.inr z) = none
    rw [valV_neg ne]
    exact refK_none fun m => h (List.mem_cons_of_mem _ m)
theorem refK_at {z : Str} {d : Addr} : ∀ {zs : List Str} {as : List Addr} {i : Nat}, zs.Nodup → zs[i]? = some z → as[i]? = some d → valV (refK zs as) (.inr z) = some (.ref d)
  | [], _, _, _, h, _ => nomatch h
  | _ :: _, [], _, _, _, h => nomatch h
  | a :: r, b :: s, 0, _, h1, h2 => by
    cases h1; cases h2
    exact valV_pos rfl
  | a :: r, b :: s, i + 1, nd, h1, h2 => by
    have h1 : r[i]? = some z := h1
    have h2 : s[i]? = some d := h2
    have ne : ¬ (Sum.inr a : Key) = .inr z := fun e => by
      cases e
      exact (List.nodup_cons.mp nd).1 (List.mem_of_getElem? h1)
    show valV ((.inr a, .ref b) :: refK r s) (.inr z) = _
    rw [valV_neg ne]
    exact refK_at (List.nodup_cons.mp nd).2 h1 h2
theorem refK_snoc {zs : List Str} {as : List Addr} {z : Str} {d : Addr} (h : zs.length = as.length) : refK (zs ++ [z]) (as ++ [d]) = refK zs as ++ [(.inr z, .ref d)] := by
  unfold refK
  rw [List.zip_append h, List.map_append]; rfl
theorem refK_put {zs : List Str} {as : List Addr} {z : Str} {d : Addr} (h : zs.length = as.length) (n : z ∉ zs) : putK (refK zs as) (.inr z) (.ref d) = refK (zs ++ [z]) (as ++ [d]) := by
  rw [putK_new _ (refK_none n), refK_snoc h]
theorem refK_snd : ∀ {zs : List Str} {as : List Addr}, as.length ≤ zs.length → (refK zs as).map Prod.snd = as.map V.ref
  | _, [], _ => by unfold refK; rw [List.zip_nil_right]; rfl
  | a :: r, b :: s, h => congrArg (V.ref b :: ·) (refK_snd (zs := r) (as := s) (Nat.le_of_succ_le_succ h))
  | [], _ :: _, h => nomatch h
theorem refK_any {z : Str} {zs : List Str} {as : List Addr} {i : Nat} {d : Addr} (nd : zs.Nodup) (h1 : zs[i]? = some z) (h2 : as[i]? = some d) : ((refK zs as).any fun kv => decide (kv.1 = .inr z)) = true := by
  refine List.any_eq_true.mpr ⟨(.inr z, .ref d), ?_, decide_eq_true rfl⟩
  refine List.mem_of_getElem? (i := i) ?_
  unfold refK
  rw [List.getElem?_map, show (zs.zip as)[i]? = some (z, d) from by simp [List.getElem?_zip_eq_some, h1, h2]]; rfl
/-- a thing under a name is exchanged -/
theorem refK_set {z : Str} {d d' : Addr} : ∀ {zs : List Str} {as : List Addr} {i : Nat}, zs.Nodup → zs[i]? = some z → as[i]? = some d → putK (refK zs as) (.inr z) (.ref d') = refK zs (as.set i d') := by
  intro zs as i nd h1 h2
  unfold putK
  rw [if_pos (refK_any nd h1 h2)]
  have go : ∀ (zs : List Str) (as : List Addr) (i : Nat), zs.Nodup → zs[i]? = some z → as[i]? = some d → (refK zs as).map (fun kv => if kv.1 = .inr z then (kv.1, V.ref d') else kv) = refK zs (as.set i d') := by
    intro zs
    induction zs with
    | nil => intro as i _ h; cases h
    | cons a r ih =>
      intro as i nd h1 h2
      match as, i, h2 with
      | b :: s, 0, h2 =>
        cases h1
        show (if (Sum.inr z : Key) = .inr z then (Sum.inr z, V.ref d') else _) :: (refK r s).map _ = (.inr z, .ref d') :: refK r s
        rw [if_pos rfl]
        refine congrArg ((Sum.inr z, V.ref d') :: ·) ?_
        have na := (List.nodup_cons.mp nd).1
        refine (List.map_congr_left fun kv m => ?_).trans (List.map_id _)
        obtain ⟨q, hq, rfl⟩ := List.mem_map.mp m
        have : q.1 ∈ r := (List.of_mem_zip (a := q.1) (b := q.2) hq).1
        exact if_neg fun e => na (by cases e; exact this)
      | b :: s, i + 1, h2 =>
        have h1 : r[i]? = some z := h1
        have h2 : s[i]? = some d := h2
        have ne : ¬ (Sum.inr a : Key) = .inr z := fun e => by
          cases e
          exact (List.nodup_cons.mp nd).1 (List.mem_of_getElem? h1)
        show (if (Sum.inr a : Key) = .inr z then (Sum.inr a, V.ref d') else (Sum.inr a, V.ref b)) :: (refK r s).map _ = (.inr a, .ref b) :: refK r (s.set i d')
        rw [if_neg ne]
        exact congrArg ((Sum.inr a, V.ref b) :: ·) (ih s i (List.nodup_cons.mp nd).2 h1 h2)
  exact go zs as i nd h1 h2
/-! ### outlooks -/
abbrev lagW : List Str := ["delay", "length", "walk", "pack"]
def outF (o sd : Addr) : List (Str × V) := putF "_spans" (.ref sd) (putF "order" (.ref o) [])
/-- the dicts of the lags of the items -/
def LagsAt (K : PySem.W.Frag) (H : Hp) : List Addr → List (List (Int × Int)) → Prop := Each fun d sp => ∃ sas : List Addr, H d = some (.dK (refK lagW sas)) ∧ SpanL K H sas sp ∧ sas.length ≤ 4
theorem LagsAt.keeps {K : PySem.W.Frag} {X : List Addr} {H H' : Hp} {ds : List Addr} {sps : List (List (Int × Int))} (h : LagsAt K H ds sps) (k : Keeps X H H') : LagsAt K H' ds sps := Each.mono h fun _ _ ⟨sas, e, q, l⟩ => ⟨sas, k _ _ e (.inr fun _ z => nomatch z), q.keeps k, l⟩
theorem LagsAt.keep {K : PySem.W.Frag} {H H' : Hp} {ds : List Addr} {sps : List (List (Int × Int))} (h : LagsAt K H ds sps) (s : Same H H') : LagsAt K H' ds sps := h.keeps (X := []) (.same s)
/-- the new dict grows: the dicts of the lags are others -/
theorem LagsAt.put {K : PySem.W.Frag} {H : Hp} {D : Addr} {zs : List Str} {ds : List Addr} {sps : List (List (Int × Int))} {o : HO} (h : LagsAt K H ds sps) (e : H D = some (.dK (refK zs ds))) (lz : ds.length ≤ zs.length) : LagsAt K (upd H D o) ds sps := by
  refine ⟨h.1, fun i d sp e1 e2 => ?_⟩
  obtain ⟨sas, ed, q, l4⟩ := h.2 i d sp e1 e2
  have ne : d ≠ D := fun z => by
    rw [z, e] at ed
    have w : refK zs ds = refK lagW sas := by injection ed with ed; injection ed
    have w1 := congrArg (List.map Prod.snd) w
    rw [refK_snd lz, refK_snd (show sas.length ≤ 4 from l4)] at w1
    have w2 : (ds.map V.ref)[i]? = some (.ref d) := by rw [List.getElem?_map, e1]; rfl
    rw [w1] at w2
    obtain ⟨a, ea, ra⟩ := at_map w2
    cases ra
    obtain ⟨s, _, dx, x⟩ := Each.atL q ea
    rw [z, e] at x
    cases x
  exact ⟨sas, by rw [upd_ne ne]; exact ed, Each.mono q fun a s hs => hs.putD e, l4⟩
theorem LagsAt.putI {K : PySem.W.Frag} {H : Hp} {x C dx : Addr} {fs : List (Str × V)} {ds : List Addr} {sps : List (List (Int × Int))} {o : HO} (h : LagsAt K H ds sps) (e : H x = some (.ins C dx fs)) (n : fs.length ≠ 2) : LagsAt K (upd H x o) ds sps := Each.mono h fun d sp ⟨sas, ed, q, l4⟩ => ⟨sas, by rw [upd_ne (fun z => by rw [z, e] at ed; cases ed)]; exact ed, Each.mono q fun a s ⟨dy, ha⟩ => ⟨dy, by
  rw [upd_ne (fun z => by
    rw [z, e] at ha
    have w : fs = spanF s.1 s.2 := by injection ha with ha; injection ha
    exact n (by rw [w]; rfl))]
  exact ha⟩, l4⟩
/-- the dict of dicts is none of them -/
theorem LagsAt.ne {K : PySem.W.Frag} {H : Hp} {D : Addr} {zs : List Str} {ds : List Addr} {sps : List (List (Int × Int))} (h : LagsAt K H ds sps) (e : H D = some (.dK (refK zs ds))) (lz : ds.length ≤ zs.length) {i : Nat} {d : Addr} (e1 : ds[i]? = some d) : d ≠ D := fun z => by
  obtain ⟨sp, e2, sas, ed, q, l4⟩ := Each.atL h e1
  rw [z, e] at ed
  have w : refK zs ds = refK lagW sas := by injection ed with ed; injection ed
  have w1 := congrArg (List.map Prod.snd) w
  rw [refK_snd lz, refK_snd (show sas.length ≤ 4 from l4)] at w1
  have w2 : (ds.map V.ref)[i]? = some (.ref d) := by rw [List.getElem?_map, e1]; rfl
  rw [w1] at w2
  obtain ⟨a, ea, ra⟩ := at_map w2
  cases ra
  obtain ⟨s, _, dx, x⟩ := Each.atL q ea
  rw [z, e] at x
  cases x
theorem LagsAt.putZ {K : PySem.W.Frag} {H : Hp} {x : Addr} {od : Obj} {u : HO} {ds : List Addr} {sps : List (List (Int × Int))} {o : HO} (h : LagsAt K H ds sps) (e : H x = some (.frz od u)) : LagsAt K (upd H x o) ds sps := Each.mono h fun d sp ⟨sas, ed, q, l4⟩ => ⟨sas, by rw [upd_ne (fun z => by rw [z, e] at ed; cases ed)]; exact ed, Each.mono q fun a s ⟨dy, ha⟩ => ⟨dy, by
  rw [upd_ne (fun z => by rw [z, e] at ha; cases ha)]
  exact ha⟩, l4⟩
theorem Each.set {α β : Type} {R : α → β → Prop} {as : List α} {bs : List β} {a : α} {b : β} (h : Each R as bs) (i : Nat) (r : R a b) : Each R (as.set i a) (bs.set i b) := by
  refine ⟨by rw [List.length_set, List.length_set, h.1], fun k x y e1 e2 => ?_⟩
  rw [List.getElem?_set] at e1 e2
  by_cases c : i = k
  · rw [if_pos c] at e1 e2
    split at e1
    · cases e1
      split at e2
      · cases e2; exact r
      · cases e2
    · cases e1
  · rw [if_neg c] at e1 e2
    exact h.2 k x y e1 e2
/-- on the left alone -/
theorem Each.setL {α β : Type} {R : α → β → Prop} {as : List α} {bs : List β} {a : α} {b : β} (h : Each R as bs) {i : Nat} (eb : bs[i]? = some b) (r : R a b) : Each R (as.set i a) bs := by
  refine ⟨by rw [List.length_set, h.1], fun k x y e1 e2 => ?_⟩
  rw [List.getElem?_set] at e1
  by_cases c : i = k
  · subst c
    rw [if_pos rfl] at e1
    split at e1
    · cases e1
      rw [eb] at e2
      cases e2; exact r
    · cases e1
  · rw [if_neg c] at e1
    exact h.2 k x y e1 e2
/-- a lag has another span -/
theorem LagsAt.set {K : PySem.W.Frag} {H : Hp} {ds sas : List Addr} {sps : List (List (Int × Int))} {sp : List (Int × Int)} {s : Int × Int} {i j : Nat} {d a : Addr} (h : LagsAt K H ds sps) (nd : ds.Nodup) (hd : ds[i]? = some d) (hsp : sps[i]? = some sp) (ed : H d = some (.dK (refK lagW sas))) (q : SpanL K H sas sp) (l4 : sas.length ≤ 4) (hs : IsSpan K H a s.1 s.2) :
    LagsAt K (upd H d (.dK (refK lagW (sas.set j a)))) ds (sps.set i (sp.set j s)) := by
  have hb : ∀ {x : Addr} {l u : Int}, IsSpan K H x l u → IsSpan K (upd H d (.dK (refK lagW (sas.set j a)))) x l u := fun h => h.putD ed
  refine ⟨by rw [List.length_set, h.1], fun k x y e1 e2 => ?_⟩
  rw [List.getElem?_set] at e2
  by_cases c : i = k
  · subst c
    rw [if_pos rfl] at e2
    split at e2
    · cases e2
      rw [hd] at e1
      cases e1
      exact ⟨sas.set j a, upd_same, Each.set (Each.mono q fun _ _ z => hb z) j (hb hs), by rw [List.length_set]; exact l4⟩
    · cases e2
  · rw [if_neg c] at e2
    obtain ⟨ss, ex, q2, l2⟩ := h.2 k x y e1 e2
    have hk : k < ds.length := (List.getElem?_eq_some_iff.mp e1).1
    have ne : x ≠ d := fun z => c ((List.getElem?_inj (List.getElem?_eq_some_iff.mp hd).1 nd).mp (by rw [hd, e1, z]))
    exact ⟨ss, by rw [upd_ne ne]; exact ex, Each.mono q2 fun _ _ z => hb z, l2⟩
/-- the outlook y of the order of D, with these spans -/
structure OutD (K : PySem.W.Frag) (H : Hp) (y : Addr) (D : DayD) (sps : List (List (Int × Int))) : Prop where
  ex : ∃ (o dx sd : Addr) (ds : List Addr), H y = some (.ins (He.ga K "Outlook") dx (outF o sd)) ∧ OrdD K H o D ∧ H sd = some (.dK (refK (D.its.map Itm.nm) ds)) ∧ LagsAt K H ds sps
  len : Each (fun sp it => sp.length = (lim D it).length) sps D.its
theorem OutD.keeps {K : PySem.W.Frag} {X : List Addr} {H H' : Hp} {y : Addr} {D : DayD} {sps : List (List (Int × Int))} (h : OutD K H y D sps) (k : Keeps X H H') : OutD K H' y D sps :=
  ⟨let ⟨o, dx, sd, ds, e, q, d, l⟩ := h.ex; ⟨o, dx, sd, ds, k.ins e, q.keeps k, k _ _ d (.inr fun _ z => nomatch z), l.keeps k⟩, h.len⟩
theorem OutD.keep {K : PySem.W.Frag} {H H' : Hp} {y : Addr} {D : DayD} {sps : List (List (Int × Int))} (h : OutD K H y D sps) (s : Same H H') : OutD K H' y D sps := h.keeps (X := []) (.same s)
theorem lenO_set {D : DayD} {sps : List (List (Int × Int))} {i j : Nat} {sp : List (Int × Int)} {s : Int × Int} (h : Each (fun (sp : List (Int × Int)) it => sp.length = (lim D it).length) sps D.its) (hsp : sps[i]? = some sp) : Each (fun (sp : List (Int × Int)) it => sp.length = (lim D it).length) (sps.set i (sp.set j s)) D.its := by
  obtain ⟨it, hit, q⟩ := Each.atL h hsp
  exact h.setL hit (by rw [List.length_set]; exact q)
/-- spans within the full ones -/
def SubD (D : DayD) (sps : List (List (Int × Int))) : Prop := Each (fun (sp : List (Int × Int)) it => Each (fun (s f : Int × Int) => f.1 ≤ s.1 ∧ s.1 ≤ s.2 ∧ s.2 ≤ f.2) sp (lim D it)) sps D.its
theorem SubD.len {D : DayD} {sps : List (List (Int × Int))} (h : SubD D sps) : Each (fun (sp : List (Int × Int)) it => sp.length = (lim D it).length) sps D.its := Each.mono h fun _ _ q => q.1
theorem SubD.full {D : DayD} {k : Int} (ok : DayOk D k) : SubD D (D.its.map (lim D)) := ⟨by rw [List.length_map], fun i a b x y => by
  rw [List.getElem?_map, y] at x
  cases x
  exact ⟨rfl, fun j s f e1 e2 => by rw [e1] at e2; cases e2; exact ⟨Int.le_refl _, (lim_fit ok (List.mem_of_getElem? y) s (List.mem_of_getElem? e1)).1, Int.le_refl _⟩⟩⟩
theorem SubD.set {D : DayD} {sps : List (List (Int × Int))} {i j : Nat} {sp : List (Int × Int)} {s t : Int × Int} (h : SubD D sps) (hsp : sps[i]? = some sp) (hs : sp[j]? = some s) (t1 : s.1 ≤ t.1) (t2 : t.1 ≤ t.2) (t3 : t.2 ≤ s.2) : SubD D (sps.set i (sp.set j t)) := by
  obtain ⟨it, hit, q⟩ := Each.atL h hsp
  obtain ⟨f, hf, f1, f2, f3⟩ := Each.atL q hs
  exact Each.setL h hit (Each.setL q hf ⟨Int.le_trans f1 t1, t2, Int.le_trans t3 f3⟩)
theorem SubD.wide {D : DayD} {k : Int} {sps : List (List (Int × Int))} (ok : DayOk D k) (h : SubD D sps) : sps.length ≤ 20 ∧ ∀ s ∈ sps, s.length ≤ 20 ∧ ∀ q ∈ s, q.1 ≤ q.2 ∧ q.2 ≤ q.1 + 8 := by
  refine ⟨by rw [h.1]; have := ok.its.len; omega, fun sp m => ?_⟩
  obtain ⟨i, e⟩ := List.getElem?_of_mem m
  obtain ⟨it, hit, q⟩ := Each.atL h e
  refine ⟨by rw [q.1]; have := lim_len D it; omega, fun s ms => ?_⟩
  obtain ⟨j, ej⟩ := List.getElem?_of_mem ms
  obtain ⟨f, hf, f1, f2, f3⟩ := Each.atL q ej
  have := lim_fit ok (List.mem_of_getElem? hit) f (List.mem_of_getElem? hf)
  exact ⟨f2, by omega⟩
end Rd
/-! MutS: lists of lists of spans that a law changes. -/
namespace Rd
open PySem PySem.Spec PyProof.Rows L2 NameM
/-- the lists of spans at sl: each a list of its own, none in X -/
structure MSp (K : PySem.W.Frag) (X : List Addr) (H : Hp) (sl : Addr) (ls : List Addr) (sps : List (List (Int × Int))) : Prop where
  lst : H sl = some (.lst (ls.map V.ref))
  out : sl ∉ X
  ne : sl ∉ ls
  nd : ls.Nodup
  all : Each (fun l sp => l ∉ X ∧ ∃ xs, H l = some (.lst xs) ∧ DatA K X H xs (sp.map prD)) ls sps
section
variable {K : PySem.W.Frag} {X : List Addr} {H H' : Hp} {sl : Addr} {ls : List Addr} {sps : List (List (Int × Int))} {sp : List (Int × Int)} {s : Int × Int} {i j : Nat}
theorem MSp.dat (h : MSp K X H sl ls sps) : Dat K X H (.ref sl) (spansD sps) := by
  refine DatA.newL (xs := ls.map V.ref) ⟨by rw [List.length_map, List.length_map, h.all.1], fun k x d e1 e2 => ?_⟩ h.out h.lst
  obtain ⟨l, el, rfl⟩ := at_map e1
  obtain ⟨sp, es, rfl⟩ := at_dat e2
  obtain ⟨n, xs, e, a⟩ := h.all.2 k l sp el es
  exact a.newL n e
theorem MSp.keeps (h : MSp K X H sl ls sps) (k : Keeps X H H') : MSp K X H' sl ls sps := ⟨k.lst h.out h.lst, h.out, h.ne, h.nd, Each.mono h.all fun _ _ ⟨n, xs, e, a⟩ => ⟨n, xs, k.lst n e, a.keep k⟩⟩
theorem MSp.keep (h : MSp K X H sl ls sps) (s : Same H H') : MSp K X H' sl ls sps := h.keeps (.same s)
theorem MSp.at_ (h : MSp K X H sl ls sps) (e : sps[i]? = some sp) : ∃ l xs, ls[i]? = some l ∧ l ∉ X ∧ H l = some (.lst xs) ∧ DatA K X H xs (sp.map prD) := by
  obtain ⟨l, el, n, xs, e, a⟩ := Each.at_ h.all e
  exact ⟨l, xs, el, n, e, a⟩
/-- a span is exchanged -/
theorem MSp.set {l : Addr} {xs : List V} {v : V} (h : MSp K X H sl ls sps) (el : ls[i]? = some l) (e : sps[i]? = some sp) (ex : H l = some (.lst xs)) (d : Dat K X H v (prD s)) : MSp K X (upd H l (.lst (xs.set j v))) sl ls (sps.set i (sp.set j s)) := by
  obtain ⟨nl, ys, ey, da⟩ := h.all.2 i l sp el e
  rw [ex] at ey
  cases ey
  have nsl : sl ≠ l := fun z => h.ne (z ▸ List.mem_of_getElem? el)
  have st : ∀ {w : V} {q : Int × Int}, Dat K X H w (prD q) → Dat K X (upd H l (.lst (xs.set j v))) w (prD q) := fun {w q} x => by
    have k : Keeps [l] H (upd H l (.lst (xs.set j v))) := .put (by simp) ex
    obtain ⟨a, ws, rfl, sq, aa⟩ := Dat.tuple x
    have aa : DatA K X H ws ([q.1, q.2].map PyData.int) := aa
    have := datA_ints aa
    subst this
    exact pr_dat (k.sqT sq)
  have sa : ∀ {ws : List V} {qs : List (Int × Int)}, DatA K X H ws (qs.map prD) → DatA K X (upd H l (.lst (xs.set j v))) ws (qs.map prD) := fun x => ⟨x.len, fun k w dd e1 e2 => by
    obtain ⟨q, _, rfl⟩ := at_dat e2
    exact st (x.all k w _ e1 e2)⟩
  refine ⟨by rw [upd_ne nsl]; exact h.lst, h.out, h.ne, h.nd, ⟨by rw [List.length_set, h.all.1], fun k x y e1 e2 => ?_⟩⟩
  rw [List.getElem?_set] at e2
  by_cases c : i = k
  · subst c
    rw [if_pos rfl] at e2
    split at e2
    · cases e2
      rw [el] at e1
      cases e1
      refine ⟨nl, _, upd_same, ?_⟩
      rw [List.map_set]
      exact (sa da).set (st d)
    · cases e2
  · rw [if_neg c] at e2
    obtain ⟨n, ws, ew, aw⟩ := h.all.2 k x y e1 e2
    have ne : x ≠ l := fun z => c ((List.getElem?_inj (List.getElem?_eq_some_iff.mp el).1 h.nd).mp (by rw [el, e1, z]))
    exact ⟨n, ws, by rw [upd_ne ne]; exact ew, sa aw⟩
/-- spans[at] -/
theorem sps_at {v : V} {Q : VK} {k : Int} (h : Dat K X H v (spansD sps)) (e : sps[i]? = some sp) (hk : k = i) (q : ∀ u, Dat K X H u (spanD sp) → Q u H) : rIx K v (.int k) H Q :=
  ix_D (.inl h) (d := spanD sp) (j := i) (by rw [List.getElem?_map, e]; rfl) (by omega) (by omega) q
theorem sp_at {v : V} {Q : VK} {k : Int} (h : Dat K X H v (spanD sp)) (e : sp[j]? = some s) (hk : k = j) (q : ∀ t, SqT K H t [.int s.1, .int s.2] → Q (.ref t) H) : rIx K v (.int k) H Q :=
  ix_D (.inl h) (d := prD s) (j := j) (by rw [List.getElem?_map, e]; rfl) (by omega) (by omega) fun u hu => by
    obtain ⟨a, ws, rfl, sq, aa⟩ := Dat.tuple hu
    have aa : DatA K X H ws ([s.1, s.2].map PyData.int) := aa
    have := datA_ints aa
    subst this
    exact q a sq
theorem len_sps {v : V} {Q : VK} (h : Dat K X H v (spansD sps)) (q : Q (.int sps.length) H) : rLen K [v] H Q := len_D (.inl h) (by rw [List.length_map]; exact q)
theorem len_sp {v : V} {Q : VK} (h : Dat K X H v (spanD sp)) (q : Q (.int sp.length) H) : rLen K [v] H Q := len_D (.inl h) (by rw [List.length_map]; exact q)
end
end Rd
namespace Rd
open PySem PySem.Spec PyProof.Rows L2 NameM
section
variable {K : PySem.W.Frag} {X : List Addr} {H : Hp} {Q : VK}
/-- the pool stands when a list with a thing in it is changed -/
theorem PoolAt.putR {p l a : Addr} {xs : List V} {o : HO} (h : PoolAt H p) (e : H l = some (.lst xs)) (n : l ≠ p) (m : V.ref a ∈ xs) : PoolAt (upd H l o) p := by
  obtain ⟨c, q, ns, h1, h2, h3, h4⟩ := h
  have nc : c ≠ l := fun z => by
    rw [z, e] at h3
    have w : xs = ns.map V.int := by injection h3 with h3; injection h3
    rw [w] at m
    obtain ⟨i, _, q⟩ := List.mem_map.mp m
    cases q
  exact ⟨c, q, ns, by rw [upd_ne n.symm]; exact h1, h2, by rw [upd_ne nc]; exact h3, h4⟩
theorem n_catA {a b : Addr} {xs ys : List V} (h1 : SqT K H a xs) (h2 : SqT K H b ys) (hl : xs.length + ys.length ≤ sizeLine) (h : ∀ (l : Addr) (H' : Hp), Same H H' → SqT K H' l (xs ++ ys) → Q (.ref l) H') : rCatA K (.ref a) (.ref b) H Q :=
  ⟨a, b, xs, ys, rfl, rfl, h1, h2, hl, fun e => h b H (Same.refl H) (by rw [e]; exact h2), fun _ e => h a H (Same.refl H) (by rw [e, List.append_nil]; exact h1), fun _ _ q hq => h q _ (same_new hq) (SqT.of upd_same)⟩
theorem cut_map {α : Type} {f : α → V} {l : List α} {lo hi : Option Int} : ∃ l' : List α, cutV (l.map f) lo hi = l'.map f ∧ l'.length ≤ l.length ∧ ∀ x ∈ l', x ∈ l :=
  ⟨(l.drop (HT.sIx (l.map f).length 0 lo)).take (HT.sIx (l.map f).length (l.map f).length hi - HT.sIx (l.map f).length 0 lo), by unfold cutV; rw [List.map_take, List.map_drop], by rw [List.length_take, List.length_drop]; omega, fun x m => List.mem_of_mem_drop (List.mem_of_mem_take m)⟩
/-- a row as a list of tuples, bounded -/
def Rows (K : PySem.W.Frag) (H : Hp) (N M : Nat) (xs : List V) : Prop := xs.length ≤ N ∧ ∀ x ∈ xs, ∃ (t : Addr) (l : List Int), x = .ref t ∧ SqT K H t (l.map V.int) ∧ l.length ≤ M
theorem Rows.keeps {N M : Nat} {xs : List V} {H' : Hp} (h : Rows K H N M xs) (k : Keeps X H H') : Rows K H' N M xs := ⟨h.1, fun x m => let ⟨t, l, e, s, b⟩ := h.2 x m; ⟨t, l, e, k.sqT s, b⟩⟩
theorem Rows.keep {N M : Nat} {xs : List V} {H' : Hp} (h : Rows K H N M xs) (s : Same H H') : Rows K H' N M xs := h.keeps (X := []) (.same s)
theorem Rows.mono {N M N' M' : Nat} {xs : List V} (h : Rows K H N M xs) (n : N ≤ N') (m : M ≤ M') : Rows K H N' M' xs := ⟨Nat.le_trans h.1 n, fun x q => let ⟨t, l, e, s, b⟩ := h.2 x q; ⟨t, l, e, s, Nat.le_trans b m⟩⟩
theorem Rows.cut {N M : Nat} {xs : List V} {lo hi : Option Int} (h : Rows K H N M xs) : Rows K H N M (cutV xs lo hi) := by
  obtain ⟨l', e, q, w⟩ := cut_map (f := id) (l := xs) (lo := lo) (hi := hi)
  rw [List.map_id, List.map_id] at e
  rw [e]
  exact ⟨Nat.le_trans q h.1, fun x m => h.2 x (w x m)⟩
theorem Rows.app {N N' M : Nat} {xs ys : List V} (h : Rows K H N M xs) (k : Rows K H N' M ys) : Rows K H (N + N') M (xs ++ ys) := ⟨by rw [List.length_append]; have := h.1; have := k.1; omega, fun x m => (List.mem_append.mp m).elim (h.2 x) (k.2 x)⟩
theorem Rows.one {M : Nat} {t : Addr} {l : List Int} (s : SqT K H t (l.map V.int)) (b : l.length ≤ M) : Rows K H 1 M [.ref t] := ⟨Nat.le_refl _, fun x m => by rw [List.mem_singleton] at m; exact ⟨t, l, m, s, b⟩⟩
theorem Rows.set {N M i : Nat} {xs : List V} {v : V} (h : Rows K H N M xs) (m : v ∈ xs) : Rows K H N M (xs.set i v) := ⟨by rw [List.length_set]; exact h.1, fun x q => (List.mem_or_eq_of_mem_set q).elim (h.2 x) fun e => h.2 x (e ▸ m)⟩
theorem Rows.of {ts : List Addr} {rs : List (List Int)} {N M : Nat} (h : RowT K H ts rs) (n : rs.length ≤ N) (m : ∀ l ∈ rs, l.length ≤ M) : Rows K H N M (ts.map V.ref) := by
  refine ⟨by rw [List.length_map, h.1]; exact n, fun x q => ?_⟩
  obtain ⟨t, mt, rfl⟩ := List.mem_map.mp q
  obtain ⟨i, e⟩ := List.getElem?_of_mem mt
  obtain ⟨l, el, s⟩ := Each.atL h e
  exact ⟨t, l, rfl, s, m l (List.mem_of_getElem? el)⟩
theorem Rows.to {N M : Nat} : ∀ {xs : List V}, Rows K H N M xs → ∃ (ts : List Addr) (rs : List (List Int)), xs = ts.map V.ref ∧ RowT K H ts rs ∧ rs.length ≤ N ∧ ∀ l ∈ rs, l.length ≤ M := fun {xs} h => by
  have go : ∀ xs : List V, (∀ x ∈ xs, ∃ (t : Addr) (l : List Int), x = .ref t ∧ SqT K H t (l.map V.int) ∧ l.length ≤ M) → ∃ (ts : List Addr) (rs : List (List Int)), xs = ts.map V.ref ∧ RowT K H ts rs ∧ ∀ l ∈ rs, l.length ≤ M := fun xs => by
    induction xs with
    | nil => exact fun _ => ⟨[], [], rfl, Each.nil, fun _ m => nomatch m⟩
    | cons x xs ih =>
      intro h
      obtain ⟨t, l, rfl, s, b⟩ := h x List.mem_cons_self
      obtain ⟨ts, rs, rfl, r, m⟩ := ih fun y q => h y (List.mem_cons_of_mem _ q)
      refine ⟨t :: ts, l :: rs, rfl, ⟨congrArg Nat.succ r.1, fun i a b e1 e2 => ?_⟩, fun y q => (List.mem_cons.mp q).elim (fun e => e ▸ b) (m y)⟩
      match i with
      | 0 => cases e1; cases e2; exact s
      | i + 1 => exact r.2 i a b e1 e2
  obtain ⟨ts, rs, rfl, r, m⟩ := go xs h.2
  exact ⟨ts, rs, rfl, r, by have := h.1; rw [List.length_map, r.1] at this; exact this, m⟩
end
end Rd
/-! LateM: the lateness of a row, rows that fit. -/
namespace Rd
open PySem PySem.Spec PyProof.Rows L2 NameM
def lagSum (l : List Int) (s : List (Int × Int)) : Int := (List.zipWith (fun a (q : Int × Int) => a - q.1) l s).sum
def lateS (rs : List (List Int)) (ss : List (List (Int × Int))) : Int := (List.zipWith lagSum rs ss).sum
theorem sumZ_take {l : List Int} {i : Nat} {x : Int} (h : l[i]? = some x) : (l.take (i + 1)).sum = (l.take i).sum + x := by
  rw [take_one h, List.sum_append, List.sum_cons, List.sum_nil, Int.add_zero]
theorem zw_at {α β γ : Type} {f : α → β → γ} {as : List α} {bs : List β} {i : Nat} {a : α} {b : β} (h1 : as[i]? = some a) (h2 : bs[i]? = some b) : (List.zipWith f as bs)[i]? = some (f a b) := by rw [List.getElem?_zipWith, h1, h2]
/-- the row fits the spans -/
def fitR : List (List Int) → List (List (Int × Int)) → Bool
  | [], [] => true
  | l :: ls, s :: ss => fitB l s && fitR ls ss
  | _, _ => false
theorem fitR_len : ∀ {ls : List (List Int)} {ss : List (List (Int × Int))}, fitR ls ss = true → ls.length = ss.length
  | [], [], _ => rfl
  | l :: ls, s :: ss, h => by
    have h : (fitB l s && fitR ls ss) = true := h
    rw [Bool.and_eq_true] at h
    exact congrArg Nat.succ (fitR_len h.2)
  | [], _ :: _, h => nomatch h
  | _ :: _, [], h => nomatch h
theorem fitR_all : ∀ {ls : List (List Int)} {ss : List (List (Int × Int))}, ls.length = ss.length → ((List.zipWith fitB ls ss).all id) = fitR ls ss
  | [], [], _ => rfl
  | l :: ls, s :: ss, h => by
    show (fitB l s && (List.zipWith fitB ls ss).all id) = (fitB l s && fitR ls ss)
    rw [fitR_all (Nat.succ.inj h)]
  | [], _ :: _, h => nomatch h
  | _ :: _, [], h => nomatch h
/-- what is wrong with a row: its size, the name of the first item with other lags -/
def badR : List Str → List (List (Int × Int)) → List (List Int) → Option Str
  | z :: zs, s :: ss, l :: ls => if fitB l s = true then badR zs ss ls else some z
  | _, _, _ => none
theorem rowGo_bad : ∀ (zs : List Str) (ss : List (List (Int × Int))) (ls : List (List Int)), rowGo zs ss ls = (badR zs ss ls).map eRow
  | z :: zs, s :: ss, l :: ls => by
    show due (bad (fitB l s = false) (eRow z)) (rowGo zs ss ls) = (if fitB l s = true then badR zs ss ls else some z).map eRow
    cases c : fitB l s with
    | true => rw [due_n (bad_f (by decide)), if_pos rfl]; exact rowGo_bad zs ss ls
    | false => rw [due_s (bad_t rfl), if_neg (by decide)]; rfl
  | [], _, _ => rfl
  | _ :: _, [], _ => rfl
  | _ :: _, _ :: _, [] => rfl
theorem badR_fit : ∀ {zs : List Str} {ss : List (List (Int × Int))} {ls : List (List Int)}, zs.length = ss.length → ls.length = ss.length → (badR zs ss ls = none ↔ fitR ls ss = true)
  | z :: zs, s :: ss, l :: ls, h1, h2 => by
    show (if fitB l s = true then badR zs ss ls else some z) = none ↔ (fitB l s && fitR ls ss) = true
    rw [Bool.and_eq_true]
    by_cases c : fitB l s = true
    · rw [if_pos c, badR_fit (Nat.succ.inj h1) (Nat.succ.inj h2)]
      exact ⟨fun x => ⟨c, x⟩, fun x => x.2⟩
    · rw [if_neg c]
      exact ⟨fun x => (nomatch x), fun x => absurd x.1 c⟩
  | [], [], [], _, _ => ⟨fun _ => rfl, fun _ => rfl⟩
  | _ :: _, [], _, h, _ => nomatch h
  | [], _ :: _, _, h, _ => nomatch h
  | _, [], _ :: _, _, h => nomatch h
  | _, _ :: _, [], _, h => nomatch h
/-- what a fault is told as -/
inductive Flt
  | none
  | size (n : Nat)
  | row (z : Str)
def fltOf (zs : List Str) (ss : List (List (Int × Int))) (rs : List (List Int)) : Flt := if rs.length = ss.length then match badR zs ss rs with
  | some z => .row z
  | .none => .none
  else .size rs.length
def Flt.er : Flt → Option Er
  | .none => .none
  | .size n => some (eSize n)
  | .row z => some (eRow z)
def Flt.dat : Flt → PyData
  | .none => .none
  | .size n => .tuple [.str "size", .int n, .bool true, .bool true, .bool false, .bool false]
  | .row z => .tuple [.str "row", .str z, .bool true, .bool true, .bool false, .bool false]
theorem fltOf_er (zs : List Str) (ss : List (List (Int × Int))) (rs : List (List Int)) : rowEr zs ss rs = (fltOf zs ss rs).er := by
  unfold fltOf
  show due (bad (¬ rs.length = ss.length) (eSize rs.length)) (rowGo zs ss rs) = _
  by_cases c : rs.length = ss.length
  · rw [due_n (bad_f fun n => n c), if_pos c, rowGo_bad]
    cases badR zs ss rs <;> rfl
  · rw [due_s (bad_t c), if_neg c]; rfl
theorem fltOf_fit {zs : List Str} {ss : List (List (Int × Int))} {rs : List (List Int)} (h : zs.length = ss.length) : (fltOf zs ss rs = .none) ↔ fitR rs ss = true := by
  unfold fltOf
  by_cases c : rs.length = ss.length
  · rw [if_pos c, ← badR_fit h c]
    cases badR zs ss rs with
    | none => exact ⟨fun _ => rfl, fun _ => rfl⟩
    | some z => exact ⟨fun x => (nomatch x), fun x => (nomatch x)⟩
  · rw [if_neg c]
    exact ⟨fun x => (nomatch x), fun x => absurd (fitR_len x) c⟩
theorem fitR_at : ∀ {ls : List (List Int)} {ss : List (List (Int × Int))}, fitR ls ss = true → Each (fun l s => fitB l s = true) ls ss
  | [], [], _ => Each.nil
  | l :: ls, s :: ss, h => by
    have h : (fitB l s && fitR ls ss) = true := h
    rw [Bool.and_eq_true] at h
    have q := fitR_at h.2
    refine ⟨congrArg Nat.succ q.1, fun i a b x y => ?_⟩
    match i with
    | 0 => cases x; cases y; exact h.1
    | i + 1 => exact q.2 i a b x y
  | [], _ :: _, h => nomatch h
  | _ :: _, [], h => nomatch h
theorem fitR_mk : ∀ {ls : List (List Int)} {ss : List (List (Int × Int))}, Each (fun l s => fitB l s = true) ls ss → fitR ls ss = true
  | [], [], _ => rfl
  | l :: ls, s :: ss, h => by
    show (fitB l s && fitR ls ss) = true
    rw [h.2 0 l s rfl rfl, fitR_mk ⟨Nat.succ.inj h.1, fun i a b x y => h.2 (i + 1) a b x y⟩]; rfl
  | [], _ :: _, h => nomatch h.1
  | _ :: _, [], h => nomatch h.1
/-- one item's lags, checked place by place -/
theorem fitB_take : ∀ {l : List Int} {s : List (Int × Int)}, fitB l s = (decide (l.length = s.length) && (List.zipWith inB l s).all id)
  | l, s => by
    by_cases c : l.length = s.length
    · rw [decide_eq_true c, Bool.true_and, fitB_all c]
    · rw [decide_eq_false c, Bool.false_and]
      cases q : fitB l s with
      | false => rfl
      | true => exact absurd (fitB_len q) c
/-! ### the least lags -/
def lows (sps : List (List (Int × Int))) : List (List Int) := sps.map fun sp => sp.map Prod.fst
theorem low_fit : ∀ {sp : List (Int × Int)}, (∀ s ∈ sp, s.1 ≤ s.2) → fitB (sp.map Prod.fst) sp = true
  | [], _ => rfl
  | s :: r, h => by
    show ((decide (s.1 ≤ s.1) && decide (s.1 ≤ s.2)) && fitB (r.map Prod.fst) r) = true
    rw [low_fit fun q m => h q (List.mem_cons_of_mem _ m), decide_eq_true (Int.le_refl _), decide_eq_true (h s List.mem_cons_self)]; rfl
theorem lows_fit : ∀ {sps : List (List (Int × Int))}, (∀ sp ∈ sps, ∀ s ∈ sp, s.1 ≤ s.2) → fitR (lows sps) sps = true
  | [], _ => rfl
  | sp :: r, h => by
    show (fitB (sp.map Prod.fst) sp && fitR (lows r) r) = true
    rw [low_fit (h sp List.mem_cons_self), lows_fit fun q m => h q (List.mem_cons_of_mem _ m)]; rfl
theorem low_late : ∀ sp : List (Int × Int), lagSum (sp.map Prod.fst) sp = 0
  | [] => rfl
  | s :: r => by
    show (s.1 - s.1) + lagSum (r.map Prod.fst) r = 0
    rw [low_late r]; omega
theorem lows_late : ∀ sps : List (List (Int × Int)), lateS (lows sps) sps = 0
  | [] => rfl
  | sp :: r => by
    show lagSum (sp.map Prod.fst) sp + lateS (lows r) r = 0
    rw [low_late, lows_late r]; rfl
theorem lows_full {D : DayD} {sps : List (List (Int × Int))} (h : SubD D sps) : RowFits D (lows sps) := by
  refine ⟨by unfold lows; rw [List.length_map, h.1], fun i l it e1 e2 => ?_⟩
  unfold lows at e1
  rw [List.getElem?_map] at e1
  cases q : sps[i]? with
  | none => rw [q] at e1; cases e1
  | some sp =>
    rw [q] at e1
    cases e1
    have k := h.2 i sp it q e2
    refine fitB_mk (by rw [List.length_map]; exact k.1) fun j x f a b => ?_
    rw [List.getElem?_map] at a
    cases c : sp[j]? with
    | none => rw [c] at a; cases a
    | some s =>
      rw [c] at a
      cases a
      obtain ⟨f1, f2, f3⟩ := k.2 j s f c b
      exact ⟨f1, Int.le_trans f2 f3⟩
theorem nar_rowG {rs : List (List Int)} (h : rs.length ≤ 1000) (k : ∀ l ∈ rs, l.length ≤ 1000) (n : Nat) : Nar (n + 3) (rowD rs) := by
  refine nar_list (by rw [List.length_map]; omega) fun d m => ?_
  obtain ⟨l, hl, rfl⟩ := List.mem_map.mp m
  refine nar_tup (by rw [List.length_map]; have := k l hl; omega) fun d m => ?_
  obtain ⟨x, _, rfl⟩ := List.mem_map.mp m
  exact trivial
theorem nar_flt (f : Flt) (n : Nat) : Nar (n + 3) f.dat := by
  cases f with
  | none => exact trivial
  | size m =>
    refine nar_tup (show 6 ≤ 1000000 by decide) fun d m => ?_
    simp only [List.mem_cons, List.not_mem_nil, or_false] at m
    rcases m with rfl | rfl | rfl | rfl | rfl | rfl <;> exact trivial
  | row z =>
    refine nar_tup (show 6 ≤ 1000000 by decide) fun d m => ?_
    simp only [List.mem_cons, List.not_mem_nil, or_false] at m
    rcases m with rfl | rfl | rfl | rfl | rfl | rfl <;> exact trivial
theorem fit_moms {D : DayD} {k : Int} {rs : List (List Int)} (ok : DayOk D k) (f : RowFits D rs) : (moms D rs).length ≤ 17 := by
  have l8 := ok.its.len
  show (momGo D.op D.its rs).length + 1 ≤ 17
  rw [mom_len f.1]; omega
/-! ### copies of lists of spans -/
theorem prs_keeps {K : PySem.W.Frag} {X Y Z : List Addr} {H H' : Hp} {xs : List V} {sp : List (Int × Int)} (h : DatA K X H xs (sp.map prD)) (k : Keeps Y H H') : DatA K Z H' xs (sp.map prD) := ⟨h.len, fun i x d e1 e2 => by
  obtain ⟨q, _, rfl⟩ := at_dat e2
  obtain ⟨a, ws, rfl, sq, aa⟩ := Dat.tuple (h.all i x _ e1 e2)
  have aa : DatA K X H ws ([q.1, q.2].map PyData.int) := aa
  have := datA_ints aa
  subst this
  exact pr_dat (k.sqT sq)⟩
/-- lc_DH, where what is kept may speak of the new list's address -/
theorem lc_DA {K : PySem.W.Frag} {X : List Addr} {H0 H : Hp} {v : V} {ds : List PyData} {G : Hp → Hp → Prop} {g : TG} {tt : TT} {te : TE} {vs : List Nat} {σ : L2.St} {Q : VK} (gs : GoesOn G H) (h : Dat K X H0 v (.list ds)) (gk : ∀ H', G H H' → Keeps X H0 H') (R : Addr → Nat → List V → Hp → Prop) (r0 : ∀ D H', G H H' → R D 0 [] H')
    (step : ∀ (D : Addr) (i : Nat) (x : V) (d : PyData) (acc : List V) (H1 : Hp), H D = none → ds[i]? = some d → Dat K X H1 x d → R D i acc H1 → G H H1 → H1 D = some (.lst acc) → LcStepH G H D (R D) g tt te vs σ i x H1)
    (done : ∀ (l : Addr) (acc : List V) (H' : Hp), H l = none → G H H' → H' l = some (.lst acc) → R l ds.length acc H' → Q (.ref l) H') : kCL K g tt te vs σ Q v H := by
  obtain ⟨a, xs, rfl, n, hsq, t⟩ := h.list
  refine ⟨a, rfl, ⟨_, SqL.of ((gk H gs.refl).lst n hsq)⟩, fun D hD => lc_list (xs := xs) (LcH G H D (R D)) ⟨[], upd_same, gs.put gs.refl hD, r0 D _ (gs.put gs.refl hD)⟩ ?_ ?_ ?_⟩
  · rintro i H' _ ⟨acc, _, s, _⟩
    exact SqL.of ((gk H' s).lst n hsq)
  · rintro i x H' hxi ⟨acc, ha, s, r⟩
    obtain ⟨d, e⟩ : ∃ d, ds[i]? = some d := ⟨ds[i]'(by rw [← t.len]; exact (List.getElem?_eq_some_iff.mp hxi).1), List.getElem?_eq_getElem _⟩
    exact step D i x d acc H' hD e ((t.all i x d hxi e).keep (gk H' s)) r s ha
  · rintro H' ⟨acc, ha, s, r⟩
    exact done D acc H' hD s ha (t.len ▸ r)
/-- what stands while the lists of spans are copied -/
def Copied (K : PySem.W.Frag) (H : Hp) (ss : List (List (Int × Int))) (D : Addr) (i : Nat) (acc : List V) (H' : Hp) : Prop :=
  ∃ ls : List Addr, acc = ls.map V.ref ∧ ls.length = i ∧ ls.Nodup ∧ D ∉ ls ∧ (∀ l ∈ ls, H l = none) ∧ Each (fun l (sp : List (Int × Int)) => ∃ xs, H' l = some (.lst xs) ∧ DatA K [] H' xs (sp.map prD)) ls (ss.take i)
theorem Copied.snoc {K : PySem.W.Frag} {X : List Addr} {H H1 H2 : Hp} {ss : List (List (Int × Int))} {sp : List (Int × Int)} {D l : Addr} {i : Nat} {acc xs : List V} (h : Copied K H ss D i acc H1) (hs : ss[i]? = some sp) (eD : H1 D = some (.lst acc)) (s1 : Same H H1) (hl : H1 l = none) (s2 : Same H1 H2) (el : H2 l = some (.lst xs)) (da : DatA K X H2 xs (sp.map prD)) : Copied K H ss D (i + 1) (acc ++ [.ref l]) (upd H2 D (.lst (acc ++ [.ref l]))) := by
  obtain ⟨ls, rfl, ll, nd, nD, nn, ea⟩ := h
  have lD : l ≠ D := fun z => by rw [z, eD] at hl; cases hl
  have k2 : Keeps [D] H2 (upd H2 D (.lst (ls.map V.ref ++ [.ref l]))) := .put (by simp) (s2 _ _ eD)
  refine ⟨ls ++ [l], by rw [List.map_append]; rfl, by rw [List.length_append, ll]; rfl, List.nodup_append.mpr ⟨nd, List.nodup_cons.mpr ⟨fun z => (nomatch z), List.nodup_nil⟩, fun x hx y hy c => ?_⟩, fun m => (List.mem_append.mp m).elim nD fun q => lD (List.mem_singleton.mp q).symm, fun x m => (List.mem_append.mp m).elim (nn x) fun q => by rw [List.mem_singleton.mp q]; exact same_none s1 hl, ?_⟩
  · rw [List.mem_singleton.mp hy] at c
    obtain ⟨j, ej⟩ := List.getElem?_of_mem hx
    obtain ⟨_, _, ys, ex, _⟩ := Each.atL ea ej
    rw [c, hl] at ex
    cases ex
  · rw [take_one hs]
    refine Each.snoc ⟨ea.1, fun j a b e1 e2 => ?_⟩ ⟨xs, by rw [upd_ne lD]; exact el, prs_keeps da k2⟩
    obtain ⟨ys, ey, dy⟩ := ea.2 j a b e1 e2
    have aD : a ≠ D := fun z => nD (z ▸ List.mem_of_getElem? e1)
    exact ⟨ys, by rw [upd_ne aD]; exact s2 _ _ ey, prs_keeps dy ((Keeps.same (X := [D]) s2).trans k2)⟩
theorem Copied.msp {K : PySem.W.Frag} {X : List Addr} {H H' : Hp} {ss : List (List (Int × Int))} {D : Addr} {acc : List V} (h : Copied K H ss D ss.length acc H') (hD : H D = none) (eD : H' D = some (.lst acc)) (hX : ∀ b ∈ X, H b ≠ none) : ∃ ls, MSp K X H' D ls ss ∧ ∀ l ∈ ls, H l = none := by
  obtain ⟨ls, rfl, ll, nd, nD, nn, ea⟩ := h
  rw [List.take_length] at ea
  exact ⟨ls, ⟨eD, fun m => hX D m hD, nD, nd, ⟨ea.1, fun j a b e1 e2 => by
    obtain ⟨ys, ey, dy⟩ := ea.2 j a b e1 e2
    exact ⟨fun m => hX a m (nn a (List.mem_of_getElem? e1)), ys, ey, prs_keeps dy (Keeps.refl (X := []))⟩⟩⟩, nn⟩
theorem Dat.offs {K : PySem.W.Frag} {X : List Addr} {H : Hp} {v : V} {d : PyData} : ∀ {ls : List Addr}, (∀ l ∈ ls, H l = none) → Dat K X H v d → Dat K (ls ++ X) H v d
  | [], _, h => h
  | l :: r, n, h => Dat.off (n l List.mem_cons_self) (Dat.offs (fun x m => n x (List.mem_cons_of_mem _ m)) h)
/-- an iterable within a comprehension -/
theorem pi_listK {X : Cx} {K : PySem.W.Frag} {tg l : Expr} {tl : TE} (e : X.K = K) (hl : PE X l tl) : PI X tg l (iList K tl) := e ▸ pi_list hl
end Rd
/-! CrsM: calls of instances, steps of a day, courses. -/
namespace Rd
open PySem PySem.Spec PyProof.Rows L2 NameM
/-- an own __call__ -/
structure CallG (P : Program) (w : World) (K : PySem.W.Frag) (mg : Str → Option Value) (base : Heap) (CX : CXT) (k : Nat) (C : Addr) (ps : List Str) (sp : Sp) : Prop where
  ex : ∃ f fd, Meth K C "__call__" f ∧ PySem.W.fnIn K f = true ∧ FnOk P w K mg base CX k f fd ps sp ∧ Binds K fd ps []
section
variable {X : Cx} {k : Nat} {C : Addr} {ps : List Str} {sp : Sp} {CX : CXT} {E : XK} {fe e : Expr} {es : List Expr} {pos : Pos} {tf : TE} {t : TA}
theorem pe_callG (G : CallG X.prog X.w X.K X.mg X.base CX k C ps sp) (hr : Room k X.A) (hx : Passes CX X E) (hf : PE X fe tf) (ha : PA X (e :: es) t)
    (ht : eval (.Call fe (e :: es) [] pos) X.env = (do callWith pos (← eval fe X.env) [] (backTo pos (starEach (e :: es) X.env)) (backToKw pos (keywordEach [] X.env))) := by rfl)
    (he : starEach (e :: es) X.env = (false, eval e X.env) :: starEach es X.env := by rfl) (hpl : (backTo pos (starEach es X.env)).any (·.1) = false := by rfl) : PE X (.Call fe (e :: es) [] pos) (StX.tCallO X C sp E tf t) := by
  obtain ⟨f, fd, m, fi, F, b⟩ := G.ex
  have F2 : FnR X.prog X.w X.K X.mg X.base CX k f sp := (FnOk.raw F b .nil).imp fun vs H Q E h => by rw [List.append_nil]; exact h
  exact StX.pe_callO hf ⟨m.at_, m.fn, fi⟩ F2 hr hx ha ht he hpl
def kCO2 (X : Cx) (C : Addr) (sp : Sp) (E : XK) (a : Addr) (Q : VK) : List V → Hp → Prop := fun vs H2 => StX.InsC X H2 a C ∧ sp (.ref a :: vs) H2 Q E
def kCO (X : Cx) (C : Addr) (sp : Sp) (E : XK) (t : TA) (σ : L2.St) (Q : VK) : VK := fun y H1 => ∃ a, y = V.ref a ∧ t σ H1 (kCO2 X C sp E a Q)
variable {σ : L2.St} {H : Hp} {Q : VK} {a dx : Addr} {fs : List (Str × V)} {vs : List V}
theorem w_callO (h : tf σ H (kCO X C sp E t σ Q)) : StX.tCallO X C sp E tf t σ H Q := h
theorem w_kco (h : t σ H (kCO2 X C sp E a Q)) : kCO X C sp E t σ Q (.ref a) H := ⟨a, rfl, h⟩
theorem w_kco2 (e : H a = some (.ins C dx fs)) (h : sp (.ref a :: vs) H Q E) : kCO2 X C sp E a Q vs H := ⟨.inr ⟨dx, fs, e⟩, h⟩
end
section
variable {K : PySem.W.Frag} {H : Hp} {T : Addr} {σ : L2.St}
theorem w_gt4 {i j k l : Nat} {x y z u : V} {Q : L2.St → Hp → Prop} (h : SqT K H T [x, y, z, u]) (q : Q ((((σ.set i (some x)).set j (some y)).set k (some z)).set l (some u)) H) : gTup K 4 (gCons (gName i) (gCons (gName j) (gCons (gName k) (gCons (gName l) gNil)))) (.ref T) σ H Q := ⟨T, _, rfl, h, rfl, _, _, rfl, _, _, rfl, _, _, rfl, _, _, rfl, rfl, q⟩
theorem lc_R2H {G : Hp → Hp → Prop} {H : Hp} {g : TG} {tt : TT} {te : TE} {vs : List Nat} {σ : L2.St} {Q : VK} {m n : Int} (gs : GoesOn G H) (hb : -(2 ^ 62) ≤ m ∧ m < 2 ^ 62 ∧ -(2 ^ 62) ≤ n ∧ n < 2 ^ 62) (R : Nat → List V → Hp → Prop) (r0 : ∀ H', G H H' → R 0 [] H')
    (step : ∀ (D : Addr) (i : Nat) (acc : List V) (H1 : Hp), H D = none → i < (n - m).toNat → R i acc H1 → G H H1 → H1 D = some (.lst acc) → LcStepH G H D R g tt te vs σ i (.int (m + (i : Int))) H1)
    (done : ∀ (l : Addr) (acc : List V) (H' : Hp), H l = none → G H H' → H' l = some (.lst acc) → R (n - m).toNat acc H' → Q (.ref l) H') : kCR2 g tt te vs σ Q [.int m, .int n] H := by
  refine ⟨m, n, rfl, hb, fun D hD => lc_range (n := (n - m).toNat) (LcH G H D R) ⟨[], upd_same, gs.put gs.refl hD, r0 _ (gs.put gs.refl hD)⟩ ?_ ?_⟩
  · rintro i H' hi ⟨acc, ha, s, r⟩
    exact step D i acc H' hD hi r s ha
  · rintro H' ⟨acc, ha, s, r⟩
    exact done D acc H' hD s ha r
theorem lc_LH {K : PySem.W.Frag} {G : Hp → Hp → Prop} {H : Hp} {p : Addr} {xs : List V} {g : TG} {tt : TT} {te : TE} {vs : List Nat} {σ : L2.St} {Q : VK} (gs : GoesOn G H) (hp : H p = some (.lst xs)) (hx : ∀ H', G H H' → H' p = some (.lst xs)) (R : Nat → List V → Hp → Prop) (r0 : ∀ H', G H H' → R 0 [] H')
    (step : ∀ (D : Addr) (i : Nat) (x : V) (acc : List V) (H1 : Hp), H D = none → xs[i]? = some x → R i acc H1 → G H H1 → H1 D = some (.lst acc) → LcStepH G H D R g tt te vs σ i x H1)
    (done : ∀ (l : Addr) (acc : List V) (H' : Hp), H l = none → G H H' → H' l = some (.lst acc) → R xs.length acc H' → Q (.ref l) H') : kCL K g tt te vs σ Q (.ref p) H := by
  refine ⟨p, rfl, ⟨_, SqL.of hp⟩, fun D hD => lc_list (xs := xs) (LcH G H D R) ⟨[], upd_same, gs.put gs.refl hD, r0 _ (gs.put gs.refl hD)⟩ ?_ ?_ ?_⟩
  · rintro i H' _ ⟨acc, _, s, _⟩
    exact SqL.of (hx H' s)
  · rintro i x H' hi ⟨acc, ha, s, r⟩
    exact step D i x acc H' hD hi r s ha
  · rintro H' ⟨acc, ha, s, r⟩
    exact done D acc H' hD s ha r
/-- for i, x in enumerate(l) -/
theorem for_EL {K : PySem.W.Frag} {H : Hp} {p : Addr} {xs : List V} {g : TG} {tb : TS} {D : Ends} {σ : L2.St} (Pv : Nat → L2.St → Hp → Prop) (h0 : Pv 0 σ H) (hx : ∀ i σ H', Pv i σ H' → SqL K H' p xs)
    (hs : ∀ (i : Nat) (x : V) (T : Addr) (σ : L2.St) (H1 H2 : Hp), xs[i]? = some x → Pv i σ H1 → Same H1 H2 → H2 T = some (.tup [.int (i : Nat), x]) → g (.ref T) σ H2 fun σ2 H3 => tb { D with nx := Pv (i + 1), ct := Pv (i + 1), bk := D.nx } σ2 H3)
    (hd : ∀ σ H', Pv xs.length σ H' → D.nx σ H') : kFEA K g tb D σ [.ref p] H := by
  refine .inl ⟨xs, hx 0 σ H h0, ?_⟩
  exact for_it (walk_enum (K := K)) Pv h0 (fun i σ H _ z => hx i σ H z) (fun i x σ H1 H2 hi hp y => by
    obtain ⟨T, u, v, rfl, hT, rfl, e1, e2⟩ := y
    cases e1
    exact hs i v T σ H1 _ e2 hp (same_new hT) upd_same) hd
end
/-! ### steps -/
def beg1 : Itm → Int → Int → Int
  | .pc _ st of mi _ _ _, m, l => beginAt st of mi m l
  | .br _ st of mi _ _ _ _, m, l => beginAt st of (some mi) m l
/-- the span of the lag of a step: to the begin, to the end -/
def spanS (it : Itm) (sp : List (Int × Int)) (e : Bool) : Int × Int := if e = true then sp.getD 0 (0, 0) else match it with
  | .pc _ _ _ _ _ _ _ => sp.getD 1 (0, 0)
  | .br _ _ _ _ _ pl un _ => (pl * un, pl * un)
def stepS (D : DayD) (sps : List (List (Int × Int))) (pt : Nat) : Int × Int := match D.its[pt / 2]? with
  | some it => spanS it (sps.getD (pt / 2) []) (decide (pt % 2 = 0))
  | none => (0, 0)
def nextM (D : DayD) (pt : Nat) (m l : Int) : Int := match D.its[pt / 2]? with
  | some it => if pt % 2 = 0 then beg1 it m l else m + l
  | none => m + l
theorem stepS_at {D : DayD} {sps : List (List (Int × Int))} {pt : Nat} {it : Itm} {sp : List (Int × Int)} (h : D.its[pt / 2]? = some it) (k : sps[pt / 2]? = some sp) : stepS D sps pt = spanS it sp (decide (pt % 2 = 0)) := by
  unfold stepS
  rw [h, getD_of k]
theorem nextM_e {D : DayD} {pt : Nat} {it : Itm} {m l : Int} (h : D.its[pt / 2]? = some it) (e : pt % 2 = 0) : nextM D pt m l = beg1 it m l := by
  unfold nextM; rw [h]; exact if_pos e
theorem nextM_o {D : DayD} {pt : Nat} {m l : Int} (e : ¬ pt % 2 = 0) : nextM D pt m l = m + l := by
  unfold nextM
  cases D.its[pt / 2]? with
  | none => rfl
  | some it => exact if_neg e
/-- n steps from a point on -/
def goM (D : DayD) (f : Nat → Int) (start : Nat) : Nat → Int → Int
  | 0, m => m
  | n + 1, m => nextM D (start + n) (goM D f start n m) (f (start + n))
def courseF (y sl : Addr) (a b : Int) : List (Str × V) := putF "_spans" (.ref sl) (putF "goal" (.int b) (putF "start" (.int a) (putF "outlook" (.ref y) [])))
/-- a course from the point a to the point b -/
structure CrsAt (K : PySem.W.Frag) (H : Hp) (c : Addr) (D : DayD) (sps : List (List (Int × Int))) (a b : Nat) : Prop where
  ex : ∃ (y dx sl : Addr) (as : List Addr), H c = some (.ins (He.ga K "Course") dx (courseF y sl a b)) ∧ OutD K H y D sps ∧ H sl = some (.lst (as.map V.ref)) ∧ SpanL K H as ((List.range (b - a)).map fun i => stepS D sps (a + i))
  le : a ≤ b ∧ b ≤ 2 * D.its.length
theorem CrsAt.keep {K : PySem.W.Frag} {H H' : Hp} {c : Addr} {D : DayD} {sps : List (List (Int × Int))} {a b : Nat} (h : CrsAt K H c D sps a b) (s : Same H H') : CrsAt K H' c D sps a b :=
  ⟨let ⟨y, dx, sl, as, e, o, l, q⟩ := h.ex; ⟨y, dx, sl, as, s _ _ e, o.keep s, s _ _ l, q.keep s⟩, h.le⟩
/-- the pool turns: the list of spans is another list -/
theorem CrsAt.drawn {K : PySem.W.Frag} {p : Addr} {H H' : Hp} {c : Addr} {D : DayD} {sps : List (List (Int × Int))} {a b : Nat} (h : CrsAt K H c D sps a b) (n : ∀ sl, (∃ y dx, H c = some (.ins (He.ga K "Course") dx (courseF y sl a b))) → sl ≠ p) (d : Drawn p H H') : CrsAt K H' c D sps a b :=
  ⟨let ⟨y, dx, sl, as, e, o, l, q⟩ := h.ex; ⟨y, dx, sl, as, d.ins e, o.keeps (X := [p]) (.drawn (by simp) d), d.lst (n sl ⟨y, dx, e⟩) l, q.keeps (X := [p]) (.drawn (by simp) d)⟩, h.le⟩
end Rd
/-! OwnT: iter(t) of a tuple; [.. for x in o] and for x in o, where o's own __iter__ returns the iterator of a tuple. -/
namespace Rd
open PySem PySem.Spec PyProof.Rows PySem.W L2
/-- a tuple's iterator at its start -/
def ItT (t it : Addr) : HO := .ext fun h => h.IsTupleIter it t 0
theorem itT_ok {P : Program} {w : World} {H : Hp} {h : Heap} {t it : Addr} (e : h.IsTupleIter it t 0) : ObjOk P w H h it (ItT t it) := ⟨e, let ⟨o, ho, _⟩ := e; ⟨o, ho⟩, fun _ _ q k => q.at k⟩
/-- behind a base of any width -/
def rIterT (K : PySem.W.Frag) (b : Heap) : List V → Hp → VK → Prop := fun xs H Q => ∃ (t : Addr) (zs : List V), xs = [.ref t] ∧ SqT K H t zs ∧ ∀ it, H it = none → b.objs.size ≤ it → Q (.ref it) (upd H it (ItT t it))
/-- what __iter__ gave is t's iterator, beyond the base -/
def kIt (b : Heap) (H : Hp) (t : Addr) : VK := fun v H2 => ∃ it, v = .ref it ∧ H it = none ∧ b.objs.size ≤ it ∧ H2 = upd H it (ItT t it)
def iOwnT (K : PySem.W.Frag) (C : Addr) (sp : Heap → Sp) (tl : TE) : TI := fun σ H R => tl σ H fun x H1 => ∃ o dx fs t zs, x = .ref o ∧ H1 o = some (.ins C dx fs) ∧ SqT K H1 t zs ∧ (∀ b, sp b [.ref o] H1 (kIt b H1 t) E0) ∧ R (Itt K t) H1
/-- a base with room up to n: nothing stands there -/
def wideB (b : Heap) (n : Nat) : Heap := ⟨b.objs ++ Array.replicate (n - b.objs.size) { cls := .none, data := .freed }, b.life⟩
theorem wideB_get (b : Heap) (n : Nat) (a : Addr) : (wideB b n).get? a = b.get? a := by
  unfold wideB PySem.Heap.get?
  dsimp only
  rcases Nat.lt_or_ge a b.objs.size with h | h
  · rw [Array.getElem?_append_left h]
  · rw [Array.getElem?_append_right h, Array.getElem?_eq_none h, Array.getElem?_replicate]
    by_cases c : a - b.objs.size < n - b.objs.size
    · rw [if_pos c]
    · rw [if_neg c]
theorem wideB_size {b : Heap} {n : Nat} (h : b.objs.size ≤ n) : (wideB b n).objs.size = n := by
  unfold wideB
  rw [Array.size_append, Array.size_replicate]
  omega
theorem frames_wide {h b : Heap} {n : Nat} : ∀ {l : List Env}, h.FunFrames b l → h.FunFrames (wideB b n) l
  | [], _ => trivial
  | _ :: _, ⟨hk, ⟨L, o, hf, hn, ho, hd⟩, hr⟩ => ⟨hk, ⟨L, o, hf, (wideB_get b n L).trans hn, ho, hd⟩, frames_wide hr⟩
theorem env_wide {P : Program} {w : World} {K : PySem.W.Frag} {mg : Str → Option Value} {base : Heap} {A : Around} {outer : List Env} {s : Shared} {H : Hp} (e : Env0 P w K mg base A outer s H) : Env0 P w K mg (wideB base s.heap.objs.size) A outer s H :=
  have k : ∀ b o, base.get? b = some o → (wideB base s.heap.objs.size).get? b = some o := fun b o h => (wideB_get base _ b).trans h
  ⟨e.frames, ⟨e.mod.kin.keeps k, e.mod.glob.keeps k, let ⟨mb, hb, q⟩ := e.mod.blt; ⟨mb, hb.keeps k, q⟩, let ⟨mc, hc, q⟩ := e.mod.nolimit; ⟨mc, hc.keeps k, q⟩⟩, fun b o h => e.bs b o ((wideB_get base _ b).symm.trans h), Nat.le_of_eq (wideB_size e.bsz), frames_wide e.funs, e.frf, e.hok, e.bare⟩
section
variable {X : Cx} {k : Nat} {C : Addr} {ps : List Str} {sp : Heap → Sp}
theorem cIterT : CallR X (.builtin "iter") (rIterT X.K X.base) := by
  rintro pins s σ H xs us Q I r ⟨t, zs, rfl, hq, q⟩
  obtain ⟨u, rfl, ru⟩ := vals1 r
  cases ru
  obtain ⟨its, rv, p, hz⟩ := I.tuple hq
  refine Calls.call_function_entry (by decide +kernel) (by decide +kernel) PySem.W.kdk_entry_iter (PySem.W.kdk_args_iter _) ?_
  unfold Builtin.«iter»
  refine wpAny_bind (m := someArgs "iter" 1 2 _) (wpAny_of_eq (a := [Value.ref t]) (by first | rfl | kernel_rfl!) ?_)
  show wpAny _ _ (pyIter (.ref t) >>= _) _ _ _
  have p : s.heap.IsTuple t its.toArray := p
  refine wpAny_bind (wpAny_pyIter_tuple p (wpAny_pure ⟨_, rfl, ?_⟩))
  have fr : H s.heap.objs.size = none := I.hok.fresh (Nat.le_refl _)
  exact ⟨V.ref s.heap.objs.size, _, I.laid (t' := s.toks) (fun b u e => Heap.get?_push_of_some _ e) (Nat.le_refl _) (itT_ok ⟨_, Heap.get?_push_size _ rfl, rfl, rfl⟩), rfl, q _ fr (Nat.le_trans I.ok.bsz I.sz)⟩
theorem pi_ownT {tg l : Expr} {tl : TE} (G : ∀ b, MtG X.prog X.w X.K X.mg b CX0 k C "__iter__" ps (sp b)) (hr : Room k X.A) (hl : PE X l tl) : PI X tg l (iOwnT X.K C sp tl) := by
  refine ⟨fun pins s σ H R I h => ?_⟩
  refine thn (hl.run pins s σ H _ I h) fun v s1 w => ?_
  obtain ⟨x, H1, I1, r1, o, dx, fs, t, zs, rfl, eo, ht, hs, q⟩ := w
  cases r1
  obtain ⟨f, fd, m, F, hb⟩ := (G (wideB X.base s1.heap.objs.size)).ex
  obtain ⟨od, i⟩ := inst_of I1 eo
  obtain ⟨_, fr⟩ := I1.fr
  have hs := hs (wideB X.base s1.heap.objs.size)
  have hl : [Value.ref o].length = ps.length := F.len _ _ _ _ hs
  have b := hb s1 [Value.ref o] I1.kIn (by rw [List.append_nil]; exact hl)
  rw [List.append_nil] at b
  refine PySem.W.owit_iter fr I1.mod.kin i m.at_ m.fn ?_
  refine wpAny_call (codeAny_mono (F.run X.A X.stack s1 H1 ⟨[.ref o], []⟩ [.ref o] [.ref o] (kIt _ H1 t) E0 hr (env_wide I1.env0) b (.cons rfl .nil) hs) fun r s2 hq => ?_)
  cases r with
  | error e => exact pass0 pins σ H1 s1 e s2 I1 hq
  | ok fl =>
    cases fl with
    | next => exact False.elim hq
    | brk => exact False.elim hq
    | cont => exact False.elim hq
    | ret u =>
      obtain ⟨v, H2, os, bare, un, hok, rv, it, rfl, hn, young, rfl⟩ := hq
      rw [wideB_size (Nat.le_trans I1.ok.bsz I1.sz)] at young
      obtain ⟨v2, H3, I2, rv2, ev, eH⟩ := I1.after (Q := fun v' H' => v' = .ref it ∧ H' = upd H1 it (ItT t it)) ⟨_, _, os, bare, un, hok, rv, rfl, rfl⟩
      subst ev eH
      cases rv2
      have st : s2.heap.IsTupleIter it t 0 := (I2.hok it _ upd_same).1
      show PySem.W.OwitIt _ _ _ _ _ _
      unfold PySem.W.OwitIt
      refine wpAny_specialOf st.typeIs PySem.F.slot_tuple_iterator_next.lookup ?_
      show PIE X pins σ tg R _ _
      have e : upd H1 it (ItT t it) it = some (ItT t it) := upd_same
      have e' := e
      unfold ItT at e'
      have I3 := ItX.inv_drop I2 (a := it) e'
      have fpo := ItX.inv_fp I2 (a := it) (u := ItT t it) e (Nat.le_trans I1.sz young)
      rw [ItX.dropH_upd hn] at I3 fpo
      exact ⟨it, [it], _, Itt X.K t, H1, rfl, I3, turn_tuple t it, st, fun c hc => by rw [List.mem_singleton.mp hc]; exact fpo, q⟩
end
section
variable {K : PySem.W.Frag} {H : Hp} {Q : VK} {C o dx t : Addr} {fs : List (Str × V)} {sp : Heap → Sp} {zs : List V} {g : TG} {tt : TT} {te ty : TE} {vs : List Nat} {σ : L2.St} {tb : TS} {D : Ends}
def kCOi (K : PySem.W.Frag) (C : Addr) (sp : Heap → Sp) (g : TG) (tt : TT) (ty : TE) (vs : List Nat) (σ : L2.St) (Q : VK) : VK := fun x H => tLc (iOwnT K C sp (tC x)) g tt ty vs σ H Q
def kFOi (K : PySem.W.Frag) (C : Addr) (sp : Heap → Sp) (g : TG) (tb : TS) (D : Ends) (σ : L2.St) : VK := fun x H => tFor (iOwnT K C sp (tC x)) g tb D σ H
theorem w_lcO (h : te σ H (kCOi K C sp g tt ty vs σ Q)) : tLc (iOwnT K C sp te) g tt ty vs σ H Q := h
theorem w_forO (h : te σ H (kFOi K C sp g tb D σ)) : tFor (iOwnT K C sp te) g tb D σ H := h
theorem w_co (e : H o = some (.ins C dx fs)) (ht : SqT K H t zs) (hs : ∀ b, sp b [.ref o] H (kIt b H t) E0) (h : kCT K g tt ty vs σ Q (.ref t) H) : kCOi K C sp g tt ty vs σ Q (.ref o) H := by
  obtain ⟨a, ea, _, r⟩ := h
  cases ea
  exact ⟨o, dx, fs, t, zs, rfl, e, ht, hs, r⟩
theorem w_fo (e : H o = some (.ins C dx fs)) (ht : SqT K H t zs) (hs : ∀ b, sp b [.ref o] H (kIt b H t) E0) (h : kFT K g tb D σ (.ref t) H) : kFOi K C sp g tb D σ (.ref o) H := by
  obtain ⟨a, ea, _, r⟩ := h
  cases ea
  exact ⟨o, dx, fs, t, zs, rfl, e, ht, hs, r⟩
end
end Rd
/-! LookM: what a look at one lag, and its narrowing, answer. -/
namespace Rd
open PySem PySem.Spec PyProof.Rows PySem.W L2 NameM
def whyD (k z : Str) : PyData := .tuple [.str k, .str z, .bool true, .bool true, .bool false, .bool false, .bool false]
def idxL (w : Str) : Nat := lagW.idxOf w
def lookE (D : DayD) (sps : List (List (Int × Int))) (z w : Str) : Option (Str × Str) := if z ∈ D.its.map Itm.nm then (if w ∈ lagW.take (sps.getD (numI D.its z) []).length then none else some ((("word" : Str), w) : Str × Str)) else some ((("name" : Str), z) : Str × Str)
def lookS (D : DayD) (sps : List (List (Int × Int))) (z w : Str) : Int × Int := (sps.getD (numI D.its z) []).getD (idxL w) (0, 0)
def narE (D : DayD) (sps : List (List (Int × Int))) (z w : Str) (lo hi : Int) : Option (Str × Str) := match lookE D sps z w with
  | some e => some e
  | none => if hi < lo ∨ lo < (lookS D sps z w).1 ∨ (lookS D sps z w).2 < hi then some ((("outside" : Str), w) : Str × Str) else none
def narS (D : DayD) (sps : List (List (Int × Int))) (z w : Str) (q : Int × Int) : List (List (Int × Int)) := sps.set (numI D.its z) ((sps.getD (numI D.its z) []).set (idxL w) q)
theorem idxL_of {w : Str} {j : Nat} (h : lagW[j]? = some w) : idxL w = j := by
  obtain ⟨hj, e⟩ := List.getElem?_eq_some_iff.mp h
  unfold idxL
  rw [← e]
  exact List.Nodup.idxOf_getElem (by decide) j hj
theorem look_cases {D : DayD} {sps : List (List (Int × Int))} {z w : Str} (ho : Each (fun (sp : List (Int × Int)) it => sp.length = (lim D it).length) sps D.its) :
    (z ∉ D.its.map Itm.nm ∧ lookE D sps z w = some (("name" : Str), z)) ∨
    (∃ i it sp, D.its[i]? = some it ∧ it.nm = z ∧ sps[i]? = some sp ∧ numI D.its z = i ∧ w ∉ lagW.take sp.length ∧ lookE D sps z w = some (("word" : Str), w)) ∨
    (∃ i j it sp s, D.its[i]? = some it ∧ it.nm = z ∧ sps[i]? = some sp ∧ numI D.its z = i ∧ lagW[j]? = some w ∧ sp[j]? = some s ∧ lookE D sps z w = none ∧ lookS D sps z w = s ∧ ∀ q, narS D sps z w q = sps.set i (sp.set j q)) := by
  by_cases hz : z ∈ D.its.map Itm.nm
  · refine .inr ?_
    obtain ⟨it, hit, hn, _⟩ := findI_some hz
    have hit : D.its[numI D.its z]? = some it := hit
    have il := (List.getElem?_eq_some_iff.mp hit).1
    obtain ⟨sp, hsp⟩ : ∃ sp, sps[numI D.its z]? = some sp := ⟨_, List.getElem?_eq_getElem (by rw [ho.1]; exact il)⟩
    have g : sps.getD (numI D.its z) [] = sp := by rw [List.getD_eq_getElem?_getD, hsp]; rfl
    by_cases hw : w ∈ lagW.take sp.length
    · refine .inr ?_
      obtain ⟨j, hj⟩ := List.getElem?_of_mem hw
      rw [List.getElem?_take] at hj
      split at hj
      · rename_i jl
        obtain ⟨s, hs⟩ : ∃ s, sp[j]? = some s := ⟨_, List.getElem?_eq_getElem jl⟩
        have ij := idxL_of hj
        refine ⟨_, j, it, sp, s, hit, hn, hsp, rfl, hj, hs, ?_, ?_, fun q => ?_⟩
        · unfold lookE; rw [if_pos hz, g, if_pos hw]
        · unfold lookS; rw [g, ij, List.getD_eq_getElem?_getD, hs]; rfl
        · unfold narS; rw [g, ij]
      · cases hj
    · refine .inl ⟨_, it, sp, hit, hn, hsp, rfl, hw, ?_⟩
      unfold lookE; rw [if_pos hz, g, if_neg hw]
  · refine .inl ⟨hz, ?_⟩
    unfold lookE; rw [if_neg hz]
theorem nar_of {D : DayD} {sps : List (List (Int × Int))} {z w : Str} {lo hi : Int} {e : Str × Str} (h : lookE D sps z w = some e) : narE D sps z w lo hi = some e := by unfold narE; rw [h]
theorem nar_far {D : DayD} {sps : List (List (Int × Int))} {z w : Str} {lo hi : Int} {s : Int × Int} (h : lookE D sps z w = none) (hs : lookS D sps z w = s) (b : hi < lo ∨ lo < s.1 ∨ s.2 < hi) : narE D sps z w lo hi = some (("outside" : Str), w) := by
  unfold narE; rw [h, hs]; exact if_pos b
theorem nar_in {D : DayD} {sps : List (List (Int × Int))} {z w : Str} {lo hi : Int} {s : Int × Int} (h : lookE D sps z w = none) (hs : lookS D sps z w = s) (b : ¬ (hi < lo ∨ lo < s.1 ∨ s.2 < hi)) : narE D sps z w lo hi = none := by
  unfold narE; rw [h, hs]; exact if_neg b
theorem inB_f {x : Int} {s : Int × Int} : inB x s = false ↔ (x < s.1 ∨ s.2 < x) := by
  show (decide (s.1 ≤ x) && decide (x ≤ s.2)) = false ↔ _
  rw [Bool.and_eq_false_iff, decide_eq_false_iff_not, decide_eq_false_iff_not]
  omega
theorem inB_t {x : Int} {s : Int × Int} : inB x s = true ↔ ¬ (x < s.1 ∨ s.2 < x) := by
  rw [← inB_f, Bool.not_eq_false]
theorem refK_no {z : Str} : ∀ {zs : List Str} {as : List Addr}, z ∉ zs.take as.length → valV (refK zs as) (.inr z) = none
  | [], _, _ => rfl
  | _ :: _, [], _ => rfl
  | a :: r, b :: s, h => by
    have ne : ¬ (Sum.inr a : Key) = .inr z := fun e => h (by cases e; exact List.mem_cons_self)
    show valV ((.inr a, .ref b) :: refK r s) (.inr z) = none
    rw [valV_neg ne]
    exact refK_no fun m => h (List.mem_cons_of_mem _ m)
theorem why_dat {K : PySem.W.Frag} {X : List Addr} {H : Hp} {t : Addr} {k z : Str} (h : H t = some (.tup [.str k, .str z, .bl true, .bl true, .bl false, .bl false, .bl false])) : Dat K X H (.ref t) (whyD k z) := DatA.newT (.cons (.str _) (.cons (.str _) (.cons (.bl _) (.cons (.bl _) (.cons (.bl _) (.cons (.bl _) (.cons (.bl _) .nil))))))) h
theorem nar_why (k z : Str) (n : Nat) : Nar (n + 2) (whyD k z) := nar_tup (show 7 ≤ 1000000 by decide) fun d m => by
  simp only [List.mem_cons, List.not_mem_nil, or_false] at m
  rcases m with rfl | rfl | rfl | rfl | rfl | rfl | rfl <;> exact trivial
/-- a list of strs at any place -/
theorem w_ixZ {K : PySem.W.Frag} {H : Hp} {Q : VK} {l : Addr} {ss : List Str} {i : Int} (e : H l = some (.lst (ss.map V.str))) (h0 : 0 ≤ i) (h1 : i < ss.length) (h : ∀ z ∈ ss, Q (.str z) H) : rIx K (.ref l) (.int i) H Q := by
  obtain ⟨z, hz⟩ : ∃ z, ss[i.toNat]? = some z := ⟨_, List.getElem?_eq_getElem (by omega)⟩
  exact w_ixL (SqL.of e) (atI_of h0 (by rw [List.getElem?_map, hz]; rfl)) (h z (List.mem_of_getElem? hz))
def rIntB : List V → Hp → VK → Prop := fun xs H Q => match xs with
  | [.bl b] => Q (.int (if b then 1 else 0)) H
  | _ => False
theorem cIntB {X : Cx} : CallR X (.type "int") rIntB := by
  intro pins s σ H xs us Q I r h
  unfold rIntB at h
  split at h
  · exact call_int1 pins s σ H _ us Q I r (.inr ⟨_, rfl, h⟩)
  · exact h.elim
theorem w_intB {H : Hp} {Q : VK} {b : Bool} (h : ∀ n : Int, 0 ≤ n → n ≤ 1 → Q (.int n) H) : rIntB [.bl b] H Q := by
  cases b with
  | true => exact h 1 (by decide) (by decide)
  | false => exact h 0 (by decide) (by decide)
def errO (D : DayD) (sps : List (List (Int × Int))) (z w : Str) (lo hi n : Int) : Option (Str × Str) := if n = 2 then lookE D sps z w else narE D sps z w lo hi
def expD (D : DayD) (sps : List (List (Int × Int))) (z w : Str) (lo hi n : Int) : PyData := match errO D sps z w lo hi n with
  | some e => whyD e.1 e.2
  | none => if n = 2 then .list [.list [.int (lookS D sps z w).1, .int (lookS D sps z w).2]] else spansD (narS D sps z w (lo, hi))
theorem exp_why {D : DayD} {sps : List (List (Int × Int))} {z w : Str} {lo hi n : Int} {k x : Str} (h : errO D sps z w lo hi n = some (k, x)) : expD D sps z w lo hi n = whyD k x := by unfold expD; rw [h]
theorem err_look {D : DayD} {sps : List (List (Int × Int))} {z w : Str} {lo hi n : Int} {e : Str × Str} (h : lookE D sps z w = some e) : errO D sps z w lo hi n = some e := by
  unfold errO
  by_cases c : n = 2
  · rw [if_pos c]; exact h
  · rw [if_neg c]; exact nar_of h
theorem err_2 {D : DayD} {sps : List (List (Int × Int))} {z w : Str} {lo hi n : Int} (h : lookE D sps z w = none) (c : n = 2) : errO D sps z w lo hi n = none := by unfold errO; rw [if_pos c]; exact h
theorem err_4 {D : DayD} {sps : List (List (Int × Int))} {z w : Str} {lo hi n : Int} (c : ¬ n = 2) : errO D sps z w lo hi n = narE D sps z w lo hi := by unfold errO; exact if_neg c
theorem exp_2 {D : DayD} {sps : List (List (Int × Int))} {z w : Str} {lo hi n : Int} (h : errO D sps z w lo hi n = none) (c : n = 2) : expD D sps z w lo hi n = .list [.list [.int (lookS D sps z w).1, .int (lookS D sps z w).2]] := by unfold expD; rw [h]; exact if_pos c
theorem exp_4 {D : DayD} {sps : List (List (Int × Int))} {z w : Str} {lo hi n : Int} (h : errO D sps z w lo hi n = none) (c : ¬ n = 2) : expD D sps z w lo hi n = spansD (narS D sps z w (lo, hi)) := by unfold expD; rw [h]; exact if_neg c
theorem nm_at {its : List Itm} (nd : (its.map Itm.nm).Nodup) {i j : Nat} {a b : Itm} (h1 : its[i]? = some a) (h2 : its[j]? = some b) (e : a.nm = b.nm) : i = j := (List.getElem?_inj (by rw [List.length_map]; exact (List.getElem?_eq_some_iff.mp h1).1) nd).mp (by rw [List.getElem?_map, List.getElem?_map, h1, h2]; exact congrArg some e)
theorem w_idxS {K : PySem.W.Frag} {H : Hp} {Q : VK} {l : Addr} {ss : List Str} {z : Str} {j : Nat} (e : H l = some (.lst (ss.map V.str))) (nd : ss.Nodup) (hj : ss[j]? = some z) (h : Q (.int (j : Nat)) H) : rIndex K (.ref l) [.str z] H Q :=
  ⟨l, ss.map V.str, .str z, j, .str z, rfl, rfl, SqL.of e, rfl, List.all_eq_true.mpr fun x m => (by obtain ⟨s, _, rfl⟩ := List.mem_map.mp m; rfl), by rw [List.getElem?_map, hj]; rfl, beq_self_eq_true z, fun m z' hm hz => (by
    obtain ⟨s, hs, rfl⟩ := at_map hz
    show (s == z) = false
    refine beq_false_of_ne fun c => ?_
    rw [c] at hs
    have := (List.getElem?_inj (List.getElem?_eq_some_iff.mp hs).1 nd).mp (hs.trans hj.symm)
    omega), h⟩
theorem nar_sub {D : DayD} {sps : List (List (Int × Int))} {z w : Str} {lo hi : Int} (h : SubD D sps) (e : narE D sps z w lo hi = none) : SubD D (narS D sps z w (lo, hi)) := by
  rcases look_cases (D := D) (z := z) (w := w) h.len with ⟨hz, e2⟩ | ⟨i, it, sp, hit, rfl, hsp, hi_, hw, e2⟩ | ⟨i, j, it, sp, s, hit, rfl, hsp, hi_, hw, hs, e2, eS, eN⟩
  · rw [nar_of e2] at e; cases e
  · rw [nar_of e2] at e; cases e
  · rw [eN]
    have q : ¬ (hi < lo ∨ lo < s.1 ∨ s.2 < hi) := fun c => by rw [nar_far e2 eS c] at e; cases e
    exact h.set hsp hs (by show s.1 ≤ lo; omega) (by show lo ≤ hi; omega) (by show hi ≤ s.2; omega)
/-- outlooks and what a law knows of them -/
def Knows (K : PySem.W.Frag) (X : List Addr) (H : Hp) (D : DayD) : List Addr → List V → Prop := Each fun y u => ∃ sps, OutD K H y D sps ∧ Dat K X H u (spansD sps) ∧ SubD D sps
theorem Knows.keeps {K : PySem.W.Frag} {X : List Addr} {H H' : Hp} {D : DayD} {ys : List Addr} {us : List V} (h : Knows K X H D ys us) (k : Keeps X H H') : Knows K X H' D ys us := Each.mono h fun _ _ ⟨sps, o, d, s⟩ => ⟨sps, o.keeps k, d.keep k, s⟩
theorem look_at {D : DayD} {sps : List (List (Int × Int))} {i j : Nat} {it : Itm} {sp : List (Int × Int)} {w : Str} {s : Int × Int} (nd : (D.its.map Itm.nm).Nodup) (ho : Each (fun (sp : List (Int × Int)) it => sp.length = (lim D it).length) sps D.its) (hit : D.its[i]? = some it) (hsp : sps[i]? = some sp) (hw : lagW[j]? = some w) (hs : sp[j]? = some s) : lookE D sps it.nm w = none ∧ lookS D sps it.nm w = s := by
  rcases look_cases (z := it.nm) (w := w) ho with ⟨hz, _⟩ | ⟨i', it', sp', hit', hn', hsp', hi', hw', e⟩ | ⟨i', j', it', sp', s', hit', hn', hsp', hi', hw', hs', e, eS, _⟩
  · exact absurd (List.mem_map.mpr ⟨it, List.mem_of_getElem? hit, rfl⟩) hz
  · have ei := nm_at nd hit hit' hn'.symm
    subst ei
    rw [hsp] at hsp'
    cases hsp'
    exact absurd (List.mem_of_getElem? (show (lagW.take sp.length)[j]? = some w by rw [List.getElem?_take, if_pos (List.getElem?_eq_some_iff.mp hs).1, hw])) hw'
  · have ei := nm_at nd hit hit' hn'.symm
    subst ei
    rw [hsp] at hsp'
    cases hsp'
    have ej := (List.getElem?_inj (List.getElem?_eq_some_iff.mp hw).1 (by decide)).mp (hw.trans hw'.symm)
    subst ej
    rw [hs] at hs'
    cases hs'
    exact ⟨e, eS⟩
/-- f() -/
theorem pe_cg0 {X : Cx} {x : Str} {k : Nat} {sp : Sp} {p pos : Pos} (F : FnG X.prog X.w X.K X.mg X.base CX0 k x [] sp) (hr : Room k X.A) (hg : Gl X x) (h1 : (x == ("__debug__" : Str)) = false := by decide) : PE X (.Call (.Name x p) [] [] pos) (tCall sp [] E0 tNil) := by
  obtain ⟨f, fd, a, b, c, d⟩ := F.ex
  exact pe_call0 c hr hg a b d .nil pass0 h1
end Rd
local macro_rules | `(tactic| walk_at "len") => `(tactic| (simp only [List.length_append, List.length_cons, List.length_nil]; decide))
local macro_rules | `(tactic| walk_at "pool") => `(tactic| first | assumption | (refine' Rd.pool_drawn ?hd; (case hd => assumption)) | (refine' Rd.PoolAt.same ?hs ?hh; (case hs => assumption); (case hh => walk_at "pool")))
local macro_rules | `(tactic| walk_at "xat") => `(tactic| first | assumption | (refine' Rd.XcAt.same ?hs ?hh; (case hs => assumption); (case hh => walk_at "xat")))
local macro_rules | `(tactic| walk_at "same") => `(tactic| first | assumption | exact L2.Same.refl _ | (refine' L2.Same.trans ?ha ?hb; (case hb => assumption); (case ha => walk_at "same")))
local macro_rules | `(tactic| walk_at "drawn") => `(tactic| first | assumption | (refine' Rd.Drawn.refl ?hp; (case hp => walk_at "pool")) | (refine' Rd.Drawn.trans ?ha ?hb; (case hb => assumption); (case ha => walk_at "drawn")) | (refine' Rd.Drawn.same ?ha ?hb; (case hb => assumption); (case ha => walk_at "drawn")))
local macro_rules | `(tactic| walk_at "ne") => `(tactic| first | assumption | exact Ne.symm (by assumption) | omega | (refine' Rd.ne_pool ?hp ?hl; (case hl => assumption); (case hp => walk_at "pool")) | (refine' L2.ne_of_none ?hh ?hl; (case hl => assumption); (case hh => walk_at "hp")))
local macro_rules | `(tactic| walk_at "cls") => `(tactic| assumption)
local macro_rules | `(tactic| walk_at "hp") => `(tactic| first | assumption | exact L2.upd_same | (refine' (L2.upd_ne ?hn).trans ?hh; (case hn => walk_at "ne"); (case hh => walk_at "hp")) | (refine' Rd.sameAt ?hs ?hh; (case hs => assumption); (case hh => walk_at "hp")) | (refine' Rd.Drawn.tup ?hs ?hh; (case hs => assumption); (case hh => walk_at "hp")) | (refine' Rd.Drawn.ins ?hs ?hh; (case hs => assumption); (case hh => walk_at "hp")) | (refine' Rd.Drawn.lst ?hs ?hn ?hh; (case hs => assumption); (case hh => walk_at "hp"); (case hn => walk_at "ne")))
local macro_rules | `(tactic| walk_at "side") => `(tactic| first | assumption | (with_reducible rfl) | omega | exact rfl | decide)
local macro_rules | `(tactic| walk_at "mulside") => `(tactic| first | (left; left; constructor <;> omega) | (left; right; constructor <;> omega) | skip)
local macro_rules | `(tactic| walk_at "isb") => `(tactic| fail)
local macro_rules | `(tactic| walk_at "isb") => `(tactic| first
  | (with_reducible refine' Rd.w_neB_tf ?_)
  | (with_reducible refine' Rd.w_neB_ft ?_))
local macro_rules | `(tactic| walk_at "isb") => `(tactic| first
  | ((with_reducible refine' Rd.w_isT_tuple ?wa ?_); (case wa => assumption))
  | (with_reducible refine' Rd.w_neB_tt ?_)
  | (with_reducible refine' Rd.w_neB_ff ?_))
local macro_rules | `(tactic| walk_at "isb") => `(tactic| first
  | ((with_reducible refine' Rd.w_isT_str ?wa ?_); (case wa => assumption))
  | ((with_reducible refine' Rd.w_isT_dict ?wa ?_); (case wa => assumption))
  | ((with_reducible refine' Rd.w_isT_list ?wa ?_); (case wa => assumption)))
local macro_rules | `(tactic| walk_at "isb") => `(tactic| first
  | ((with_reducible refine' Rd.w_isb_tuple_tuple ?wa ?_); (case wa => walk_at "hp"))
  | ((with_reducible refine' Rd.w_isT_bool ?wa ?_); (case wa => assumption))
  | ((with_reducible refine' Rd.w_isT_int ?wa ?_); (case wa => assumption)))
local macro_rules | `(tactic| walk_at "isb") => `(tactic| first
  | ((with_reducible refine' Rd.w_isb_tuple_str ?wa ?_); (case wa => walk_at "hp"))
  | ((with_reducible refine' Rd.w_isb_tuple_dict ?wa ?_); (case wa => walk_at "hp"))
  | ((with_reducible refine' Rd.w_isb_tuple_list ?wa ?_); (case wa => walk_at "hp")))
local macro_rules | `(tactic| walk_at "isb") => `(tactic| first
  | ((with_reducible refine' Rd.w_isb_list_tuple ?wa ?_); (case wa => walk_at "hp"))
  | ((with_reducible refine' Rd.w_isb_tuple_bool ?wa ?_); (case wa => walk_at "hp"))
  | ((with_reducible refine' Rd.w_isb_tuple_int ?wa ?_); (case wa => walk_at "hp")))
local macro_rules | `(tactic| walk_at "isb") => `(tactic| first
  | ((with_reducible refine' Rd.w_isb_list_str ?wa ?_); (case wa => walk_at "hp"))
  | ((with_reducible refine' Rd.w_isb_list_dict ?wa ?_); (case wa => walk_at "hp"))
  | ((with_reducible refine' Rd.w_isb_list_list ?wa ?_); (case wa => walk_at "hp")))
local macro_rules | `(tactic| walk_at "isb") => `(tactic| first
  | (with_reducible refine' Rd.w_isb_str_tuple ?_)
  | ((with_reducible refine' Rd.w_isb_list_bool ?wa ?_); (case wa => walk_at "hp"))
  | ((with_reducible refine' Rd.w_isb_list_int ?wa ?_); (case wa => walk_at "hp")))
local macro_rules | `(tactic| walk_at "isb") => `(tactic| first
  | (with_reducible refine' Rd.w_isb_str_str ?_)
  | (with_reducible refine' Rd.w_isb_str_dict ?_)
  | (with_reducible refine' Rd.w_isb_str_list ?_))
local macro_rules | `(tactic| walk_at "isb") => `(tactic| first
  | (with_reducible refine' Rd.w_isb_int_tuple ?_)
  | (with_reducible refine' Rd.w_isb_str_bool ?_)
  | (with_reducible refine' Rd.w_isb_str_int ?_))
local macro_rules | `(tactic| walk_at "isb") => `(tactic| first
  | (with_reducible refine' Rd.w_isb_int_str ?_)
  | (with_reducible refine' Rd.w_isb_int_dict ?_)
  | (with_reducible refine' Rd.w_isb_int_list ?_))
local macro_rules | `(tactic| walk_at "isb") => `(tactic| first
  | (with_reducible refine' Rd.w_isb_bool_dict ?_)
  | (with_reducible refine' Rd.w_isb_bool_list ?_)
  | (with_reducible refine' Rd.w_isb_bool_tuple ?_))
local macro_rules | `(tactic| walk_at "isb") => `(tactic| first
  | (with_reducible refine' Rd.w_isb_bool_bool ?_)
  | (with_reducible refine' Rd.w_isb_bool_int ?_)
  | (with_reducible refine' Rd.w_isb_bool_str ?_))
local macro_rules | `(tactic| walk_at "isb") => `(tactic| first
  | (with_reducible refine' Rd.w_isb_NoneType_dict ?_)
  | (with_reducible refine' Rd.w_isb_NoneType_list ?_)
  | (with_reducible refine' Rd.w_isb_NoneType_tuple ?_))
local macro_rules | `(tactic| walk_at "isb") => `(tactic| first
  | (with_reducible refine' Rd.w_isb_NoneType_bool ?_)
  | (with_reducible refine' Rd.w_isb_NoneType_int ?_)
  | (with_reducible refine' Rd.w_isb_NoneType_str ?_))
local macro_rules | `(tactic| walk_at "rd1") => `(tactic| fail)
local macro_rules | `(tactic| walk_at "rd1") => `(tactic| first
  | walk_at "isb")
local macro_rules | `(tactic| walk_at "rd1") => `(tactic| first
  | (with_reducible refine' Rd.w_kco ?_)
  | (with_reducible refine' Rd.w_dcI ?_)
  | (with_reducible refine' Rd.w_kdck ?_))
local macro_rules | `(tactic| walk_at "rd1") => `(tactic| first
  | (with_reducible refine' Rd.w_bm0 ?_)
  | (with_reducible refine' Rd.w_dcT ?_)
  | (with_reducible refine' Rd.w_callO ?_))
local macro_rules | `(tactic| walk_at "rd1") => `(tactic| first
  | (with_reducible refine' Rd.w_lcZ2 ?_)
  | (with_reducible refine' Rd.w_lvals ?_)
  | (with_reducible refine' Rd.w_kds0 ?_))
local macro_rules | `(tactic| walk_at "rd1") => `(tactic| first
  | (with_reducible refine' Rd.w_xkE ?_)
  | (with_reducible refine' Rd.w_forZ2 ?_)
  | (with_reducible refine' Rd.w_forZ3 ?_))
local macro_rules | `(tactic| walk_at "rd1") => `(tactic| first
  | (with_reducible refine' Rd.w_dput ?_)
  | (with_reducible refine' Rd.w_kdp1 ?_)
  | (with_reducible refine' Rd.w_kdp2 ?_))
local macro_rules | `(tactic| walk_at "rd1") => `(tactic| first
  | (with_reducible refine' Rd.w_xv ?_)
  | (with_reducible refine' Rd.w_dix ?_)
  | (with_reducible refine' Rd.w_kdx1 ?_))
local macro_rules | `(tactic| walk_at "rd1") => `(tactic| first
  | (with_reducible refine' Rd.w_kmk1 ?_)
  | (with_reducible refine' Rd.w_ksup2 ?_)
  | (with_reducible refine' Rd.w_notInS ?_))
local macro_rules | `(tactic| walk_at "rd1") => `(tactic| first
  | (with_reducible refine' Rd.w_kchk ?_)
  | (with_reducible refine' Rd.w_kchs ?_)
  | (with_reducible refine' Rd.w_klk1 ?_))
local macro_rules | `(tactic| walk_at "rd1") => `(tactic| first
  | (with_reducible refine' Rd.w_m0 ?_)
  | (with_reducible refine' Rd.w_km0 ?_)
  | (with_reducible refine' Rd.w_chN ?_))
local macro_rules | `(tactic| walk_at "rd1") => `(tactic| first
  | ((with_reducible refine' Rd.w_kpr ?wa ?_); (case wa => walk_at "hp"))
  | (with_reducible refine' Rd.w_methA ?_)
  | (with_reducible refine' Rd.w_kma2 ?_))
local macro_rules | `(tactic| walk_at "rd1") => `(tactic| first
  | (with_reducible refine' Rd.w_mkK ?_)
  | (with_reducible refine' Rd.w_mkKS ?_)
  | (with_reducible refine' Rd.w_prop ?_))
local macro_rules | `(tactic| walk_at "rd1") => `(tactic| first
  | (with_reducible refine' Rd.w_lcS ?_)
  | (with_reducible refine' Rd.w_find ?_)
  | (with_reducible refine' Rd.w_inS ?_))
local macro_rules | `(tactic| walk_at "rd1") => `(tactic| first
  | (with_reducible refine' Rd.w_km1 ?_)
  | (with_reducible refine' Rd.w_km2 ?_)
  | (with_reducible refine' Rd.w_forS ?_))
local macro_rules | `(tactic| walk_at "rd1") => `(tactic| first
  | ((with_reducible refine' Rd.w_ixT (L2.SqT.of ?wa) ?wb ?_); (case wa => walk_at "hp"); (case wb => exact rfl))
  | ((with_reducible refine' Rd.w_kbmL ?wa ?_); (case wa => walk_at "hp"))
  | (with_reducible refine' Rd.w_m1 ?_))
local macro_rules | `(tactic| walk_at "rd1") => `(tactic| first
  | ((with_reducible refine' Rd.w_ixMT (L2.SqT.of ?wa) ?wb ?wc ?_); (case wa => walk_at "hp"); (case wb => omega); (case wc => omega))
  | ((with_reducible refine' Rd.w_lenT2 (L2.SqT.of ?wa) ?_); (case wa => walk_at "hp"))
  | ((with_reducible refine' Rd.w_lenT (L2.SqT.of ?wa) ?_); (case wa => walk_at "hp")))
local macro_rules | `(tactic| walk_at "rd1") => `(tactic| first
  | (with_reducible refine' Rd.w_lcT ?_)
  | (with_reducible refine' Rd.w_lcE ?_)
  | ((with_reducible refine' Rd.w_lenMT (L2.SqT.of ?wa) ?_); (case wa => walk_at "hp")))
local macro_rules | `(tactic| walk_at "rd1") => `(tactic| first
  | (with_reducible refine' Rd.w_lcR1 ?_)
  | (with_reducible refine' Rd.w_lcR2 ?_)
  | (with_reducible refine' Rd.w_lcL ?_))
local macro_rules | `(tactic| walk_at "rd1") => `(tactic| first
  | (with_reducible refine' Rd.w_forL ?_)
  | (with_reducible refine' Rd.w_forT ?_)
  | (with_reducible refine' Rd.w_forE ?_))
local macro_rules | `(tactic| walk_at "rd1") => `(tactic| first
  | (with_reducible refine' Rd.w_lcEA ?_)
  | (with_reducible refine' Rd.w_forR1 ?_)
  | (with_reducible refine' Rd.w_forR2 ?_))
local macro_rules | `(tactic| walk_at "rd1") => `(tactic| first
  | (with_reducible refine' Rd.w_ckw ?_)
  | (with_reducible refine' Rd.w_kkw1 ?_)
  | (with_reducible refine' Rd.w_kkw2 ?_))
local macro_rules | `(tactic| walk_at "rd1") => `(tactic| first
  | (with_reducible refine' Rd.w_cont ?_)
  | (with_reducible refine' Rd.w_retN ?_)
  | (with_reducible refine' Rd.w_forEA ?_))
local macro_rules | `(tactic| walk_at "rd1") => `(tactic| first
  | (with_reducible refine' Rd.w_revL ?_)
  | (with_reducible refine' Rd.w_next ?_)
  | (with_reducible refine' Rd.w_brk ?_))
local macro_rules | `(tactic| walk_at "rd1") => `(tactic| first
  | (with_reducible refine' Rd.w_augSub ?_)
  | (with_reducible refine' Rd.w_kwh_t ?_)
  | (with_reducible refine' Rd.w_kwh_f ?_))
local macro_rules | `(tactic| walk_at "rd1") => `(tactic| first
  | (with_reducible refine' Rd.w_kand_nf ?_)
  | (with_reducible refine' Rd.w_kasgT ?_)
  | (with_reducible refine' Rd.w_augAdd ?_))
local macro_rules | `(tactic| walk_at "rd1") => `(tactic| first
  | (with_reducible refine' Rd.w_kor_nt ?_)
  | (with_reducible refine' Rd.w_kor_nf ?_)
  | (with_reducible refine' Rd.w_kand_nt ?_))
local macro_rules | `(tactic| walk_at "rd1") => `(tactic| first
  | (with_reducible refine' Rd.w_binS ?_)
  | (with_reducible refine' Rd.w_kbin1 ?_)
  | ((with_reducible refine' Rd.w_kbin2 ?wa ?wb ?_); (case wa => walk_at "hp"); (case wb => walk_at "hp")))
local macro_rules | `(tactic| walk_at "rd1") => `(tactic| first
  | (with_reducible refine' Rd.w_forRv ?_)
  | (with_reducible refine' Rd.w_stS ?_)
  | (with_reducible refine' Rd.w_kst ?_))
local macro_rules | `(tactic| walk_at "rd1") => `(tactic| first
  | ((with_reducible refine' Rd.w_aug ?wv ?_); (case wv => exact rfl))
  | (with_reducible refine' Rd.w_kasgU ?_)
  | (with_reducible refine' Rd.w_forZA ?_))
local macro_rules | `(tactic| walk_at "rd1") => `(tactic| first
  | ((with_reducible refine' Rd.w_pow (k := 1000000000000000000) ?wa ?wb ?_); (case wa => exact ⟨by decide, by decide, by decide⟩); (case wb => exact (by decide : (10 : Int) ^ (18 : Int).toNat = 1000000000000000000)))
  | ((with_reducible refine' Rd.w_pow (k := 1000000000) ?wa ?wb ?_); (case wa => exact ⟨by decide, by decide, by decide⟩); (case wb => exact (by decide : (10 : Int) ^ (9 : Int).toNat = 1000000000)))
  | (with_reducible refine' Rd.w_ifE ?_))
local macro_rules | `(tactic| walk_at "rd1") => `(tactic| first
  | ((with_reducible refine' Rd.w_ksf2 ?wa ?wb ?wc ?wd ?_); (case wa => walk_at "hp"); (case wb => walk_at "cls"); (case wc => walk_at "cls"); (case wd => exact Nat.le_of_ble_eq_true rfl))
  | ((with_reducible refine' Rd.w_kmeth ?wa ?wb ?_); (case wa => walk_at "hp"); (case wb => exact rfl))
  | ((with_reducible refine' Rd.w_div ?wa ?_); (case wa => first | exact Rd.Small.div (by assumption) (by omega) | exact L2.wide_div (b := 64) (by omega) (by omega) (by decide) (by decide))))
local macro_rules | `(tactic| walk_at "rd1") => `(tactic| first
  | ((with_reducible refine' Rd.w_ixM (L2.SqL.of ?wa) ?wb ?wc ?_); (case wa => walk_at "hp"); (case wb => omega); (case wc => omega))
  | ((with_reducible refine' Rd.w_lenL (L2.SqL.of ?wa) ?_); (case wa => walk_at "hp"))
  | ((with_reducible refine' Rd.w_kfld ?wa ?wb ?wc ?wd ?_); (case wa => walk_at "hp"); (case wb => walk_at "cls"); (case wc => walk_at "cls"); (case wd => first | exact rfl | assumption)))
local macro_rules | `(tactic| walk_at "rd1") => `(tactic| first
  | ((with_reducible refine' Rd.w_ixL (L2.SqL.of ?wa) ?wb ?_); (case wa => walk_at "hp"); (case wb => exact rfl))
  | ((with_reducible refine' Rd.w_ksubL ?wa ?wb ?_); (case wa => walk_at "hp"); (case wb => exact rfl))
  | ((with_reducible refine' Rd.w_lenM (L2.SqL.of ?wa) ?_); (case wa => walk_at "hp")))
local macro_rules | `(tactic| walk_at "rd1") => `(tactic| first
  | (with_reducible refine' Rd.w_isi_bool ?_)
  | (with_reducible refine' Rd.w_two ?_)
  | (with_reducible refine' Rd.w_one ?_))
local macro_rules | `(tactic| walk_at "rd1") => `(tactic| first
  | (with_reducible refine' Rd.w_kpar ?_)
  | (with_reducible refine' Rd.w_int ?_)
  | (with_reducible refine' Rd.w_isi_int ?_))
local macro_rules | `(tactic| walk_at "rd1") => `(tactic| first
  | (with_reducible refine' Rd.w_bm ?_)
  | (with_reducible refine' Rd.w_kbm2 ?_)
  | (with_reducible refine' Rd.w_par ?_))
local macro_rules | `(tactic| walk_at "rd1") => `(tactic| first
  | (with_reducible refine' Rd.w_ch2 ?_)
  | (with_reducible refine' Rd.w_tru ?_)
  | (with_reducible refine' Rd.w_ktru_b ?_))
local macro_rules | `(tactic| walk_at "rd1") => `(tactic| first
  | (with_reducible refine' Rd.w_kun ?_)
  | (with_reducible refine' Rd.w_ch ?_)
  | (with_reducible refine' Rd.w_ch1 ?_))
local macro_rules | `(tactic| walk_at "rd1") => `(tactic| first
  | (with_reducible refine' Rd.w_ksub ?_)
  | (with_reducible refine' Rd.w_ksub1 ?_)
  | (with_reducible refine' Rd.w_un ?_))
local macro_rules | `(tactic| walk_at "rd1") => `(tactic| first
  | (with_reducible refine' Rd.w_make ?_)
  | (with_reducible refine' Rd.w_mko ?_)
  | (with_reducible refine' Rd.w_mkS ?_))
local macro_rules | `(tactic| walk_at "rd1") => `(tactic| first
  | (with_reducible refine' Rd.w_ksf1 ?_)
  | (with_reducible refine' Rd.w_meth ?_)
  | (with_reducible refine' Rd.w_kmeth2 ?_))
local macro_rules | `(tactic| walk_at "rd1") => `(tactic| first
  | (with_reducible refine' Rd.w_tup ?_)
  | (with_reducible refine' Rd.w_fld ?_)
  | (with_reducible refine' Rd.w_sfld ?_))
local macro_rules | `(tactic| walk_at "rd1") => `(tactic| first
  | (with_reducible refine' Rd.w_call ?_)
  | (with_reducible refine' Rd.w_kcall ?_)
  | (with_reducible refine' Rd.w_lst ?_))
local macro_rules | `(tactic| walk_at "rd1") => `(tactic| first
  | (with_reducible refine' Rd.w_kcons2 ?_)
  | (with_reducible refine' Rd.w_cb ?_)
  | (with_reducible refine' Rd.w_kcb ?_))
local macro_rules | `(tactic| walk_at "rd1") => `(tactic| first
  | (with_reducible refine' Rd.w_nil ?_)
  | (with_reducible refine' Rd.w_cons ?_)
  | (with_reducible refine' Rd.w_kcons1 ?_))
local macro_rules | `(tactic| walk_at "rd1") => `(tactic| first
  | (with_reducible refine' Rd.w_notN_n ?_)
  | (with_reducible refine' Rd.w_notN_i ?_)
  | (with_reducible refine' Rd.w_notN_r ?_))
local macro_rules | `(tactic| walk_at "rd1") => `(tactic| first
  | (with_reducible refine' Rd.w_isN_r ?_)
  | (with_reducible refine' Rd.w_isN_b ?_)
  | (with_reducible refine' Rd.w_isN_s ?_))
local macro_rules | `(tactic| walk_at "rd1") => `(tactic| first
  | (with_reducible refine' Rd.w_neS ?_)
  | (with_reducible refine' Rd.w_isN_n ?_)
  | (with_reducible refine' Rd.w_isN_i ?_))
local macro_rules | `(tactic| walk_at "rd1") => `(tactic| first
  | (with_reducible refine' Rd.w_eqI ?_)
  | (with_reducible refine' Rd.w_neI ?_)
  | (with_reducible refine' Rd.w_eqS ?_))
local macro_rules | `(tactic| walk_at "rd1") => `(tactic| first
  | (with_reducible refine' Rd.w_gt ?_)
  | (with_reducible refine' Rd.w_ge ?_)
  | (with_reducible refine' Rd.w_neg ?_))
local macro_rules | `(tactic| walk_at "rd1") => `(tactic| first
  | ((with_reducible refine' Rd.w_mod ?wm ?_); (case wm => first | omega | assumption))
  | (with_reducible refine' Rd.w_lt ?_)
  | (with_reducible refine' Rd.w_le ?_))
local macro_rules | `(tactic| walk_at "rd1") => `(tactic| first
  | (with_reducible refine' Rd.w_addI ?_)
  | (with_reducible refine' Rd.w_sub ?_)
  | ((with_reducible refine' Rd.w_mul ?wm ?_); (case wm => walk_at "mulside")))
local macro_rules | `(tactic| walk_at "rd1") => `(tactic| first
  | (with_reducible refine' Rd.w_kandV_f ?_)
  | (with_reducible refine' Rd.w_korV_t ?_)
  | (with_reducible refine' Rd.w_korV_f ?_))
local macro_rules | `(tactic| walk_at "rd1") => `(tactic| first
  | (with_reducible refine' Rd.w_knotV_f ?_)
  | (with_reducible refine' Rd.w_knotV ?_)
  | (with_reducible refine' Rd.w_kandV_t ?_))
local macro_rules | `(tactic| walk_at "rd1") => `(tactic| first
  | (with_reducible refine' Rd.w_orV ?_)
  | (with_reducible refine' Rd.w_notV ?_)
  | (with_reducible refine' Rd.w_knotV_t ?_))
local macro_rules | `(tactic| walk_at "rd1") => `(tactic| first
  | (with_reducible refine' Rd.w_kor_t ?_)
  | (with_reducible refine' Rd.w_kor_f ?_)
  | (with_reducible refine' Rd.w_andV ?_))
local macro_rules | `(tactic| walk_at "rd1") => `(tactic| first
  | (with_reducible refine' Rd.w_kif_f ?_)
  | (with_reducible refine' Rd.w_kand_t ?_)
  | (with_reducible refine' Rd.w_kand_f ?_))
local macro_rules | `(tactic| walk_at "rd1") => `(tactic| first
  | (with_reducible refine' Rd.w_knot ?_)
  | (with_reducible refine' Rd.w_kif_n ?_)
  | (with_reducible refine' Rd.w_kif_t ?_))
local macro_rules | `(tactic| walk_at "rd1") => `(tactic| first
  | (with_reducible refine' Rd.w_not ?_)
  | (with_reducible refine' Rd.w_knot_t ?_)
  | (with_reducible refine' Rd.w_knot_f ?_))
local macro_rules | `(tactic| walk_at "rd1") => `(tactic| first
  | (with_reducible refine' Rd.w_ktest ?_)
  | (with_reducible refine' Rd.w_and ?_)
  | (with_reducible refine' Rd.w_or ?_))
local macro_rules | `(tactic| walk_at "rd1") => `(tactic| first
  | (with_reducible refine' Rd.w_ifS ?_)
  | (with_reducible refine' Rd.w_test ?_)
  | (with_reducible refine' Rd.w_tB ?_))
local macro_rules | `(tactic| walk_at "rd1") => `(tactic| first
  | (with_reducible refine' Rd.w_ret ?_)
  | (with_reducible refine' Rd.w_drop ?_)
  | (with_reducible refine' Rd.w_kdrop ?_))
local macro_rules | `(tactic| walk_at "rd1") => `(tactic| first
  | (with_reducible refine' Rd.w_asg ?_)
  | (with_reducible refine' Rd.w_kname ?_)
  | (with_reducible refine' Rd.w_gname ?_))
local macro_rules | `(tactic| walk_at "rd1") => `(tactic| first
  | (with_reducible refine' Rd.w_op ?_)
  | (with_reducible refine' Rd.w_op1 ?_)
  | (with_reducible refine' Rd.w_op2 ?_))
local macro_rules | `(tactic| walk_at "rd1") => `(tactic| first
  | (with_reducible refine' Rd.w_seq ?_)
  | ((with_reducible refine' Rd.w_var ?wv ?_); (case wv => exact rfl))
  | (with_reducible refine' Rd.w_c ?_))
local macro_rules | `(tactic| walk_at "rd") => `(tactic| (walk_at "rd1"; repeat (walk_at "rd1")))
local macro_rules | `(tactic| walk_at "rs1") => `(tactic| fail)
local macro_rules | `(tactic| walk_at "rs1") => `(tactic| first
  | ((with_reducible refine' Rd.w_kwh (fun hc => ?_) (fun hc => ?_)) <;> try (exfalso; omega))
  | ((with_reducible refine' Rd.w_ch3 (fun hc => ?_) (fun hc => ?_)) <;> try (exfalso; omega)))
local macro_rules | `(tactic| walk_at "rs1") => `(tactic| first
  | ((with_reducible refine' Rd.w_kandV (fun hc => ?_) (fun hc => ?_)) <;> try (exfalso; omega))
  | ((with_reducible refine' Rd.w_korV (fun hc => ?_) (fun hc => ?_)) <;> try (exfalso; omega))
  | ((with_reducible refine' Rd.w_kifE (fun hc => ?_) (fun hc => ?_)) <;> try (exfalso; omega)))
local macro_rules | `(tactic| walk_at "rs1") => `(tactic| first
  | ((with_reducible refine' Rd.w_kor (fun hc => ?_) (fun hc => ?_)) <;> try (exfalso; omega))
  | ((with_reducible refine' Rd.w_kor_n (fun hc => ?_) (fun hc => ?_)) <;> try (exfalso; omega))
  | ((with_reducible refine' Rd.w_kand_n (fun hc => ?_) (fun hc => ?_)) <;> try (exfalso; omega)))
local macro_rules | `(tactic| walk_at "rs1") => `(tactic| first
  | ((with_reducible refine' Rd.w_klk2 (fun hc => ?_) (fun hc => ?_)) <;> try (exfalso; omega))
  | ((with_reducible refine' Rd.w_kif (fun hc => ?_) (fun hc => ?_)) <;> try (exfalso; omega))
  | ((with_reducible refine' Rd.w_kand (fun hc => ?_) (fun hc => ?_)) <;> try (exfalso; omega)))
local macro_rules | `(tactic| walk_at "ra") => `(tactic| repeat' (first | walk_at "rd1" | walk_at "rs1"))
local macro_rules | `(tactic| walk_at "rn1") => `(tactic| fail)
local macro_rules | `(tactic| walk_at "rn1") => `(tactic| first
  | (with_reducible refine' Rd.use_isint ?_)
  | ((with_reducible refine' Rd.use_take ?wp ?w0 ?ws (fun d H2 h0 h1 hd => ?_)); (case wp => walk_at "pool"); (case w0 => omega); (case ws => exact Rd.small_of (by omega))))
local macro_rules | `(tactic| walk_at "rn1") => `(tactic| first
  | ((with_reducible refine' Rd.w_gl3 (L2.SqL.of ?wa) ?_); (case wa => walk_at "hp"))
  | (with_reducible refine' Rd.w_methS ?_)
  | (with_reducible refine' Rd.w_unb ?_))
local macro_rules | `(tactic| walk_at "rn1") => `(tactic| first
  | ((with_reducible refine' Rd.w_gl2 (L2.SqL.of ?wa) ?_); (case wa => walk_at "hp"))
  | ((with_reducible refine' Rd.w_gt2 (L2.SqT.of ?wa) ?_); (case wa => walk_at "hp"))
  | ((with_reducible refine' Rd.w_gt3 (L2.SqT.of ?wa) ?_); (case wa => walk_at "hp")))
local macro_rules | `(tactic| walk_at "rn1") => `(tactic| first
  | ((with_reducible refine' Rd.n_usT ?wa (fun l H2 hs he => ?_)); (case wa => walk_at "hp"))
  | ((with_reducible refine' Rd.n_slL ?wa (fun l H2 hl hs he => ?_)); (case wa => walk_at "hp"))
  | ((with_reducible refine' Rd.n_ksubM ?wa ?wb ?wc ?_); (case wa => walk_at "hp"); (case wb => omega); (case wc => omega)))
local macro_rules | `(tactic| walk_at "rn1") => `(tactic| first
  | (with_reducible refine' Rd.w_sl3 ?_)
  | ((with_reducible refine' Rd.n_revL ?wa (fun l H2 hl hs he => ?_)); (case wa => walk_at "hp"))
  | ((with_reducible refine' Rd.n_usL ?wa (fun l H2 hl hs he => ?_)); (case wa => walk_at "hp")))
local macro_rules | `(tactic| walk_at "rn1") => `(tactic| first
  | (with_reducible refine' Rd.w_sl_l ?_)
  | (with_reducible refine' Rd.w_sl_ln ?_)
  | (with_reducible refine' Rd.w_sl_lu ?_))
local macro_rules | `(tactic| walk_at "rn1") => `(tactic| first
  | ((with_reducible refine' Rd.n_krg0 ?wo (fun l H2 hl hs he => ?_)); (case wo => exact ⟨by omega, by omega, by omega, by omega, by omega⟩))
  | (with_reducible refine' Rd.w_sl ?_)
  | (with_reducible refine' Rd.w_sl_u ?_))
local macro_rules | `(tactic| walk_at "rn1") => `(tactic| first
  | (with_reducible refine' Rd.w_lrg0 ?_)
  | (with_reducible refine' Rd.w_krg1 ?_)
  | ((with_reducible refine' Rd.n_krg2 ?wo (fun l H2 hl hs he => ?_)); (case wo => exact ⟨by omega, by omega, by omega, by omega, by omega⟩)))
local macro_rules | `(tactic| walk_at "rn1") => `(tactic| first
  | ((with_reducible refine' Rd.w_gl4 (L2.SqL.of ?wa) ?_); (case wa => walk_at "hp"))
  | (with_reducible refine' Rd.w_callS ?_)
  | (with_reducible refine' Rd.w_lrg ?_))
local macro_rules | `(tactic| walk_at "rn1") => `(tactic| first
  | (with_reducible refine' Rd.n_xv1 (fun l H2 hl hs he => ?_))
  | (with_reducible refine' Rd.n_xv2 (fun l H2 hl hs he => ?_))
  | ((with_reducible refine' Rd.w_kxk ?wx ?wc ?wn ?wl ?_); (case wx => walk_at "xat"); (case wc => assumption); (case wn => assumption); (case wl => exact rfl)))
local macro_rules | `(tactic| walk_at "rn1") => `(tactic| first
  | (with_reducible refine' Rd.w_disp1 (fun l H2 hl hs he => ?_))
  | ((with_reducible refine' Rd.w_klv ?wa (fun l H2 hl hs he => ?_)); (case wa => walk_at "hp"))
  | (with_reducible refine' Rd.n_xv0 (fun l H2 hl hs he => ?_)))
local macro_rules | `(tactic| walk_at "rn1") => `(tactic| first
  | ((with_reducible refine' Rd.w_xk ?wv ?wx ?wc ?wn ?wl ?_); (case wv => exact rfl); (case wx => walk_at "xat"); (case wc => assumption); (case wn => assumption); (case wl => exact rfl))
  | ((with_reducible refine' Rd.w_isxsV ?wx ?wc ?wt ?wn ?_); (case wx => walk_at "xat"); (case wc => assumption); (case wt => walk_at "hp"); (case wn => repeat' (first | exact True.intro | assumption | refine' And.intro ?_ ?_)))
  | (with_reducible refine' Rd.w_dnew (fun l H2 hl hs he => ?_)))
local macro_rules | `(tactic| walk_at "rn1") => `(tactic| first
  | ((with_reducible refine' Rd.n_tupT ?wa ?_); (case wa => walk_at "hp"))
  | ((with_reducible refine' Rd.w_isx ?wx ?wc ?wk ?_); (case wx => walk_at "xat"); (case wc => assumption); (case wk => assumption))
  | ((with_reducible refine' Rd.w_isxT ?wx ?wc ?wk ?_); (case wx => walk_at "xat"); (case wc => assumption); (case wk => assumption)))
local macro_rules | `(tactic| walk_at "rn1") => `(tactic| first
  | ((with_reducible refine' Rd.n_listL ?wa (fun l H2 hl hs he => ?_)); (case wa => walk_at "hp"))
  | ((with_reducible refine' Rd.n_listT ?wa (fun l H2 hl hs he => ?_)); (case wa => walk_at "hp"))
  | ((with_reducible refine' Rd.n_tupL ?wa (fun l H2 hl hs he => ?_)); (case wa => walk_at "hp")))
local macro_rules | `(tactic| walk_at "rn1") => `(tactic| first
  | ((with_reducible refine' Rd.n_klst ?wl (fun l H2 hl hs he => ?_)); (case wl => walk_at "len"))
  | ((with_reducible refine' Rd.n_ktup ?wl (fun l H2 hl hs he => ?_)); (case wl => walk_at "len"))
  | ((with_reducible refine' Rd.n_addL ?wa ?wb ?wl (fun l H2 hl hs he => ?_)); (case wa => walk_at "hp"); (case wb => walk_at "hp"); (case wl => walk_at "len")))
local macro_rules | `(tactic| walk_at "rw") => `(tactic| repeat' (first | walk_at "rd1" | walk_at "rn1" | walk_at "rs1"))
local macro_rules | `(tactic| walk_at "pp") => `(tactic| fail)
local macro_rules | `(tactic| walk_at "pp") => `(tactic| first
  | (refine' Rd.PairP.put ?pa ?pb; (case pb => walk_at "hp"); (case pa => walk_at "pp"))
  | (refine' Rd.PairP.keep ?pa ?pb; (case pb => assumption); (case pa => walk_at "pp"))
  | (refine' Rd.PairP.drawn ?pa ?pb; (case pb => assumption); (case pa => walk_at "pp")))
local macro_rules | `(tactic| walk_at "pp") => `(tactic| first
  | (refine' Rd.PairP.cut ?pa; (case pa => walk_at "pp"))
  | (refine' Rd.PairP.set ?pa ?pb trivial; (case pb => walk_at "hp"); (case pa => walk_at "pp"))
  | (refine' Rd.PairP.cons ?pa trivial ?pb; (case pa => walk_at "hp"); (case pb => walk_at "pp")))
local macro_rules | `(tactic| walk_at "pp") => `(tactic| first
  | assumption
  | exact Rd.PairP.nil
  | (refine' Rd.PairP.app ?pa ?pb; (case pa => walk_at "pp"); (case pb => walk_at "pp")))
local macro_rules | `(tactic| walk_at "free") => `(tactic| (refine' Rd.Drawn.free ?fa ?fb; (case fb => assumption); (case fa => walk_at "drawn")))
local macro_rules | `(tactic| walk_at "lb") => `(tactic| fail)
local macro_rules | `(tactic| walk_at "lb") => `(tactic| first
  | (refine' Rd.len_set ?la; (case la => walk_at "lb"))
  | exact Nat.le_refl _)
local macro_rules | `(tactic| walk_at "lb") => `(tactic| first
  | assumption
  | (refine' Rd.len_app ?la ?lb; (case la => walk_at "lb"); (case lb => walk_at "lb"))
  | (refine' Rd.len_cut ?la; (case la => walk_at "lb")))
local macro_rules | `(tactic| walk_at "lenb") => `(tactic| (refine' Nat.le_trans ?l1 ?l2; (case l1 => walk_at "lb"); (case l2 => exact Nat.le_of_ble_eq_true rfl)))
local macro_rules | `(tactic| walk_at "rx1") => `(tactic| fail)
local macro_rules | `(tactic| walk_at "rx1") => `(tactic| first
  | ((with_reducible refine' Rd.n_addA ?wa ?wb ?wl ?wm (fun l H2 hl hs he => ?_)); (case wa => walk_at "hp"); (case wb => walk_at "hp"); (case wl => walk_at "lenb"); (case wm => walk_at "lenb"))
  | ((with_reducible refine' Rd.use_draw0 ?wp ?wq (fun d H2 hq hd => ?_)); (case wp => walk_at "pool"); (case wq => exact trivial)))
local macro_rules | `(tactic| walk_at "rx1") => `(tactic| first
  | ((with_reducible refine' Rd.n_ixPair ?wp ?wa ?wb ?wc (fun t f l hv ht hr => ?_)); (case wa => walk_at "hp"); (case wp => walk_at "pp"); (case wb => omega); (case wc => omega))
  | ((with_reducible refine' Rd.n_ixMem ?wa ?wb ?wc (fun v hv => ?_)); (case wa => walk_at "hp"); (case wb => omega); (case wc => omega))
  | ((with_reducible refine' Rd.n_setAny ?wa ?wb ?wc ?_); (case wa => walk_at "hp"); (case wb => omega); (case wc => omega)))
local macro_rules | `(tactic| walk_at "rx") => `(tactic| repeat' (first | walk_at "rd1" | walk_at "rn1" | walk_at "rs1" | walk_at "rx1"))
local macro_rules | `(tactic| walk_at "sl") => `(tactic| first | assumption | exact Nat.le_refl _)
local macro_rules | `(tactic| walk_at "ble") => `(tactic| exact rfl)
local macro_rules | `(tactic| walk_at "rt1") => `(tactic| fail)
local macro_rules | `(tactic| walk_at "rt1") => `(tactic| first
  | ((with_reducible refine' Rd.n_lenS ?wa ?wl ?_); (case wa => walk_at "sl"); (case wl => walk_at "ble"))
  | ((with_reducible refine' Rd.n_slTo ?wa ?wl ?wb (fun s hs => ?_)); (case wa => walk_at "sl"); (case wl => walk_at "ble"); (case wb => omega))
  | ((with_reducible refine' Rd.n_slFrom ?wa ?wl ?wb (fun s hs => ?_)); (case wa => walk_at "sl"); (case wl => walk_at "ble"); (case wb => omega)))
local macro_rules | `(tactic| walk_at "rt1") => `(tactic| first
  | ((with_reducible refine' Rd.n_mulS (m := 200) ?wa ?wl ?wb ?wc (fun s hs => ?_)); (case wa => exact Nat.le_refl _); (case wl => omega); (case wb => omega); (case wc => walk_at "ble"))
  | ((with_reducible refine' Rd.n_mulS2 (m := 50) ?wa ?wl ?wb ?wc (fun s hs => ?_)); (case wa => exact Nat.le_refl _); (case wl => omega); (case wb => omega); (case wc => walk_at "ble"))
  | ((with_reducible refine' Rd.n_ixS ?wa ?wb ?wc ?wd ?we (fun c => ?_)); (case wa => first | assumption | exact rfl); (case wc => assumption); (case wb => omega); (case wd => walk_at "ble"); (case we => walk_at "ble")))
local macro_rules | `(tactic| walk_at "rt1") => `(tactic| first
  | ((with_reducible refine' Rd.n_upper ?wa ?wb (fun s hs => ?_)); (case wa => walk_at "sl"); (case wb => walk_at "ble"))
  | ((with_reducible refine' Rd.n_addS ?wa ?wb ?wl (fun s hq hs => ?_)); (case wa => walk_at "sl"); (case wb => walk_at "sl"); (case wl => walk_at "ble"))
  | ((with_reducible refine' Rd.n_mulS (m := 50) ?wa ?wl ?wb ?wc (fun s hs => ?_)); (case wa => exact Nat.le_refl _); (case wl => omega); (case wb => omega); (case wc => walk_at "ble")))
local macro_rules | `(tactic| walk_at "rt") => `(tactic| repeat' (first | walk_at "rd1" | walk_at "rn1" | walk_at "rs1" | walk_at "rt1"))
local macro_rules | `(tactic| walk_at "alls") => `(tactic| fail)
local macro_rules | `(tactic| walk_at "alls") => `(tactic| first
  | (refine' Rd.AllS.cons ?pa ?pb ?pc; (case pa => walk_at "sl"); (case pb => walk_at "ble"); (case pc => walk_at "alls")))
local macro_rules | `(tactic| walk_at "alls") => `(tactic| first
  | assumption
  | exact Rd.AllS.nil
  | (refine' Rd.AllS.app ?pa ?pb; (case pa => walk_at "alls"); (case pb => walk_at "alls")))
local macro_rules | `(tactic| walk_at "slen") => `(tactic| first | omega | exact Nat.le_of_ble_eq_true rfl | (refine' Nat.le_trans ?la ?lb; (case la => assumption); (case lb => exact Nat.le_of_ble_eq_true rfl)))
local macro_rules | `(tactic| walk_at "offX") => `(tactic| first | exact List.not_mem_nil | (simp only [List.mem_cons, List.not_mem_nil, or_false, not_or, not_false_eq_true]; repeat' (first | assumption | apply And.intro | exact Ne.symm (by assumption))))
local macro_rules | `(tactic| walk_at "dat") => `(tactic| fail)
local macro_rules | `(tactic| walk_at "dat") => `(tactic| first
  | (refine' Rd.DatA.newL ?dx ?dn ?dh; (case dh => walk_at "hp"); (case dn => walk_at "offX"); (case dx => walk_at "data")))
local macro_rules | `(tactic| walk_at "dat") => `(tactic| first
  | exact Rd.Dat.non
  | exact Rd.Dat.bl _
  | (refine' Rd.DatA.newT ?dx ?dh; (case dh => walk_at "hp"); (case dx => walk_at "data")))
local macro_rules | `(tactic| walk_at "dat") => `(tactic| first
  | assumption
  | exact Rd.Dat.int _
  | exact Rd.Dat.str _)
local macro_rules | `(tactic| walk_at "data") => `(tactic| first | assumption | exact Rd.DatA.nil | (refine' Rd.DatA.cons ?da ?db; (case da => walk_at "dat"); (case db => walk_at "data")))
local macro_rules | `(tactic| walk_at "rq1") => `(tactic| fail)
local macro_rules | `(tactic| walk_at "rq1") => `(tactic| first
  | ((with_reducible refine' Rd.w_lenT ?wa ?_); (case wa => assumption))
  | ((with_reducible refine' Rd.w_ixT ?wa ?wb ?_); (case wa => assumption); (case wb => exact rfl))
  | fail)
local macro_rules | `(tactic| walk_at "rq") => `(tactic| repeat' (first | walk_at "rd1" | walk_at "rn1" | walk_at "rs1" | walk_at "rq1"))
namespace My
open PySem PySem.Spec PyProof.Rows L2 Rd
section
variable {P : Program} {w : World} {K : PySem.W.Frag} {mg : Str → Option Value} {base : Heap}

theorem sc__law_is_int : FnScope ["_law_x"] ["_law_x"] (defScope (top 53)) := ⟨rfl, rfl, rfl, by decide +kernel, rfl, by decide +kernel, by decide +kernel⟩
theorem g__law_is_int (T : Tx fa fn xa fs P K mg) : FnG P w K mg base CX0 1 "_law_is_int" ["_law_x"] spIsInt := by
  obtain ⟨fd, F⟩ := T.says.def_ 0 (d := d__law_is_int) rfl
  have sc := sc__law_is_int
  refine ⟨_, fd, T.glo 3, F.kp, F.ok sc (fun vs H Q E h => ?len) (fun cdv A outer s H vs Q E hr h => ⟨_, PSs.nox (pss_one (ps_ret (pe_and (pe_callB cIsi (by rfl) (T.free 0) (by decide +kernel) (pa_cons (pv 0) (pa_cons (pe_bltn (v := .ty "int") (u := .type "int") rfl (T.free 2) (by decide +kernel) rfl) pa_nil))) (pe_one (pe_not (pe_callB cIsi (by rfl) (T.free 0) (by decide +kernel) (pa_cons (pv 0) (pa_cons (pe_bltn (v := .ty "bool") (u := .type "bool") rfl (T.free 1) (by decide +kernel) rfl) pa_nil)))))))), ?rd⟩), F.bindsN fun _ _ _ _ _ _ us hl => match us, hl with | [_], _ => rfl⟩
  case len =>
    obtain ⟨i, rfl, _⟩ := h
    rfl
  case rd =>
    obtain ⟨i, rfl, hQ⟩ := h
    show tRet _ ⟨_, _, _, _⟩ [some (.int i)] H
    try dsimp only [cxOf]
    walk_at "ra"
    exact hQ

end
end My
namespace My
open PySem PySem.Spec PyProof.Rows L2 Rd
section
variable {P : Program} {w : World} {K : PySem.W.Frag} {mg : Str → Option Value} {base : Heap}

theorem sc__law_pool : FnScope ["_law_script", "_law_seed", "_law_cell"] ["_law_script"] (defScope (top 54)) := ⟨rfl, rfl, rfl, by decide +kernel, rfl, by decide +kernel, by decide +kernel⟩
theorem g__law_pool (T : Tx fa fn xa fs P K mg) : FnG P w K mg base CX0 1 "_law_pool" ["_law_script"] (spPool K) := by
  obtain ⟨fd, F⟩ := T.says.def_ 1 (d := d__law_pool) rfl
  have sc := sc__law_pool
  refine ⟨_, fd, T.glo 5, F.kp, F.ok sc (fun vs H Q E h => ?len) (fun cdv A outer s H vs Q E hr h => ⟨_, PSs.nox (pss_cons (ps_set (i := 1) sc.nd rfl (by first | exact Or.inl rfl | exact Or.inr rfl) pe_int)
    (pss_cons (ps_for PassesOwn.never rfl (pi_list (pv 0)) (pg_name (i := 2) sc.nd rfl (by first | exact Or.inl rfl | exact Or.inr rfl)) (pss_one (ps_set (i := 1) sc.nd rfl (by first | exact Or.inl rfl | exact Or.inr rfl) (pe_op oMod (pe_callTy cInt (by rfl) (T.free 2) (by decide +kernel) (pa_cons (pe_op oAdd (pe_op oAdd (pe_op oMul (pv 1) pe_int) (pe_op oMul (pe_callTy cInt (by rfl) (T.free 2) (by decide +kernel) (pa_cons (pv 2) pa_nil)) pe_int)) pe_int) pa_nil)) pe_int))))
    (pss_one (ps_ret (pe_lst (pa_cons pe_int (pa_cons pe_int (pa_cons pe_int (pa_cons (pv 1) (pa_cons (pe_callTy cList (by rfl) (T.free 4) (by decide +kernel) (pa_cons (pv 0) pa_nil)) pa_nil)))))))))), ?rd⟩), F.bindsN fun _ _ _ _ _ _ us hl => match us, hl with | [_], _ => rfl⟩
  case len =>
    obtain ⟨a, ns, rfl, _⟩ := h
    rfl
  case rd =>
    obtain ⟨a, ns, rfl, hs, hQ⟩ := h
    show tSeq _ _ ⟨_, _, _, _⟩ [some (.ref a), none, none] H
    try dsimp only [cxOf]
    walk_at "rd"
    refine ⟨a, rfl, ⟨_, hs⟩, for_list (xs := ns.map V.int) (fun i σ H' => H' = H ∧ ∃ sd v, 0 ≤ sd ∧ sd < 2147483647 ∧ σ = [some (.ref a), some (.int sd), v]) ⟨rfl, 7, none, by decide, by decide, rfl⟩ ?_ ?_ ?_⟩
    · rintro i σ H' _ ⟨rfl, _⟩
      exact hs
    · rintro i x σ H' hx ⟨rfl, sd, v, h0, h1, rfl⟩
      obtain ⟨c, rfl⟩ : ∃ c : Int, x = .int c := by
        obtain ⟨c, _, e⟩ := List.mem_map.mp (List.mem_of_getElem? hx)
        exact ⟨c, e.symm⟩
      walk_at "ra"
      exact ⟨rfl, _, _, Int.emod_nonneg _ (by decide), Int.emod_lt_of_pos _ (by decide), rfl⟩
    · rintro σ H' ⟨rfl, sd, v, h0, h1, rfl⟩
      walk_at "ra"
      refine w_listL hs fun l hl => ?_
      walk_at "ra"
      refine w_klst (by walk_at "len") fun p hp => ?_
      have hpl : l ≠ p := fun e => by rw [e, upd_same] at hp; cases hp
      refine hQ p _ ?_ ?_ ?_
      · rw [upd_ne (Ne.symm hpl)] at hp; exact hp
      · intro b o hb
        have h1 : b ≠ l := ne_of_none hb hl
        have h2 : b ≠ p := fun e => by rw [e] at hb; rw [upd_ne (Ne.symm hpl), hb] at hp; cases hp
        rw [upd_ne h2, upd_ne h1]; exact hb
      · exact ⟨l, _, ns, upd_same, ⟨0, 0, 0, sd, rfl, by decide, by decide, h0, h1⟩, by rw [upd_ne hpl, upd_same], hpl⟩

end
end My
namespace My
open PySem PySem.Spec PyProof.Rows L2 Rd
section
variable {P : Program} {w : World} {K : PySem.W.Frag} {mg : Str → Option Value} {base : Heap}

theorem sc__law_take : FnScope ["_law_pool_here", "_law_size_here", "_law_cells", "_law_mixed", "_law_cell", "_law_digit"] ["_law_pool_here", "_law_size_here"] (defScope (top 55)) := ⟨rfl, rfl, rfl, by decide +kernel, rfl, by decide +kernel, by decide +kernel⟩
theorem g__law_take (T : Tx fa fn xa fs P K mg) : FnG P w K mg base CX0 1 "_law_take" ["_law_pool_here", "_law_size_here"] spTake := by
  obtain ⟨fd, F⟩ := T.says.def_ 2 (d := d__law_take) rfl
  have sc := sc__law_take
  refine ⟨_, fd, T.glo 7, F.kp, F.ok sc (fun vs H Q E h => ?len) (fun cdv A outer s H vs Q E hr h => ⟨_, PSs.nox (pss_cons (ps_set (i := 2) sc.nd rfl (by first | exact Or.inl rfl | exact Or.inr rfl) (pe_ix ix_seq (pv 0) pe_int (fun _ _ => rfl)))
    (pss_cons (ps_asg (pe_op oAdd (pe_ix ix_seq (pv 0) pe_int (fun _ _ => rfl)) pe_int) (pg_sub (pv 0) pe_int set_list))
    (pss_cons (ps_set (i := 3) sc.nd rfl (by first | exact Or.inl rfl | exact Or.inr rfl) (pe_op oMod (pe_callTy cInt (by rfl) (T.free 2) (by decide +kernel) (pa_cons (pe_op oAdd (pe_op oAdd (pe_op oMul (pe_ix ix_seq (pv 0) pe_int (fun _ _ => rfl)) pe_int) (pe_op oMul (pe_ix ix_seq (pv 0) pe_int (fun _ _ => rfl)) pe_int)) pe_int) pa_nil)) pe_int))
    (pss_cons (ps_if (PW.pt (pw_and (pt_cmpR op_eq (pe_ix ix_seq (pv 0) pe_int (fun _ _ => rfl)) pe_int (nomark _)) (pw_and1 (pt_cmpR oLt (pe_ix ix_seq (pv 0) pe_int (fun _ _ => rfl)) (pe_callB cLen (by rfl) (T.free 6) (by decide +kernel) (pa_cons (pv 2) pa_nil)) (nomark _))))) (pss_cons (ps_set (i := 4) sc.nd rfl (by first | exact Or.inl rfl | exact Or.inr rfl) (pe_callTy cInt (by rfl) (T.free 2) (by decide +kernel) (pa_cons (pe_ix ix_seq (pv 2) (pe_ix ix_seq (pv 0) pe_int (fun _ _ => rfl)) (fun _ _ => rfl)) pa_nil)))
    (pss_cons (ps_asg (pe_op oAdd (pe_ix ix_seq (pv 0) pe_int (fun _ _ => rfl)) pe_int) (pg_sub (pv 0) pe_int set_list))
    (pss_cons (ps_set (i := 3) sc.nd rfl (by first | exact Or.inl rfl | exact Or.inr rfl) (pe_op oMod (pe_callTy cInt (by rfl) (T.free 2) (by decide +kernel) (pa_cons (pe_op oAdd (pe_op oAdd (pe_op oMul (pv 4) pe_int) (pe_ix ix_seq (pv 0) pe_int (fun _ _ => rfl))) (pe_op oMul (pe_ix ix_seq (pv 0) pe_int (fun _ _ => rfl)) pe_int)) pa_nil)) pe_int))
    (pss_one (ps_if (pt_cmpR oGe (pv 4) (pe_op oPow pe_int pe_int) (nomark _)) (pss_one (ps_asg (pv 4) (pg_sub (pv 0) pe_int set_list))) pss_nil))))) pss_nil)
    (pss_cons (ps_if (pt_cmpR oGt (pe_ix ix_seq (pv 0) pe_int (fun _ _ => rfl)) pe_int (nomark _)) (pss_cons (ps_set (i := 5) sc.nd rfl (by first | exact Or.inl rfl | exact Or.inr rfl) (pe_op oMod (pe_callTy cInt (by rfl) (T.free 2) (by decide +kernel) (pa_cons (pe_ix ix_seq (pv 0) pe_int (fun _ _ => rfl)) pa_nil)) (pv 1)))
    (pss_cons (ps_asg (pe_op oDiv (pe_ix ix_seq (pv 0) pe_int (fun _ _ => rfl)) (pv 1)) (pg_sub (pv 0) pe_int set_list))
    (pss_one (ps_ret (pv 5))))) pss_nil)
    (pss_cons (ps_set (i := 3) sc.nd rfl (by first | exact Or.inl rfl | exact Or.inr rfl) (pe_op oMod (pe_callTy cInt (by rfl) (T.free 2) (by decide +kernel) (pa_cons (pe_op oAdd (pe_op oMul (pv 3) pe_int) (pe_op oDiv (pv 3) pe_int)) pa_nil)) pe_int))
    (pss_one (ps_ret (pe_op oMod (pe_callTy cInt (by rfl) (T.free 2) (by decide +kernel) (pa_cons (pv 3) pa_nil)) (pv 1)))))))))), ?rd⟩), F.bindsN fun _ _ _ _ _ _ us hl => match us, hl with | [_, _], _ => rfl⟩
  case len =>
    obtain ⟨p, n, rfl, _⟩ := h
    rfl
  case rd =>
    obtain ⟨p, n, rfl, h0, hs, hp, hQ⟩ := h
    obtain ⟨q, l, ns, h1, ⟨a, b, c, s, rfl, ha, hb, hs0, hs1⟩, h3, h4⟩ := hp
    show tSeq _ _ ⟨_, _, _, _⟩ [some (.ref p), some (.int n), none, none, none, none] H
    try dsimp only [cxOf]
    walk_at "ra"
    all_goals repeat rw [upd_upd]
    all_goals (refine hQ _ _ (Int.emod_nonneg _ (by omega)) (Int.emod_lt_of_pos _ h0) (drawn_put h1 ⟨a, b, c, s, rfl, ha, hb, hs0, hs1⟩ h3 h4 ?_ ?_ ?_ ?_) <;> first | omega | exact Int.ediv_nonneg (by omega) (by omega))

end
end My
namespace My
open PySem PySem.Spec PyProof.Rows L2 Rd
section
variable {P : Program} {w : World} {K : PySem.W.Frag} {mg : Str → Option Value} {base : Heap}
abbrev spBig : Sp := spDraw 0 (fun _ => True) (fun _ d => 0 ≤ d ∧ d < 1000000000 ^ 3)
theorem sc__law_big : FnScope ["_law_pool_here", "_law_value", "_law_k"] ["_law_pool_here"] (defScope (top 56)) := ⟨rfl, rfl, rfl, by decide +kernel, rfl, by decide +kernel, by decide +kernel⟩
theorem g__law_big (T : Tx fa fn xa fs P K mg) : FnG P w K mg base CX0 2 "_law_big" ["_law_pool_here"] spBig := by
  obtain ⟨fd, F⟩ := T.says.def_ 3 (d := d__law_big) rfl
  have sc := sc__law_big
  refine ⟨_, fd, T.glo 9, F.kp, F.ok sc (fun vs H Q E h => ?len) (fun cdv A outer s H vs Q E hr h => ⟨_, PSs.nox (pss_cons (ps_set (i := 1) sc.nd rfl (by first | exact Or.inl rfl | exact Or.inr rfl) pe_int)
    (pss_cons (ps_for PassesOwn.never rfl (pi_range1 (by rfl) (T.free 8) (pa_cons pe_int pa_nil)) (pg_name (i := 2) sc.nd rfl (by first | exact Or.inl rfl | exact Or.inr rfl)) (pss_one (ps_set (i := 1) sc.nd rfl (by first | exact Or.inl rfl | exact Or.inr rfl) (pe_op oAdd (pe_op oMul (pv 1) (pe_op oPow pe_int pe_int)) (pe_cg (g__law_take T) (hr.mono (by decide)) rfl (pa_cons (pv 0) (pa_cons (pe_op oPow pe_int pe_int) pa_nil)))))))
    (pss_one (ps_ret (pv 1))))), ?rd⟩), F.bindsN fun _ _ _ _ _ _ us hl => match us, hl with | [_], _ => rfl⟩
  case len => exact spDraw_len h
  case rd =>
    obtain ⟨p, is, rfl, hl, _, hp, hQ⟩ := h
    obtain rfl := List.eq_nil_of_length_eq_zero hl
    show tSeq _ _ ⟨_, _, _, _⟩ [some (.ref p), none, none] H
    try dsimp only [cxOf]
    walk_at "rd"
    refine ⟨3, rfl, by decide, by decide, for_range (n := 3) (fun i σ H' => Drawn p H H' ∧ ∃ v x, 0 ≤ v ∧ v < 1000000000 ^ i ∧ σ = [some (.ref p), some (.int v), x]) ⟨Drawn.refl hp, 0, none, by decide, by decide, rfl⟩ ?_ ?_⟩
    · rintro i σ H' hi ⟨hd, v, x, h0, h1, rfl⟩
      walk_at "ra"
      refine use_take hd.pool (by decide) (small_of (by decide)) fun d H2 h2 h3 hd2 => ?_
      walk_at "ra"
      refine ⟨hd.trans hd2, _, _, ?_, ?_, rfl⟩
      · omega
      · rw [Int.pow_succ]; omega
    · rintro σ H' ⟨hd, v, x, h0, h1, rfl⟩
      walk_at "ra"
      exact hQ _ _ ⟨h0, h1⟩ hd

end
end My
namespace My
open PySem PySem.Spec PyProof.Rows L2 Rd
section
variable {P : Program} {w : World} {K : PySem.W.Frag} {mg : Str → Option Value} {base : Heap}
open NameM NumM SX
/-- the names that are drawn -/
def spNames : Sp := fun vs H Q _ => ∃ (p : Addr) (n : Int), vs = [.ref p, .int n] ∧ 0 ≤ n ∧ n ≤ 20 ∧ PoolAt H p ∧ ∀ (l : Addr) (ss : List Str) (H' : Hp), H l = none → Drawn p H H' → H' l = some (.lst (ss.map V.str)) → (ss.length : Int) = n → (∀ z ∈ ss, IsName z.cps.toList) → ss.Nodup → Q (.ref l) H'
theorem sc__law_names : FnScope ["_law_pool_here", "_law_many", "_law_letters", "_law_signs", "_law_alike", "_law_size_here", "_law_at", "_law_turn", "_law_names_here", "_law_k", "_law_text", "_law_j", "_law_word", "_law_t"] ["_law_pool_here", "_law_many"] (defScope (top 57)) := ⟨rfl, rfl, rfl, by decide +kernel, rfl, by decide +kernel, by decide +kernel⟩
theorem g__law_names (T : Tx fa fn xa fs P K mg) : FnG P w K mg base CX0 2 "_law_names" ["_law_pool_here", "_law_many"] spNames := by
  obtain ⟨fd, F⟩ := T.says.def_ 4 (d := d__law_names) rfl
  have sc := sc__law_names
  refine ⟨_, fd, T.glo 10, F.kp, F.ok sc (fun vs H Q E h => ?len) (fun cdv A outer s H vs Q E hr h => ⟨_, PSs.nox (pss_cons (ps_set (i := 2) sc.nd rfl (by first | exact Or.inl rfl | exact Or.inr rfl) pe_str)
    (pss_cons (ps_set (i := 3) sc.nd rfl (by first | exact Or.inl rfl | exact Or.inr rfl) (pe_op oAdd (pv 2) pe_str))
    (pss_cons (ps_set (i := 4) sc.nd rfl (by first | exact Or.inl rfl | exact Or.inr rfl) (pe_cg (g__law_take T) (hr.mono (by decide)) rfl (pa_cons (pv 0) (pa_cons pe_int pa_nil))))
    (pss_cons (ps_set (i := 5) sc.nd rfl (by first | exact Or.inl rfl | exact Or.inr rfl) (pe_op oAdd pe_int (pe_cg (g__law_take T) (hr.mono (by decide)) rfl (pa_cons (pv 0) (pa_cons pe_int pa_nil)))))
    (pss_cons (ps_set (i := 6) sc.nd rfl (by first | exact Or.inl rfl | exact Or.inr rfl) (pe_cg (g__law_take T) (hr.mono (by decide)) rfl (pa_cons (pv 0) (pa_cons (pv 5) pa_nil))))
    (pss_cons (ps_set (i := 7) sc.nd rfl (by first | exact Or.inl rfl | exact Or.inr rfl) (pe_cg (g__law_take T) (hr.mono (by decide)) rfl (pa_cons (pv 0) (pa_cons pe_int pa_nil))))
    (pss_cons (ps_set (i := 8) sc.nd rfl (by first | exact Or.inl rfl | exact Or.inr rfl) (pe_lst pa_nil))
    (pss_cons (ps_for PassesOwn.never rfl (pi_range1 (by rfl) (T.free 8) (pa_cons (pv 1) pa_nil)) (pg_name (i := 9) sc.nd rfl (by first | exact Or.inl rfl | exact Or.inr rfl)) (pss_cons (ps_set (i := 10) sc.nd rfl (by first | exact Or.inl rfl | exact Or.inr rfl) (pe_m1 PySem.F.slot_str_join PySem.F.type_str_join mJoin pe_str (pe_lc (own := [("_law_j", 11)]) rfl sc.nd (pi_range1 (by rfl) (T.free 8) (pa_cons (pv 5) pa_nil)) (blkOk_by (N := ["_law_pool_here", "_law_many", "_law_letters", "_law_signs", "_law_alike", "_law_size_here", "_law_at", "_law_turn", "_law_names_here", "_law_k", "_law_text", "_law_j", "_law_word", "_law_t"]) (sc := defScope (top 57)) (by decide +kernel)) (fun _ _ _ _ _ => (pg_name (i := 11) sc.nd rfl (by first | exact Or.inl rfl | exact Or.inr rfl))) (fun _ _ _ _ _ => pts_nil) (fun _ _ _ _ _ => (pe_ix (ix_seqK K rfl) (pv 2) (pe_op oMod (pe_callTy cInt (by rfl) (T.free 2) (by decide +kernel) (pa_cons (pe_op oAdd (pv 7) (pe_op oMul pe_int (pv 11))) pa_nil)) pe_int) (fun _ _ => rfl))))))
    (pss_cons (ps_set (i := 10) sc.nd rfl (by first | exact Or.inl rfl | exact Or.inr rfl) (pe_op oAdd (pe_op oAdd (pe_slice C8.sl_txt (pv 10) po_none (po_some (pv 6))) (pe_ix ix_seq (pv 2) (pe_op oMod (pe_callTy cInt (by rfl) (T.free 2) (by decide +kernel) (pa_cons (pe_op oAdd (pe_op oAdd (pv 7) (pe_op oMul pe_int (pv 9))) pe_int) pa_nil)) pe_int) (fun _ _ => rfl))) (pe_slice C8.sl_txt (pv 10) (po_some (pe_op oAdd (pv 6) pe_int)) po_none)))
    (C8.pss_cut (ps_if (pt_cmpR op_eq (pv 4) pe_int (nomark _)) (pss_cons (ps_set (i := 12) sc.nd rfl (by first | exact Or.inl rfl | exact Or.inr rfl) (pe_cg (g__law_take T) (hr.mono (by decide)) rfl (pa_cons (pv 0) (pa_cons pe_int pa_nil))))
    (pss_cons (ps_set (i := 10) sc.nd rfl (by first | exact Or.inl rfl | exact Or.inr rfl) (pe_ix ix_seq (pv 2) (pe_op oMod (pe_callTy cInt (by rfl) (T.free 2) (by decide +kernel) (pa_cons (pe_op oAdd (pv 7) (pv 12)) pa_nil)) pe_int) (fun _ _ => rfl)))
    (pss_one (ps_set (i := 10) sc.nd rfl (by first | exact Or.inl rfl | exact Or.inr rfl) (pe_op oAdd (pv 10) (pe_m1 PySem.F.slot_str_join PySem.F.type_str_join mJoin pe_str (pe_lc (own := [("_law_j", 11)]) rfl sc.nd (pi_range1 (by rfl) (T.free 8) (pa_cons (pe_op oMod (pe_callTy cInt (by rfl) (T.free 2) (by decide +kernel) (pa_cons (pv 12) pa_nil)) pe_int) pa_nil)) (blkOk_by (N := ["_law_pool_here", "_law_many", "_law_letters", "_law_signs", "_law_alike", "_law_size_here", "_law_at", "_law_turn", "_law_names_here", "_law_k", "_law_text", "_law_j", "_law_word", "_law_t"]) (sc := defScope (top 57)) (by decide +kernel)) (fun _ _ _ _ _ => (pg_name (i := 11) sc.nd rfl (by first | exact Or.inl rfl | exact Or.inr rfl))) (fun _ _ _ _ _ => pts_nil) (fun _ _ _ _ _ => (pe_ix (ix_seqK K rfl) (pv 3) (pe_op oMod (pe_callTy cInt (by rfl) (T.free 2) (by decide +kernel) (pa_cons (pe_op oAdd (pe_op oMul (pv 12) pe_int) (pe_op oMul pe_int (pv 11))) pa_nil)) pe_int) (fun _ _ => rfl)))))))))) pss_nil)
    (pss_cons (ps_for PassesOwn.never rfl (pi_range1 (by rfl) (T.free 8) (pa_cons pe_int pa_nil)) (pg_name (i := 13) sc.nd rfl (by first | exact Or.inl rfl | exact Or.inr rfl)) (pss_one (ps_if (pt_cmpR op_in_seq (pv 10) (pv 8) (by with_unfolding_all rfl)) (pss_one (ps_set (i := 10) sc.nd rfl (by first | exact Or.inl rfl | exact Or.inr rfl) (pe_op oAdd (pe_ix ix_seq (pv 2) (pe_op oMod (pe_callTy cInt (by rfl) (T.free 2) (by decide +kernel) (pa_cons (pe_op oAdd (pv 7) (pv 13)) pa_nil)) pe_int) (fun _ _ => rfl)) (pe_slice C8.sl_txt (pv 10) (po_some pe_int) po_none)))) pss_nil)))
    (pss_one (ps_expr (pe_bm PySem.F.plainAttrs_list PySem.F.slot_list_append PySem.F.type_list_append mt_append (pv 8) (pa_cons (pv 10) pa_nil)))))))))
    (pss_one (ps_ret (pv 8))))))))))), ?rd⟩), F.bindsN fun _ _ _ _ _ _ us hl => match us, hl with | [_, _], _ => rfl⟩
  case len =>
    obtain ⟨p, n, rfl, _⟩ := h
    rfl
  case rd =>
    obtain ⟨p, n, rfl, n0, n20, hp, hQ⟩ := h
    show tSeq _ _ ⟨_, _, _, _⟩ [some (.ref p), some (.int n), none, none, none, none, none, none, none, none, none, none, none, none] H
    try dsimp only [cxOf]
    have lets : ∀ (x : Int) (K : PySem.W.Frag) (H : Hp) (Q : VK), 0 ≤ x → x < 26 → Q (.str ⟨#[97 + x.toNat]⟩) H → rIx K (.str LET) (.int x) H Q := fun x K H Q h0 h1 q => w_ixS (show 26 ≤ sizeLine by decide) (atI_of h0 (let_at _ (by omega))) q
    have sigs : ∀ (x : Int) (K : PySem.W.Frag) (H : Hp) (Q : VK), 0 ≤ x → x < 36 → (∀ d, Sgn d → Q (.str ⟨#[d]⟩) H) → rIx K (.str SIG) (.int x) H Q := fun x K H Q h0 h1 q => by
      have hl : SIG.cps.toList.length = 36 := by decide +kernel
      have hx : SIG.cps.toList[x.toNat]? = some (SIG.cps.toList[x.toNat]'(by omega)) := List.getElem?_eq_getElem (by omega)
      exact w_ixS (show 36 ≤ sizeLine by decide) (atI_of h0 hx) (q _ (sig_sgn (List.mem_of_getElem? hx)))
    walk_at "rw"
    refine w_addS (show 36 ≤ sizeLine by decide) ?_
    walk_at "rw"
    rename_i al H1 a0 a1 d1 sz H2 s0 s1 d2 at_ H3 t0 t1 d3 tu H4 u0 u1 d4 l H5 hl s5 he
    have dl : Drawn p H H4 := by walk_at "drawn"
    have hlH : H l = none := dl.free hl
    have lp : l ≠ p := dl.ne hl
    have d5 : Drawn p H H5 := dl.same s5
    refine ⟨n, rfl, by omega, by omega, for_range (n := n.toNat) (fun i σ H' => ∃ (ss : List Str) (v1 v2 v3 v4 v5 : Option V), ss.length = i ∧ Drawn p H H' ∧ H' l = some (.lst (ss.map V.str)) ∧ (∀ z ∈ ss, IsName z.cps.toList) ∧ ss.Nodup ∧ σ = [some (.ref p), some (.int n), some (.str LET), some (.str SIG), some (.int al), some (.int (1 + sz)), some (.int at_), some (.int tu), some (.ref l), v1, v2, v3, v4, v5]) ⟨[], _, _, _, _, _, rfl, d5, he, (by intro z h; cases h), List.nodup_nil, rfl⟩ ?_ ?_⟩
    · rintro i σ H6 hi ⟨ss, v1, v2, v3, v4, v5, hss, d6, hl6, hn, nd, rfl⟩
      walk_at "rw"
      refine lc_R1 (goes_drawn d6.pool) (by omega) (by omega) (fun i acc => ∃ cs : List Nat, cs.length = i ∧ (∀ c ∈ cs, c ∈ LET.cps.toList) ∧ acc = cs.map fun c => V.str ⟨#[c]⟩) ⟨[], rfl, (by intro c h; cases h), rfl⟩ ?_ ?_
      · rintro D j acc H7 hD hj ⟨cs, hcs, hall, rfl⟩ d7 hat
        refine ⟨rfl, w_yes ?_⟩
        walk_at "rw"
        refine lets _ _ _ _ (Int.emod_nonneg _ (by decide)) (Int.emod_lt_of_pos _ (by decide)) ?_
        refine elt_done (goes_drawn d6.pool) hD hat (by rw [List.length_map]; omega) d7 ⟨cs ++ [97 + ((tu + 7 * (0 + (j : Int))) % 26).toNat], by rw [List.length_append, hcs]; rfl, fun c hc => (List.mem_append.mp hc).elim (hall c) (fun e => by rw [List.mem_singleton.mp e]; exact let_mem (by have := Int.emod_lt_of_pos (tu + 7 * (0 + (j : Int))) (show (0 : Int) < 26 by decide); omega)), by rw [List.map_append]; rfl⟩
      · rintro lj acc H7 hlj d7 hat ⟨cs, hcs, hall, rfl⟩
        walk_at "rw"
        refine n_joinOne hat (by omega) ?_
        have hcs' : cs.length = (1 + sz).toNat := hcs
        walk_at "rw"
        refine w_slS (by rw [S_len, sizeLine_eq]; omega) ?_
        rw [slice_to t0]
        walk_at "rw"
        refine lets _ _ _ _ (Int.emod_nonneg _ (by decide)) (Int.emod_lt_of_pos _ (by decide)) ?_
        walk_at "rw"
        have k1 := let_mem (k := ((tu + 3 * (0 + (i : Int)) + 1) % 26).toNat) (by have := Int.emod_lt_of_pos (tu + 3 * (0 + (i : Int)) + 1) (show (0 : Int) < 26 by decide); omega)
        generalize 97 + ((tu + 3 * (0 + (i : Int)) + 1) % 26).toNat = c1 at k1 ⊢
        refine w_addS (by rw [S_len, sizeLine_eq, List.length_take]; show _ + 1 ≤ _; omega) ?_
        rw [show (⟨#[c1]⟩ : Str) = S [c1] from rfl, S_cat]
        walk_at "rw"
        refine w_slS (by rw [S_len, sizeLine_eq]; omega) ?_
        rw [slice_from (by omega)]
        walk_at "rw"
        refine w_addS (by rw [S_len, S_len, sizeLine_eq, List.length_append, List.length_take, List.length_drop]; show _ + 1 + _ ≤ _; omega) ?_
        rw [S_cat]
        have nm : IsName (cs.take at_.toNat ++ [c1] ++ cs.drop (at_ + 1).toNat) := by
          refine name_lets ?_ ?_ fun c hc => ?_
          · rw [List.length_append, List.length_append, List.length_take, List.length_drop]; show 1 ≤ _ + 1 + _; omega
          · rw [List.length_append, List.length_append, List.length_take, List.length_drop]; show _ + 1 + _ ≤ _; omega
          · rcases List.mem_append.mp hc with h | h
            · rcases List.mem_append.mp h with h | h
              · exact hall c (List.mem_of_mem_take h)
              · rw [List.mem_singleton.mp h]; exact k1
            · exact hall c (List.mem_of_mem_drop h)
        generalize cs.take at_.toNat ++ [c1] ++ cs.drop (at_ + 1).toNat = t1 at nm ⊢
        have d67 : Drawn p H H7 := d6.trans d7
        have hl7 : H7 l = some (.lst (ss.map V.str)) := d7.lst lp hl6
        clear hall hcs hcs' k1 d7 hat hlj
        walk_at "rw"
        refine w_cut (fun σ' H' => ∃ (t : List Nat) (v3 v4 v5 : Option V), IsName t ∧ Drawn p H H' ∧ H' l = some (.lst (ss.map V.str)) ∧ σ' = [some (.ref p), some (.int n), some (.str LET), some (.str SIG), some (.int al), some (.int (1 + sz)), some (.int at_), some (.int tu), some (.ref l), some (.int (0 + (i : Int))), some (.str (S t)), v3, v4, v5]) ?_ ?_
        · walk_at "rw"
          · rename_i wd H8 w0 w1 d8
            refine lets _ _ _ _ (Int.emod_nonneg _ (by decide)) (Int.emod_lt_of_pos _ (by decide)) ?_
            have k1 := let_mem (k := ((tu + wd) % 26).toNat) (by have := Int.emod_lt_of_pos (tu + wd) (show (0 : Int) < 26 by decide); omega)
            generalize 97 + ((tu + wd) % 26).toNat = c1 at k1 ⊢
            have d68 := d67.trans d8
            have wm0 := Int.emod_nonneg wd (show (12 : Int) ≠ 0 by decide)
            have wm1 := Int.emod_lt_of_pos wd (show (0 : Int) < 12 by decide)
            walk_at "rw"
            refine lc_R1 (goes_drawn d68.pool) (by omega) (by omega) (fun i acc => ∃ cs : List Nat, cs.length = i ∧ (∀ c ∈ cs, Sgn c) ∧ acc = cs.map fun c => V.str ⟨#[c]⟩) ⟨[], rfl, (by intro c h; cases h), rfl⟩ ?_ ?_
            · rintro D j acc H9 hD hj ⟨cs2, hcs, hall, rfl⟩ d9 hat
              refine ⟨rfl, w_yes ?_⟩
              walk_at "rw"
              refine sigs _ _ _ _ (Int.emod_nonneg _ (by decide)) (Int.emod_lt_of_pos _ (by decide)) fun d hd => ?_
              exact elt_done (goes_drawn d68.pool) hD hat (by rw [List.length_map]; omega) d9 ⟨cs2 ++ [d], by rw [List.length_append, hcs]; rfl, fun c hc => (List.mem_append.mp hc).elim (hall c) (fun e => by rw [List.mem_singleton.mp e]; exact hd), by rw [List.map_append]; rfl⟩
            · rintro lj acc H9 hlj d9 hat ⟨cs2, hcs, hall, rfl⟩
              walk_at "rw"
              refine n_joinOne hat (by omega) ?_
              refine w_op2 (w_addS (by have := S_len cs2; rw [sizeLine_eq]; show 1 + _ ≤ _; omega) ?_)
              rw [show (⟨#[c1]⟩ : Str) = S [c1] from rfl, S_cat]
              walk_at "rw"
              exact ⟨c1 :: cs2, _, _, _, name_cons k1 hall (by omega), d68.trans d9, d9.lst lp (d8.lst lp hl7), rfl⟩
          · exact ⟨t1, _, _, _, nm, d67, hl7, rfl⟩
        · rintro σ' H8 ⟨t, v3', v4, v5, nt, d8, hl8, rfl⟩
          walk_at "rw"
          refine ⟨26, rfl, by decide, by decide, for_range (n := 26) (fun j σ H' => ∃ (z : Str) (v5 : Option V), Tries ss tu j z ∧ Drawn p H H' ∧ H' l = some (.lst (ss.map V.str)) ∧ σ = [some (.ref p), some (.int n), some (.str LET), some (.str SIG), some (.int al), some (.int (1 + sz)), some (.int at_), some (.int tu), some (.ref l), some (.int (0 + (i : Int))), some (.str z), v3', v4, v5]) ⟨S t, v5, .start nt, d8, hl8, rfl⟩ ?_ ?_⟩
          · rintro j σ H9 hj ⟨z, v6, tr, d9, hl9, rfl⟩
            have zl := tr.name.short
            have hin : ∀ Q : VK, Q (.bl (decide (z ∈ ss))) H9 → rIn K false (.str z) (.ref l) H9 Q := fun Q q => in_S (.inl (SqL.of hl9)) q
            walk_at "rw"
            refine hin _ ?_
            walk_at "rw"
            · rename_i hz
              refine lets _ _ _ _ (Int.emod_nonneg _ (by decide)) (Int.emod_lt_of_pos _ (by decide)) ?_
              walk_at "rw"
              refine w_slS (by rw [sizeLine_eq]; omega) ?_
              rw [← S_tl z, slice_from (by decide), show (1 : Int).toNat = 1 from rfl, List.drop_one]
              refine w_op2 (w_addS (by have e := S_len z.cps.toList.tail; rw [List.length_tail] at e; have := tr.name.1.2; rw [sizeLine_eq]; show 1 + _ ≤ _; omega) ?_)
              rw [show (⟨#[97 + ((tu + (0 + (j : Int))) % 26).toNat]⟩ : Str) = S [ltr tu (j : Int)] by rw [ltr, Int.zero_add], S_cat]
              walk_at "rw"
              exact ⟨_, _, tr.next hz, d9, hl9, rfl⟩
            · rename_i hz
              exact ⟨_, _, tr.stay hz, d9, hl9, rfl⟩
          · rintro σ H9 ⟨z, v6, tr, d9, hl9, rfl⟩
            have ni := tr.end_ (by omega)
            walk_at "rw"
            refine w_app hl9 (by rw [List.length_map, sizeLine_eq]; omega) ?_
            walk_at "rw"
            refine ⟨ss ++ [z], _, _, _, _, _, by rw [List.length_append, hss]; rfl, d9.put hlH, by rw [upd_same, List.map_append]; rfl, fun y hy => (List.mem_append.mp hy).elim (hn y) (fun e => by rw [List.mem_singleton.mp e]; exact tr.name), ?_, rfl⟩
            rw [List.nodup_append]
            exact ⟨nd, by simp, fun x hx y hy e => ni (by rw [List.mem_singleton.mp hy] at e; exact e ▸ hx)⟩
    · rintro σ H6 ⟨ss, v1, v2, v3, v4, v5, hss, d6, hl6, hn, nd, rfl⟩
      walk_at "rw"
      exact hQ l ss H6 hlH d6 hl6 (by omega) hn nd

end
end My
namespace My
open PySem PySem.Spec PyProof.Rows L2 Rd
section
variable {P : Program} {w : World} {K : PySem.W.Frag} {mg : Str → Option Value} {base : Heap}
def spLFirst : Sp := fun vs H Q _ => ∃ (s o t : Int), vs = [.int s, .int o, .int t] ∧ 1 ≤ s ∧ Q (.int (GridM.fb s o t)) H

theorem sc__law_first : FnScope ["_law_step", "_law_offset", "_law_tick"] ["_law_step", "_law_offset", "_law_tick"] (defScope (top 59)) := ⟨rfl, rfl, rfl, by decide +kernel, rfl, by decide +kernel, by decide +kernel⟩
theorem g__law_first (T : Tx fa fn xa fs P K mg) : FnG P w K mg base CX0 1 "_law_first" ["_law_step", "_law_offset", "_law_tick"] spLFirst := by
  obtain ⟨fd, F⟩ := T.says.def_ 5 (d := d__law_first) rfl
  have sc := sc__law_first
  refine ⟨_, fd, T.glo 11, F.kp, F.ok sc (fun vs H Q E h => ?len) (fun cdv A outer s H vs Q E hr h => ⟨_, PSs.nox (pss_one (ps_ret (pe_op oAdd (pv 2) (pe_op oMod (pe_callTy cInt (by rfl) (T.free 2) (by decide +kernel) (pa_cons (pe_op oSub (pv 1) (pv 2)) pa_nil)) (pv 0))))), ?rd⟩), F.bindsN fun _ _ _ _ _ _ us hl => match us, hl with | [_, _, _], _ => rfl⟩
  case len =>
    obtain ⟨s, o, t, rfl, _⟩ := h
    rfl
  case rd =>
    obtain ⟨s, o, t, rfl, h1, hQ⟩ := h
    show tRet _ ⟨_, _, _, _⟩ [some (.int s), some (.int o), some (.int t)] H
    try dsimp only [cxOf]
    walk_at "ra"
    exact hQ

end
end My
namespace My
open PySem PySem.Spec PyProof.Rows L2 Rd
section
variable {P : Program} {w : World} {K : PySem.W.Frag} {mg : Str → Option Value} {base : Heap}
abbrev spOpens : Sp := spDraw 0 (fun _ => True) (fun _ d => -1000000000000000000000000000 < d ∧ d < 1000000000000000000000000000)
theorem sc__law_opens : FnScope ["_law_pool_here", "_law_way"] ["_law_pool_here"] (defScope (top 60)) := ⟨rfl, rfl, rfl, by decide +kernel, rfl, by decide +kernel, by decide +kernel⟩
theorem g__law_opens (T : Tx fa fn xa fs P K mg) : FnG P w K mg base CX0 3 "_law_opens" ["_law_pool_here"] spOpens := by
  obtain ⟨fd, F⟩ := T.says.def_ 6 (d := d__law_opens) rfl
  have sc := sc__law_opens
  refine ⟨_, fd, T.glo 12, F.kp, F.ok sc (fun vs H Q E h => ?len) (fun cdv A outer s H vs Q E hr h => ⟨_, PSs.nox (pss_cons (ps_set (i := 1) sc.nd rfl (by first | exact Or.inl rfl | exact Or.inr rfl) (pe_cg (g__law_take T) (hr.mono (by decide)) rfl (pa_cons (pv 0) (pa_cons pe_int pa_nil))))
    (pss_cons (ps_if (pt_cmpR op_eq (pv 1) pe_int (nomark _)) (pss_one (ps_ret pe_int)) pss_nil)
    (pss_cons (ps_if (pt_cmpR op_eq (pv 1) pe_int (nomark _)) (pss_one (ps_ret (pe_op oSub (pe_cg (g__law_take T) (hr.mono (by decide)) rfl (pa_cons (pv 0) (pa_cons pe_int pa_nil))) pe_int))) pss_nil)
    (pss_cons (ps_if (pt_cmpR op_eq (pv 1) pe_int (nomark _)) (pss_one (ps_ret (pe_op oSub pe_int (pe_cg (g__law_big T) (hr.mono (by decide)) rfl (pa_cons (pv 0) pa_nil))))) pss_nil)
    (pss_one (ps_ret (pe_cg (g__law_big T) (hr.mono (by decide)) rfl (pa_cons (pv 0) pa_nil)))))))), ?rd⟩), F.bindsN fun _ _ _ _ _ _ us hl => match us, hl with | [_], _ => rfl⟩
  case len => exact spDraw_len h
  case rd =>
    obtain ⟨p, is, rfl, hl, _, hp, hQ⟩ := h
    obtain rfl := List.eq_nil_of_length_eq_zero hl
    show tSeq _ _ ⟨_, _, _, _⟩ [some (.ref p), none] H
    try dsimp only [cxOf]
    walk_at "rx"
    · exact hQ _ _ ⟨by decide, by decide⟩ (by walk_at "drawn")
    · exact hQ _ _ ⟨by omega, by omega⟩ (by walk_at "drawn")
    · rename_i hb hd
      obtain ⟨b0, b1⟩ := hb
      exact hQ _ _ ⟨by omega, by omega⟩ (by walk_at "drawn")
    · rename_i hb hd
      obtain ⟨b0, b1⟩ := hb
      exact hQ _ _ ⟨by omega, by omega⟩ (by walk_at "drawn")

end
end My
namespace My
open PySem PySem.Spec PyProof.Rows L2 Rd
section
variable {P : Program} {w : World} {K : PySem.W.Frag} {mg : Str → Option Value} {base : Heap}
open NameM
theorem fb_in {s o t : Int} (h : 1 ≤ s) : t ≤ GridM.fb s o t ∧ GridM.fb s o t < t + s := by
  have h1 := Int.emod_nonneg (o - t) (show s ≠ 0 by omega)
  have h2 := Int.emod_lt_of_pos (o - t) (show 0 < s by omega)
  show t ≤ t + (o - t) % s ∧ t + (o - t) % s < t + s
  omega
def ItsOf (ss : List Str) (its : List Itm) (i : Nat) (wide : Bool) (k0 : Int) : Prop := its.map Itm.nm = ss.take i ∧ (∀ t ∈ its, ItmOk t) ∧ plSum its ≤ (if wide = true then 12 else 3) * (i : Int) ∧ 0 ≤ plSum its ∧ plSum its ≤ 30 ∧ (pcCount its : Int) ≤ k0 ∧ ∀ t ∈ its, ItmB t
def spItems (K : PySem.W.Frag) : Sp := fun vs H Q _ => ∃ (p n : Addr) (ss : List Str) (now sp k0 : Int) (wide plain : Bool), vs = [.ref p, .ref n, .int now, .bl wide, .int sp, .bl plain, .int k0] ∧ PoolAt H p ∧ n ≠ p ∧ H n = some (.lst (ss.map V.str)) ∧ (∀ z ∈ ss, IsName z.cps.toList) ∧ ss.length ≤ 8 ∧ (wide = true → ss.length ≤ 3) ∧ (1 ≤ sp ∧ sp ≤ 9) ∧ 0 ≤ k0 ∧ (-(10 ^ 28) ≤ now ∧ now ≤ 10 ^ 28) ∧
  ∀ (l : Addr) (its : List Itm) (H' : Hp), H l = none → Drawn p H H' → Dat K [p] H' (.ref l) (.list (its.map Itm.dat)) → ItsOf ss its ss.length wide k0 → Q (.ref l) H'

theorem sc__law_items : FnScope ["_law_pool_here", "_law_names_here", "_law_now", "_law_wide", "_law_spread", "_law_plain", "_law_pieces", "_law_items_here", "_law_used", "_law_k", "_law_bar", "_law_shift", "_law_late", "_law_clock", "_law_start", "_law_low", "_law_cells", "_law_ticks", "_law_bars"] ["_law_pool_here", "_law_names_here", "_law_now", "_law_wide", "_law_spread", "_law_plain", "_law_pieces"] (defScope (top 61)) := ⟨rfl, rfl, rfl, by decide +kernel, rfl, by decide +kernel, by decide +kernel⟩
theorem g__law_items (T : Tx fa fn xa fs P K mg) : FnG P w K mg base CX0 3 "_law_items" ["_law_pool_here", "_law_names_here", "_law_now", "_law_wide", "_law_spread", "_law_plain", "_law_pieces"] (spItems K) := by
  obtain ⟨fd, F⟩ := T.says.def_ 7 (d := d__law_items) rfl
  have sc := sc__law_items
  refine ⟨_, fd, T.glo 14, F.kp, F.ok sc (fun vs H Q E h => ?len) (fun cdv A outer s H vs Q E hr h => ⟨_, PSs.nox (pss_cons (ps_set (i := 7) sc.nd rfl (by first | exact Or.inl rfl | exact Or.inr rfl) (pe_lst pa_nil))
    (pss_cons (ps_set (i := 8) sc.nd rfl (by first | exact Or.inl rfl | exact Or.inr rfl) pe_int)
    (pss_cons (ps_for PassesOwn.never rfl (pi_range1 (by rfl) (T.free 8) (pa_cons (pe_callB cLen (by rfl) (T.free 6) (by decide +kernel) (pa_cons (pv 1) pa_nil)) pa_nil)) (pg_name (i := 9) sc.nd rfl (by first | exact Or.inl rfl | exact Or.inr rfl)) (pss_cons (ps_set (i := 10) sc.nd rfl (by first | exact Or.inl rfl | exact Or.inr rfl) pe_int)
    (C8.pss_cut (ps_if (pt_not (pt_val (pv 5))) (pss_cons (ps_set (i := 10) sc.nd rfl (by first | exact Or.inl rfl | exact Or.inr rfl) (pe_ix ix_seq (pe_lst (pa_cons pe_int (pa_cons pe_int (pa_cons pe_int (pa_cons pe_int (pa_cons pe_int (pa_cons pe_int (pa_cons pe_int (pa_cons pe_int pa_nil))))))))) (pe_cg (g__law_take T) (hr.mono (by decide)) rfl (pa_cons (pv 0) (pa_cons pe_int pa_nil))) (fun _ _ => rfl)))
    (pss_one (ps_if (PW.pt (pw_and (pt_val (pv 3)) (pw_and1 (pt_cmpR op_eq (pv 10) pe_int (nomark _))))) (pss_one (ps_set (i := 10) sc.nd rfl (by first | exact Or.inl rfl | exact Or.inr rfl) (pe_op oAdd pe_int (pe_cg (g__law_big T) (hr.mono (by decide)) rfl (pa_cons (pv 0) pa_nil))))) pss_nil))) pss_nil)
    (pss_cons (ps_set (i := 11) sc.nd rfl (by first | exact Or.inl rfl | exact Or.inr rfl) (pe_cg (g__law_take T) (hr.mono (by decide)) rfl (pa_cons (pv 0) (pa_cons (pv 10) pa_nil))))
    (pss_cons (ps_set (i := 12) sc.nd rfl (by first | exact Or.inl rfl | exact Or.inr rfl) (pe_cg (g__law_take T) (hr.mono (by decide)) rfl (pa_cons (pv 0) (pa_cons (pv 4) pa_nil))))
    (pss_cons (ps_set (i := 13) sc.nd rfl (by first | exact Or.inl rfl | exact Or.inr rfl) (pe_op oSub (pe_op oAdd (pv 2) (pe_cg (g__law_take T) (hr.mono (by decide)) rfl (pa_cons (pv 0) (pa_cons pe_int pa_nil)))) pe_int))
    (pss_cons (ps_set (i := 14) sc.nd rfl (by first | exact Or.inl rfl | exact Or.inr rfl) (pv 2))
    (C8.pss_cut (ps_if (PW.pt (pw_and (pt_cmpR oGt (pv 6) pe_int (nomark _)) (pw_and1 (pt_cmpR op_eq (pe_cg (g__law_take T) (hr.mono (by decide)) rfl (pa_cons (pv 0) (pa_cons pe_int pa_nil))) pe_int (nomark _))))) (pss_cons (ps_set (i := 6) sc.nd rfl (by first | exact Or.inl rfl | exact Or.inr rfl) (pe_op oSub (pv 6) pe_int))
    (pss_cons (ps_set (i := 15) sc.nd rfl (by first | exact Or.inl rfl | exact Or.inr rfl) (pe_op oAdd pe_int (pe_cg (g__law_take T) (hr.mono (by decide)) rfl (pa_cons (pv 0) (pa_cons pe_int pa_nil)))))
    (C8.pss_cut (ps_if (pt_val (pv 3)) (pss_one (ps_set (i := 15) sc.nd rfl (by first | exact Or.inl rfl | exact Or.inr rfl) (pe_op oAdd pe_int (pe_cg (g__law_take T) (hr.mono (by decide)) rfl (pa_cons (pv 0) (pa_cons pe_int pa_nil)))))) pss_nil)
    (C8.pss_cut (ps_if (pt_cmpR oGt (pe_cg (g__law_take T) (hr.mono (by decide)) rfl (pa_cons (pv 0) (pa_cons pe_int pa_nil))) pe_int (nomark _)) (pss_one (ps_set (i := 13) sc.nd rfl (by first | exact Or.inl rfl | exact Or.inr rfl) pe_non)) pss_nil)
    (pss_cons (ps_expr (pe_bm PySem.F.plainAttrs_list PySem.F.slot_list_append PySem.F.type_list_append mt_append (pv 7) (pa_cons (pe_tup (pa_cons pe_str (pa_cons (pe_ix ix_seq (pv 1) (pv 9) (fun _ _ => rfl)) (pa_cons (pe_tup (pa_cons (pv 10) (pa_cons (pv 11) pa_nil))) (pa_cons (pv 13) (pa_cons (pv 12) (pa_cons (pv 15) (pa_cons (pe_op oAdd (pv 15) (pe_cg (g__law_take T) (hr.mono (by decide)) rfl (pa_cons (pv 0) (pa_cons (pv 4) pa_nil)))) pa_nil)))))))) pa_nil)))
    (pss_one (ps_set (i := 2) sc.nd rfl (by first | exact Or.inl rfl | exact Or.inr rfl) (pv 15)))))))) (pss_cons (ps_set (i := 16) sc.nd rfl (by first | exact Or.inl rfl | exact Or.inr rfl) (pe_op oAdd pe_int (pe_cg (g__law_take T) (hr.mono (by decide)) rfl (pa_cons (pv 0) (pa_cons pe_int pa_nil)))))
    (pss_cons (ps_set (i := 17) sc.nd rfl (by first | exact Or.inl rfl | exact Or.inr rfl) (pe_op oAdd pe_int (pe_cg (g__law_take T) (hr.mono (by decide)) rfl (pa_cons (pv 0) (pa_cons pe_int pa_nil)))))
    (pss_cons (ps_set (i := 18) sc.nd rfl (by first | exact Or.inl rfl | exact Or.inr rfl) (pe_op oAdd pe_int (pe_cg (g__law_take T) (hr.mono (by decide)) rfl (pa_cons (pv 0) (pa_cons pe_int pa_nil)))))
    (C8.pss_cut (ps_if (pt_val (pv 3)) (pss_cons (ps_set (i := 16) sc.nd rfl (by first | exact Or.inl rfl | exact Or.inr rfl) (pe_callB (cMin2 rfl) (by rfl) (T.free 13) (by decide +kernel) (pa_cons (pe_op oAdd pe_int (pe_cg (g__law_take T) (hr.mono (by decide)) rfl (pa_cons (pv 0) (pa_cons pe_int pa_nil)))) (pa_cons (pe_op oSub pe_int (pv 8)) pa_nil))))
    (pss_cons (ps_set (i := 17) sc.nd rfl (by first | exact Or.inl rfl | exact Or.inr rfl) (pe_op oAdd pe_int (pe_cg (g__law_take T) (hr.mono (by decide)) rfl (pa_cons (pv 0) (pa_cons pe_int pa_nil)))))
    (pss_one (ps_set (i := 18) sc.nd rfl (by first | exact Or.inl rfl | exact Or.inr rfl) (pe_op oAdd pe_int (pe_cg (g__law_take T) (hr.mono (by decide)) rfl (pa_cons (pv 0) (pa_cons pe_int pa_nil)))))))) pss_nil)
    (pss_cons (ps_set (i := 8) sc.nd rfl (by first | exact Or.inl rfl | exact Or.inr rfl) (pe_op oAdd (pv 8) (pv 16)))
    (pss_cons (ps_expr (pe_bm PySem.F.plainAttrs_list PySem.F.slot_list_append PySem.F.type_list_append mt_append (pv 7) (pa_cons (pe_tup (pa_cons pe_str (pa_cons (pe_ix ix_seq (pv 1) (pv 9) (fun _ _ => rfl)) (pa_cons (pe_tup (pa_cons (pv 10) (pa_cons (pv 11) pa_nil))) (pa_cons (pv 13) (pa_cons (pv 12) (pa_cons (pv 16) (pa_cons (pv 17) (pa_cons (pv 18) pa_nil))))))))) pa_nil)))
    (pss_one (ps_set (i := 2) sc.nd rfl (by first | exact Or.inl rfl | exact Or.inr rfl) (pe_op oMul (pv 16) (pv 17)))))))))))
    (C8.pss_cut (ps_if (PW.pt (pw_and (pt_cmpR oIsNot (pv 13) pe_non (nomark _)) (pw_and1 (pt_cmpR oGt (pv 13) (pv 14) (nomark _))))) (pss_one (ps_set (i := 14) sc.nd rfl (by first | exact Or.inl rfl | exact Or.inr rfl) (pv 13))) pss_nil)
    (pss_one (ps_set (i := 2) sc.nd rfl (by first | exact Or.inl rfl | exact Or.inr rfl) (pe_op oAdd (pv 2) (pe_cg (g__law_first T) (hr.mono (by decide)) rfl (pa_cons (pv 10) (pa_cons (pv 11) (pa_cons (pv 14) pa_nil))))))))))))))))
    (pss_one (ps_ret (pv 7)))))), ?rd⟩), F.bindsN fun _ _ _ _ _ _ us hl => match us, hl with | [_, _, _, _, _, _, _], _ => rfl⟩
  case len =>
    obtain ⟨p, n, ss, now, sp, k0, wide, plain, rfl, _⟩ := h
    rfl
  case rd =>
    obtain ⟨p, n, ss, now, sp, k0, wide, plain, rfl, hp, np, hn, nm, l8, l3, ⟨sp1, sp9⟩, k0p, ⟨nw0, nw1⟩, hQ⟩ := h
    show tSeq _ _ ⟨_, _, _, _⟩ [some (.ref p), some (.ref n), some (.int now), some (.bl wide), some (.int sp), some (.bl plain), some (.int k0), none, none, none, none, none, none, none, none, none, none, none, none] H
    try dsimp only [cxOf]
    have k00 := k0p
    walk_at "rw"
    rename_i l H1 hl s1 e1
    have lp : l ≠ p := ne_pool hp hl
    have e0 := s1 _ _ hn
    rw [List.length_map]
    refine ⟨_, rfl, by omega, by omega, for_range (n := ss.length) (fun i σ H' => ∃ (its : List Itm) (xs : List V) (now' pcs : Int) (w9 w10 w11 w12 w13 w14 w15 w16 w17 w18 : Option V), Drawn p H H' ∧ H' l = some (.lst xs) ∧ DatA K [p, l] H' xs (its.map Itm.dat) ∧ ItsOf ss its i wide k0 ∧ (-(10 ^ 32) * ((i : Int) + 1) ≤ now' ∧ now' ≤ 10 ^ 32 * ((i : Int) + 1)) ∧ 0 ≤ pcs ∧ (pcCount its : Int) + pcs = k0 ∧ σ = [some (.ref p), some (.ref n), some (.int now'), some (.bl wide), some (.int sp), some (.bl plain), some (.int pcs), some (.ref l), some (.int (plSum its)), w9, w10, w11, w12, w13, w14, w15, w16, w17, w18]) ⟨[], [], _, _, _, _, _, _, _, _, _, _, _, _, (Drawn.refl hp).same s1, e1, .nil, ⟨rfl, (fun _ h => nomatch h), by show (0 : Int) ≤ _ * 0; omega, Int.le_refl _, by decide, k0p, fun _ h => nomatch h⟩, ⟨by omega, by omega⟩, k0p, by show (0 : Int) + k0 = k0; omega, rfl⟩ ?_ ?_⟩
    · rintro i σ H2 hi ⟨its, xs, now', pcs, w9, w10, w11, w12, w13, w14, w15, w16, w17, w18, d2, e2, ar, ok, ⟨nb0, nb1⟩, pc0, pcs0, rfl⟩
      walk_at "rw"
      refine w_cut (fun σ' H' => ∃ (bar : Int), 1 ≤ bar ∧ bar ≤ 10 ^ 28 ∧ Drawn p H2 H' ∧ σ' = [some (.ref p), some (.ref n), some (.int now'), some (.bl wide), some (.int sp), some (.bl plain), some (.int pcs), some (.ref l), some (.int (plSum its)), some (.int (0 + (i : Int))), some (.int bar), w11, w12, w13, w14, w15, w16, w17, w18]) ?_ ?_
      · have hp2 := d2.pool
        cases plain
        · walk_at "rw"
          refine n_ixMem (by walk_at "hp") (by omega) (by show _ < ((8 : Nat) : Int); omega) fun v hv => ?_
          obtain ⟨b8, rfl, q1, q2⟩ : ∃ b8 : Int, v = .int b8 ∧ 1 ≤ b8 ∧ b8 ≤ 16 := by
            simp only [List.mem_cons, List.not_mem_nil, or_false] at hv
            rcases hv with rfl | rfl | rfl | rfl | rfl | rfl | rfl | rfl <;> exact ⟨_, rfl, by decide, by decide⟩
          cases wide
          · walk_at "rx"
            refine ⟨_, ?_, ?_, ?_, rfl⟩
            · omega
            · omega
            · walk_at "drawn"
          · walk_at "rx"
            · rename_i hb hd
              obtain ⟨b0, b1⟩ := hb
              refine ⟨_, ?_, ?_, ?_, rfl⟩
              · omega
              · omega
              · walk_at "drawn"
            · refine ⟨_, ?_, ?_, ?_, rfl⟩
              · omega
              · omega
              · walk_at "drawn"
        · walk_at "rx"
          exact ⟨1, by decide, by decide, .refl hp2, rfl⟩
      · rintro σ' H3 ⟨bar, bar1, bar2, d3, rfl⟩
        walk_at "rw"
        rename_i sh Ha sh0 sh1 da la Hb la0 la1 db ck Hc ck0 ck1 dc
        obtain ⟨z, hz⟩ : ∃ z, ss[i]? = some z := ⟨_, List.getElem?_eq_getElem hi⟩
        have zn := nm z (List.mem_of_getElem? hz)
        have dHc : Drawn p H2 Hc := by walk_at "drawn"
        have d2c := d2.trans dHc
        have hlz : H l = none := hl
        have e2c := dHc.lst lp e2
        have arc := ar.keep (.drawn (by simp) dHc)
        have enc : Hc n = some (.lst (ss.map V.str)) := d2c.lst np hn
        have hpc := d2c.pool
        have atz : atI (ss.map V.str) (0 + (i : Int)) = some (.str z) := atI_of (by omega) (by rw [show (0 + (i : Int)).toNat = i by omega, List.getElem?_map, hz]; rfl)
        clear dHc da db dc d3 ar e2 d2
        -- one more item
        have more : ∀ (t : Itm), t.nm = z → ItmOk t → ItmB t → 0 ≤ t.pl → t.pl ≤ (if wide = true then 12 else 3) → plSum its + t.pl ≤ 30 → (pcCount its : Int) + (if t.isPc = true then 1 else 0) ≤ k0 → ItsOf ss (its ++ [t]) (i + 1) wide k0 := fun t e1 e2 eB e3 e4 e5 e6 => by
          obtain ⟨o1, o2, o3, o4, o5, o6, o7⟩ := ok
          refine ⟨by rw [List.map_append, o1, take_one hz]; show _ ++ [t.nm] = _; rw [e1], fun u hu => (List.mem_append.mp hu).elim (o2 u) (fun h => by cases List.mem_singleton.mp h; exact e2), ?_, by rw [plSum_snoc]; omega, by rw [plSum_snoc]; omega, by rw [pcCount_snoc]; cases h : t.isPc <;> simp [h] at e6 ⊢ <;> omega, fun u hu => (List.mem_append.mp hu).elim (o7 u) (fun h => by cases List.mem_singleton.mp h; exact eB)⟩
          rw [plSum_snoc]
          cases wide
          · have o3 : plSum its ≤ 3 * (i : Int) := o3
            have e4 : t.pl ≤ 3 := e4
            show plSum its + t.pl ≤ 3 * ((i + 1 : Nat) : Int)
            omega
          · have o3 : plSum its ≤ 12 * (i : Int) := o3
            have e4 : t.pl ≤ 12 := e4
            show plSum its + t.pl ≤ 12 * ((i + 1 : Nat) : Int)
            omega
        refine w_cut (fun σ' H' => ∃ (t : Itm) (x : V) (m : Option Int) (now2 pcs2 us : Int) (v15 v16 v17 v18 : Option V), us = plSum (its ++ [t]) ∧ (0 ≤ now2 ∧ now2 ≤ 1000) ∧ (∀ y, m = some y → now' - 9 ≤ y ∧ y ≤ now' + 11) ∧ Drawn p H H' ∧ H' l = some (.lst (xs ++ [x])) ∧ DatA K [p, l] H' (xs ++ [x]) ((its ++ [t]).map Itm.dat) ∧ ItsOf ss (its ++ [t]) (i + 1) wide k0 ∧ 0 ≤ pcs2 ∧ (pcCount (its ++ [t]) : Int) + pcs2 = k0 ∧ σ' = [some (.ref p), some (.ref n), some (.int now2), some (.bl wide), some (.int sp), some (.bl plain), some (.int pcs2), some (.ref l), some (.int us), some (.int (0 + (i : Int))), some (.int bar), some (.int sh), some (.int la), some (optV m), some (.int now'), v15, v16, v17, v18]) ?_ ?_
        · walk_at "rw"
          · refine w_cut (fun σ' H' => ∃ (lo : Int), 1 ≤ lo ∧ lo ≤ 61 ∧ Drawn p Hc H' ∧ σ' = [some (.ref p), some (.ref n), some (.int now'), some (.bl wide), some (.int sp), some (.bl plain), some (.int (pcs - 1)), some (.ref l), some (.int (plSum its)), some (.int (0 + (i : Int))), some (.int bar), some (.int sh), some (.int la), some (.int (now' + ck - 9)), some (.int now'), some (.int lo), w16, w17, w18]) ?_ ?_
            · cases wide
              · walk_at "rw"
                refine ⟨_, ?_, ?_, ?_, rfl⟩
                · omega
                · omega
                · walk_at "drawn"
              · walk_at "rw"
                refine ⟨_, ?_, ?_, ?_, rfl⟩
                · omega
                · omega
                · walk_at "drawn"
            · rintro σ' H4 ⟨lo, lo1, lo61, d4, rfl⟩
              refine w_cut (fun σ' H' => ∃ (m : Option Int), (∀ y, m = some y → now' - 9 ≤ y ∧ y ≤ now' + 11) ∧ Drawn p Hc H' ∧ σ' = [some (.ref p), some (.ref n), some (.int now'), some (.bl wide), some (.int sp), some (.bl plain), some (.int (pcs - 1)), some (.ref l), some (.int (plSum its)), some (.int (0 + (i : Int))), some (.int bar), some (.int sh), some (.int la), some (optV m), some (.int now'), some (.int lo), w16, w17, w18]) ?_ ?_
              · walk_at "rw"
                · exact ⟨none, (fun y e => nomatch e), by walk_at "drawn", rfl⟩
                · exact ⟨some _, (fun y e => by cases e; constructor <;> omega), by walk_at "drawn", rfl⟩
              · rintro σ' H5 ⟨m, hm, d5, rfl⟩
                have enl := d5.lst np enc
                walk_at "rw"
                refine w_ixL (SqL.of enl) atz ?_
                walk_at "rw"
                rename_i t1 H6 ht1 s6 et1 hj H7 hj0 hj1 d7 tt H8 htt s8 ett
                have dH8 : Drawn p Hc H8 := by walk_at "drawn"
                have et18 : H8 t1 = some (.tup [.int bar, .int sh]) := by walk_at "hp"
                have e8 := dH8.lst lp e2c
                have ar8 := arc.keep (.drawn (by simp) dH8)
                have dt : Dat K [p, l] H8 (.ref tt) (Itm.pc z bar sh m la lo (lo + hj)).dat := (DatA.cons (.str _) (.cons (.str _) (.cons ((DatA.cons (.int _) (.cons (.int _) .nil)).newT et18) (.cons (Dat.opt m) (.cons (.int _) (.cons (.int _) (.cons (.int _) .nil))))))).newT ett
                have lx : xs.length ≤ 10 := by
                  have q := arc.len
                  have q2 := congrArg List.length ok.1
                  rw [List.length_map] at q q2
                  rw [List.length_take] at q2
                  omega
                refine w_app e8 (by rw [sizeLine_eq]; omega) ?_
                have kl : Keeps [p, l] H8 (upd H8 l (.lst (xs ++ [.ref tt]))) := .put (by simp) e8
                walk_at "rw"
                refine ⟨.pc z bar sh m la lo (lo + hj), .ref tt, m, lo, pcs - 1, plSum its, _, _, _, _, by rw [plSum_snoc]; exact (Int.add_zero _).symm, ⟨by omega, by omega⟩, hm, Drawn.put (H1 := H8) (d2c.trans dH8) hlz, upd_same, by rw [List.map_append]; exact (ar8.snoc dt).keep kl, more _ rfl ⟨zn, bar1, ⟨sh0, sh1⟩, ⟨la0, by omega⟩, lo1, by omega, by omega⟩ ⟨bar2, (fun y e => by have := hm y e; constructor <;> omega), by omega⟩ (Int.le_refl _) (by show (0 : Int) ≤ _; split <;> decide) (by have := ok.2.2.2.2.1; show plSum its + 0 ≤ 30; omega) (by show (pcCount its : Int) + 1 ≤ k0; omega), by omega, by rw [pcCount_snoc]; show ((pcCount its + 1 : Nat) : Int) + (pcs - 1) = k0; omega, rfl⟩
          all_goals
            refine w_cut (fun σ' H' => ∃ (pl un pa : Int), (1 ≤ pl ∧ pl ≤ (if wide = true then 12 else 3) ∧ plSum its + pl ≤ 30) ∧ (1 ≤ un ∧ un ≤ 60) ∧ (1 ≤ pa ∧ pa ≤ 64) ∧ Drawn p Hc H' ∧ σ' = [some (.ref p), some (.ref n), some (.int now'), some (.bl wide), some (.int sp), some (.bl plain), some (.int pcs), some (.ref l), some (.int (plSum its)), some (.int (0 + (i : Int))), some (.int bar), some (.int sh), some (.int la), some (.int (now' + ck - 9)), some (.int now'), w15, some (.int pl), some (.int un), some (.int pa)]) ?_ ?_
          all_goals first
            | (rintro σ' H4 ⟨pl, un, pa, ⟨pl1, pl2, pl3⟩, ⟨un1, un60⟩, ⟨pa1, pa2⟩, d4, rfl⟩
               have enl := d4.lst np enc
               have pl12 : pl ≤ 12 := by
                 split at pl2
                 · exact pl2
                 · omega
               walk_at "rw"
               refine w_ixL (SqL.of enl) atz ?_
               walk_at "rw"
               rename_i t1 H6 ht1 s6 et1 tt H8 htt s8 ett
               have dH8 : Drawn p Hc H8 := by walk_at "drawn"
               have et18 : H8 t1 = some (.tup [.int bar, .int sh]) := by walk_at "hp"
               have e8 := dH8.lst lp e2c
               have ar8 := arc.keep (.drawn (by simp) dH8)
               have dt : Dat K [p, l] H8 (.ref tt) (Itm.br z bar sh (now' + ck - 9) la pl un pa).dat := (DatA.cons (.str _) (.cons (.str _) (.cons ((DatA.cons (.int _) (.cons (.int _) .nil)).newT et18) (.cons (.int _) (.cons (.int _) (.cons (.int _) (.cons (.int _) (.cons (.int _) .nil)))))))).newT ett
               have lx : xs.length ≤ 10 := by
                 have q := arc.len
                 have q2 := congrArg List.length ok.1
                 rw [List.length_map] at q q2
                 rw [List.length_take] at q2
                 omega
               refine w_app e8 (by rw [sizeLine_eq]; omega) ?_
               have kl : Keeps [p, l] H8 (upd H8 l (.lst (xs ++ [.ref tt]))) := .put (by simp) e8
               walk_at "rw"
               exact ⟨.br z bar sh (now' + ck - 9) la pl un pa, .ref tt, some (now' + ck - 9), pl * un, pcs, plSum its + pl, _, _, _, _, by rw [plSum_snoc]; rfl, ⟨Int.mul_nonneg (by omega) (by omega), Int.le_trans (Int.mul_le_mul pl12 un60 (by omega) (by decide)) (by decide)⟩, (fun y e => by cases e; constructor <;> omega), Drawn.put (H1 := H8) (d2c.trans dH8) hlz, upd_same, by rw [List.map_append]; exact (ar8.snoc dt).keep kl, more _ rfl ⟨zn, bar1, ⟨sh0, sh1⟩, ⟨la0, by omega⟩, ⟨pl1, pl12⟩, un1, pa1, pa2⟩ ⟨bar2, ⟨by omega, by omega⟩, by omega⟩ (by show (0 : Int) ≤ pl; omega) pl2 pl3 (by show (pcCount its : Int) + 0 ≤ k0; omega), pc0, by rw [pcCount_snoc]; show ((pcCount its + 0 : Nat) : Int) + pcs = k0; omega, rfl⟩)
            | (obtain ⟨o1, o2, o3, o4, o5, o6, o7⟩ := ok
               cases wide
               · have o3 : plSum its ≤ 3 * (i : Int) := o3
                 walk_at "rw"
                 refine ⟨_, _, _, ⟨?_, ?_, ?_⟩, ⟨?_, ?_⟩, ⟨?_, ?_⟩, ?_, rfl⟩
                 · omega
                 rotate_left
                 · omega
                 rotate_right
                 · show _ ≤ (3 : Int)
                   omega
                 · omega
                 · omega
                 · omega
                 · omega
                 · walk_at "drawn"
               · have o3 : plSum its ≤ 12 * (i : Int) := o3
                 have l3 := l3 rfl
                 walk_at "rw"
                 refine ⟨_, _, _, ⟨?_, ?_, ?_⟩, ⟨?_, ?_⟩, ⟨?_, ?_⟩, ?_, rfl⟩
                 · omega
                 rotate_left
                 · omega
                 rotate_right
                 · show _ ≤ (12 : Int)
                   omega
                 · omega
                 · omega
                 · omega
                 · omega
                 · walk_at "drawn")
        · rintro σ' H4 ⟨t, x, m, now2, pcs2, us, v15, v16, v17, v18, rfl, ⟨n20, n21⟩, hm2, d4, e4, ar4, ok4, pc4, pcs4, rfl⟩
          cases m with
          | none =>
            dsimp only [optV]
            refine w_cut (fun σ' H' => ∃ (st : Int), (now' ≤ st ∧ st ≤ now' + 11) ∧ H' = H4 ∧ σ' = [some (.ref p), some (.ref n), some (.int now2), some (.bl wide), some (.int sp), some (.bl plain), some (.int pcs2), some (.ref l), some (.int (plSum (its ++ [t]))), some (.int (0 + (i : Int))), some (.int bar), some (.int sh), some (.int la), some .non, some (.int st), v15, v16, v17, v18]) ?_ ?_
            · walk_at "rw"
              all_goals exact ⟨_, ⟨by omega, by omega⟩, rfl, rfl⟩
            · rintro σ' H5 ⟨st, ⟨st0, st1⟩, rfl, rfl⟩
              have f1 := fb_in (o := sh) (t := st) bar1
              walk_at "rw"
              refine ⟨bar, sh, st, rfl, bar1, ?_⟩
              walk_at "rw"
              exact ⟨its ++ [t], xs ++ [x], _, pcs2, _, _, _, _, _, _, _, _, _, _, d4, e4, ar4, ok4, ⟨by omega, by omega⟩, pc4, pcs4, rfl⟩
          | some mi =>
            have hmi := hm2 mi rfl
            dsimp only [optV]
            refine w_cut (fun σ' H' => ∃ (st : Int), (now' ≤ st ∧ st ≤ now' + 11) ∧ H' = H4 ∧ σ' = [some (.ref p), some (.ref n), some (.int now2), some (.bl wide), some (.int sp), some (.bl plain), some (.int pcs2), some (.ref l), some (.int (plSum (its ++ [t]))), some (.int (0 + (i : Int))), some (.int bar), some (.int sh), some (.int la), some (.int mi), some (.int st), v15, v16, v17, v18]) ?_ ?_
            · walk_at "rw"
              all_goals exact ⟨_, ⟨by omega, by omega⟩, rfl, rfl⟩
            · rintro σ' H5 ⟨st, ⟨st0, st1⟩, rfl, rfl⟩
              have f1 := fb_in (o := sh) (t := st) bar1
              walk_at "rw"
              refine ⟨bar, sh, st, rfl, bar1, ?_⟩
              walk_at "rw"
              exact ⟨its ++ [t], xs ++ [x], _, pcs2, _, _, _, _, _, _, _, _, _, _, d4, e4, ar4, ok4, ⟨by omega, by omega⟩, pc4, pcs4, rfl⟩
    · rintro σ H2 ⟨its, xs, now', pcs, w9, w10, w11, w12, w13, w14, w15, w16, w17, w18, d2, e2, ar, ok, ⟨nb0, nb1⟩, pc0, pcs0, rfl⟩
      walk_at "rw"
      exact hQ l its H2 hl d2 ((ar.weak (Y := [p]) (fun b hb => by simp only [List.mem_cons, List.not_mem_nil, or_false] at hb ⊢; exact .inl hb)).newL (by simpa using lp) e2) ok

end
end My
namespace My
open PySem PySem.Spec PyProof.Rows L2 Rd
section
variable {P : Program} {w : World} {K : PySem.W.Frag} {mg : Str → Option Value} {base : Heap}
open NameM
/-- the day while it is made -/
structure DSt (K : PySem.W.Frag) (p : Addr) (H Hc : Hp) (dl nl : Addr) (ss : List Str) (xs : List V) (ds : List PyData) : Prop where
  dr : Drawn p H Hc
  e : Hc dl = some (.lst xs)
  en : Hc nl = some (.lst (ss.map V.str))
  ar : DatA K [p, dl] Hc xs ds
  f : H dl = none
  np : nl ≠ p
  nd : nl ≠ dl
  dp : dl ≠ p
theorem DSt.go {K : PySem.W.Frag} {p dl nl : Addr} {H Hc Hd : Hp} {ss : List Str} {xs : List V} {ds : List PyData} (h : DSt K p H Hc dl nl ss xs ds) (d : Drawn p Hc Hd) : DSt K p H Hd dl nl ss xs ds :=
  ⟨h.dr.trans d, d.lst h.dp h.e, d.lst h.np h.en, h.ar.keep (.drawn (by simp) d), h.f, h.np, h.nd, h.dp⟩
theorem DSt.put {K : PySem.W.Frag} {p dl nl : Addr} {H Hc : Hp} {ss : List Str} {xs xs' : List V} {ds ds' : List PyData} (h : DSt K p H Hc dl nl ss xs ds) (ar : DatA K [p, dl] Hc xs' ds') : DSt K p H (upd Hc dl (.lst xs')) dl nl ss xs' ds' := by
  have k : Keeps [p, dl] Hc (upd Hc dl (.lst xs')) := .put (by simp) h.e
  exact ⟨h.dr.put h.f, upd_same, by rw [upd_ne h.nd]; exact h.en, ar.keep k, h.f, h.np, h.nd, h.dp⟩
def spDay (K : PySem.W.Frag) : Sp := fun vs H Q _ => ∃ (p : Addr) (plain : Bool) (k0 : Int), vs = [.ref p, .bl plain, .int k0] ∧ 0 ≤ k0 ∧ PoolAt H p ∧ ∀ (l : Addr) (D : DayD) (H' : Hp), H l = none → Drawn p H H' → Dat K [p] H' (.ref l) D.dat → DayOk D k0 → Q (.ref l) H'

theorem sc__law_day : FnScope ["_law_pool_here", "_law_plain", "_law_pieces", "_law_wide", "_law_count", "_law_spread", "_law_many", "_law_names_here", "_law_walks", "_law_packs", "_law_day_here"] ["_law_pool_here", "_law_plain", "_law_pieces"] (defScope (top 62)) := ⟨rfl, rfl, rfl, by decide +kernel, rfl, by decide +kernel, by decide +kernel⟩
theorem g__law_day (T : Tx fa fn xa fs P K mg) : FnG P w K mg base CX0 4 "_law_day" ["_law_pool_here", "_law_plain", "_law_pieces"] (spDay K) := by
  obtain ⟨fd, F⟩ := T.says.def_ 8 (d := d__law_day) rfl
  have sc := sc__law_day
  refine ⟨_, fd, T.glo 15, F.kp, F.ok sc (fun vs H Q E h => ?len) (fun cdv A outer s H vs Q E hr h => ⟨_, PSs.nox (pss_cons (ps_set (i := 3) sc.nd rfl (by first | exact Or.inl rfl | exact Or.inr rfl) (pe_cmpR op_eq (pe_cg (g__law_take T) (hr.mono (by decide)) rfl (pa_cons (pv 0) (pa_cons pe_int pa_nil))) pe_int (nomark _)))
    (pss_cons (ps_set (i := 4) sc.nd rfl (by first | exact Or.inl rfl | exact Or.inr rfl) (pe_ix ix_seq (pe_lst (pa_cons pe_int (pa_cons pe_int (pa_cons pe_int (pa_cons pe_int (pa_cons pe_int (pa_cons pe_int (pa_cons pe_int (pa_cons pe_int pa_nil))))))))) (pe_cg (g__law_take T) (hr.mono (by decide)) rfl (pa_cons (pv 0) (pa_cons pe_int pa_nil))) (fun _ _ => rfl)))
    (pss_cons (ps_set (i := 5) sc.nd rfl (by first | exact Or.inl rfl | exact Or.inr rfl) pe_int)
    (C8.pss_cut (ps_if (pt_val (pv 3)) (pss_cons (ps_set (i := 4) sc.nd rfl (by first | exact Or.inl rfl | exact Or.inr rfl) (pe_callB (cMin2 rfl) (by rfl) (T.free 13) (by decide +kernel) (pa_cons (pv 4) (pa_cons pe_int pa_nil))))
    (pss_one (ps_set (i := 5) sc.nd rfl (by first | exact Or.inl rfl | exact Or.inr rfl) pe_int))) pss_nil)
    (C8.pss_cut (ps_if (pt_cmpR op_eq (pv 4) pe_int (nomark _)) (pss_one (ps_set (i := 5) sc.nd rfl (by first | exact Or.inl rfl | exact Or.inr rfl) pe_int)) pss_nil)
    (pss_cons (ps_set (i := 6) sc.nd rfl (by first | exact Or.inl rfl | exact Or.inr rfl) (pe_cg (g__law_take T) (hr.mono (by decide)) rfl (pa_cons (pv 0) (pa_cons pe_int pa_nil))))
    (pss_cons (ps_set (i := 7) sc.nd rfl (by first | exact Or.inl rfl | exact Or.inr rfl) (pe_cg (g__law_names T) (hr.mono (by decide)) rfl (pa_cons (pv 0) (pa_cons (pe_op oAdd (pv 4) (pv 6)) pa_nil))))
    (pss_cons (ps_set (i := 8) sc.nd rfl (by first | exact Or.inl rfl | exact Or.inr rfl) (pe_cg (g__law_take T) (hr.mono (by decide)) rfl (pa_cons (pv 0) (pa_cons pe_int pa_nil))))
    (pss_cons (ps_set (i := 9) sc.nd rfl (by first | exact Or.inl rfl | exact Or.inr rfl) (pe_cg (g__law_take T) (hr.mono (by decide)) rfl (pa_cons (pv 0) (pa_cons pe_int pa_nil))))
    (C8.pss_cut (ps_if (pt_val (pv 3)) (pss_cons (ps_set (i := 8) sc.nd rfl (by first | exact Or.inl rfl | exact Or.inr rfl) (pe_cg (g__law_take T) (hr.mono (by decide)) rfl (pa_cons (pv 0) (pa_cons pe_int pa_nil))))
    (pss_one (ps_set (i := 9) sc.nd rfl (by first | exact Or.inl rfl | exact Or.inr rfl) (pe_cg (g__law_take T) (hr.mono (by decide)) rfl (pa_cons (pv 0) (pa_cons pe_int pa_nil)))))) pss_nil)
    (pss_cons (ps_set (i := 10) sc.nd rfl (by first | exact Or.inl rfl | exact Or.inr rfl) (pe_lst (pa_cons (pe_op oAdd pe_int (pe_cg (g__law_take T) (hr.mono (by decide)) rfl (pa_cons (pv 0) (pa_cons pe_int pa_nil)))) (pa_cons (pe_op oAdd pe_int (pe_cg (g__law_take T) (hr.mono (by decide)) rfl (pa_cons (pv 0) (pa_cons pe_int pa_nil)))) (pa_cons (pe_slice sl_list (pv 7) (po_some (pv 4)) po_none) pa_nil)))))
    (pss_cons (ps_expr (pe_bm PySem.F.plainAttrs_list PySem.F.slot_list_append PySem.F.type_list_append mt_append (pv 10) (pa_cons (pe_tup (pa_cons (pv 8) (pa_cons (pe_op oAdd (pv 8) (pe_cg (g__law_take T) (hr.mono (by decide)) rfl (pa_cons (pv 0) (pa_cons (pv 5) pa_nil)))) pa_nil))) pa_nil)))
    (pss_cons (ps_expr (pe_bm PySem.F.plainAttrs_list PySem.F.slot_list_append PySem.F.type_list_append mt_append (pv 10) (pa_cons (pe_tup (pa_cons (pv 9) (pa_cons (pe_op oAdd (pv 9) (pe_cg (g__law_take T) (hr.mono (by decide)) rfl (pa_cons (pv 0) (pa_cons (pv 5) pa_nil)))) pa_nil))) pa_nil)))
    (pss_cons (ps_expr (pe_bm PySem.F.plainAttrs_list PySem.F.slot_list_append PySem.F.type_list_append mt_append (pv 10) (pa_cons (pe_op oAdd pe_int (pe_cg (g__law_take T) (hr.mono (by decide)) rfl (pa_cons (pv 0) (pa_cons pe_int pa_nil)))) pa_nil)))
    (pss_cons (ps_expr (pe_bm PySem.F.plainAttrs_list PySem.F.slot_list_append PySem.F.type_list_append mt_append (pv 10) (pa_cons (pe_op oAdd pe_int (pe_cg (g__law_take T) (hr.mono (by decide)) rfl (pa_cons (pv 0) (pa_cons pe_int pa_nil)))) pa_nil)))
    (C8.pss_cut (ps_if (pt_val (pv 3)) (pss_cons (ps_asg (pe_op oAdd pe_int (pe_cg (g__law_take T) (hr.mono (by decide)) rfl (pa_cons (pv 0) (pa_cons pe_int pa_nil)))) (pg_sub (pv 10) pe_int set_list))
    (pss_cons (ps_asg (pe_op oAdd pe_int (pe_cg (g__law_take T) (hr.mono (by decide)) rfl (pa_cons (pv 0) (pa_cons pe_int pa_nil)))) (pg_sub (pv 10) pe_int set_list))
    (pss_one (ps_asg (pe_op oAdd pe_int (pe_cg (g__law_take T) (hr.mono (by decide)) rfl (pa_cons (pv 0) (pa_cons pe_int pa_nil)))) (pg_sub (pv 10) pe_int set_list))))) pss_nil)
    (pss_cons (ps_expr (pe_bm PySem.F.plainAttrs_list PySem.F.slot_list_append PySem.F.type_list_append mt_append (pv 10) (pa_cons (pe_cg (g__law_opens T) (hr.mono (by decide)) rfl (pa_cons (pv 0) pa_nil)) pa_nil)))
    (pss_cons (ps_expr (pe_bm PySem.F.plainAttrs_list PySem.F.slot_list_append PySem.F.type_list_append mt_append (pv 10) (pa_cons (pe_cg (g__law_items T) (hr.mono (by decide)) rfl (pa_cons (pv 0) (pa_cons (pe_slice sl_list (pv 7) po_none (po_some (pv 4))) (pa_cons (pe_ix ix_seq (pv 10) pe_int (fun _ _ => rfl)) (pa_cons (pv 3) (pa_cons (pv 5) (pa_cons (pv 1) (pa_cons (pv 2) pa_nil)))))))) pa_nil)))
    (pss_one (ps_ret (pv 10))))))))))))))))))))), ?rd⟩), F.bindsN fun _ _ _ _ _ _ us hl => match us, hl with | [_, _, _], _ => rfl⟩
  case len =>
    obtain ⟨p, plain, k0, rfl, _⟩ := h
    rfl
  case rd =>
    obtain ⟨p, plain, k0, rfl, k00, hp, hQ⟩ := h
    show tSeq _ _ ⟨_, _, _, _⟩ [some (.ref p), some (.bl plain), some (.int k0), none, none, none, none, none, none, none, none] H
    try dsimp only [cxOf]
    walk_at "rw"
    rename_i tw H1 tw0 tw1 d1 l8 H2 hl8 s2 e8 t8 H3 t80 t81 d3
    generalize decide (tw = 5) = wide
    refine n_ixMem (by walk_at "hp") (by omega) (by show _ < ((8 : Nat) : Int); omega) fun v hv => ?_
    obtain ⟨cn0, rfl, cn00, cn01⟩ : ∃ b8 : Int, v = .int b8 ∧ 0 ≤ b8 ∧ b8 ≤ 8 := by
      simp only [List.mem_cons, List.not_mem_nil, or_false] at hv
      rcases hv with rfl | rfl | rfl | rfl | rfl | rfl | rfl | rfl <;> exact ⟨_, rfl, by decide, by decide⟩
    have dH3 : Drawn p H H3 := by walk_at "drawn"
    clear hv e8 s2 hl8 d3 d1
    walk_at "rw"
    refine w_cut (fun σ' H' => ∃ (cn sp : Int), (0 ≤ cn ∧ cn ≤ 8) ∧ (wide = true → cn ≤ 3) ∧ (1 ≤ sp ∧ sp ≤ 9) ∧ H' = H3 ∧ σ' = [some (.ref p), some (.bl plain), some (.int k0), some (.bl wide), some (.int cn), some (.int sp), none, none, none, none, none]) ?_ ?_
    · cases wide
      · walk_at "rw"
        exact ⟨cn0, 3, ⟨cn00, cn01⟩, (fun z => nomatch z), ⟨by decide, by decide⟩, rfl, rfl⟩
      · walk_at "rw"
        exact ⟨min cn0 3, 9, ⟨by omega, by omega⟩, fun _ => by omega, ⟨by decide, by decide⟩, rfl, rfl⟩
    · rintro σ' H4 ⟨cn, sp0, ⟨cn0', cn8⟩, cn3, ⟨sp01, sp09⟩, rfl, rfl⟩
      refine w_cut (fun σ' H' => ∃ (sp : Int), (1 ≤ sp ∧ sp ≤ 9) ∧ H' = H4 ∧ σ' = [some (.ref p), some (.bl plain), some (.int k0), some (.bl wide), some (.int cn), some (.int sp), none, none, none, none, none]) ?_ ?_
      · walk_at "rw"
        · exact ⟨2, ⟨by decide, by decide⟩, rfl, rfl⟩
        · exact ⟨sp0, ⟨sp01, sp09⟩, rfl, rfl⟩
      · rintro σ' H5 ⟨sp, ⟨sp1, sp9⟩, rfl, rfl⟩
        have hp5 := dH3.pool
        walk_at "rw"
        rename_i mn H6 mn0 mn1 d6
        refine ⟨p, cn + mn, rfl, by omega, by omega, d6.pool, fun nl ss H7 hnl d7 enl hss hnm hnd => ?_⟩
        have dH7 : Drawn p H H7 := by walk_at "drawn"
        have nlp : nl ≠ p := ne_pool d6.pool hnl
        clear d7 d6
        walk_at "rw"
        rename_i wk0 Ha wk00 wk01 da pk0 Hb pk00 pk01 db
        have dHb : Drawn p H7 Hb := by walk_at "drawn"
        have enlb := dHb.lst nlp enl
        have hpb := dHb.pool
        have dH := dH7.trans dHb
        clear da db
        refine w_cut (fun σ' H' => ∃ (wk pk : Int), 0 ≤ wk ∧ 0 ≤ pk ∧ Drawn p Hb H' ∧ σ' = [some (.ref p), some (.bl plain), some (.int k0), some (.bl wide), some (.int cn), some (.int sp), some (.int mn), some (.ref nl), some (.int wk), some (.int pk), none]) ?_ ?_
        · cases wide
          · walk_at "rw"
            exact ⟨wk0, pk0, wk00, pk00, .refl hpb, rfl⟩
          · walk_at "rw"
            rename_i a1 G1 a10 a11 g1 a2 G2 a20 a21 g2
            exact ⟨a1, a2, a10, a20, g1.trans g2, rfl⟩
        · rintro σ' Hc ⟨wk, pk, wk0', pk0', dc, rfl⟩
          have enlc := dc.lst nlp enlb
          have dH := dH.trans dc
          walk_at "rw"
          rename_i a1 G1 a10 a11 g1 a2 G2 a20 a21 g2 kl G3 hkl s3 ekl dl G4 hdl s4 edl b1 G5 b10 b11 g5 t1 G6 ht1 s6 et1
          rw [cut_drop cn0', ← List.map_drop] at ekl
          have dG3 : Drawn p Hc G3 := by walk_at "drawn"
          have klp : kl ≠ p := g2.ne hkl
          have dlp : dl ≠ p := dG3.ne hdl
          have kldl : kl ≠ dl := fun z => by rw [z, hdl] at ekl; cases ekl
          have dG4 := dG3.same s4
          have nldl : nl ≠ dl := fun z => by
            have q := dG3.lst nlp enlc
            rw [z, hdl] at q; cases q
          have g : DSt K p H G4 dl nl ss [.int (1 + a1), .int (1 + a2), .ref kl] [.int (1 + a1), .int (1 + a2), .list ((ss.drop cn.toNat).map PyData.str)] :=
            ⟨dH.trans dG4, edl, dG4.lst nlp enlc, .cons (.int _) (.cons (.int _) (.cons (Dat.strs (by simp only [List.mem_cons, List.not_mem_nil, or_false, not_or]; exact ⟨klp, kldl⟩) (s4 _ _ ekl)) .nil)), (dH.trans dG3).free hdl, nlp, nldl, dlp⟩
          have g := g.go (g5.same s6)
          clear s4 edl hdl s3 ekl hkl g2 g1 dG3 dG4 ht1 s6 g5 enlc enlb enl dc dH dH7 dHb hpb hp5
          refine w_app g.e (show 3 < sizeLine by decide) ?_
          have g := g.put (g.ar.snoc (pr_dat (q := (wk, wk + b1)) (SqT.of et1)))
          generalize upd G6 dl _ = G7 at g ⊢
          have hpp := g.dr.pool
          have edl := g.e
          walk_at "rw"
          rename_i b2 G8 b20 b21 g8 t2 G9 ht2 s9 et2
          have g := g.go (g8.same s9)
          refine w_app g.e (show 4 < sizeLine by decide) ?_
          have g := g.put (g.ar.snoc (pr_dat (q := (pk, pk + b2)) (SqT.of et2)))
          generalize upd G9 dl _ = Ga at g ⊢
          have hpp := g.dr.pool
          have edl := g.e
          clear et2 s9 ht2 g8 et1
          walk_at "rw"
          rename_i b3 Gb b30 b31 gb
          have g := g.go gb
          refine w_app g.e (show 5 < sizeLine by decide) ?_
          have g := g.put (g.ar.snoc (.int (1 + b3)))
          generalize upd Gb dl _ = Gc at g ⊢
          have hpp := g.dr.pool
          have edl := g.e
          clear gb
          walk_at "rw"
          rename_i b4 Gd b40 b41 gd
          have g := g.go gd
          refine w_app g.e (show 6 < sizeLine by decide) ?_
          have g := g.put (g.ar.snoc (.int (1 + b4)))
          generalize upd Gd dl _ = Ge at g ⊢
          have hpp := g.dr.pool
          have edl := g.e
          clear gd
          simp only [List.cons_append, List.nil_append] at g
          walk_at "rw"
          refine w_cut (fun σ' H' => ∃ (st cr ap : Int), (1 ≤ st ∧ st ≤ 6) ∧ (1 ≤ cr ∧ cr ≤ 6) ∧ 1 ≤ ap ∧ DSt K p H H' dl nl ss [.int st, .int cr, .ref kl, .ref t1, .ref t2, .int (1 + b3), .int ap] [.int st, .int cr, .list ((ss.drop cn.toNat).map PyData.str), prD (wk, wk + b1), prD (pk, pk + b2), .int (1 + b3), .int ap] ∧ σ' = [some (.ref p), some (.bl plain), some (.int k0), some (.bl wide), some (.int cn), some (.int sp), some (.int mn), some (.ref nl), some (.int wk), some (.int pk), some (.ref dl)]) ?_ ?_
          · cases wide
            · walk_at "rw"
              exact ⟨_, _, _, ⟨by omega, by omega⟩, ⟨by omega, by omega⟩, by omega, g, rfl⟩
            · have edl := g.e
              walk_at "rw"
              rename_i c1 F1 c10 c11 f1
              have g := (g.go f1).put ((g.go f1).ar.set (j := 0) (.int (1 + c1)))
              simp only [List.set_cons_zero] at g
              rw [show ([V.int (1 + a1), V.int (1 + a2), V.ref kl, V.ref t1, V.ref t2, V.int (1 + b3), V.int (1 + b4)] : List V).set (Int.toNat 0) (V.int (1 + c1)) = [V.int (1 + c1), V.int (1 + a2), V.ref kl, V.ref t1, V.ref t2, V.int (1 + b3), V.int (1 + b4)] from rfl]
              generalize upd F1 dl _ = F2 at g ⊢
              have hpp := g.dr.pool
              have edl := g.e
              clear f1
              walk_at "rw"
              rename_i c2 F3 c20 c21 f2
              have g := (g.go f2).put ((g.go f2).ar.set (j := 1) (.int (1 + c2)))
              rw [show (Int.toNat 1) = 1 from rfl]
              generalize upd F3 dl _ = F4 at g ⊢
              have hpp := g.dr.pool
              have edl := g.e
              clear f2
              walk_at "rw"
              rename_i c3 F5 c30 c31 f3
              have g := (g.go f3).put ((g.go f3).ar.set (j := 6) (.int (1 + c3)))
              exact ⟨1 + c1, 1 + c2, 1 + c3, ⟨by omega, by omega⟩, ⟨by omega, by omega⟩, by omega, g, rfl⟩
          · rintro σ' Gf ⟨st, cr, ap, st16, cr16, ap1, g, rfl⟩
            have hpp := g.dr.pool
            have edl := g.e
            walk_at "rx"
            rename_i op Gg opb gg
            have g := g.go gg
            refine w_app g.e (show 7 < sizeLine by decide) ?_
            have g := g.put (g.ar.snoc (.int op))
            generalize upd Gg dl _ = Gh at g ⊢
            have hpp := g.dr.pool
            have edl := g.e
            have enl := g.en
            clear gg
            simp only [List.cons_append, List.nil_append] at g edl
            walk_at "rw"
            rename_i il Gi hil si eil
            rw [cut_take cn0', ← List.map_take] at eil
            have g := g.go (.of_same hpp si)
            have ilp : il ≠ p := ne_pool hpp hil
            have l8 : (ss.take cn.toNat).length ≤ 8 := by rw [List.length_take]; omega
            refine ⟨p, il, ss.take cn.toNat, op, sp, k0, wide, plain, rfl, g.dr.pool, ilp, eil, fun z hz => hnm z (List.mem_of_mem_take hz), l8, fun w => by have := cn3 w; rw [List.length_take]; omega, ⟨sp1, sp9⟩, k00, ⟨by omega, by omega⟩, fun l its Gj hl dj dat ok => ?_⟩
            have g := g.go dj
            have ldl : l ≠ dl := fun z => by
              obtain ⟨y, q⟩ : ∃ y, Gi dl = some y := by
                cases q : Gi dl with
                | some y => exact ⟨y, rfl⟩
                | none =>
                  have w := g.e
                  have r := dj.free (x := dl)
                  exact absurd (si _ _ edl) (by rw [q]; intro z; cases z)
              rw [← z, hl] at q; cases q
            obtain ⟨l', xs, el, lx, hxs, ax⟩ := dat.list
            cases el
            have dl2 : Dat K [p, dl] Gj (.ref l) (.list (its.map Itm.dat)) := (datA_itms ax).newL (by simp only [List.mem_cons, List.not_mem_nil, or_false, not_or] at lx ⊢; exact ⟨lx, ldl⟩) hxs
            walk_at "rw"
            refine w_app g.e (show 8 < sizeLine by decide) ?_
            have g := g.put (g.ar.snoc dl2)
            simp only [List.cons_append, List.nil_append] at g
            walk_at "rw"
            obtain ⟨o1, o2, o3, o4, o5, o6, o7⟩ := ok
            rw [List.take_length] at o1
            refine hQ dl ⟨st, cr, ss.drop cn.toNat, (wk, wk + b1), (pk, pk + b2), 1 + b3, ap, op, its⟩ _ g.f g.dr ((g.ar.weak (Y := [p]) (fun b hb => by simp only [List.mem_cons, List.not_mem_nil, or_false] at hb ⊢; exact .inl hb)).newL (by simpa using g.dp) g.e) ?_
            have dis : (ss.take cn.toNat ++ ss.drop cn.toNat).Nodup := by rw [List.take_append_drop]; exact hnd
            refine ⟨st16, cr16, by show (ss.drop cn.toNat).length ≤ 5; rw [List.length_drop]; omega, fun z hz => hnm z (List.mem_of_mem_drop hz), List.Nodup.sublist (List.drop_sublist _ _) hnd, ⟨wk0', by show wk ≤ wk + b1; omega, by show wk + b1 ≤ wk + 8; omega⟩, ⟨pk0', by show pk ≤ pk + b2; omega, by show pk + b2 ≤ pk + 8; omega⟩, ⟨by show (1 : Int) ≤ 1 + b3; omega, by show 1 + b3 ≤ (3 : Int); omega⟩, ap1, ⟨o2, ?_, ?_, o5, o6⟩, o7, ⟨by show -(10 ^ 28) ≤ op; omega, by show op ≤ 10 ^ 28; omega⟩, ?_, ?_⟩
            · have := congrArg List.length o1
              rw [List.length_map] at this
              show its.length ≤ 8
              omega
            · show (its.map Itm.nm).Nodup
              rw [o1]
              exact List.Nodup.sublist (List.take_sublist _ _) hnd
            · intro z hz
              show z ∉ its.map Itm.nm
              rw [o1]
              exact fun m => (List.nodup_append.mp dis).2.2 z m z hz rfl
            · have := congrArg List.length o1
              rw [List.length_map, List.length_take] at this
              show (ss.drop cn.toNat).length + its.length ≤ 11
              rw [List.length_drop]
              omega

end
end My
namespace My
open PySem PySem.Spec PyProof.Rows L2 Rd
section
variable {P : Program} {w : World} {K : PySem.W.Frag} {mg : Str → Option Value} {base : Heap}
open NameM NumM
def spIsName : Sp := fun vs H Q _ => ∃ z : Str, vs = [.str z] ∧ z.length ≤ 1000 ∧ ∀ H', Same H H' → Q (.bl (decide (IsName z.cps.toList))) H'
theorem sc_is_name : FnScope ["text", "char"] ["text"] (defScope (top 19)) := ⟨rfl, rfl, rfl, by decide +kernel, rfl, by decide +kernel, by decide +kernel⟩
theorem g_is_name (T : Tx fa fn xa fs P K mg) : FnG P w K mg base CX0 1 "is_name" ["text"] spIsName := by
  obtain ⟨fd, F⟩ := T.says.def_ 9 (d := d_is_name) rfl
  have sc := sc_is_name
  refine ⟨_, fd, T.glo 20, F.kp, F.ok sc (fun vs H Q E h => ?len) (fun cdv A outer s H vs Q E hr h => ⟨_, PSs.nox (pss_cons (ps_if (pt_not (pt_chain oLe oLe pe_int (pe_callB cLen (by rfl) (T.free 6) (by decide +kernel) (pa_cons (pv 0) pa_nil)) (pe_gint (T.int 19) rfl))) (pss_one (ps_ret pe_bl)) pss_nil)
    (pss_cons (ps_if (pt_cmpR op_notInS (pe_ix ix_seq (pv 0) pe_int (fun _ _ => rfl)) (pe_gstr (T.str 18) rfl) (by with_unfolding_all rfl)) (pss_one (ps_ret pe_bl)) pss_nil)
    (pss_one (ps_ret (pe_callB (cr_all rfl) (by rfl) (T.free 16) (by decide +kernel) (pa_cons (pe_lc (own := [("char", 1)]) rfl sc.nd (pi_str (pv 0)) (blkOk_by (N := ["text", "char"]) (sc := defScope (top 19)) (by decide +kernel)) (fun _ _ _ _ _ => (pg_name (i := 1) sc.nd rfl (by first | exact Or.inl rfl | exact Or.inr rfl))) (fun _ _ _ _ _ => pts_nil) (fun _ _ _ _ _ => (pe_or (pe_cmpR op_inS (pv 1) (pe_gstr (T.str 18) rfl) (by with_unfolding_all rfl)) (pe_one (pe_cmpR op_inS (pv 1) (pe_gstr (T.str 17) rfl) (by with_unfolding_all rfl)))))) pa_nil)))))), ?rd⟩), F.bindsN fun _ _ _ _ _ _ us hl => match us, hl with | [_], _ => rfl⟩
  case len =>
    obtain ⟨z, rfl, _⟩ := h
    rfl
  case rd =>
    obtain ⟨z, rfl, hz, hQ⟩ := h
    show tSeq _ _ ⟨_, _, _, _⟩ [some (.str z), none] H
    try dsimp only [cxOf]
    have len := hz
    rw [lenS_eq] at len
    have bad : ¬ IsName z.cps.toList → ∀ H', Same H H' → Q (.bl false) H' := fun n H' s => by
      have := hQ H' s
      rw [decide_eq_false n] at this; exact this
    walk_at "ra"
    refine w_lenS (by rw [sizeLine_eq]; omega) ?_
    walk_at "ra"
    · rename_i c1 c2
      rw [lenS_eq] at c1 c2
      obtain ⟨c, h0, hh⟩ : ∃ c, z.cps.toList[0]? = some c ∧ z.cps.toList.head? = some c := by
        cases e : z.cps.toList with
        | nil => rw [e] at c1; exact absurd c1 (by simp)
        | cons a r => exact ⟨a, rfl, rfl⟩
      refine w_ixS (by rw [sizeLine_eq]; omega) (atI_of (by decide) h0) ?_
      walk_at "ra"
      · rename_i c3
        refine lc_S (goes_same H) (fun i acc => acc = ((z.cps.toList.take i).map fun c => V.bl (decide (Sgn c)))) rfl ?_ ?_
        · rintro D i x acc H1 hD hx rfl s1 ha
          have fin : ∀ t : Bool, t = decide (Sgn x) → kElt Same H D (fun i acc => acc = ((z.cps.toList.take i).map fun c => V.bl (decide (Sgn c)))) i (.bl t) H1 := fun t ht =>
            elt_done (goes_same H) hD ha (by rw [List.length_map, List.length_take]; omega) s1 (by rw [take_one hx, List.map_append, ht]; rfl)
          walk_at "ra"
          refine ⟨rfl, w_yes ?_⟩
          walk_at "ra"
          · rename_i c4
            exact fin _ (decide_eq_true (.inl c4)).symm
          · rename_i c4
            exact fin _ (decide_eq_decide.mpr ⟨fun h => .inr h, fun h => h.resolve_left c4⟩)
        · rintro l acc H1 hl s1 ha rfl
          have e : (z.cps.toList.take z.length).map (fun c => V.bl (decide (Sgn c))) = (z.cps.toList.map fun c => decide (Sgn c)).map V.bl := by
            rw [lenS_eq, List.take_length, List.map_map]; rfl
          rw [e] at ha
          walk_at "ra"
          refine w_all ha ?_
          rw [all_ok]
          have := hQ H1 s1
          rw [show decide (IsName z.cps.toList) = decide (∀ c ∈ z.cps.toList, Sgn c) from decide_eq_decide.mpr ⟨fun h => h.2.2, fun h => ⟨⟨by omega, by omega⟩, (fst_cons hh).mpr c3, h⟩⟩] at this
          exact this
      · rename_i c3
        exact bad (fun n => c3 ((fst_cons hh).mp n.2.1)) H (Same.refl H)
    · rename_i c1 c2
      exact bad (fun n => c2 (by rw [lenS_eq]; have := n.1.2; omega)) H (Same.refl H)
    · rename_i c1
      exact bad (fun n => c1 (by rw [lenS_eq]; have := n.1.1; omega)) H (Same.refl H)

end
end My
namespace My
open PySem PySem.Spec PyProof.Rows L2 Rd
section
variable {P : Program} {w : World} {K : PySem.W.Frag} {mg : Str → Option Value} {base : Heap}
theorem x_BadNumber (T : Tx fa fn xa fs P K mg) : ExcG P w K mg base 1 "BadNumber" ["self", "number"] (spX1 (He.ga K "BadNumber") "number") := by
  obtain ⟨fd, F⟩ := T.all.sdef 0 (d := s_BadNumber) rfl
  exact exc_one T (T.free 22) (T.glo 23) (T.exc 0) F (T.noat 21) rfl rfl rfl
    (cls_scope ⟨rfl, rfl, rfl, by decide +kernel, rfl, by decide +kernel, by decide +kernel⟩ (by decide +kernel) (fun _ => rfl) rfl (by decide +kernel) (fun x h => h))
    (by decide +kernel) rfl ⟨by decide, by decide⟩ ⟨by decide +kernel, by decide +kernel⟩ ⟨by decide +kernel, by decide +kernel⟩ (fun _ _ _ _ => ⟨_, rfl⟩) (fun _ _ _ _ => rfl) (fun _ _ _ _ => rfl)
    (fun _ _ _ _ _ _ _ us hu => match us, hu with | [_, _], _ => rfl)

end
end My
namespace My
open PySem PySem.Spec PyProof.Rows L2 Rd
section
variable {P : Program} {w : World} {K : PySem.W.Frag} {mg : Str → Option Value} {base : Heap}

theorem sc_Grid___init__ : FnScope ["self", "step", "offset"] ["self", "step", "offset"] (defScope (inClass (top 38) 0)) := ⟨rfl, rfl, rfl, by decide +kernel, rfl, by decide +kernel, by decide +kernel⟩
theorem f_Grid___init__ (T : Tx fa fn xa fs P K mg) : ∃ fd, FunD K "__init__" "Grid.__init__" (defArgs (inClass (top 38) 0)) (defBody (inClass (top 38) 0)) (defScope (inClass (top 38) 0)) (He.DefD.dvs K d_Grid___init__) (He.DefD.kws K d_Grid___init__) (He.ma K (He.ga K "Grid") "__init__") fd ∧ FnOk P w K mg base (CX P w) 3 (He.ma K (He.ga K "Grid") "__init__") fd ["self", "step", "offset"] (spGridI K) := by
  obtain ⟨fd, F⟩ := T.says.def_ 10 (d := d_Grid___init__) rfl
  have sc := sc_Grid___init__
  refine ⟨fd, F, F.ok sc (fun vs H Q E h => ?len) (fun cdv A outer s H vs Q E hr h => ⟨_, (pss_cons (ps_if (pt_cmpR oLt (pv 1) pe_int (nomark _)) (pss_one (ps_raise rfl (takes_of rfl rfl rfl rfl) (pmk_g (x_BadNumber T) (hr.mono (by decide)) rfl (pa_cons (pv 1) pa_nil)))) pss_nil)
    (pss_cons (ps_fld (pv 0) (pv 1) rfl)
    (pss_one (ps_fld (pv 0) (pe_op oMod (pv 2) (pv 1)) rfl)))), ?rd⟩)⟩
  case len =>
    obtain ⟨x, dx, s, o, rfl, _⟩ := h
    rfl
  case rd =>
    obtain ⟨x, dx, s, o, rfl, hx, hI⟩ := h
    show tSeq _ _ ⟨_, _, _, _⟩ [some (.ref x), some (.int s), some (.int o)] H
    try dsimp only [cxOf]
    have hcl_Grid : Cls K (He.ga K "Grid") := T.cls 24
    have hn_Grid_step : NoAttr K (He.ga K "Grid") "step" := T.noat 25
    have hn_Grid_offset : NoAttr K (He.ga K "Grid") "offset" := T.noat 26
    walk_at "ra"
    · refine use_raise1 fun d hd => ?_
      exact hI.bad (bad_t (by omega)) .refl hd
    · rw [upd_upd]
      exact hI.go (bad_f (by omega)) (But.refl.put) upd_same

end
end My
namespace My
open PySem PySem.Spec PyProof.Rows L2 Rd
section
variable {P : Program} {w : World} {K : PySem.W.Frag} {mg : Str → Option Value} {base : Heap}
theorem mk_Grid2 (T : Tx fa fn xa fs P K mg) : MkG P w K mg base (CX P w) 3 "Grid" ["self", "step", "offset"] [] (spGridI K) := by
  obtain ⟨fd, F, ok⟩ := f_Grid___init__ (w := w) (base := base) T
  obtain ⟨ds, hv, hb⟩ := F.binds1 (ps := ["self", "step", "offset"]) 3 1 (List.cons_ne_nil _ _) rfl (fun _ _ _ _ _ _ _ us its hu hi => match us, hu, its, hi with | [_, _, _], _, [_], _ => ⟨_, rfl, rfl⟩)
  exact ⟨_, fd, ds, T.glo 27, T.mkr 28, ok, hb, hv⟩
theorem mk_Grid1 (T : Tx fa fn xa fs P K mg) : MkG P w K mg base (CX P w) 3 "Grid" ["self", "step", "offset"] [.int 0] (spGridI K) := by
  obtain ⟨fd, F, ok⟩ := f_Grid___init__ (w := w) (base := base) T
  obtain ⟨ds, hv, hb⟩ := F.binds1 (ps := ["self", "step", "offset"]) 2 0 (List.cons_ne_nil _ _) rfl (fun _ _ _ _ _ _ _ us its hu hi => match us, hu, its, hi with | [_, _], _, [_], _ => ⟨_, rfl, rfl⟩)
  exact ⟨_, fd, ds, T.glo 27, T.mkr 28, ok, hb, hv⟩

end
end My
namespace My
open PySem PySem.Spec PyProof.Rows L2 Rd
section
variable {P : Program} {w : World} {K : PySem.W.Frag} {mg : Str → Option Value} {base : Heap}
theorem x_BadName (T : Tx fa fn xa fs P K mg) : ExcG P w K mg base 1 "BadName" ["self", "name"] (spX1 (He.ga K "BadName") "name") := by
  obtain ⟨fd, F⟩ := T.all.sdef 1 (d := s_BadName) rfl
  exact exc_one T (T.free 22) (T.glo 30) (T.exc 1) F (T.noat 29) rfl rfl rfl
    (cls_scope ⟨rfl, rfl, rfl, by decide +kernel, rfl, by decide +kernel, by decide +kernel⟩ (by decide +kernel) (fun _ => rfl) rfl (by decide +kernel) (fun x h => h))
    (by decide +kernel) rfl ⟨by decide, by decide⟩ ⟨by decide +kernel, by decide +kernel⟩ ⟨by decide +kernel, by decide +kernel⟩ (fun _ _ _ _ => ⟨_, rfl⟩) (fun _ _ _ _ => rfl) (fun _ _ _ _ => rfl)
    (fun _ _ _ _ _ _ _ us hu => match us, hu with | [_, _], _ => rfl)

end
end My
namespace My
open PySem PySem.Spec PyProof.Rows L2 Rd
section
variable {P : Program} {w : World} {K : PySem.W.Frag} {mg : Str → Option Value} {base : Heap}

theorem sc_Named___init__ : FnScope ["self", "name"] ["self", "name"] (defScope (inClass (top 23) 0)) := ⟨rfl, rfl, rfl, by decide +kernel, rfl, by decide +kernel, by decide +kernel⟩
theorem f_Named___init__ (T : Tx fa fn xa fs P K mg) : ∃ fd, FunD K "__init__" "Named.__init__" (defArgs (inClass (top 23) 0)) (defBody (inClass (top 23) 0)) (defScope (inClass (top 23) 0)) (He.DefD.dvs K d_Named___init__) (He.DefD.kws K d_Named___init__) (He.ma K (He.ga K "Named") "__init__") fd ∧ FnOk P w K mg base (CX P w) 3 (He.ma K (He.ga K "Named") "__init__") fd ["self", "name"] (spNamedI K) := by
  obtain ⟨fd, F⟩ := T.says.def_ 11 (d := d_Named___init__) rfl
  have sc := sc_Named___init__
  refine ⟨fd, F, F.ok sc (fun vs H Q E h => ?len) (fun cdv A outer s H vs Q E hr h => ⟨_, (pss_cons (ps_if (pt_not (pt_val (pe_cg (g_is_name T) (hr.mono (by decide)) rfl (pa_cons (pv 1) pa_nil)))) (pss_one (ps_raise rfl (takes_of rfl rfl rfl rfl) (pmk_g (x_BadName T) (hr.mono (by decide)) rfl (pa_cons (pv 1) pa_nil)))) pss_nil)
    (pss_one (ps_fld (pv 0) (pv 1) rfl))), ?rd⟩)⟩
  case len =>
    obtain ⟨x, C, dx, z, rfl, _⟩ := h
    rfl
  case rd =>
    obtain ⟨x, C, dx, z, rfl, hz, hcl, hn, hx, hI⟩ := h
    show tSeq _ _ ⟨_, _, _, _⟩ [some (.ref x), some (.str z)] H
    try dsimp only [cxOf]
    walk_at "ra"
    refine ⟨z, rfl, hz, fun H1 s1 => ?_⟩
    have hx1 := s1 _ _ hx
    walk_at "ra"
    · rename_i c1
      exact hI.go (bad_f fun n => n c1) ((But.same s1).put) upd_same
    · rename_i c1
      refine use_raise1 fun d hd => ?_
      exact hI.bad (bad_t c1) (.same s1) hd

end
end My
namespace My
open PySem PySem.Spec PyProof.Rows L2 Rd
section
variable {P : Program} {w : World} {K : PySem.W.Frag} {mg : Str → Option Value} {base : Heap}
theorem cf_Named (T : Tx fa fn xa fs P K mg) : CfG P w K mg base (CX P w) 3 "Named" "__init__" ["self", "name"] (spNamedI K) := by
  obtain ⟨fd, F, ok⟩ := f_Named___init__ (w := w) (base := base) T
  have hb := F.bindsN (ps := ["self", "name"]) fun _ _ _ _ _ _ us hl => match us, hl with | [_, _], _ => rfl
  exact ⟨_, fd, T.cfun 2, ok, hb⟩

end
end My
namespace My
open PySem PySem.Spec PyProof.Rows L2 Rd
section
variable {P : Program} {w : World} {K : PySem.W.Frag} {mg : Str → Option Value} {base : Heap}

theorem sc_Timed___init__ : FnScope ["self", "grid", "minute", "delay"] ["self", "grid", "minute", "delay"] (defScope (inClass (top 24) 1)) := ⟨rfl, rfl, rfl, by decide +kernel, rfl, by decide +kernel, by decide +kernel⟩
theorem f_Timed___init__ (T : Tx fa fn xa fs P K mg) : ∃ fd, FunD K "__init__" "Timed.__init__" (defArgs (inClass (top 24) 1)) (defBody (inClass (top 24) 1)) (defScope (inClass (top 24) 1)) (He.DefD.dvs K d_Timed___init__) (He.DefD.kws K d_Timed___init__) (He.ma K (He.ga K "Timed") "__init__") fd ∧ FnOk P w K mg base (CX P w) 3 (He.ma K (He.ga K "Timed") "__init__") fd ["self", "grid", "minute", "delay"] (spTimedI K) := by
  obtain ⟨fd, F⟩ := T.says.def_ 12 (d := d_Timed___init__) rfl
  have sc := sc_Timed___init__
  refine ⟨fd, F, F.ok sc (fun vs H Q E h => ?len) (fun cdv A outer s H vs Q E hr h => ⟨_, (pss_cons (ps_if (pt_not (pt_chain oLe oLe pe_int (pv 3) (pe_cint (He.ga K "Timed") (T.cint 3) (pe_glob (v := .ref (He.ga K "Timed")) (by rfl) (T.glo 32) rfl)))) (pss_one (ps_raise rfl (takes_of rfl rfl rfl rfl) (pmk_g (x_BadNumber T) (hr.mono (by decide)) rfl (pa_cons (pv 3) pa_nil)))) pss_nil)
    (pss_cons (ps_fld (pv 0) (pv 1) rfl)
    (pss_cons (ps_fld (pv 0) (pv 2) rfl)
    (pss_one (ps_fld (pv 0) (pv 3) rfl))))), ?rd⟩)⟩
  case len =>
    obtain ⟨x, C, dx, gr, m, de, fs0, rfl, _⟩ := h
    rfl
  case rd =>
    obtain ⟨x, C, dx, gr, m, de, fs0, rfl, hcl, hn1, hn2, hn3, hf, hx, hI⟩ := h
    show tSeq _ _ ⟨_, _, _, _⟩ [some (.ref x), some (.ref gr), some (optV m), some (.int de)] H
    try dsimp only [cxOf]
    rcases hf with rfl | ⟨z, rfl⟩
    all_goals
      walk_at "ra"
      · rw [upd_upd, upd_upd]
        exact hI.go (bad_f fun n => n ⟨by omega, by omega⟩) (But.refl.put) upd_same
      · refine use_raise1 fun d hd => ?_
        exact hI.bad (bad_t (by omega)) .refl hd
      · refine use_raise1 fun d hd => ?_
        exact hI.bad (bad_t (by omega)) .refl hd

end
end My
namespace My
open PySem PySem.Spec PyProof.Rows L2 Rd
section
variable {P : Program} {w : World} {K : PySem.W.Frag} {mg : Str → Option Value} {base : Heap}
theorem cf_Timed (T : Tx fa fn xa fs P K mg) : CfG P w K mg base (CX P w) 3 "Timed" "__init__" ["self", "grid", "minute", "delay"] (spTimedI K) := by
  obtain ⟨fd, F, ok⟩ := f_Timed___init__ (w := w) (base := base) T
  obtain ⟨ds, hv, hb⟩ := F.binds1 (ps := ["self", "grid", "minute", "delay"]) 4 2 (List.cons_ne_nil _ _) rfl (fun _ _ _ _ _ _ _ us its hu hi => match us, hu, its, hi with | [_, _, _, _], _, [_, _], _ => ⟨_, rfl, rfl⟩)
  cases hv
  exact ⟨_, fd, T.cfun 4, ok, hb⟩

end
end My
namespace My
open PySem PySem.Spec PyProof.Rows L2 Rd
section
variable {P : Program} {w : World} {K : PySem.W.Frag} {mg : Str → Option Value} {base : Heap}

theorem sc_Item___init__ : FnScope ["self", "name", "grid", "minute", "delay"] ["self", "name", "grid", "minute", "delay"] (defScope (inClass (top 25) 0)) := ⟨rfl, rfl, rfl, by decide +kernel, rfl, by decide +kernel, by decide +kernel⟩
theorem f_Item___init__ (T : Tx fa fn xa fs P K mg) : ∃ fd, FunD K "__init__" "Item.__init__" (defArgs (inClass (top 25) 0)) (defBody (inClass (top 25) 0)) (defScope (inClass (top 25) 0)) (He.DefD.dvs K d_Item___init__) (He.DefD.kws K d_Item___init__) (He.ma K (He.ga K "Item") "__init__") fd ∧ FnOk P w K mg base (CX P w) 4 (He.ma K (He.ga K "Item") "__init__") fd ["self", "name", "grid", "minute", "delay"] (spItemI K) := by
  obtain ⟨fd, F⟩ := T.says.def_ 13 (d := d_Item___init__) rfl
  have sc := sc_Item___init__
  refine ⟨fd, F, F.ok sc (fun vs H Q E h => ?len) (fun cdv A outer s H vs Q E hr h => ⟨_, (pss_cons (ps_expr (pe_cfS (sp := (spNamedI K)) (E := fun _ => _) (cf_Named T) (hr.mono (by decide)) (Passes.at_ (passes_call (takes_of rfl rfl rfl rfl) (fun _ _ _ _ z => z))) (pe_glob (v := .ref (He.ga K "Named")) (by rfl) (T.glo 31) rfl) (pa_cons (pv 0) (pa_cons (pv 1) pa_nil))))
    (pss_one (ps_expr (pe_cfS (sp := (spTimedI K)) (E := fun _ => _) (cf_Timed T) (hr.mono (by decide)) (Passes.at_ (passes_call (takes_of rfl rfl rfl rfl) (fun _ _ _ _ z => z))) (pe_glob (v := .ref (He.ga K "Timed")) (by rfl) (T.glo 32) rfl) (pa_cons (pv 0) (pa_cons (pv 2) (pa_cons (pv 3) (pa_cons (pv 4) pa_nil)))))))), ?rd⟩)⟩
  case len =>
    obtain ⟨x, C, dx, gr, z, m, de, rfl, _⟩ := h
    rfl
  case rd =>
    obtain ⟨x, C, dx, gr, z, m, de, rfl, hz, hcl, hn1, hn2, hn3, hn4, hx, hI⟩ := h
    show tSeq _ _ ⟨_, _, _, _⟩ [some (.ref x), some (.str z), some (.ref gr), some (optV m), some (.int de)] H
    try dsimp only [cxOf]
    walk_at "ra"
    refine ⟨x, C, dx, z, rfl, hz, hcl, hn1, hx, Inits.mk (fun n H1 b1 hx1 => ?_) fun e n d H1 b1 hd => hI.bad (due_s n) b1 hd⟩
    walk_at "ra"
    refine ⟨x, C, dx, gr, m, de, _, rfl, hcl, hn2, hn3, hn4, .inr ⟨z, rfl⟩, hx1, Inits.mk (fun n2 H2 b2 hx2 => ?_) fun e n2 d H2 b2 hd => hI.bad ((due_n n).trans n2) (b1.trans b2) hd⟩
    walk_at "ra"
    exact hI.go ((due_n n).trans n2) (b1.trans b2) hx2

end
end My
namespace My
open PySem PySem.Spec PyProof.Rows L2 Rd
section
variable {P : Program} {w : World} {K : PySem.W.Frag} {mg : Str → Option Value} {base : Heap}
theorem f_Piece___init__ (T : Tx fa fn xa fs P K mg) : ∃ fd, FunS K "__init__" "Piece.__init__" (inClass (top 26) 1) [] (s_Piece.kws K) (He.ga K "Piece") (iAd K "Piece") fd ∧ FnOk P w K mg base (CX P w) 5 (iAd K "Piece") fd ["self", "name", "grid", "least", "most", "minute", "delay"] (spPieceI K) := by
  obtain ⟨fd, F⟩ := T.all.sdef 2 (d := s_Piece) rfl
  obtain ⟨fdI, FI, okI⟩ := f_Item___init__ (w := w) (base := base) T
  obtain ⟨bu, hb⟩ := FunD.kb FI (n := 2) (ks := ["grid", "minute", "delay"]) (ms := []) (ps := ["self", "name", "grid", "minute", "delay"]) (List.cons_ne_nil _ _) (fun q hq => nomatch hq) (fun au bu cu => au ++ cu) (fun a b c => a.append c) (fun D doc pm an cdv ct au bu cu hu hm hw => match au, hu, bu, hm, cu, hw with | [_, _], _, [], _, [_, _, _], _ => rfl)
  refine ⟨fd, F, fn_sup T (T.free 22) F (T.sup 6) okI hb rfl rfl rfl rfl (cls_scope ⟨rfl, rfl, rfl, by decide +kernel, rfl, by decide +kernel, by decide +kernel⟩ (by decide +kernel) (fun _ => rfl) rfl (by decide +kernel) (fun x h => h)) (by decide +kernel) (by decide +kernel) (by decide) (by decide +kernel) (by decide) (fun _ _ _ _ => ⟨_, rfl⟩) (fun _ _ _ _ => rfl) (fun _ _ _ _ => rfl) (fun _ _ _ _ => rfl) (fun _ _ _ _ => rfl) (fun _ _ _ _ => rfl) (by decide) (fun vs H Q E h => ?len)
    (fun cda cc A outer s H vs Q E hr h => ⟨_, _, E, _, (pa_cons (pv 1) pa_nil), (pk_cons (pv 2) (pk_cons (pv 5) (pk_cons (pv 6) pk_nil))), (passes_call (takes_of rfl rfl rfl rfl) (fun _ _ _ _ z => z)), (pss_cons (ps_if (pt_cmpR oLt (pv 3) pe_int (nomark _)) (pss_one (ps_raise rfl (takes_of rfl rfl rfl rfl) (pmk_g (x_BadNumber T) (hr.mono (by decide)) rfl (pa_cons (pv 3) pa_nil)))) pss_nil)
    (pss_cons (ps_if (pt_not (pt_chain oLe oLe (pv 3) (pv 4) (pe_op oAdd (pv 3) (pe_cint (He.ga K "Piece") (T.cint 5) (pe_glob (v := .ref (He.ga K "Piece")) (by rfl) (T.glo 34) rfl))))) (pss_one (ps_raise rfl (takes_of rfl rfl rfl rfl) (pmk_g (x_BadNumber T) (hr.mono (by decide)) rfl (pa_cons (pv 4) pa_nil)))) pss_nil)
    (pss_cons (ps_fld (pv 0) (pv 3) rfl)
    (pss_one (ps_fld (pv 0) (pv 4) rfl))))), ?rd⟩)⟩
  case len =>
    obtain ⟨x, dx, gr, z, m, de, lo, hi, rfl, _⟩ := h
    rfl
  case rd =>
    obtain ⟨x, dx, gr, z, m, de, lo, hi, rfl, hz, hx, hI⟩ := h
    have hcl_Piece : Cls K (He.ga K "Piece") := T.cls 35
    have hn_Piece_name : NoAttr K (He.ga K "Piece") "name" := T.noat 36
    have hn_Piece_grid : NoAttr K (He.ga K "Piece") "grid" := T.noat 37
    have hn_Piece_minute : NoAttr K (He.ga K "Piece") "minute" := T.noat 38
    have hn_Piece_delay : NoAttr K (He.ga K "Piece") "delay" := T.noat 39
    have hn_Piece_least : NoAttr K (He.ga K "Piece") "least" := T.noat 40
    have hn_Piece_most : NoAttr K (He.ga K "Piece") "most" := T.noat 41
    refine w_sup rfl hx fun q H1 hq s1 hm => ?_
    try dsimp only [cxD, cxC, cxOf]
    walk_at "ra"
    refine w_ksup3 rfl rfl hm ⟨x, He.ga K "Piece", dx, gr, z, m, de, rfl, hz, hcl_Piece, hn_Piece_name, hn_Piece_grid, hn_Piece_minute, hn_Piece_delay, s1 _ _ hx, Inits.mk (fun n H2 b2 hx2 => ?_) fun e n d H2 b2 hd => hI.bad (due_s n) ((But.same s1).trans b2) hd⟩
    walk_at "ra"
    all_goals first
      | (refine use_raise1 fun d hd => ?_
         first
           | exact hI.bad ((due_n n).trans (due_s (bad_t (by omega)))) ((But.same s1).trans b2) hd
           | exact hI.bad ((due_n n).trans ((due_n (bad_f (by omega))).trans (bad_t (by omega)))) ((But.same s1).trans b2) hd)
      | (rw [upd_upd]
         exact hI.go ((due_n n).trans ((due_n (bad_f (by omega))).trans (bad_f (by omega)))) (((But.same s1).trans b2).put) upd_same)

end
end My
namespace My
open PySem PySem.Spec PyProof.Rows L2 Rd
section
variable {P : Program} {w : World} {K : PySem.W.Frag} {mg : Str → Option Value} {base : Heap}
theorem mk_Piece3 (T : Tx fa fn xa fs P K mg) : MkK P w K mg base (CX P w) 5 "Piece" ["self", "name", "grid", "least", "most", "minute", "delay"] 1 ["grid", "least", "most"] (fun vs zs => vs ++ zs ++ [.non, .int 0]) (spPieceI K) := by
  obtain ⟨fd, F, ok⟩ := f_Piece___init__ (w := w) (base := base) T
  obtain ⟨bu, hb⟩ := FunS.kb F (n := 2) (ks := ["grid", "least", "most"]) (ms := [("minute", .non), ("delay", .int 0)]) (ps := ["self", "name", "grid", "least", "most", "minute", "delay"]) (List.cons_ne_nil _ _) (fun q hq => hq) (fun au bu cu => au ++ cu ++ bu) (fun a b c => (a.append c).append b) (fun D doc pm an cda ct cc au bu cu hu hm hw => match au, hu, bu, hm, cu, hw with | [_, _], _, [_, _], _, [_, _, _], _ => ⟨_, _, _, _, _, _, rfl, rfl, ⟨_, _, _, _, _, _, rfl, rfl, rfl⟩⟩)
  exact ⟨_, fd, _, T.glo 34, T.mkr 42, ok, hb⟩

end
end My
namespace My
open PySem PySem.Spec PyProof.Rows L2 Rd
section
variable {P : Program} {w : World} {K : PySem.W.Frag} {mg : Str → Option Value} {base : Heap}
theorem mk_Piece5 (T : Tx fa fn xa fs P K mg) : MkK P w K mg base (CX P w) 5 "Piece" ["self", "name", "grid", "least", "most", "minute", "delay"] 1 ["grid", "least", "most", "minute", "delay"] (fun vs zs => vs ++ zs) (spPieceI K) := by
  obtain ⟨fd, F, ok⟩ := f_Piece___init__ (w := w) (base := base) T
  obtain ⟨bu, hb⟩ := FunS.kb F (n := 2) (ks := ["grid", "least", "most", "minute", "delay"]) (ms := []) (ps := ["self", "name", "grid", "least", "most", "minute", "delay"]) (List.cons_ne_nil _ _) (fun q hq => nomatch hq) (fun au bu cu => au ++ cu) (fun a b c => a.append c) (fun D doc pm an cda ct cc au bu cu hu hm hw => match au, hu, bu, hm, cu, hw with | [_, _], _, [], _, [_, _, _, _, _], _ => rfl)
  exact ⟨_, fd, _, T.glo 34, T.mkr 42, ok, hb⟩

end
end My
namespace My
open PySem PySem.Spec PyProof.Rows L2 Rd
section
variable {P : Program} {w : World} {K : PySem.W.Frag} {mg : Str → Option Value} {base : Heap}
theorem f_Break___init__ (T : Tx fa fn xa fs P K mg) : ∃ fd, FunS K "__init__" "Break.__init__" (inClass (top 27) 2) [] (s_Break.kws K) (He.ga K "Break") (iAd K "Break") fd ∧ FnOk P w K mg base (CX P w) 5 (iAd K "Break") fd ["self", "name", "grid", "minute", "places", "unit", "delay", "patience"] (spBreakI K) := by
  obtain ⟨fd, F⟩ := T.all.sdef 3 (d := s_Break) rfl
  obtain ⟨fdI, FI, okI⟩ := f_Item___init__ (w := w) (base := base) T
  obtain ⟨bu, hb⟩ := FunD.kb FI (n := 2) (ks := ["grid", "minute", "delay"]) (ms := []) (ps := ["self", "name", "grid", "minute", "delay"]) (List.cons_ne_nil _ _) (fun q hq => nomatch hq) (fun au bu cu => au ++ cu) (fun a b c => a.append c) (fun D doc pm an cdv ct au bu cu hu hm hw => match au, hu, bu, hm, cu, hw with | [_, _], _, [], _, [_, _, _], _ => rfl)
  refine ⟨fd, F, fn_sup T (T.free 22) F (T.sup 9) okI hb rfl rfl rfl rfl (cls_scope ⟨rfl, rfl, rfl, by decide +kernel, rfl, by decide +kernel, by decide +kernel⟩ (by decide +kernel) (fun _ => rfl) rfl (by decide +kernel) (fun x h => h)) (by decide +kernel) (by decide +kernel) (by decide) (by decide +kernel) (by decide) (fun _ _ _ _ => ⟨_, rfl⟩) (fun _ _ _ _ => rfl) (fun _ _ _ _ => rfl) (fun _ _ _ _ => rfl) (fun _ _ _ _ => rfl) (fun _ _ _ _ => rfl) (by decide) (fun vs H Q E h => ?len)
    (fun cda cc A outer s H vs Q E hr h => ⟨_, _, E, _, (pa_cons (pv 1) pa_nil), (pk_cons (pv 2) (pk_cons (pv 3) (pk_cons (pv 6) pk_nil))), (passes_call (takes_of rfl rfl rfl rfl) (fun _ _ _ _ z => z)), (pss_cons (ps_if (pt_not (pt_chain oLe oLe pe_int (pv 4) (pe_cint (He.ga K "Break") (T.cint 8) (pe_glob (v := .ref (He.ga K "Break")) (by rfl) (T.glo 43) rfl)))) (pss_one (ps_raise rfl (takes_of rfl rfl rfl rfl) (pmk_g (x_BadNumber T) (hr.mono (by decide)) rfl (pa_cons (pv 4) pa_nil)))) pss_nil)
    (pss_cons (ps_if (pt_cmpR oLt (pv 5) pe_int (nomark _)) (pss_one (ps_raise rfl (takes_of rfl rfl rfl rfl) (pmk_g (x_BadNumber T) (hr.mono (by decide)) rfl (pa_cons (pv 5) pa_nil)))) pss_nil)
    (pss_cons (ps_if (pt_not (pt_chain oLe oLe pe_int (pv 7) (pe_cint (He.ga K "Break") (T.cint 7) (pe_glob (v := .ref (He.ga K "Break")) (by rfl) (T.glo 43) rfl)))) (pss_one (ps_raise rfl (takes_of rfl rfl rfl rfl) (pmk_g (x_BadNumber T) (hr.mono (by decide)) rfl (pa_cons (pv 7) pa_nil)))) pss_nil)
    (pss_cons (ps_fld (pv 0) (pv 4) rfl)
    (pss_cons (ps_fld (pv 0) (pv 5) rfl)
    (pss_one (ps_fld (pv 0) (pv 7) rfl))))))), ?rd⟩)⟩
  case len =>
    obtain ⟨x, dx, gr, z, m, de, pl, un, pa, rfl, _⟩ := h
    rfl
  case rd =>
    obtain ⟨x, dx, gr, z, m, de, pl, un, pa, rfl, hz, hx, hI⟩ := h
    have hcl_Break : Cls K (He.ga K "Break") := T.cls 44
    have hn_Break_name : NoAttr K (He.ga K "Break") "name" := T.noat 45
    have hn_Break_grid : NoAttr K (He.ga K "Break") "grid" := T.noat 46
    have hn_Break_minute : NoAttr K (He.ga K "Break") "minute" := T.noat 47
    have hn_Break_delay : NoAttr K (He.ga K "Break") "delay" := T.noat 48
    have hn_Break_places : NoAttr K (He.ga K "Break") "places" := T.noat 49
    have hn_Break_unit : NoAttr K (He.ga K "Break") "unit" := T.noat 50
    have hn_Break_patience : NoAttr K (He.ga K "Break") "patience" := T.noat 51
    refine w_sup rfl hx fun q H1 hq s1 hm => ?_
    try dsimp only [cxD, cxC, cxOf]
    walk_at "ra"
    refine w_ksup3 rfl rfl hm ⟨x, He.ga K "Break", dx, gr, z, some m, de, rfl, hz, hcl_Break, hn_Break_name, hn_Break_grid, hn_Break_minute, hn_Break_delay, s1 _ _ hx, Inits.mk (fun n H2 b2 hx2 => ?_) fun e n d H2 b2 hd => hI.bad (due_s n) ((But.same s1).trans b2) hd⟩
    walk_at "ra"
    all_goals first
      | (refine use_raise1 fun d hd => ?_
         first
           | exact hI.bad ((due_n n).trans (due_s (bad_t (by omega)))) ((But.same s1).trans b2) hd
           | exact hI.bad ((due_n n).trans ((due_n (bad_f (by omega))).trans (due_s (bad_t (by omega))))) ((But.same s1).trans b2) hd
           | exact hI.bad ((due_n n).trans ((due_n (bad_f (by omega))).trans ((due_n (bad_f (by omega))).trans (bad_t (by omega))))) ((But.same s1).trans b2) hd)
      | (rw [upd_upd, upd_upd]
         exact hI.go ((due_n n).trans ((due_n (bad_f (by omega))).trans ((due_n (bad_f (by omega))).trans (bad_f (by omega))))) (((But.same s1).trans b2).put) upd_same)

end
end My
namespace My
open PySem PySem.Spec PyProof.Rows L2 Rd
section
variable {P : Program} {w : World} {K : PySem.W.Frag} {mg : Str → Option Value} {base : Heap}
theorem mk_Break4 (T : Tx fa fn xa fs P K mg) : MkK P w K mg base (CX P w) 5 "Break" ["self", "name", "grid", "minute", "places", "unit", "delay", "patience"] 1 ["grid", "minute", "places", "unit"] (fun vs zs => vs ++ zs ++ [.int 0, .int 1]) (spBreakI K) := by
  obtain ⟨fd, F, ok⟩ := f_Break___init__ (w := w) (base := base) T
  obtain ⟨bu, hb⟩ := FunS.kb F (n := 2) (ks := ["grid", "minute", "places", "unit"]) (ms := [("delay", .int 0), ("patience", .int 1)]) (ps := ["self", "name", "grid", "minute", "places", "unit", "delay", "patience"]) (List.cons_ne_nil _ _) (fun q hq => hq) (fun au bu cu => au ++ cu ++ bu) (fun a b c => (a.append c).append b) (fun D doc pm an cda ct cc au bu cu hu hm hw => match au, hu, bu, hm, cu, hw with | [_, _], _, [_, _], _, [_, _, _, _], _ => ⟨_, _, _, _, _, _, rfl, rfl, ⟨_, _, _, _, _, _, rfl, rfl, rfl⟩⟩)
  exact ⟨_, fd, _, T.glo 43, T.mkr 52, ok, hb⟩

end
end My
namespace My
open PySem PySem.Spec PyProof.Rows L2 Rd
section
variable {P : Program} {w : World} {K : PySem.W.Frag} {mg : Str → Option Value} {base : Heap}
theorem mk_Break6 (T : Tx fa fn xa fs P K mg) : MkK P w K mg base (CX P w) 5 "Break" ["self", "name", "grid", "minute", "places", "unit", "delay", "patience"] 1 ["grid", "minute", "places", "unit", "delay", "patience"] (fun vs zs => vs ++ zs) (spBreakI K) := by
  obtain ⟨fd, F, ok⟩ := f_Break___init__ (w := w) (base := base) T
  obtain ⟨bu, hb⟩ := FunS.kb F (n := 2) (ks := ["grid", "minute", "places", "unit", "delay", "patience"]) (ms := []) (ps := ["self", "name", "grid", "minute", "places", "unit", "delay", "patience"]) (List.cons_ne_nil _ _) (fun q hq => nomatch hq) (fun au bu cu => au ++ cu) (fun a b c => a.append c) (fun D doc pm an cda ct cc au bu cu hu hm hw => match au, hu, bu, hm, cu, hw with | [_, _], _, [], _, [_, _, _, _, _, _], _ => rfl)
  exact ⟨_, fd, _, T.glo 43, T.mkr 52, ok, hb⟩

end
end My
namespace My
open PySem PySem.Spec PyProof.Rows L2 Rd
section
variable {P : Program} {w : World} {K : PySem.W.Frag} {mg : Str → Option Value} {base : Heap}
open NameM
def spItem (K : PySem.W.Frag) : Sp := fun vs H Q _ => ∃ (v : V) (i : Itm) (X : List Addr), vs = [v] ∧ Dat K X H v i.dat ∧ ItmOk i ∧ ∀ (a : Addr) (H' : Hp), H a = none → Same H H' → ItemAt K H' a i → Q (.ref a) H'

theorem sc__law_item : FnScope ["_law_item_here"] ["_law_item_here"] (defScope (top 63)) := ⟨rfl, rfl, rfl, by decide +kernel, rfl, by decide +kernel, by decide +kernel⟩
theorem g__law_item (T : Tx fa fn xa fs P K mg) : FnG P w K mg base CX0 7 "_law_item" ["_law_item_here"] (spItem K) := by
  obtain ⟨fd, F⟩ := T.says.def_ 14 (d := d__law_item) rfl
  have sc := sc__law_item
  refine ⟨_, fd, T.glo 53, F.kp, F.ok sc (fun vs H Q E h => ?len) (fun cdv A outer s H vs Q E hr h => ⟨_, PSs.nox (pss_cons (ps_if (pt_cmpR op_eq (pe_ix ix_seq (pv 0) pe_int (fun _ _ => rfl)) pe_str (nomark _)) (pss_cons (ps_if (PW.pt (pw_and (pt_cmpR op_eq (pe_ix ix_seq (pv 0) pe_int (fun _ _ => rfl)) pe_int (nomark _)) (pw_and1 (pt_cmpR op_eq (pe_ix ix_seq (pv 0) pe_int (fun _ _ => rfl)) pe_int (nomark _))))) (pss_one (ps_ret (pe_mkK (mk_Break4 T) (hr.mono (by decide)) rfl passL (pa_cons (pe_ix ix_seq (pv 0) pe_int (fun _ _ => rfl)) pa_nil) (pk_cons (pe_mkE (mk_Grid2 T) (hr.mono (by decide)) rfl passL (pa_cons (pe_ix ix_seq (pe_ix ix_seq (pv 0) pe_int (fun _ _ => rfl)) pe_int (fun _ _ => rfl)) (pa_cons (pe_ix ix_seq (pe_ix ix_seq (pv 0) pe_int (fun _ _ => rfl)) pe_int (fun _ _ => rfl)) pa_nil))) (pk_cons (pe_ix ix_seq (pv 0) pe_int (fun _ _ => rfl)) (pk_cons (pe_ix ix_seq (pv 0) pe_int (fun _ _ => rfl)) (pk_cons (pe_ix ix_seq (pv 0) pe_int (fun _ _ => rfl)) pk_nil))))))) pss_nil)
    (pss_one (ps_ret (pe_mkK (mk_Break6 T) (hr.mono (by decide)) rfl passL (pa_cons (pe_ix ix_seq (pv 0) pe_int (fun _ _ => rfl)) pa_nil) (pk_cons (pe_mkE (mk_Grid2 T) (hr.mono (by decide)) rfl passL (pa_cons (pe_ix ix_seq (pe_ix ix_seq (pv 0) pe_int (fun _ _ => rfl)) pe_int (fun _ _ => rfl)) (pa_cons (pe_ix ix_seq (pe_ix ix_seq (pv 0) pe_int (fun _ _ => rfl)) pe_int (fun _ _ => rfl)) pa_nil))) (pk_cons (pe_ix ix_seq (pv 0) pe_int (fun _ _ => rfl)) (pk_cons (pe_ix ix_seq (pv 0) pe_int (fun _ _ => rfl)) (pk_cons (pe_ix ix_seq (pv 0) pe_int (fun _ _ => rfl)) (pk_cons (pe_ix ix_seq (pv 0) pe_int (fun _ _ => rfl)) (pk_cons (pe_ix ix_seq (pv 0) pe_int (fun _ _ => rfl)) pk_nil)))))))))) pss_nil)
    (pss_cons (ps_if (PW.pt (pw_and (pt_cmpR oIs (pe_ix ix_seq (pv 0) pe_int (fun _ _ => rfl)) pe_non (nomark _)) (pw_and1 (pt_cmpR op_eq (pe_ix ix_seq (pv 0) pe_int (fun _ _ => rfl)) pe_int (nomark _))))) (pss_one (ps_ret (pe_mkK (mk_Piece3 T) (hr.mono (by decide)) rfl passL (pa_cons (pe_ix ix_seq (pv 0) pe_int (fun _ _ => rfl)) pa_nil) (pk_cons (pe_mkE (mk_Grid2 T) (hr.mono (by decide)) rfl passL (pa_cons (pe_ix ix_seq (pe_ix ix_seq (pv 0) pe_int (fun _ _ => rfl)) pe_int (fun _ _ => rfl)) (pa_cons (pe_ix ix_seq (pe_ix ix_seq (pv 0) pe_int (fun _ _ => rfl)) pe_int (fun _ _ => rfl)) pa_nil))) (pk_cons (pe_ix ix_seq (pv 0) pe_int (fun _ _ => rfl)) (pk_cons (pe_ix ix_seq (pv 0) pe_int (fun _ _ => rfl)) pk_nil)))))) pss_nil)
    (pss_one (ps_ret (pe_mkK (mk_Piece5 T) (hr.mono (by decide)) rfl passL (pa_cons (pe_ix ix_seq (pv 0) pe_int (fun _ _ => rfl)) pa_nil) (pk_cons (pe_mkE (mk_Grid2 T) (hr.mono (by decide)) rfl passL (pa_cons (pe_ix ix_seq (pe_ix ix_seq (pv 0) pe_int (fun _ _ => rfl)) pe_int (fun _ _ => rfl)) (pa_cons (pe_ix ix_seq (pe_ix ix_seq (pv 0) pe_int (fun _ _ => rfl)) pe_int (fun _ _ => rfl)) pa_nil))) (pk_cons (pe_ix ix_seq (pv 0) pe_int (fun _ _ => rfl)) (pk_cons (pe_ix ix_seq (pv 0) pe_int (fun _ _ => rfl)) (pk_cons (pe_ix ix_seq (pv 0) pe_int (fun _ _ => rfl)) (pk_cons (pe_ix ix_seq (pv 0) pe_int (fun _ _ => rfl)) pk_nil)))))))))), ?rd⟩), F.bindsN fun _ _ _ _ _ _ us hl => match us, hl with | [_], _ => rfl⟩
  case len =>
    obtain ⟨v, i, X, rfl, _⟩ := h
    rfl
  case rd =>
    obtain ⟨v, i, X, rfl, hv, ok, hQ⟩ := h
    show tIfS _ _ _ ⟨_, _, _, _⟩ [some (v)] H
    try dsimp only [cxOf]
    cases i with
    | pc z st of m de lo hi =>
      obtain ⟨t, g, rfl, ht, hg⟩ := Itm.pcAt hv
      have zl := IsName.short ok.1
      have ixT : ∀ (n : Int) (u : V) (H' : Hp) (Q : VK), atI [V.str "piece", .str z, .ref g, optV m, .int de, .int lo, .int hi] n = some u → Same H H' → Q u H' → rIx K (.ref t) (.int n) H' Q := fun n u H' Q e s q => w_ixT (Same.tup s ht) e q
      have ixG : ∀ (n : Int) (u : V) (H' : Hp) (Q : VK), atI [V.int st, .int of] n = some u → Same H H' → Q u H' → rIx K (.ref g) (.int n) H' Q := fun n u H' Q e s q => w_ixT (Same.tup s hg) e q
      have er := pc_er ok
      have em : of % st = of := Int.emod_eq_of_lt ok.2.2.1.1 ok.2.2.1.2
      have st1 := ok.2.1
      cases m with
      | none =>
        dsimp only [optV] at *
        walk_at "rw"
        refine ixT _ _ _ _ rfl (Same.refl _) ?_
        walk_at "rw"
        · rename_i c1
          exact absurd c1 (by decide)
        iterate 22
          all_goals first
            | (refine ixT _ _ _ _ rfl (by walk_at "same") ?_)
            | (refine ixG _ _ _ _ rfl (by walk_at "same") ?_)
            | (refine use_grid (Makes.ok (bad_f (by omega)) fun gr dg H1 hgr s1 eg => ?_)
               rw [em] at eg)
            | walk_at "rw"
        all_goals first
          | (refine use_piece3 (by omega) (Makes.ok ?_ fun x dx H2 hx s2 e => ?_)
             · have hde : de = 0 := by assumption
               rw [← hde]; exact er
             · have hde : de = 0 := by assumption
               rw [← hde] at e
               exact hQ x H2 (same_none s1 hx) (s1.trans s2) ⟨dx, gr, e, IsGrid.keep ⟨dg, eg⟩ s2⟩)
          | (refine use_piece5 (m := none) (by omega) (Makes.ok er fun x dx H2 hx s2 e => ?_)
             exact hQ x H2 (same_none s1 hx) (s1.trans s2) ⟨dx, gr, e, IsGrid.keep ⟨dg, eg⟩ s2⟩)
      | some mi =>
        dsimp only [optV] at *
        walk_at "rw"
        refine ixT _ _ _ _ rfl (Same.refl _) ?_
        walk_at "rw"
        · rename_i c1
          exact absurd c1 (by decide)
        iterate 22
          all_goals first
            | (refine ixT _ _ _ _ rfl (by walk_at "same") ?_)
            | (refine ixG _ _ _ _ rfl (by walk_at "same") ?_)
            | (refine use_grid (Makes.ok (bad_f (by omega)) fun gr dg H1 hgr s1 eg => ?_)
               rw [em] at eg)
            | walk_at "rw"
        refine use_piece5 (m := some mi) (by omega) (Makes.ok er fun x dx H2 hx s2 e => ?_)
        exact hQ x H2 (same_none s1 hx) (s1.trans s2) ⟨dx, gr, e, IsGrid.keep ⟨dg, eg⟩ s2⟩
    | br z st of mi de pl un pa =>
      obtain ⟨t, g, rfl, ht, hg⟩ := Itm.brAt hv
      have zl := IsName.short ok.1
      have ixT : ∀ (n : Int) (u : V) (H' : Hp) (Q : VK), atI [V.str "break", .str z, .ref g, .int mi, .int de, .int pl, .int un, .int pa] n = some u → Same H H' → Q u H' → rIx K (.ref t) (.int n) H' Q := fun n u H' Q e s q => w_ixT (Same.tup s ht) e q
      have ixG : ∀ (n : Int) (u : V) (H' : Hp) (Q : VK), atI [V.int st, .int of] n = some u → Same H H' → Q u H' → rIx K (.ref g) (.int n) H' Q := fun n u H' Q e s q => w_ixT (Same.tup s hg) e q
      have er := br_er ok
      have em : of % st = of := Int.emod_eq_of_lt ok.2.2.1.1 ok.2.2.1.2
      have st1 := ok.2.1
      walk_at "rw"
      refine ixT _ _ _ _ rfl (Same.refl _) ?_
      walk_at "rw"
      all_goals first
        | exact absurd rfl (by assumption)
        | skip
      iterate 24
        all_goals first
          | (refine ixT _ _ _ _ rfl (by walk_at "same") ?_)
          | (refine ixG _ _ _ _ rfl (by walk_at "same") ?_)
          | (refine use_grid (Makes.ok (bad_f (by omega)) fun gr dg H1 hgr s1 eg => ?_)
             rw [em] at eg)
          | walk_at "rw"
      all_goals first
        | (refine use_break4 (by omega) (Makes.ok ?_ fun x dx H2 hx s2 e => ?_)
           · have hde : de = 0 := by assumption
             have hpa : pa = 1 := by assumption
             rw [← hde, ← hpa]; rw [hpa, hde] at er ⊢; exact er
           · have hde : de = 0 := by assumption
             have hpa : pa = 1 := by assumption
             exact hQ x H2 (same_none s1 hx) (s1.trans s2) ⟨dx, gr, by rw [hde, hpa]; exact e, IsGrid.keep ⟨dg, eg⟩ s2⟩)
        | (refine use_break6 (by omega) (Makes.ok er fun x dx H2 hx s2 e => ?_)
           exact hQ x H2 (same_none s1 hx) (s1.trans s2) ⟨dx, gr, e, IsGrid.keep ⟨dg, eg⟩ s2⟩)

end
end My
namespace My
open PySem PySem.Spec PyProof.Rows L2 Rd
section
variable {P : Program} {w : World} {K : PySem.W.Frag} {mg : Str → Option Value} {base : Heap}
theorem x_BadSpan (T : Tx fa fn xa fs P K mg) : ExcG P w K mg base 1 "BadSpan" ["self", "low", "high"] (spX2 (He.ga K "BadSpan") "low" "high") := by
  obtain ⟨fd, F⟩ := T.all.sdef 4 (d := s_BadSpan) rfl
  exact exc_two T (T.free 22) (T.glo 56) (T.exc 10) F (T.noat 54) (T.noat 55) rfl rfl rfl
    (cls_scope ⟨rfl, rfl, rfl, by decide +kernel, rfl, by decide +kernel, by decide +kernel⟩ (by decide +kernel) (fun _ => rfl) rfl (by decide +kernel) (fun x h => h))
    (by decide +kernel) rfl (by decide +kernel) (by decide +kernel) (by decide +kernel) (fun _ _ _ _ => ⟨_, rfl⟩) (fun _ _ _ _ => rfl) (fun _ _ _ _ => rfl) (fun _ _ _ _ => rfl)
    (fun _ _ _ _ _ _ _ us hu => match us, hu with | [_, _, _], _ => rfl)

end
end My
namespace My
open PySem PySem.Spec PyProof.Rows L2 Rd
section
variable {P : Program} {w : World} {K : PySem.W.Frag} {mg : Str → Option Value} {base : Heap}

theorem sc_Span___init__ : FnScope ["self", "low", "high"] ["self", "low", "high"] (defScope (inClass (top 29) 0)) := ⟨rfl, rfl, rfl, by decide +kernel, rfl, by decide +kernel, by decide +kernel⟩
theorem f_Span___init__ (T : Tx fa fn xa fs P K mg) : ∃ fd, FunD K "__init__" "Span.__init__" (defArgs (inClass (top 29) 0)) (defBody (inClass (top 29) 0)) (defScope (inClass (top 29) 0)) (He.DefD.dvs K d_Span___init__) (He.DefD.kws K d_Span___init__) (He.ma K (He.ga K "Span") "__init__") fd ∧ FnOk P w K mg base (CX P w) 3 (He.ma K (He.ga K "Span") "__init__") fd ["self", "low", "high"] (spSpanI K) := by
  obtain ⟨fd, F⟩ := T.says.def_ 15 (d := d_Span___init__) rfl
  have sc := sc_Span___init__
  refine ⟨fd, F, F.ok sc (fun vs H Q E h => ?len) (fun cdv A outer s H vs Q E hr h => ⟨_, (pss_cons (ps_if (pt_cmpR oGt (pv 1) (pv 2) (nomark _)) (pss_one (ps_raise rfl (takes_of rfl rfl rfl rfl) (pmk_g (x_BadSpan T) (hr.mono (by decide)) rfl (pa_cons (pv 1) (pa_cons (pv 2) pa_nil))))) pss_nil)
    (pss_cons (ps_fld (pv 0) (pv 1) rfl)
    (pss_one (ps_fld (pv 0) (pv 2) rfl)))), ?rd⟩)⟩
  case len =>
    obtain ⟨x, dx, l, u, rfl, _⟩ := h
    rfl
  case rd =>
    obtain ⟨x, dx, l, u, rfl, hx, hI⟩ := h
    show tSeq _ _ ⟨_, _, _, _⟩ [some (.ref x), some (.int l), some (.int u)] H
    try dsimp only [cxOf]
    have hcl_Span : Cls K (He.ga K "Span") := T.cls 57
    have hn_Span_low : NoAttr K (He.ga K "Span") "low" := T.noat 58
    have hn_Span_high : NoAttr K (He.ga K "Span") "high" := T.noat 59
    walk_at "ra"
    · refine use_raise2 fun d hd => ?_
      exact hI.bad (bad_t (by omega)) .refl hd
    · rw [upd_upd]
      exact hI.go (bad_f (by omega)) (But.refl.put) upd_same

end
end My
namespace My
open PySem PySem.Spec PyProof.Rows L2 Rd
section
variable {P : Program} {w : World} {K : PySem.W.Frag} {mg : Str → Option Value} {base : Heap}
theorem mk_Span (T : Tx fa fn xa fs P K mg) : MkG P w K mg base (CX P w) 3 "Span" ["self", "low", "high"] [] (spSpanI K) := by
  obtain ⟨fd, F, ok⟩ := f_Span___init__ (w := w) (base := base) T
  exact ⟨_, fd, [], T.glo 60, T.mkr 61, ok, F.bindsN fun _ _ _ _ _ _ us hl => match us, hl with | [_, _, _], _ => rfl, .nil⟩

end
end My
namespace My
open PySem PySem.Spec PyProof.Rows L2 Rd
section
variable {P : Program} {w : World} {K : PySem.W.Frag} {mg : Str → Option Value} {base : Heap}
theorem x_TooMany (T : Tx fa fn xa fs P K mg) : ExcG P w K mg base 1 "TooMany" ["self", "what", "most"] (spX2 (He.ga K "TooMany") "what" "most") := by
  obtain ⟨fd, F⟩ := T.all.sdef 5 (d := s_TooMany) rfl
  exact exc_two T (T.free 22) (T.glo 64) (T.exc 11) F (T.noat 62) (T.noat 63) rfl rfl rfl
    (cls_scope ⟨rfl, rfl, rfl, by decide +kernel, rfl, by decide +kernel, by decide +kernel⟩ (by decide +kernel) (fun _ => rfl) rfl (by decide +kernel) (fun x h => h))
    (by decide +kernel) rfl (by decide +kernel) (by decide +kernel) (by decide +kernel) (fun _ _ _ _ => ⟨_, rfl⟩) (fun _ _ _ _ => rfl) (fun _ _ _ _ => rfl) (fun _ _ _ _ => rfl)
    (fun _ _ _ _ _ _ _ us hu => match us, hu with | [_, _, _], _ => rfl)

end
end My
namespace My
open PySem PySem.Spec PyProof.Rows L2 Rd
section
variable {P : Program} {w : World} {K : PySem.W.Frag} {mg : Str → Option Value} {base : Heap}
theorem x_Twice (T : Tx fa fn xa fs P K mg) : ExcG P w K mg base 1 "Twice" ["self", "name"] (spX1 (He.ga K "Twice") "name") := by
  obtain ⟨fd, F⟩ := T.all.sdef 6 (d := s_Twice) rfl
  exact exc_one T (T.free 22) (T.glo 66) (T.exc 12) F (T.noat 65) rfl rfl rfl
    (cls_scope ⟨rfl, rfl, rfl, by decide +kernel, rfl, by decide +kernel, by decide +kernel⟩ (by decide +kernel) (fun _ => rfl) rfl (by decide +kernel) (fun x h => h))
    (by decide +kernel) rfl ⟨by decide, by decide⟩ ⟨by decide +kernel, by decide +kernel⟩ ⟨by decide +kernel, by decide +kernel⟩ (fun _ _ _ _ => ⟨_, rfl⟩) (fun _ _ _ _ => rfl) (fun _ _ _ _ => rfl)
    (fun _ _ _ _ _ _ _ us hu => match us, hu with | [_, _], _ => rfl)

end
end My
namespace My
open PySem PySem.Spec PyProof.Rows L2 Rd
section
variable {P : Program} {w : World} {K : PySem.W.Frag} {mg : Str → Option Value} {base : Heap}

theorem sc_check_kinds : FnScope ["kinds", "number", "kind"] ["kinds"] (defScope (top 45)) := ⟨rfl, rfl, rfl, by decide +kernel, rfl, by decide +kernel, by decide +kernel⟩
theorem g_check_kinds (T : Tx fa fn xa fs P K mg) : FnG P w K mg base (CX P w) 3 "check_kinds" ["kinds"] (spKinds K) := by
  obtain ⟨fd, F⟩ := T.says.def_ 16 (d := d_check_kinds) rfl
  have sc := sc_check_kinds
  refine ⟨_, fd, T.glo 69, F.kp, F.ok sc (fun vs H Q E h => ?len) (fun cdv A outer s H vs Q E hr h => ⟨_, (pss_cons (ps_if (pt_cmpR oGt (pe_callB cLen (by rfl) (T.free 6) (by decide +kernel) (pa_cons (pv 0) pa_nil)) (pe_gint (T.int 68) rfl) (nomark _)) (pss_one (ps_raise rfl (takes_of rfl rfl rfl rfl) (pmk_g (x_TooMany T) (hr.mono (by decide)) rfl (pa_cons pe_str (pa_cons (pe_gint (T.int 68) rfl) pa_nil))))) pss_nil)
    (pss_one (ps_for (passes_of rfl) rfl (pi_enumA (by rfl) (T.free 67) (pa_cons (pv 0) pa_nil)) (pg_tup (n := 2) rfl (pgs_cons (pg_name (i := 1) sc.nd rfl (by first | exact Or.inl rfl | exact Or.inr rfl)) (pgs_cons (pg_name (i := 2) sc.nd rfl (by first | exact Or.inl rfl | exact Or.inr rfl)) pgs_nil))) (pss_cons (ps_if (pt_not (pt_val (pe_cg (g_is_name T) (hr.mono (by decide)) rfl (pa_cons (pv 2) pa_nil)))) (pss_one (ps_raise rfl (takes_of rfl rfl rfl rfl) (pmk_g (x_BadName T) (hr.mono (by decide)) rfl (pa_cons (pv 2) pa_nil)))) pss_nil)
    (pss_one (ps_if (pt_cmpR op_in_seq (pv 2) (pe_slice oSl (pv 0) po_none (po_some (pv 1))) (by with_unfolding_all rfl)) (pss_one (ps_raise rfl (takes_of rfl rfl rfl rfl) (pmk_g (x_Twice T) (hr.mono (by decide)) rfl (pa_cons (pv 2) pa_nil)))) pss_nil)))))), ?rd⟩), F.bindsN fun _ _ _ _ _ _ us hl => match us, hl with | [_], _ => rfl⟩
  case len =>
    obtain ⟨k, ks, rfl, _⟩ := h
    rfl
  case rd =>
    obtain ⟨k, ks, rfl, hk, hl, hz, hI⟩ := h
    show tSeq _ _ ⟨_, _, _, _⟩ [some (.ref k), none, none] H
    try dsimp only [cxOf]
    walk_at "ra"
    refine len_S hk ?_
    walk_at "ra"
    · refine use_raise2 fun d hd => ?_
      exact hI.bad (due_s (bad_t (by omega))) (Same.refl H) hd
    · rename_i c1
      have go : ∀ H', Same H H' → kindsGo (ks.take ks.length) (ks.drop ks.length) = kindsGo [] ks → Q .non H' := fun H' s e => by
        rw [List.drop_length] at e
        exact hI.go ((due_n (bad_f (by omega))).trans e.symm) s
      have start : Same H H ∧ kindsGo (ks.take 0) (ks.drop 0) = kindsGo [] ks ∧ ∃ v1 v2, [some (V.ref k), none, none] = [some (.ref k), v1, v2] := ⟨Same.refl H, rfl, _, _, rfl⟩
      rcases hk with hk0 | hk0
      all_goals
        first | refine .inl ⟨_, hk0, ?_⟩ | refine .inr ⟨_, hk0, ?_⟩
        first
          | refine for_it (walk_enum (xs := ks.map V.str)) (fun i σ H' => Same H H' ∧ kindsGo (ks.take i) (ks.drop i) = kindsGo [] ks ∧ ∃ v1 v2, σ = [some (.ref k), v1, v2]) start ?_ ?_ ?_
          | refine for_it (walk_enumT (xs := ks.map V.str)) (fun i σ H' => Same H H' ∧ kindsGo (ks.take i) (ks.drop i) = kindsGo [] ks ∧ ∃ v1 v2, σ = [some (.ref k), v1, v2]) start ?_ ?_ ?_
        · rintro i σ H' _ ⟨s, _⟩
          first | exact s.seq hk0 | exact Same.tup s hk0
        · rintro i v σ H1 H2 hi ⟨s1, e1, v1, v2, rfl⟩ ⟨T, u, e, rfl, hT, rfl, eu, ee⟩
          cases eu
          rw [List.length_map] at hi
          obtain ⟨z, hz1, rfl⟩ : ∃ z, ks[i]? = some z ∧ e = .str z := by
            have ee : (ks.map V.str)[i]? = some e := ee
            rw [List.getElem?_map, List.getElem?_eq_getElem hi] at ee
            exact ⟨_, List.getElem?_eq_getElem hi, (Option.some.inj ee).symm⟩
          have dr : ks.drop i = z :: ks.drop (i + 1) := by
            obtain ⟨q, w⟩ := List.getElem?_eq_some_iff.mp hz1
            rw [← w]; exact List.drop_eq_getElem_cons q
          rw [dr] at e1
          have s2 := s1.trans (same_new (o := .tup [.int (i : Nat), .str z]) hT)
          refine w_gt2 (SqT.of upd_same) ?_
          walk_at "ra"
          refine ⟨z, rfl, hz z (List.mem_of_getElem? hz1), fun H3 s3 => ?_⟩
          have s4 := s2.trans s3
          have hk4 : SqS K H3 k ks := by first | exact .inl (s4.seq hk0) | exact .inr (Same.tup s4 hk0)
          walk_at "rw"
          · rename_i c2
            refine slice_S hk4 fun l H4 s5 hl4 => ?_
            refine w_op2 (in_S hl4 ?_)
            walk_at "rw"
            · rename_i c3
              refine use_raise1 fun d hd => ?_
              exact hI.bad ((due_n (bad_f (by omega))).trans (e1.symm.trans ((due_n (bad_f fun n => n c2)).trans (due_s (bad_t c3))))) (s4.trans s5) hd
            · rename_i c3
              refine ⟨s4.trans s5, ?_, _, _, rfl⟩
              rw [take_one hz1, ← e1]
              exact ((due_n (bad_f fun n => n c2)).trans (due_n (bad_f c3))).symm
          · rename_i c2
            refine use_raise1 fun d hd => ?_
            exact hI.bad ((due_n (bad_f (by omega))).trans (e1.symm.trans (due_s (bad_t c2)))) s4 hd
        · rintro σ H' ⟨s, e, v1, v2, rfl⟩
          rw [List.length_map] at e
          exact go H' s e

end
end My
namespace My
open PySem PySem.Spec PyProof.Rows L2 Rd
section
variable {P : Program} {w : World} {K : PySem.W.Frag} {mg : Str → Option Value} {base : Heap}

theorem sc_span_of_bounds : FnScope ["bounds", "low", "high"] ["bounds"] (defScope (top 46)) := ⟨rfl, rfl, rfl, by decide +kernel, rfl, by decide +kernel, by decide +kernel⟩
theorem g_span_of_bounds (T : Tx fa fn xa fs P K mg) : FnG P w K mg base (CX P w) 5 "span_of_bounds" ["bounds"] (spBounds K) := by
  obtain ⟨fd, F⟩ := T.says.def_ 17 (d := d_span_of_bounds) rfl
  have sc := sc_span_of_bounds
  refine ⟨_, fd, T.glo 71, F.kp, F.ok sc (fun vs H Q E h => ?len) (fun cdv A outer s H vs Q E hr h => ⟨_, (pss_cons (ps_asg (pv 0) (pg_tup (n := 2) rfl (pgs_cons (pg_name (i := 1) sc.nd rfl (by first | exact Or.inl rfl | exact Or.inr rfl)) (pgs_cons (pg_name (i := 2) sc.nd rfl (by first | exact Or.inl rfl | exact Or.inr rfl)) pgs_nil))))
    (pss_cons (ps_if (pt_not (pt_chN pe_int (ls_cons oLe (pv 1) (ls_cons oLe (pv 2) (ls_one oLe (pe_op oAdd (pv 1) (pe_gint (T.int 70) rfl))))))) (pss_one (ps_raise rfl (takes_of rfl rfl rfl rfl) (pmk_g (x_BadSpan T) (hr.mono (by decide)) rfl (pa_cons (pv 1) (pa_cons (pv 2) pa_nil))))) pss_nil)
    (pss_one (ps_ret (pe_mkE (mk_Span T) (hr.mono (by decide)) rfl (passes_call (takes_of rfl rfl rfl rfl) (fun _ _ _ _ z => z)) (pa_cons (pv 1) (pa_cons (pv 2) pa_nil))))))), ?rd⟩), F.bindsN fun _ _ _ _ _ _ us hl => match us, hl with | [_], _ => rfl⟩
  case len =>
    obtain ⟨b, l, u, rfl, _⟩ := h
    rfl
  case rd =>
    obtain ⟨b, l, u, rfl, hb, hI⟩ := h
    show tSeq _ _ ⟨_, _, _, _⟩ [some (.ref b), none, none] H
    try dsimp only [cxOf]
    walk_at "rw"
    refine w_gt2 hb ?_
    walk_at "rw"
    all_goals first
      | (refine use_raise2 fun d hd => ?_
         rw [show boundsEr l u = some (eSpan l u) from bad_t (by omega)] at hI
         exact hI d H (Same.refl H) hd)
      | (rw [show boundsEr l u = none from bad_f (by omega)] at hI
         refine use_span ?_
         rw [bad_f (by omega)]
         exact fun x dx H' hx s e => hI x H' hx s ⟨dx, e⟩)

end
end My
namespace My
open PySem PySem.Spec PyProof.Rows L2 Rd
section
variable {P : Program} {w : World} {K : PySem.W.Frag} {mg : Str → Option Value} {base : Heap}

theorem sc_House___init__ : FnScope ["self", "studios", "crews", "kinds", "walk", "pack", "ahead", "apart", "walk_span", "pack_span"] ["self", "studios", "crews", "kinds", "walk", "pack", "ahead", "apart"] (defScope (inClass (top 47) 0)) := ⟨rfl, rfl, rfl, by decide +kernel, rfl, by decide +kernel, by decide +kernel⟩
theorem f_House___init__ (T : Tx fa fn xa fs P K mg) : ∃ fd, FunD K "__init__" "House.__init__" (defArgs (inClass (top 47) 0)) (defBody (inClass (top 47) 0)) (defScope (inClass (top 47) 0)) (He.DefD.dvs K d_House___init__) (He.DefD.kws K d_House___init__) (He.ma K (He.ga K "House") "__init__") fd ∧ FnOk P w K mg base (CX P w) 6 (He.ma K (He.ga K "House") "__init__") fd ["self", "studios", "crews", "kinds", "walk", "pack", "ahead", "apart"] (spHouseI K) := by
  obtain ⟨fd, F⟩ := T.says.def_ 18 (d := d_House___init__) rfl
  have sc := sc_House___init__
  refine ⟨fd, F, F.ok sc (fun vs H Q E h => ?len) (fun cdv A outer s H vs Q E hr h => ⟨_, (pss_cons (ps_if (pt_not (pt_chain oLe oLe pe_int (pv 1) (pe_gint (T.int 75) rfl))) (pss_one (ps_raise rfl (takes_of rfl rfl rfl rfl) (pmk_g (x_BadNumber T) (hr.mono (by decide)) rfl (pa_cons (pv 1) pa_nil)))) pss_nil)
    (pss_cons (ps_if (pt_not (pt_chain oLe oLe pe_int (pv 2) (pe_gint (T.int 74) rfl))) (pss_one (ps_raise rfl (takes_of rfl rfl rfl rfl) (pmk_g (x_BadNumber T) (hr.mono (by decide)) rfl (pa_cons (pv 2) pa_nil)))) pss_nil)
    (pss_cons (ps_expr (pe_cgE (g_check_kinds T) (hr.mono (by decide)) rfl (passes_call (takes_of rfl rfl rfl rfl) (fun _ _ _ _ z => z)) (pa_cons (pv 3) pa_nil)))
    (pss_cons (ps_set (i := 8) sc.nd rfl (by first | exact Or.inl rfl | exact Or.inr rfl) (pe_cgE (g_span_of_bounds T) (hr.mono (by decide)) rfl (passes_call (takes_of rfl rfl rfl rfl) (fun _ _ _ _ z => z)) (pa_cons (pv 4) pa_nil)))
    (pss_cons (ps_set (i := 9) sc.nd rfl (by first | exact Or.inl rfl | exact Or.inr rfl) (pe_cgE (g_span_of_bounds T) (hr.mono (by decide)) rfl (passes_call (takes_of rfl rfl rfl rfl) (fun _ _ _ _ z => z)) (pa_cons (pv 5) pa_nil)))
    (pss_cons (ps_if (pt_not (pt_chain oLe oLe pe_int (pv 6) (pe_gint (T.int 73) rfl))) (pss_one (ps_raise rfl (takes_of rfl rfl rfl rfl) (pmk_g (x_BadNumber T) (hr.mono (by decide)) rfl (pa_cons (pv 6) pa_nil)))) pss_nil)
    (pss_cons (ps_if (pt_cmpR oLt (pv 7) pe_int (nomark _)) (pss_one (ps_raise rfl (takes_of rfl rfl rfl rfl) (pmk_g (x_BadNumber T) (hr.mono (by decide)) rfl (pa_cons (pv 7) pa_nil)))) pss_nil)
    (pss_cons (ps_fld (pv 0) (pv 1) rfl)
    (pss_cons (ps_fld (pv 0) (pv 2) rfl)
    (pss_cons (ps_fld (pv 0) (pe_callTy cTuple (by rfl) (T.free 72) (by decide +kernel) (pa_cons (pv 3) pa_nil)) rfl)
    (pss_cons (ps_fld (pv 0) (pv 8) rfl)
    (pss_cons (ps_fld (pv 0) (pv 9) rfl)
    (pss_cons (ps_fld (pv 0) (pv 6) rfl)
    (pss_one (ps_fld (pv 0) (pv 7) rfl))))))))))))))), ?rd⟩)⟩
  case len =>
    obtain ⟨x, dx, k, wa, pa, st, cr, ah, ap, ks, w, p, rfl, _⟩ := h
    rfl
  case rd =>
    obtain ⟨x, dx, k, wa, pa, st, cr, ah, ap, ks, w, p, rfl, hk, hl, hz, hw, hp, hx, hI⟩ := h
    show tSeq _ _ ⟨_, _, _, _⟩ [some (.ref x), some (.int st), some (.int cr), some (.ref k), some (.ref wa), some (.ref pa), some (.int ah), some (.int ap), none, none] H
    try dsimp only [cxOf]
    have hcl_House : Cls K (He.ga K "House") := T.cls 76
    have hn_House_studios : NoAttr K (He.ga K "House") "studios" := T.noat 77
    have hn_House_crews : NoAttr K (He.ga K "House") "crews" := T.noat 78
    have hn_House_kinds : NoAttr K (He.ga K "House") "kinds" := T.noat 79
    have hn_House_walk : NoAttr K (He.ga K "House") "walk" := T.noat 80
    have hn_House_pack : NoAttr K (He.ga K "House") "pack" := T.noat 81
    have hn_House_ahead : NoAttr K (He.ga K "House") "ahead" := T.noat 82
    have hn_House_apart : NoAttr K (He.ga K "House") "apart" := T.noat 83
    have bad1 : ∀ (e : Er) (d : Addr) (H' : Hp), houseEr st cr ks w p ah ap = some e → But x H H' → H' d = none → E (.ref (He.ga K e.cls)) (some d) (upd H' d (.xd e.fds)) := fun e d H' n b hd => by
      rw [n] at hI; exact hI d H' b hd
    walk_at "rw"
    all_goals first
      | (refine use_raise1 fun d hd => ?_
         first
           | exact bad1 _ d H (due_s (bad_t (by omega))) .refl hd
           | exact bad1 _ d H ((due_n (bad_f (by omega))).trans (due_s (bad_t (by omega)))) .refl hd)
      | skip
    rename_i c1 c2 c3 c4
    have e0 : ∀ r, due (bad (¬ (1 ≤ st ∧ st ≤ 6)) (eNum st)) (due (bad (¬ (1 ≤ cr ∧ cr ≤ 6)) (eNum cr)) r) = r := fun r => (due_n (bad_f (by omega))).trans (due_n (bad_f (by omega)))
    refine ⟨k, ks, rfl, hk, hl, hz, Outs.mk (fun n1 H1 s1 => ?_) fun e n d H' s hd => bad1 e d H' ((e0 _).trans (due_s n)) (.same s) hd⟩
    walk_at "rw"
    refine ⟨wa, w.1, w.2, rfl, Same.tup s1 hw, ?_⟩
    cases n2 : boundsEr w.1 w.2 with
    | some e => exact fun d H' s hd => bad1 e d H' ((e0 _).trans ((due_n n1).trans (due_s n2))) (.same (s1.trans s)) hd
    | none =>
      intro sw H2 hsw s2 hw2
      have s12 := s1.trans s2
      walk_at "rw"
      refine ⟨pa, p.1, p.2, rfl, Same.tup s12 hp, ?_⟩
      cases n3 : boundsEr p.1 p.2 with
      | some e => exact fun d H' s hd => bad1 e d H' ((e0 _).trans ((due_n n1).trans ((due_n n2).trans (due_s n3)))) (.same (s12.trans s)) hd
      | none =>
        intro sp H3 hsp s3 hp3
        have s13 := s12.trans s3
        have e1 : houseEr st cr ks w p ah ap = due (bad (¬ (1 ≤ ah ∧ ah ≤ 3)) (eNum ah)) (bad (ap < 1) (eNum ap)) := (e0 _).trans ((due_n n1).trans ((due_n n2).trans (due_n n3)))
        have hx3 := s13 _ _ hx
        walk_at "rw"
        all_goals first
          | (refine use_raise1 fun d hd => ?_
             first
               | exact bad1 _ d H3 (e1.trans (due_s (bad_t (by omega)))) (.same s13) hd
               | exact bad1 _ d H3 (e1.trans ((due_n (bad_f (by omega))).trans (bad_t (by omega)))) (.same s13) hd)
          | skip
        rw [upd_upd]
        have b3 : But x H (upd H3 x (.ins (He.ga K "House") dx (putF "crews" (.int cr) (putF "studios" (.int st) [])))) := (But.same s13).put
        have ne : ∀ {a : Addr} {l u : Int}, IsSpan K H3 a l u → a ≠ x := fun {a l u} ⟨da, e⟩ z => by
          rw [z, hx3] at e
          injection e with e
          injection e with _ _ e
          exact absurd (congrArg List.length e) (by show ¬ 0 = 2; decide)
        refine tup_A ((hk.keep s13).putI hx3) fun t H5 s5 ht5 => ?_
        have hx5 := s5 _ _ (upd_same (H := H3) (a := x))
        have hw5 : IsSpan K H5 sw w.1 w.2 := let ⟨da, e⟩ := hw2.keep s3; ⟨da, s5 _ _ (by rw [upd_ne (ne (hw2.keep s3))]; exact e)⟩
        have hp5 : IsSpan K H5 sp p.1 p.2 := let ⟨da, e⟩ := hp3; ⟨da, s5 _ _ (by rw [upd_ne (ne hp3)]; exact e)⟩
        walk_at "rw"
        rw [upd_upd, upd_upd, upd_upd, upd_upd]
        rw [show houseEr st cr ks w p ah ap = none from e1.trans ((due_n (bad_f (by omega))).trans (bad_f (by omega)))] at hI
        exact hI t sw sp _ ((b3.trans (.same s5)).put) upd_same (SqT.putI ht5 hx5) (let ⟨da, e⟩ := hw5; ⟨da, by rw [upd_ne (ne (hw2.keep s3))]; exact e⟩) (let ⟨da, e⟩ := hp5; ⟨da, by rw [upd_ne (ne hp3)]; exact e⟩)

end
end My
namespace My
open PySem PySem.Spec PyProof.Rows L2 Rd
section
variable {P : Program} {w : World} {K : PySem.W.Frag} {mg : Str → Option Value} {base : Heap}
theorem wh_walk (T : Tx fa fn xa fs P K mg) (H : Hp) : SqT K H (kwAt ("House", some "__init__") "walk" K) [.int 0, .int 0] := T.tupK 13 (is := [0, 0]) rfl H
theorem wh_pack (T : Tx fa fn xa fs P K mg) (H : Hp) : SqT K H (kwAt ("House", some "__init__") "pack" K) [.int 0, .int 0] := T.tupK 14 (is := [0, 0]) rfl H
theorem wh_kinds (T : Tx fa fn xa fs P K mg) (H : Hp) : SqT K H (He.dflAt ("House", some "__init__") 0 K) [] := T.tupD 15 (is := []) rfl H

end
end My
namespace My
open PySem PySem.Spec PyProof.Rows L2 Rd
section
variable {P : Program} {w : World} {K : PySem.W.Frag} {mg : Str → Option Value} {base : Heap}
theorem mk_House3 (T : Tx fa fn xa fs P K mg) : MkG P w K mg base (CX P w) 6 "House" ["self", "studios", "crews", "kinds", "walk", "pack", "ahead", "apart"] [.ref (kwAt ("House", some "__init__") "walk" K), .ref (kwAt ("House", some "__init__") "pack" K), .int 1, .int 1] (spHouseI K) := by
  obtain ⟨fd, F, ok⟩ := f_House___init__ (w := w) (base := base) T
  obtain ⟨ds, hv, hb⟩ := F.binds (ps := ["self", "studios", "crews", "kinds", "walk", "pack", "ahead", "apart"]) 4 1 (List.cons_ne_nil _ _) rfl (fun _ _ _ _ _ _ _ us its ks hu hi hk => match us, hu, its, hi, ks, hk with | [_, _, _, _], _, [_], _, [_, _, _, _], _ => ⟨_, rfl, ⟨_, _, _, _, _, _, rfl, rfl, ⟨_, _, _, _, _, _, rfl, rfl, ⟨_, _, _, _, _, _, rfl, rfl, ⟨_, _, _, _, _, _, rfl, rfl, rfl⟩⟩⟩⟩⟩) (List.cons_ne_nil _ _)
  exact ⟨_, fd, ds, T.glo 84, T.mkr 85, ok, hb, hv⟩

end
end My
namespace My
open PySem PySem.Spec PyProof.Rows L2 Rd
section
variable {P : Program} {w : World} {K : PySem.W.Frag} {mg : Str → Option Value} {base : Heap}
theorem mk_House4 (T : Tx fa fn xa fs P K mg) : MkK P w K mg base (CX P w) 6 "House" ["self", "studios", "crews", "kinds", "walk", "pack", "ahead", "apart"] 3 ["walk", "pack", "ahead", "apart"] (fun vs zs => vs ++ ((zs.drop 0).take 1 ++ ((zs.drop 1).take 1 ++ ((zs.drop 2).take 1 ++ ((zs.drop 3).take 1))))) (spHouseI K) := by
  obtain ⟨fd, F, ok⟩ := f_House___init__ (w := w) (base := base) T
  obtain ⟨its, mv, hb⟩ := FunD.kbinds F (ps := ["self", "studios", "crews", "kinds", "walk", "pack", "ahead", "apart"]) 4 ["walk", "pack", "ahead", "apart"] [] (fun us its mv ws => us ++ ((ws.drop 0).take 1 ++ ((ws.drop 1).take 1 ++ ((ws.drop 2).take 1 ++ ((ws.drop 3).take 1))))) (List.cons_ne_nil _ _) (List.cons_ne_nil _ _) (fun q hq => nomatch hq) (fun a b c d => (a).append ((((d.drop 0).take 1)).append ((((d.drop 1).take 1)).append ((((d.drop 2).take 1)).append (((d.drop 3).take 1)))))) (fun T D doc pm an cdv ct us its mv ws hu hi hm hw => match us, hu, its, hi, mv, hm, ws, hw with | [_, _, _, _], _, [_], _, [], _, [_, _, _, _], _ => ⟨_, rfl, rfl⟩)
  exact ⟨_, fd, _, T.glo 84, T.mkr 85, ok, hb⟩

end
end My
namespace My
open PySem PySem.Spec PyProof.Rows L2 Rd
section
variable {P : Program} {w : World} {K : PySem.W.Frag} {mg : Str → Option Value} {base : Heap}
theorem mk_House2k (T : Tx fa fn xa fs P K mg) : MkK P w K mg base (CX P w) 6 "House" ["self", "studios", "crews", "kinds", "walk", "pack", "ahead", "apart"] 3 ["ahead", "apart"] (fun vs zs => vs ++ ([.ref (kwAt ("House", some "__init__") "walk" K)] ++ ([.ref (kwAt ("House", some "__init__") "pack" K)] ++ ((zs.drop 0).take 1 ++ ((zs.drop 1).take 1))))) (spHouseI K) := by
  obtain ⟨fd, F, ok⟩ := f_House___init__ (w := w) (base := base) T
  obtain ⟨its, mv, hb⟩ := FunD.kbinds F (ps := ["self", "studios", "crews", "kinds", "walk", "pack", "ahead", "apart"]) 4 ["ahead", "apart"] [("walk", .ref (kwAt ("House", some "__init__") "walk" K)), ("pack", .ref (kwAt ("House", some "__init__") "pack" K))] (fun us its mv ws => us ++ ((mv.drop 0).take 1 ++ ((mv.drop 1).take 1 ++ ((ws.drop 0).take 1 ++ ((ws.drop 1).take 1))))) (List.cons_ne_nil _ _) (List.cons_ne_nil _ _) (fun q hq => by
      simp only [List.mem_cons, List.not_mem_nil, or_false] at hq
      show q ∈ ([("walk", .ref (kwAt ("House", some "__init__") "walk" K)), ("pack", .ref (kwAt ("House", some "__init__") "pack" K)), ("ahead", .int 1), ("apart", .int 1)] : List (Str × V))
      simp only [List.mem_cons, List.not_mem_nil, or_false]
      rcases hq with rfl | rfl <;> simp) (fun a b c d => (a).append ((((c.drop 0).take 1)).append ((((c.drop 1).take 1)).append ((((d.drop 0).take 1)).append (((d.drop 1).take 1)))))) (fun T D doc pm an cdv ct us its mv ws hu hi hm hw => match us, hu, its, hi, mv, hm, ws, hw with | [_, _, _, _], _, [_], _, [_, _], _, [_, _], _ => ⟨_, rfl, ⟨_, _, _, _, _, _, rfl, rfl, ⟨_, _, _, _, _, _, rfl, rfl, rfl⟩⟩⟩)
  exact ⟨_, fd, _, T.glo 84, T.mkr 85, ok, hb⟩

end
end My
namespace My
open PySem PySem.Spec PyProof.Rows L2 Rd
section
variable {P : Program} {w : World} {K : PySem.W.Frag} {mg : Str → Option Value} {base : Heap}
open NameM
def spHouse (K : PySem.W.Frag) : Sp := fun vs H Q _ => ∃ (v : V) (D : DayD) (X : List Addr) (k : Int), vs = [v] ∧ Dat K X H v D.dat ∧ DayOk D k ∧ ∀ (a : Addr) (H' : Hp), H a = none → Same H H' → HouseAt K H' a D → Q (.ref a) H'

theorem sc__law_house : FnScope ["_law_day_here"] ["_law_day_here"] (defScope (top 64)) := ⟨rfl, rfl, rfl, by decide +kernel, rfl, by decide +kernel, by decide +kernel⟩
theorem g__law_house (T : Tx fa fn xa fs P K mg) : FnG P w K mg base CX0 8 "_law_house" ["_law_day_here"] (spHouse K) := by
  obtain ⟨fd, F⟩ := T.says.def_ 19 (d := d__law_house) rfl
  have sc := sc__law_house
  refine ⟨_, fd, T.glo 86, F.kp, F.ok sc (fun vs H Q E h => ?len) (fun cdv A outer s H vs Q E hr h => ⟨_, PSs.nox (pss_cons (ps_if (PW.pt (pw_and (pt_cmpR (oEq hr) (pe_ix ix_seq (pv 0) pe_int (fun _ _ => rfl)) (pe_tup (pa_cons pe_int (pa_cons pe_int pa_nil))) (nomark _)) (pw_and1 (pt_cmpR (oEq hr) (pe_ix ix_seq (pv 0) pe_int (fun _ _ => rfl)) (pe_tup (pa_cons pe_int (pa_cons pe_int pa_nil))) (nomark _))))) (pss_one (ps_ret (pe_mkK (mk_House2k T) (hr.mono (by decide)) rfl passL (pa_cons (pe_ix ix_seq (pv 0) pe_int (fun _ _ => rfl)) (pa_cons (pe_ix ix_seq (pv 0) pe_int (fun _ _ => rfl)) (pa_cons (pe_callTy cList (by rfl) (T.free 4) (by decide +kernel) (pa_cons (pe_ix ix_seq (pv 0) pe_int (fun _ _ => rfl)) pa_nil)) pa_nil))) (pk_cons (pe_ix ix_seq (pv 0) pe_int (fun _ _ => rfl)) (pk_cons (pe_ix ix_seq (pv 0) pe_int (fun _ _ => rfl)) pk_nil))))) pss_nil)
    (pss_one (ps_ret (pe_mkK (mk_House4 T) (hr.mono (by decide)) rfl passL (pa_cons (pe_ix ix_seq (pv 0) pe_int (fun _ _ => rfl)) (pa_cons (pe_ix ix_seq (pv 0) pe_int (fun _ _ => rfl)) (pa_cons (pe_callTy cList (by rfl) (T.free 4) (by decide +kernel) (pa_cons (pe_ix ix_seq (pv 0) pe_int (fun _ _ => rfl)) pa_nil)) pa_nil))) (pk_cons (pe_ix ix_seq (pv 0) pe_int (fun _ _ => rfl)) (pk_cons (pe_ix ix_seq (pv 0) pe_int (fun _ _ => rfl)) (pk_cons (pe_ix ix_seq (pv 0) pe_int (fun _ _ => rfl)) (pk_cons (pe_ix ix_seq (pv 0) pe_int (fun _ _ => rfl)) pk_nil)))))))), ?rd⟩), F.bindsN fun _ _ _ _ _ _ us hl => match us, hl with | [_], _ => rfl⟩
  case len =>
    obtain ⟨v, D, X, k, rfl, _⟩ := h
    rfl
  case rd =>
    obtain ⟨v, D, X, k, rfl, hv, ok, hQ⟩ := h
    show tIfS _ _ _ ⟨_, _, _, _⟩ [some (v)] H
    try dsimp only [cxOf]
    obtain ⟨lv, xs, rfl, _, hlv, tv⟩ := Dat.list hv
    obtain ⟨x0, x1, x2, x3, x4, x5, x6, x7, x8, rfl⟩ := len9 tv.len
    have q0 := (tv.all 0 _ _ rfl rfl).int_
    have q1 := (tv.all 1 _ _ rfl rfl).int_
    have q5 := (tv.all 5 _ _ rfl rfl).int_
    have q6 := (tv.all 6 _ _ rfl rfl).int_
    have q7 := (tv.all 7 _ _ rfl rfl).int_
    subst q0 q1 q5 q6 q7
    have d2 : Dat K X H x2 (.list (D.ks.map PyData.str)) := tv.all 2 _ _ rfl rfl
    obtain ⟨lk, ys, rfl, _, hlk, tk⟩ := d2.list
    obtain rfl := datA_strs tk
    have d3 : Dat K X H x3 (prD D.w) := tv.all 3 _ _ rfl rfl
    obtain ⟨wa, rfl, hwa⟩ := dat_pr d3
    have d4 : Dat K X H x4 (prD D.p) := tv.all 4 _ _ rfl rfl
    obtain ⟨pa, rfl, hpa⟩ := dat_pr d4
    have er := ok.house
    have l5 := ok.ks
    have zl : ∀ z ∈ D.ks, z.length ≤ 1000 := fun z hz => by have := IsName.short (ok.kn z hz); omega
    have fin : ∀ (H1 H2 : Hp) (x : Addr), Same H H1 → H1 x = none → Same H1 H2 → HouseAt K H2 x D → Q (.ref x) H2 := fun H1 H2 x s1 hx s2 ho => hQ x H2 (same_none s1 hx) (s1.trans s2) ho
    have four : ∀ (H1 : Hp) (l : Addr) (E : XK), Same H H1 → H1 l = some (.lst (D.ks.map V.str)) → MakesH K D.st D.cr D.ks D.w D.p D.ah D.ap H1 Q E := fun H1 l E s1 _ => MakesH.mk (fun _ x H2 hx s2 ho => fin H1 H2 x s1 hx s2 ho) fun e n => by rw [er] at n; cases n
    walk_at "rw"
    rename_i t1 H1 ht1 s1 et1
    refine eq_D (X := []) (Y := []) (d := prD D.w) (e := prD (0, 0)) (pr_dat (Same.tup s1 hwa)) (pr_dat (q := (0, 0)) (SqT.of et1)) (shaped_pr _) (shaped_pr _) ?_
    rw [eqv_pr]
    walk_at "rw"
    · rename_i c1 t2 H2 ht2 s2 et2
      have s12 := s1.trans s2
      refine eq_D (X := []) (Y := []) (d := prD D.p) (e := prD (0, 0)) (pr_dat (Same.tup s12 hpa)) (pr_dat (q := (0, 0)) (SqT.of et2)) (shaped_pr _) (shaped_pr _) ?_
      rw [eqv_pr]
      clear s12
      walk_at "rw"
      · rename_i c2 l3 H3 hl3 s3 e3
        refine w_kmk2 rfl rfl fun _ _ hx hdx _ => house_made (ks := D.ks) (w := D.w) (p := D.p) hx hdx (.inl (SqL.of e3)) (by omega) zl (by rw [c1]; exact wh_walk T _) (by rw [c2]; exact wh_pack T _) (four _ l3 _ ((s1.trans s2).trans s3) e3)
      · rename_i c2 l3 H3 hl3 s3 e3
        have s13 := (s1.trans s2).trans s3
        refine w_kmk2 rfl rfl fun _ _ hx hdx _ => house_made (ks := D.ks) (w := D.w) (p := D.p) hx hdx (.inl (SqL.of e3)) (by omega) zl (Same.tup s13 hwa) (Same.tup s13 hpa) (four _ l3 _ s13 e3)
    · rename_i c2 l3 H3 hl3 s3 e3
      have s13 := s1.trans s3
      refine w_kmk2 rfl rfl fun _ _ hx hdx _ => house_made (ks := D.ks) (w := D.w) (p := D.p) hx hdx (.inl (SqL.of e3)) (by omega) zl (Same.tup s13 hwa) (Same.tup s13 hpa) (four _ l3 _ s13 e3)

end
end My
namespace My
open PySem PySem.Spec PyProof.Rows L2 Rd
section
variable {P : Program} {w : World} {K : PySem.W.Frag} {mg : Str → Option Value} {base : Heap}

theorem sc_Order___init__ : FnScope ["self", "house", "opens", "lineup", "items", "numbers", "number", "item"] ["self", "house", "opens", "lineup"] (defScope (inClass (top 51) 0)) := ⟨rfl, rfl, rfl, by decide +kernel, rfl, by decide +kernel, by decide +kernel⟩
theorem f_Order___init__ (T : Tx fa fn xa fs P K mg) : ∃ fd, FunD K "__init__" "Order.__init__" (defArgs (inClass (top 51) 0)) (defBody (inClass (top 51) 0)) (defScope (inClass (top 51) 0)) (He.DefD.dvs K d_Order___init__) (He.DefD.kws K d_Order___init__) (He.ma K (He.ga K "Order") "__init__") fd ∧ FnOk P w K mg base (CX P w) 6 (He.ma K (He.ga K "Order") "__init__") fd ["self", "house", "opens", "lineup"] (spOrderI K) := by
  obtain ⟨fd, F⟩ := T.says.def_ 20 (d := d_Order___init__) rfl
  have sc := sc_Order___init__
  refine ⟨fd, F, F.ok sc (fun vs H Q E h => ?len) (fun cdv A outer s H vs Q E hr h => ⟨_, (pss_cons (ps_set (i := 4) sc.nd rfl (by first | exact Or.inl rfl | exact Or.inr rfl) (pe_callTy cTuple (by rfl) (T.free 72) (by decide +kernel) (pa_cons (pv 3) pa_nil)))
    (pss_cons (ps_if (pt_cmpR oGt (pe_callB cLen (by rfl) (T.free 6) (by decide +kernel) (pa_cons (pv 4) pa_nil)) (pe_gint (T.int 89) rfl) (nomark _)) (pss_one (ps_raise rfl (takes_of rfl rfl rfl rfl) (pmk_g (x_TooMany T) (hr.mono (by decide)) rfl (pa_cons pe_str (pa_cons (pe_gint (T.int 89) rfl) pa_nil))))) pss_nil)
    (pss_cons (ps_set (i := 5) sc.nd rfl (by first | exact Or.inl rfl | exact Or.inr rfl) pe_dnewK)
    (pss_cons (ps_for (passes_of rfl) rfl (pi_enumA (by rfl) (T.free 67) (pa_cons (pv 4) pa_nil)) (pg_tup (n := 2) rfl (pgs_cons (pg_name (i := 6) sc.nd rfl (by first | exact Or.inl rfl | exact Or.inr rfl)) (pgs_cons (pg_name (i := 7) sc.nd rfl (by first | exact Or.inl rfl | exact Or.inr rfl)) pgs_nil))) (pss_cons (ps_if (pt_cmpR (oInDk hr) (pe_fld (pv 7) rfl) (pv 5) (by with_unfolding_all rfl)) (pss_one (ps_raise rfl (takes_of rfl rfl rfl rfl) (pmk_g (x_Twice T) (hr.mono (by decide)) rfl (pa_cons (pe_fld (pv 7) rfl) pa_nil)))) pss_nil)
    (pss_one (ps_dpt hr (pv 5) (pe_fld (pv 7) rfl) (pv 6)))))
    (pss_cons (ps_if (pt_cmpR oGt (pe_callB (cr_sum rfl) (by rfl) (T.free 87) (by decide +kernel) (pa_cons (pe_lc (own := [("item", 7)]) rfl sc.nd (pi_tup (pv 4)) (blkOk_by (N := ["self", "house", "opens", "lineup", "items", "numbers", "number", "item"]) (sc := defScope (inClass (top 51) 0)) (by decide +kernel)) (fun _ _ _ _ _ => (pg_name (i := 7) sc.nd rfl (by first | exact Or.inl rfl | exact Or.inr rfl))) (fun _ _ _ _ _ => (pts_one (pt_val (pe_callB (CallR.toK (r := Rd.uIsi) (K := K) cIsi rfl) (by rfl) (T.free 0) (by decide +kernel) (pa_cons (pv 7) (pa_cons (pe_glob (v := .ref (He.ga K "Break")) (by rfl) (T.glo 43) rfl) pa_nil)))))) (fun _ _ _ _ _ => (pe_fldK K rfl (pv 7) rfl))) pa_nil)) (pe_gint (T.int 88) rfl) (nomark _)) (pss_one (ps_raise rfl (takes_of rfl rfl rfl rfl) (pmk_g (x_TooMany T) (hr.mono (by decide)) rfl (pa_cons pe_str (pa_cons (pe_gint (T.int 88) rfl) pa_nil))))) pss_nil)
    (pss_cons (ps_fld (pv 0) (pv 1) rfl)
    (pss_cons (ps_fld (pv 0) (pv 2) rfl)
    (pss_cons (ps_fld (pv 0) (pv 4) rfl)
    (pss_one (ps_fld (pv 0) (pv 5) rfl)))))))))), ?rd⟩)⟩
  case len =>
    obtain ⟨x, dx, h, l, op, as, its, rfl, _⟩ := h
    rfl
  case rd =>
    obtain ⟨x, dx, h, l, op, as, its, rfl, hl, hi, l1000, hx, hI⟩ := h
    show tSeq _ _ ⟨_, _, _, _⟩ [some (.ref x), some (.ref h), some (.int op), some (.ref l), none, none, none, none] H
    try dsimp only [cxOf]
    have hcl_Order : Cls K (He.ga K "Order") := T.cls 90
    have hn_Order_house : NoAttr K (He.ga K "Order") "house" := T.noat 91
    have hn_Order_opens : NoAttr K (He.ga K "Order") "opens" := T.noat 92
    have hn_Order_lineup : NoAttr K (He.ga K "Order") "lineup" := T.noat 93
    have hn_Order__numbers : NoAttr K (He.ga K "Order") "_numbers" := T.noat 94
    have hcl_Piece : Cls K (He.ga K "Piece") := T.cls 35
    have hn_Piece_name : NoAttr K (He.ga K "Piece") "name" := T.noat 36
    have hn_Piece_grid : NoAttr K (He.ga K "Piece") "grid" := T.noat 37
    have hn_Piece_minute : NoAttr K (He.ga K "Piece") "minute" := T.noat 38
    have hn_Piece_delay : NoAttr K (He.ga K "Piece") "delay" := T.noat 39
    have hn_Piece_least : NoAttr K (He.ga K "Piece") "least" := T.noat 40
    have hn_Piece_most : NoAttr K (He.ga K "Piece") "most" := T.noat 41
    have hcl_Break : Cls K (He.ga K "Break") := T.cls 44
    have hn_Break_name : NoAttr K (He.ga K "Break") "name" := T.noat 45
    have hn_Break_grid : NoAttr K (He.ga K "Break") "grid" := T.noat 46
    have hn_Break_minute : NoAttr K (He.ga K "Break") "minute" := T.noat 47
    have hn_Break_delay : NoAttr K (He.ga K "Break") "delay" := T.noat 48
    have hn_Break_places : NoAttr K (He.ga K "Break") "places" := T.noat 49
    have hn_Break_unit : NoAttr K (He.ga K "Break") "unit" := T.noat 50
    have hn_Break_patience : NoAttr K (He.ga K "Break") "patience" := T.noat 51
    have hty_Piece : ∀ {H : Hp} {a dx : Addr} {l : List (Str × V)}, H a = some (.ins (He.ga K "Piece") dx l) → TyX K H (.ref a) (.ref (He.ga K "Piece")) := fun e => T.inst 16 rfl (T.cls 35) e
    have hty_Break : ∀ {H : Hp} {a dx : Addr} {l : List (Str × V)}, H a = some (.ins (He.ga K "Break") dx l) → TyX K H (.ref a) (.ref (He.ga K "Break")) := fun e => T.inst 17 rfl (T.cls 44) e
    have hk_Piece_Break : PySem.W.kitOne K (.ref (He.ga K "Piece")) (.ref (He.ga K "Break")) = some false := T.kit 18 rfl
    have hk_Break_Break : PySem.W.kitOne K (.ref (He.ga K "Break")) (.ref (He.ga K "Break")) = some true := T.kit 19 rfl
    have nm : ∀ (H' : Hp) (a : Addr) (i : Itm), ItemAt K H' a i → ∃ C dx fs, H' a = some (.ins C dx fs) ∧ Cls K C ∧ NoAttr K C "name" ∧ fs.lookup ("name" : Str) = some (.str i.nm) := fun H' a i h => by
      cases i with
      | pc z st of m de lo hi => obtain ⟨dx, g, e, _⟩ := h; exact ⟨_, dx, _, e, hcl_Piece, hn_Piece_name, rfl⟩
      | br z st of mi de pl un pa => obtain ⟨dx, g, e, _⟩ := h; exact ⟨_, dx, _, e, hcl_Break, hn_Break_name, rfl⟩
    have la := hi.1
    walk_at "rw"
    refine tup_A hl fun t H1 s1 ht => ?_
    have hx1 := s1 _ _ hx
    have hi1 := hi.keep s1
    walk_at "rw"
    refine w_lenT ht ?_
    rw [List.length_map]
    have bad1 : ∀ (e : Er) (d : Addr) (H' : Hp), orderEr its = some e → But x H H' → H' d = none → E (.ref (He.ga K e.cls)) (some d) (upd H' d (.xd e.fds)) := fun e d H' n b hd => by
      rw [n] at hI; exact hI d H' b hd
    walk_at "rw"
    · refine use_raise2 fun d hd => ?_
      exact bad1 _ d H1 (due_s (bad_t (by omega))) (.same s1) hd
    · rename_i c1 nd H2 hnd s2 end_
      have e0 : orderEr its = due (twiceGo [] (its.map Itm.nm)) (bad (30 < plSum its) (eMany "places" 30)) := due_n (bad_f (by omega))
      have ht2 := Same.tup s2 ht
      have hi2 := hi1.keep s2
      have hx2 := s2 _ _ hx1
      have xnd : x ≠ nd := fun z => by rw [z, end_] at hx2; cases hx2
      have hndH : H nd = none := same_none s1 hnd
      have sB : ∀ H', But nd H2 H' → Same H H' := fun H' b => fun c o hc => b c o (ne_of_none hc hndH) ((s1.trans s2) c o hc)
      refine .inr ⟨_, ht2, ?_⟩
      refine for_it (walk_enumT (xs := as.map V.ref)) (fun i σ H' => But nd H2 H' ∧ H' nd = some (.dK (numK 0 ((its.map Itm.nm).take i))) ∧ twiceGo ((its.map Itm.nm).take i) ((its.map Itm.nm).drop i) = twiceGo [] (its.map Itm.nm) ∧ ∃ v6 v7, σ = [some (.ref x), some (.ref h), some (.int op), some (.ref l), some (.ref t), some (.ref nd), v6, v7]) ⟨.refl, end_, rfl, _, _, rfl⟩ ?_ ?_ ?_
      · rintro i σ H' _ ⟨b, _⟩
        exact SqT.butD ht2 b end_
      · rintro i v σ H3 H4 hi' ⟨b3, n3, e3, v6, v7, rfl⟩ ⟨T, u, e, rfl, hT, rfl, eu, ee⟩
        cases eu
        rw [List.length_map] at hi'
        obtain ⟨a, ha, rfl⟩ : ∃ a, as[i]? = some a ∧ e = .ref a := by
          have ee : (as.map V.ref)[i]? = some e := ee
          rw [List.getElem?_map, List.getElem?_eq_getElem hi'] at ee
          exact ⟨_, List.getElem?_eq_getElem hi', (Option.some.inj ee).symm⟩
        obtain ⟨it, hit⟩ : ∃ it, its[i]? = some it := ⟨its[i]'(by omega), List.getElem?_eq_getElem _⟩
        obtain ⟨C, dc, fs, ea, hcl, hno, hlk⟩ := nm H3 a it ((hi2.butD b3 end_).2 i a it ha hit)
        have hz : (its.map Itm.nm)[i]? = some it.nm := by rw [List.getElem?_map, hit]; rfl
        have dr : (its.map Itm.nm).drop i = it.nm :: (its.map Itm.nm).drop (i + 1) := by
          obtain ⟨q, w⟩ := List.getElem?_eq_some_iff.mp hz
          rw [← w]; exact List.drop_eq_getElem_cons q
        rw [dr] at e3
        have e4 : due (bad (it.nm ∈ (its.map Itm.nm).take i) (eTwice it.nm)) (twiceGo ((its.map Itm.nm).take i ++ [it.nm]) ((its.map Itm.nm).drop (i + 1))) = twiceGo [] (its.map Itm.nm) := e3
        have sT : Same H3 (upd H3 T (.tup [.int (i : Nat), .ref a])) := same_new hT
        have eT : upd H3 T (.tup [.int (i : Nat), .ref a]) T = some (.tup [.int (i : Nat), .ref a]) := upd_same
        generalize upd H3 T (.tup [.int (i : Nat), .ref a]) = H5 at sT eT ⊢
        refine w_gt2 (SqT.of eT) ?_
        have n5 := sT _ _ n3
        have b5 : But nd H2 H5 := b3.trans (.same sT)
        have ea5 := sT _ _ ea
        clear eT hT sT n3 ea
        walk_at "rw"
        refine w_inDk n5 ?_
        by_cases m : it.nm ∈ (its.map Itm.nm).take i
        · obtain ⟨v, hv⟩ := numK_mem (n := 0) m
          rw [hv]
          dsimp only [Option.isSome]
          walk_at "rw"
          refine use_raise1 fun d hd => ?_
          exact bad1 _ d H5 (e0.trans (due_s (e4.symm.trans (due_s (bad_t m))))) (.same (sB _ b5)) hd
        · rw [numK_none m]
          dsimp only [Option.isSome]
          walk_at "rw"
          refine w_kdp3 n5 (by rw [numK_len, List.length_take, sizeLine_eq]; omega) ?_
          refine ⟨b5.put, ?_, ?_, _, _, rfl⟩
          · rw [upd_same, putK_new _ (numK_none m), take_one hz, numK_snoc]
            have l : ((its.map Itm.nm).take i).length = i := by rw [List.length_take, List.length_map]; omega
            rw [l, Nat.zero_add]
          · rw [take_one hz, ← e4, due_n (bad_f m)]
      · rintro σ H3 ⟨b3, n3, e3, v6, v7, rfl⟩
        rw [List.length_map, la, show its.length = (its.map Itm.nm).length by rw [List.length_map], List.take_length] at n3
        rw [List.length_map, la, show its.length = (its.map Itm.nm).length by rw [List.length_map], List.take_length, List.drop_length] at e3
        have e5 : twiceGo [] (its.map Itm.nm) = none := e3.symm
        rw [due_n e5] at e0
        have ht3 := SqT.butD ht2 b3 end_
        have hi3 := hi2.butD b3 end_
        have hx3 := b3 _ _ xnd hx2
        have sH3 := sB _ b3
        walk_at "rw"
        refine lc_T2 (goes_same H3) ht3 (fun H' s => Same.tup s ht3) (fun i acc => ∃ ns : List Int, acc = ns.map V.int ∧ ns.length ≤ i ∧ ns.sum = plSum (its.take i)) ⟨[], rfl, Nat.le_refl _, rfl⟩ ?_ ?_
        · rintro D i v acc H4 hD hv ⟨ns, rfl, nl, nsum⟩ s4 hat
          obtain ⟨a, ha, rfl⟩ : ∃ a, as[i]? = some a ∧ v = .ref a := by
            rw [List.getElem?_map] at hv
            cases q : as[i]? with
            | none => rw [q] at hv; cases hv
            | some a => rw [q] at hv; exact ⟨a, rfl, (Option.some.inj hv).symm⟩
          have hi' : i < as.length := (List.getElem?_eq_some_iff.mp ha).1
          obtain ⟨it, hit⟩ : ∃ it, its[i]? = some it := ⟨its[i]'(by omega), List.getElem?_eq_getElem _⟩
          have ia := (hi3.keep s4).2 i a it ha hit
          cases it with
          | pc z st of m de lo hi =>
            obtain ⟨dxa, g, ea, _⟩ := ia
            refine ⟨rfl, ?_⟩
            walk_at "rw"
            refine w_isi_own (hty_Piece ea) hk_Piece_Break ?_
            walk_at "rw"
            rw [if_neg Bool.false_ne_true]
            refine elt_not hat s4 ⟨ns, rfl, by omega, ?_⟩
            rw [plSum_take hit, nsum]
            exact (Int.add_zero _).symm
          | br z st of mi de pl un pa =>
            obtain ⟨dxa, g, ea, _⟩ := ia
            refine ⟨rfl, ?_⟩
            walk_at "rw"
            refine w_isi_own (hty_Break ea) hk_Break_Break ?_
            walk_at "rw"
            rw [if_pos rfl]
            walk_at "rw"
            refine elt_done (goes_same H3) hD hat (by rw [List.length_map]; omega) s4 ?_
            refine ⟨ns ++ [pl], by rw [List.map_append]; rfl, by rw [List.length_append]; show _ + 1 ≤ _; omega, ?_⟩
            rw [plSum_take hit, List.sum_append, nsum]
            show plSum (its.take i) + (pl + 0) = plSum (its.take i) + pl
            omega
        · rintro lj acc H4 hlj s4 hat ⟨ns, rfl, nl, nsum⟩
          rw [List.length_map, la, List.take_length] at nsum
          walk_at "rw"
          refine w_sum hat ?_
          rw [nsum]
          walk_at "rw"
          · refine use_raise2 fun d hd => ?_
            exact bad1 _ d H4 (e0.trans (bad_t (by omega))) (.same (sH3.trans s4)) hd
          · rw [upd_upd, upd_upd, upd_upd]
            rw [show orderEr its = none from e0.trans (bad_f (by omega))] at hI
            exact hI t nd _ ((But.same (sH3.trans s4)).put) upd_same (SqT.putI (Same.tup s4 ht3) (s4 _ _ hx3)) (by rw [upd_ne (Ne.symm xnd)]; exact s4 _ _ n3)

end
end My
namespace My
open PySem PySem.Spec PyProof.Rows L2 Rd
section
variable {P : Program} {w : World} {K : PySem.W.Frag} {mg : Str → Option Value} {base : Heap}
theorem mk_Order (T : Tx fa fn xa fs P K mg) : MkG P w K mg base (CX P w) 6 "Order" ["self", "house", "opens", "lineup"] [] (spOrderI K) := by
  obtain ⟨fd, F, ok⟩ := f_Order___init__ (w := w) (base := base) T
  exact ⟨_, fd, [], T.glo 95, T.mkr 96, ok, F.bindsN fun _ _ _ _ _ _ us hl => match us, hl with | [_, _, _, _], _ => rfl, .nil⟩

end
end My
namespace My
open PySem PySem.Spec PyProof.Rows L2 Rd
section
variable {P : Program} {w : World} {K : PySem.W.Frag} {mg : Str → Option Value} {base : Heap}
def spOrd (K : PySem.W.Frag) : Sp := fun vs H Q _ => ∃ (v : V) (D : DayD) (X : List Addr) (k : Int), vs = [v] ∧ Dat K X H v D.dat ∧ DayOk D k ∧ ∀ (o h : Addr) (as : List Addr) (t nd : Addr) (H' : Hp), H o = none → Same H H' → OrderIs K H' o h D.op D.its as t nd → HouseAt K H' h D → Q (.ref o) H'

theorem sc__law_order : FnScope ["_law_day_here", "_law_item_here"] ["_law_day_here"] (defScope (top 65)) := ⟨rfl, rfl, rfl, by decide +kernel, rfl, by decide +kernel, by decide +kernel⟩
theorem g__law_order (T : Tx fa fn xa fs P K mg) : FnG P w K mg base CX0 9 "_law_order" ["_law_day_here"] (spOrd K) := by
  obtain ⟨fd, F⟩ := T.says.def_ 21 (d := d__law_order) rfl
  have sc := sc__law_order
  refine ⟨_, fd, T.glo 97, F.kp, F.ok sc (fun vs H Q E h => ?len) (fun cdv A outer s H vs Q E hr h => ⟨_, PSs.nox (pss_one (ps_ret (pe_mkE (mk_Order T) (hr.mono (by decide)) rfl passL (pa_cons (pe_cg (g__law_house T) (hr.mono (by decide)) rfl (pa_cons (pv 0) pa_nil)) (pa_cons (pe_ix ix_seq (pv 0) pe_int (fun _ _ => rfl)) (pa_cons (pe_lc (own := [("_law_item_here", 1)]) rfl sc.nd (pi_list (pe_ix ix_seq (pv 0) pe_int (fun _ _ => rfl))) (blkOk_by (N := ["_law_day_here", "_law_item_here"]) (sc := defScope (top 65)) (by decide +kernel)) (fun _ _ _ _ _ => (pg_name (i := 1) sc.nd rfl (by first | exact Or.inl rfl | exact Or.inr rfl))) (fun _ _ _ _ _ => pts_nil) (fun _ _ _ _ _ => (pe_cg (sp := (spItem K)) (g__law_item T) (hr.mono (by decide)) (by rfl) (pa_cons (pv 1) pa_nil)))) pa_nil)))))), ?rd⟩), F.bindsN fun _ _ _ _ _ _ us hl => match us, hl with | [_], _ => rfl⟩
  case len =>
    obtain ⟨v, D, X, k, rfl, _⟩ := h
    rfl
  case rd =>
    obtain ⟨v, D, X, k, rfl, hv, ok, hQ⟩ := h
    show tRet _ ⟨_, _, _, _⟩ [some (v), none] H
    try dsimp only [cxOf]
    walk_at "rw"
    refine ⟨v, D, X, k, rfl, hv, ok, fun h H1 hh s1 ho => ?_⟩
    walk_at "rw"
    refine ix_D (.inl (hv.keep (.same s1))) (d := .int D.op) (j := 7) rfl (by decide) rfl fun w hw => ?_
    rw [hw.int_]
    walk_at "rw"
    refine ix_D (.inl (hv.keep (.same s1))) (d := .list (D.its.map Itm.dat)) (j := 8) rfl (by decide) rfl fun u hu => ?_
    refine lc_DH (goes_same H1) hu (fun H' s => .same s) (fun i acc H' => ∃ as : List Addr, acc = as.map V.ref ∧ ItemsAt K H' as (D.its.take i)) (fun H' s => ⟨[], rfl, rfl, fun i a t e => nomatch e⟩) ?_ ?_
    · rintro Dl i x d acc H2 hD hd hx ⟨as, rfl, ia⟩ s2 hat
      obtain ⟨it, hit, rfl⟩ : ∃ it, D.its[i]? = some it ∧ d = it.dat := by
        rw [List.getElem?_map] at hd
        cases q : D.its[i]? with
        | none => rw [q] at hd; cases hd
        | some t => rw [q] at hd; exact ⟨t, rfl, (Option.some.inj hd).symm⟩
      refine ⟨rfl, w_yes ?_⟩
      walk_at "rw"
      refine ⟨x, it, X, rfl, hx, ok.its.all it (List.mem_of_getElem? hit), fun a H3 ha s3 iat => ?_⟩
      have hat3 := s3 _ _ hat
      have l8 := ok.its.len
      have la := ia.1
      rw [List.length_take] at la
      refine eltH_done (goes_same H1) hD hat3 (by rw [List.length_map]; omega) (s2.trans s3) ⟨as ++ [a], by rw [List.map_append]; rfl, ?_⟩
      rw [take_one hit]
      exact ((ia.keep s3).snoc iat).put hat3
    · rintro l acc H2 hl s2 hat ⟨as, rfl, ia⟩
      rw [List.length_map, List.take_length] at ia
      walk_at "rw"
      refine use_order (.inl (SqL.of hat)) ia (by have := ok.its.len; omega) ?_
      unfold MakesO
      rw [ok.its.er]
      exact fun o t nd H3 hn s3 oi => hQ o h as t nd H3 (same_none (s1.trans s2) hn) ((s1.trans s2).trans s3) oi (HouseAt.keeps (X := []) ho (.same (s2.trans s3)))

end
end My
namespace My
open PySem PySem.Spec PyProof.Rows L2 Rd
section
variable {P : Program} {w : World} {K : PySem.W.Frag} {mg : Str → Option Value} {base : Heap}
def spSpanIn (K : PySem.W.Frag) : Sp := fun vs H Q _ => ∃ (a : Addr) (l h n : Int), vs = [.ref a, .int n] ∧ IsSpan K H a l h ∧ Q (.bl (inB n (l, h))) H

theorem sc_Span___contains__ : FnScope ["self", "number"] ["self", "number"] (defScope (inClass (top 29) 3)) := ⟨rfl, rfl, rfl, by decide +kernel, rfl, by decide +kernel, by decide +kernel⟩
theorem g_Span___contains__ (T : Tx fa fn xa fs P K mg) : MtG P w K mg base CX0 1 (He.ga K "Span") "__contains__" ["self", "number"] (spSpanIn K) := by
  obtain ⟨fd, F⟩ := T.says.def_ 22 (d := d_Span___contains__) rfl
  have sc := sc_Span___contains__
  refine ⟨⟨_, fd, T.meth 98, F.ok sc (fun vs H Q E h => ?len) (fun cdv A outer s H vs Q E hr h => ⟨_, PSs.nox (pss_one (ps_ret (pe_chain oLe oLe (pe_fld (pv 0) rfl) (pv 1) (pe_fld (pv 0) rfl)))), ?rd⟩), F.bindsN fun _ _ _ _ _ _ us hl => match us, hl with | [_, _], _ => rfl⟩, T.cls 57⟩
  case len =>
    obtain ⟨a, l, u, n, rfl, _⟩ := h
    rfl
  case rd =>
    obtain ⟨a, l, u, n, rfl, hs, hQ⟩ := h
    show tRet _ ⟨_, _, _, _⟩ [some (.ref a), some (.int n)] H
    try dsimp only [cxOf]
    obtain ⟨dx, e⟩ := hs
    have hcl_Span : Cls K (He.ga K "Span") := T.cls 57
    have hn_Span_low : NoAttr K (He.ga K "Span") "low" := T.noat 58
    have hn_Span_high : NoAttr K (He.ga K "Span") "high" := T.noat 59
    have f1 : ¬ l ≤ n → inB n (l, u) = false := fun q => by
      show (decide (l ≤ n) && decide (n ≤ u)) = false
      rw [decide_eq_false q]; rfl
    have f2 : l ≤ n → inB n (l, u) = decide (n ≤ u) := fun q => by
      show (decide (l ≤ n) && decide (n ≤ u)) = _
      rw [decide_eq_true q]; rfl
    walk_at "ra"
    · rename_i q
      rw [f2 q] at hQ
      exact hQ
    · rename_i q
      rw [f1 q] at hQ
      exact hQ

end
end My
namespace My
open PySem PySem.Spec PyProof.Rows L2 Rd
section
variable {P : Program} {w : World} {K : PySem.W.Frag} {mg : Str → Option Value} {base : Heap}
open NameM
/-- the dict of the spans of an item -/
def lagK (as : List Addr) : List (Key × V) := (List.zip (["delay", "length", "walk", "pack"] : List Str) as).map fun q => (.inr q.1, .ref q.2)
def spLags (K : PySem.W.Frag) : Sp := fun vs H Q _ => ∃ (h a : Addr) (D : DayD) (it : Itm), vs = [.ref h, .ref a] ∧ HouseAt K H h D ∧ ItemAt K H a it ∧ ItmOk it ∧ ∀ (d : Addr) (as : List Addr) (H' : Hp), H d = none → Same H H' → H' d = some (.dK (lagK as)) → SpanL K H' as (lim D it) → Q (.ref d) H'

theorem sc_lag_spans : FnScope ["house", "item", "spans"] ["house", "item"] (defScope (top 31)) := ⟨rfl, rfl, rfl, by decide +kernel, rfl, by decide +kernel, by decide +kernel⟩
theorem g_lag_spans (T : Tx fa fn xa fs P K mg) : FnG P w K mg base CX0 5 "lag_spans" ["house", "item"] (spLags K) := by
  obtain ⟨fd, F⟩ := T.says.def_ 23 (d := d_lag_spans) rfl
  have sc := sc_lag_spans
  refine ⟨_, fd, T.glo 99, F.kp, F.ok sc (fun vs H Q E h => ?len) (fun cdv A outer s H vs Q E hr h => ⟨_, PSs.nox (pss_cons (ps_set (i := 2) sc.nd rfl (by first | exact Or.inl rfl | exact Or.inr rfl) (pe_disp (pps_cons pe_str (pe_mkE (mk_Span T) (hr.mono (by decide)) rfl passL (pa_cons pe_int (pa_cons (pe_fld (pv 1) rfl) pa_nil))) pps_nil) rfl rfl (fun z => nomatch z) (by decide)))
    (pss_cons (ps_if (pt_val (pe_callB cIsi (by rfl) (T.free 0) (by decide +kernel) (pa_cons (pv 1) (pa_cons (pe_glob (v := .ref (He.ga K "Piece")) (by rfl) (T.glo 34) rfl) pa_nil)))) (pss_cons (ps_dpt hr (pv 2) pe_str (pe_mkE (mk_Span T) (hr.mono (by decide)) rfl passL (pa_cons (pe_fld (pv 1) rfl) (pa_cons (pe_fld (pv 1) rfl) pa_nil))))
    (pss_cons (ps_dpt hr (pv 2) pe_str (pe_fld (pv 0) rfl))
    (pss_one (ps_dpt hr (pv 2) pe_str (pe_fld (pv 0) rfl))))) pss_nil)
    (pss_one (ps_ret (pv 2))))), ?rd⟩), F.bindsN fun _ _ _ _ _ _ us hl => match us, hl with | [_, _], _ => rfl⟩
  case len =>
    obtain ⟨h, a, D, it, rfl, _⟩ := h
    rfl
  case rd =>
    obtain ⟨h, a, D, it, rfl, hh, hi', ok, hQ⟩ := h
    show tSeq _ _ ⟨_, _, _, _⟩ [some (.ref h), some (.ref a), none] H
    try dsimp only [cxOf]
    have hcl_Piece : Cls K (He.ga K "Piece") := T.cls 35
    have hn_Piece_name : NoAttr K (He.ga K "Piece") "name" := T.noat 36
    have hn_Piece_grid : NoAttr K (He.ga K "Piece") "grid" := T.noat 37
    have hn_Piece_minute : NoAttr K (He.ga K "Piece") "minute" := T.noat 38
    have hn_Piece_delay : NoAttr K (He.ga K "Piece") "delay" := T.noat 39
    have hn_Piece_least : NoAttr K (He.ga K "Piece") "least" := T.noat 40
    have hn_Piece_most : NoAttr K (He.ga K "Piece") "most" := T.noat 41
    have hcl_Break : Cls K (He.ga K "Break") := T.cls 44
    have hn_Break_name : NoAttr K (He.ga K "Break") "name" := T.noat 45
    have hn_Break_grid : NoAttr K (He.ga K "Break") "grid" := T.noat 46
    have hn_Break_minute : NoAttr K (He.ga K "Break") "minute" := T.noat 47
    have hn_Break_delay : NoAttr K (He.ga K "Break") "delay" := T.noat 48
    have hn_Break_places : NoAttr K (He.ga K "Break") "places" := T.noat 49
    have hn_Break_unit : NoAttr K (He.ga K "Break") "unit" := T.noat 50
    have hn_Break_patience : NoAttr K (He.ga K "Break") "patience" := T.noat 51
    have hcl_House : Cls K (He.ga K "House") := T.cls 76
    have hn_House_studios : NoAttr K (He.ga K "House") "studios" := T.noat 77
    have hn_House_crews : NoAttr K (He.ga K "House") "crews" := T.noat 78
    have hn_House_kinds : NoAttr K (He.ga K "House") "kinds" := T.noat 79
    have hn_House_walk : NoAttr K (He.ga K "House") "walk" := T.noat 80
    have hn_House_pack : NoAttr K (He.ga K "House") "pack" := T.noat 81
    have hn_House_ahead : NoAttr K (He.ga K "House") "ahead" := T.noat 82
    have hn_House_apart : NoAttr K (He.ga K "House") "apart" := T.noat 83
    have hty_Piece : ∀ {H : Hp} {a dx : Addr} {l : List (Str × V)}, H a = some (.ins (He.ga K "Piece") dx l) → TyX K H (.ref a) (.ref (He.ga K "Piece")) := fun e => T.inst 16 rfl (T.cls 35) e
    have hty_Break : ∀ {H : Hp} {a dx : Addr} {l : List (Str × V)}, H a = some (.ins (He.ga K "Break") dx l) → TyX K H (.ref a) (.ref (He.ga K "Break")) := fun e => T.inst 17 rfl (T.cls 44) e
    have hk_Piece_Piece : PySem.W.kitOne K (.ref (He.ga K "Piece")) (.ref (He.ga K "Piece")) = some true := T.kit 20 rfl
    have hk_Break_Piece : PySem.W.kitOne K (.ref (He.ga K "Break")) (.ref (He.ga K "Piece")) = some false := T.kit 21 rfl
    obtain ⟨dh, tk, sw, sp, eh, _, hsw, hsp⟩ := IsHouse.ex hh
    cases it with
    | pc z st of m de lo hi =>
      obtain ⟨dxa, g, ea, _⟩ := hi'
      obtain ⟨_, _, _, ⟨de0, _⟩, _, lohi, _⟩ := ok
      walk_at "rw"
      rename_i d H1 hd s1 ed
      refine use_span (Makes.ok (bad_f (by omega)) fun x1 dx1 H2 hx1 s2 e1 => ?_)
      refine w_kds1 (s2 _ _ ed) ?_
      have hd2 := s2 _ _ ed
      have ea3 : upd H2 d (.dK [(.inr "delay", .ref x1)]) a = _ := upd_ne (ne_of_none ea hd)
      rw [s2 _ _ (s1 _ _ ea)] at ea3
      have eh3 : upd H2 d (.dK [(.inr "delay", .ref x1)]) h = _ := upd_ne (ne_of_none eh hd)
      rw [s2 _ _ (s1 _ _ eh)] at eh3
      have sp1 := IsSpan.putD (o := .dK [(.inr "delay", .ref x1)]) ⟨dx1, e1⟩ hd2
      have s3 : Same H (upd H2 d (.dK [(.inr "delay", .ref x1)])) := same_put (s1.trans s2) hd
      have ed3 : upd H2 d (.dK [(.inr "delay", .ref x1)]) d = some (.dK [(.inr "delay", .ref x1)]) := upd_same
      generalize upd H2 d (.dK [(.inr "delay", .ref x1)]) = H3 at *
      clear hd2 ed s2 s1 e1
      walk_at "rw"
      refine w_isi_own (hty_Piece ea3) hk_Piece_Piece ?_
      walk_at "rw"
      refine use_span (Makes.ok (bad_f (by omega)) fun x2 dx2 H4 hx2 s4 e2 => ?_)
      have ed4 := s4 _ _ ed3
      have eh4 := s4 _ _ eh3
      walk_at "rw"
      refine w_kdp3 ed4 (by rw [sizeLine_eq]; show 1 < _; decide) ?_
      rw [putK_new _ (by rfl)]
      have sp2 := IsSpan.putD (o := .dK ([(.inr "delay", .ref x1)] ++ [(.inr "length", .ref x2)])) ⟨dx2, e2⟩ ed4
      have sp1 := IsSpan.putD (o := .dK ([(.inr "delay", .ref x1)] ++ [(.inr "length", .ref x2)])) (sp1.keep s4) ed4
      have s5 : Same H (upd H4 d (.dK ([(.inr "delay", .ref x1)] ++ [(.inr "length", .ref x2)]))) := same_put (s3.trans s4) hd
      have eh5 : upd H4 d (.dK ([(.inr "delay", .ref x1)] ++ [(.inr "length", .ref x2)])) h = _ := upd_ne (ne_of_none eh hd)
      rw [eh4] at eh5
      have ed5 : upd H4 d (.dK ([(.inr "delay", .ref x1)] ++ [(.inr "length", .ref x2)])) d = some (.dK ([(.inr "delay", .ref x1)] ++ [(.inr "length", .ref x2)])) := upd_same
      generalize upd H4 d (.dK ([(.inr "delay", .ref x1)] ++ [(.inr "length", .ref x2)])) = H5 at *
      clear ed4 eh4 ed3 ea3 eh3 e2 s4 s3
      walk_at "rw"
      refine w_kdp3 ed5 (by rw [sizeLine_eq]; show 2 < _; decide) ?_
      rw [putK_new _ (by rfl)]
      walk_at "rw"
      refine w_kdp3 upd_same (by rw [sizeLine_eq]; show 3 < _; decide) ?_
      rw [putK_new _ (by rfl), upd_upd]
      walk_at "rw"
      refine hQ d [x1, x2, sw, sp] _ hd (same_put s5 hd) upd_same ⟨rfl, fun i a b p q => ?_⟩
      match i with
      | 0 => cases p; cases q; exact sp1.putD ed5
      | 1 => cases p; cases q; exact sp2.putD ed5
      | 2 => cases p; cases q; exact (hsw.keep s5).putD ed5
      | 3 => cases p; cases q; exact (hsp.keep s5).putD ed5
      | _ + 4 => nomatch p
    | br z st of mi de pl un pa =>
      obtain ⟨dxa, g, ea, _⟩ := hi'
      obtain ⟨_, _, _, ⟨de0, _⟩, _⟩ := ok
      walk_at "rw"
      rename_i d H1 hd s1 ed
      refine use_span (Makes.ok (bad_f (by omega)) fun x1 dx1 H2 hx1 s2 e1 => ?_)
      refine w_kds1 (s2 _ _ ed) ?_
      have hd2 := s2 _ _ ed
      have ea3 : upd H2 d (.dK [(.inr "delay", .ref x1)]) a = _ := upd_ne (ne_of_none ea hd)
      rw [s2 _ _ (s1 _ _ ea)] at ea3
      have sp1 := IsSpan.putD (o := .dK [(.inr "delay", .ref x1)]) ⟨dx1, e1⟩ hd2
      have s3 : Same H (upd H2 d (.dK [(.inr "delay", .ref x1)])) := same_put (s1.trans s2) hd
      have ed3 : upd H2 d (.dK [(.inr "delay", .ref x1)]) d = some (.dK [(.inr "delay", .ref x1)]) := upd_same
      generalize upd H2 d (.dK [(.inr "delay", .ref x1)]) = H3 at *
      walk_at "rw"
      refine w_isi_own (hty_Break ea3) hk_Break_Piece ?_
      walk_at "rw"
      refine hQ d [x1] _ hd s3 ed3 ⟨rfl, fun i a b p q => ?_⟩
      match i with
      | 0 => cases p; cases q; exact sp1
      | _ + 1 => nomatch p

end
end My
namespace My
open PySem PySem.Spec PyProof.Rows L2 Rd
section
variable {P : Program} {w : World} {K : PySem.W.Frag} {mg : Str → Option Value} {base : Heap}
def spOutI (K : PySem.W.Frag) : Sp := fun vs H Q E => ∃ (x dx o : Addr) (D : DayD) (k : Int) (H0 : Hp), vs = [.ref x, .ref o] ∧ H x = some (.ins (He.ga K "Outlook") dx []) ∧ H0 x = none ∧ Same H0 H ∧ OrdD K H0 o D ∧ DayOk D k ∧ ∀ (sd : Addr) (ds : List Addr) (H' : Hp), But x H H' → H' x = some (.ins (He.ga K "Outlook") dx (outF o sd)) → H' sd = some (.dK (refK (D.its.map Itm.nm) ds)) → LagsAt K H' ds (D.its.map (lim D)) → Q .non H'
theorem same_but {x : Addr} {H0 H H' : Hp} (s : Same H0 H) (b : But x H H') (n : H0 x = none) : Same H0 H' := fun a o e => b a o (fun z => by rw [z, n] at e; cases e) (s a o e)

theorem sc_Outlook___init__ : FnScope ["self", "order", "item"] ["self", "order"] (defScope (inClass (top 35) 0)) := ⟨rfl, rfl, rfl, by decide +kernel, rfl, by decide +kernel, by decide +kernel⟩
theorem f_Outlook___init__ (T : Tx fa fn xa fs P K mg) : ∃ fd, FunD K "__init__" "Outlook.__init__" (defArgs (inClass (top 35) 0)) (defBody (inClass (top 35) 0)) (defScope (inClass (top 35) 0)) (He.DefD.dvs K d_Outlook___init__) (He.DefD.kws K d_Outlook___init__) (He.ma K (He.ga K "Outlook") "__init__") fd ∧ FnOk P w K mg base (CX P w) 6 (He.ma K (He.ga K "Outlook") "__init__") fd ["self", "order"] (spOutI K) := by
  obtain ⟨fd, F⟩ := T.says.def_ 24 (d := d_Outlook___init__) rfl
  have sc := sc_Outlook___init__
  refine ⟨fd, F, F.ok sc (fun vs H Q E h => ?len) (fun cdv A outer s H vs Q E hr h => ⟨_, (pss_cons (ps_fld (pv 0) (pv 1) rfl)
    (pss_one (ps_fld (pv 0) (pe_dc (own := [("item", 2)]) rfl sc.nd (pi_tup (pe_fld (pv 1) rfl)) (blkOk_by (N := ["self", "order", "item"]) (sc := defScope (inClass (top 35) 0)) (by decide +kernel)) (fun _ _ _ _ _ => (pg_name (i := 2) sc.nd rfl (by first | exact Or.inl rfl | exact Or.inr rfl))) (fun _ _ _ _ _ => pts_nil) (fun _ _ _ _ _ => (pe_fldK K rfl (pv 2) rfl)) (fun _ _ _ _ _ => (pe_cg (sp := (spLags K)) (g_lag_spans T) (hr.mono (by decide)) (by rfl) (pa_cons (pe_fldK K rfl (pv 1) rfl) (pa_cons (pv 2) pa_nil))))) rfl))), ?rd⟩)⟩
  case len =>
    obtain ⟨x, dx, o, D, k, H0, rfl, _⟩ := h
    rfl
  case rd =>
    obtain ⟨x, dx, o, D, k, H0, rfl, hx, hn, s0, ho, ok, hQ⟩ := h
    show tSeq _ _ ⟨_, _, _, _⟩ [some (.ref x), some (.ref o), none] H
    try dsimp only [cxOf]
    have hcl_Outlook : Cls K (He.ga K "Outlook") := T.cls 100
    have hn_Outlook_order : NoAttr K (He.ga K "Outlook") "order" := T.noat 101
    have hn_Outlook__spans : NoAttr K (He.ga K "Outlook") "_spans" := T.noat 102
    have hcl_Order : Cls K (He.ga K "Order") := T.cls 90
    have hn_Order_house : NoAttr K (He.ga K "Order") "house" := T.noat 91
    have hn_Order_opens : NoAttr K (He.ga K "Order") "opens" := T.noat 92
    have hn_Order_lineup : NoAttr K (He.ga K "Order") "lineup" := T.noat 93
    have hn_Order__numbers : NoAttr K (He.ga K "Order") "_numbers" := T.noat 94
    have hcl_Piece : Cls K (He.ga K "Piece") := T.cls 35
    have hn_Piece_name : NoAttr K (He.ga K "Piece") "name" := T.noat 36
    have hn_Piece_grid : NoAttr K (He.ga K "Piece") "grid" := T.noat 37
    have hn_Piece_minute : NoAttr K (He.ga K "Piece") "minute" := T.noat 38
    have hn_Piece_delay : NoAttr K (He.ga K "Piece") "delay" := T.noat 39
    have hn_Piece_least : NoAttr K (He.ga K "Piece") "least" := T.noat 40
    have hn_Piece_most : NoAttr K (He.ga K "Piece") "most" := T.noat 41
    have hcl_Break : Cls K (He.ga K "Break") := T.cls 44
    have hn_Break_name : NoAttr K (He.ga K "Break") "name" := T.noat 45
    have hn_Break_grid : NoAttr K (He.ga K "Break") "grid" := T.noat 46
    have hn_Break_minute : NoAttr K (He.ga K "Break") "minute" := T.noat 47
    have hn_Break_delay : NoAttr K (He.ga K "Break") "delay" := T.noat 48
    have hn_Break_places : NoAttr K (He.ga K "Break") "places" := T.noat 49
    have hn_Break_unit : NoAttr K (He.ga K "Break") "unit" := T.noat 50
    have hn_Break_patience : NoAttr K (He.ga K "Break") "patience" := T.noat 51
    obtain ⟨h, as, t, nd, dxo, hor, hho, eo⟩ := ho.nums
    have la := hor.at_.1
    have l8 := ok.its.len
    have nox : o ≠ x := fun z => by rw [z, hn] at eo; cases eo
    walk_at "rw"
    have ba : But x H (upd H x (.ins (He.ga K "Outlook") dx (putF "order" (.ref o) []))) := But.refl.put
    have xa : upd H x (.ins (He.ga K "Outlook") dx (putF "order" (.ref o) [])) x = some (.ins (He.ga K "Outlook") dx (putF "order" (.ref o) [])) := upd_same
    generalize upd H x (.ins (He.ga K "Outlook") dx (putF "order" (.ref o) [])) = Ha at ba xa ⊢
    have sa := same_but s0 ba hn
    have eoa := sa _ _ eo
    have htup := Same.tup sa hor.tup
    have nd' := ok.its.nd
    walk_at "rw"
    refine dcl_T (goes_same Ha) htup (fun H' s => Same.tup s htup) (fun i kvs H' => ∃ ds : List Addr, kvs = refK ((D.its.map Itm.nm).take i) ds ∧ ds.length = i ∧ LagsAt K H' ds ((D.its.take i).map (lim D))) (fun H' s => ⟨[], rfl, rfl, Each.nil⟩) ?_ ?_
    · rintro Dd i y kvs H1 hD hy ⟨ds, rfl, ld, hl⟩ s1 hat
      obtain ⟨a, ea, rfl⟩ := at_map hy
      have il : i < D.its.length := by have := (List.getElem?_eq_some_iff.mp ea).1; omega
      obtain ⟨it, hit⟩ : ∃ it, D.its[i]? = some it := ⟨_, List.getElem?_eq_getElem il⟩
      have s01 := sa.trans s1
      have ia := (hor.at_.keep s01).2 i a it ea hit
      have iok := ok.its.all it (List.mem_of_getElem? hit)
      have eo1 := s01 _ _ eo
      have hnm : (D.its.map Itm.nm)[i]? = some it.nm := by rw [List.getElem?_map, hit]; rfl
      have lt : ((D.its.map Itm.nm).take i).length = ds.length := by rw [List.length_take, List.length_map, ld]; omega
      have nin : it.nm ∉ (D.its.map Itm.nm).take i := fun m => by
        obtain ⟨j, hj⟩ := List.getElem?_of_mem m
        rw [List.getElem?_take] at hj
        split at hj
        · have := (List.getElem?_inj (by rw [List.length_map]; omega) nd').mp (hj.trans hnm.symm)
          omega
        · cases hj
      have fin : ∀ (d : Addr) (sas : List Addr) (H2 : Hp), Same H1 H2 → H2 d = some (.dK (refK lagW sas)) → SpanL K H2 sas (lim D it) → H1 d = none → kDcv Same Ha Dd (fun i kvs H' => ∃ ds : List Addr, kvs = refK ((D.its.map Itm.nm).take i) ds ∧ ds.length = i ∧ LagsAt K H' ds ((D.its.take i).map (lim D))) i (.str it.nm) (.ref d) H2 := fun d sas H2 s2 ed hsp hd => by
        have e2 := s2 _ _ hat
        refine dc_done (goes_same Ha) hD e2 (by rw [refK_len lt, lt, ld]; omega) (s1.trans s2) ⟨ds ++ [d], ?_, by rw [List.length_append, ld]; rfl, ?_⟩
        · rw [refK_put lt nin, take_one hnm]
        · rw [take_one hit, List.map_append]
          have nD : d ≠ Dd := fun z => by rw [z, hat] at hd; cases hd
          refine Each.snoc ((hl.keep s2).put e2 (Nat.le_of_eq lt.symm)) ⟨sas, by rw [upd_ne nD]; exact ed, Each.mono hsp fun a s hs => hs.putD e2, ?_⟩
          rw [hsp.1]
          exact lim_len D it
      refine ⟨rfl, w_yes ?_⟩
      cases it with
      | pc z st of mi de lo hi =>
        have ia0 := ia
        obtain ⟨dxa, g, eai, hg⟩ := ia
        walk_at "rw"
        refine ⟨h, a, D, _, rfl, HouseAt.keeps (X := []) hho (.same s01), ia0, iok, fun d sas H2 hd s2 ed hsp => ?_⟩
        exact fin d sas H2 s2 ed hsp hd
      | br z st of mi de pl un pa =>
        have ia0 := ia
        obtain ⟨dxa, g, eai, hg⟩ := ia
        walk_at "rw"
        refine ⟨h, a, D, _, rfl, HouseAt.keeps (X := []) hho (.same s01), ia0, iok, fun d sas H2 hd s2 ed hsp => ?_⟩
        exact fin d sas H2 s2 ed hsp hd
    · rintro sd kvs Hb hsd sb hat ⟨ds, rfl, ld, hl⟩
      rw [List.length_map, la] at ld
      rw [List.take_of_length_le (by rw [List.length_map, List.length_map, la]; exact Nat.le_refl _)] at hat
      rw [List.length_map, la, List.take_length] at hl
      have xb := sb _ _ xa
      walk_at "rw"
      have bb : ∀ o', But x H (upd Hb x o') := fun o' b u n e => by rw [upd_ne n]; exact sb _ _ (ba b u n e)
      have sdx : sd ≠ x := fun z => by rw [z, xa] at hsd; cases hsd
      exact hQ sd ds _ (bb _) upd_same (by rw [upd_ne sdx]; exact hat) (hl.putI xb (by show ¬ 1 = 2; decide))

end
end My
namespace My
open PySem PySem.Spec PyProof.Rows L2 Rd
section
variable {P : Program} {w : World} {K : PySem.W.Frag} {mg : Str → Option Value} {base : Heap}
theorem mk_Outlook (T : Tx fa fn xa fs P K mg) : MkG P w K mg base (CX P w) 6 "Outlook" ["self", "order"] [] (spOutI K) := by
  obtain ⟨fd, F, ok⟩ := f_Outlook___init__ (w := w) (base := base) T
  exact ⟨_, fd, [], T.glo 103, T.mkr 104, ok, F.bindsN fun _ _ _ _ _ _ us hl => match us, hl with | [_, _], _ => rfl, .nil⟩
theorem lims_len (D : DayD) : Each (fun (sp : List (Int × Int)) it => sp.length = (lim D it).length) (D.its.map (lim D)) D.its := ⟨by rw [List.length_map], fun i a b x y => by
  rw [List.getElem?_map, y] at x
  cases x; rfl⟩
theorem use_outlook {K : PySem.W.Frag} {H : Hp} {Q : VK} {E : XK} {o : Addr} {D : DayD} {k : Int} (ho : OrdD K H o D) (ok : DayOk D k) (h : ∀ (y : Addr) (H' : Hp), H y = none → Same H H' → OutD K H' y D (D.its.map (lim D)) → (∃ dx sd, H' y = some (.ins (He.ga K "Outlook") dx (outF o sd))) → Q (.ref y) H') : kMake (He.ga K "Outlook") (spOutI K) [] E Q [.ref o] H :=
  w_kmake fun x dx hx hdx _ => ⟨x, dx, o, D, k, H, rfl, upd_same, hx, same_made1 (o1 := .own x) (o2 := .ins (He.ga K "Outlook") dx []) hx hdx, ho, ok, fun sd ds H' b e1 e2 e3 =>
    have s := b.made hx hdx
    ⟨rfl, h x H' hx s ⟨⟨o, dx, sd, ds, e1, ho.keep s, e2, e3⟩, lims_len D⟩ ⟨dx, sd, e1⟩⟩⟩

end
end My
namespace My
open PySem PySem.Spec PyProof.Rows L2 Rd
section
variable {P : Program} {w : World} {K : PySem.W.Frag} {mg : Str → Option Value} {base : Heap}
def spWith (K : PySem.W.Frag) : Sp := fun vs H Q _ => ∃ (o sd : Addr) (D : DayD) (k : Int) (ds : List Addr) (sps : List (List (Int × Int))), vs = [.ref o, .ref sd] ∧ OrdD K H o D ∧ DayOk D k ∧ H sd = some (.dK (refK (D.its.map Itm.nm) ds)) ∧ LagsAt K H ds sps ∧ Each (fun sp it => sp.length = (lim D it).length) sps D.its ∧ ∀ (y : Addr) (H' : Hp), H y = none → Same H H' → OutD K H' y D sps → Q (.ref y) H'

theorem sc_with_spans : FnScope ["order", "spans", "outlook"] ["order", "spans"] (defScope (top 34)) := ⟨rfl, rfl, rfl, by decide +kernel, rfl, by decide +kernel, by decide +kernel⟩
theorem g_with_spans (T : Tx fa fn xa fs P K mg) : FnG P w K mg base (CX P w) 8 "with_spans" ["order", "spans"] (spWith K) := by
  obtain ⟨fd, F⟩ := T.says.def_ 25 (d := d_with_spans) rfl
  have sc := sc_with_spans
  refine ⟨_, fd, T.glo 105, F.kp, F.ok sc (fun vs H Q E h => ?len) (fun cdv A outer s H vs Q E hr h => ⟨_, (pss_cons (ps_set (i := 2) sc.nd rfl (by first | exact Or.inl rfl | exact Or.inr rfl) (pe_mkE (mk_Outlook T) (hr.mono (by decide)) rfl (passes_call (takes_of rfl rfl rfl rfl) (fun _ _ _ _ z => z)) (pa_cons (pv 0) pa_nil)))
    (pss_cons (ps_fld (pv 2) (pv 1) rfl)
    (pss_one (ps_ret (pv 2))))), ?rd⟩), F.bindsN fun _ _ _ _ _ _ us hl => match us, hl with | [_, _], _ => rfl⟩
  case len =>
    obtain ⟨o, sd, D, k, ds, sps, rfl, _⟩ := h
    rfl
  case rd =>
    obtain ⟨o, sd, D, k, ds, sps, rfl, ho, ok, hsd, hl, hlen, hQ⟩ := h
    show tSeq _ _ ⟨_, _, _, _⟩ [some (.ref o), some (.ref sd), none] H
    try dsimp only [cxOf]
    have hcl_Outlook : Cls K (He.ga K "Outlook") := T.cls 100
    have hn_Outlook_order : NoAttr K (He.ga K "Outlook") "order" := T.noat 101
    have hn_Outlook__spans : NoAttr K (He.ga K "Outlook") "_spans" := T.noat 102
    walk_at "rw"
    refine use_outlook ho ok fun y H1 hy s1 ho1 ⟨dx, sd1, ey⟩ => ?_
    walk_at "rw"
    have s2 : Same H (upd H1 y (.ins (He.ga K "Outlook") dx (outF o sd))) := same_put s1 hy
    exact hQ y _ hy s2 ⟨⟨o, dx, sd, ds, upd_same, ho.keep s2, s2 _ _ hsd, hl.keep s2⟩, hlen⟩

end
end My
namespace My
open PySem PySem.Spec PyProof.Rows L2 Rd
section
variable {P : Program} {w : World} {K : PySem.W.Frag} {mg : Str → Option Value} {base : Heap}
def spLimits (K : PySem.W.Frag) : Sp := fun vs H Q _ => ∃ (y : Addr) (D : DayD) (k : Int) (sps : List (List (Int × Int))), vs = [.ref y] ∧ OutD K H y D sps ∧ DayOk D k ∧ ∀ (l : Addr) (ls : List Addr) (H' : Hp), H l = none → Same H H' → H' l = some (.lst (ls.map V.ref)) → LimL K H' ls sps → Q (.ref l) H'

theorem sc_Outlook__limits : FnScope ["self", "item"] ["self"] (defScope (inClass (top 35) 12)) := ⟨rfl, rfl, rfl, by decide +kernel, rfl, by decide +kernel, by decide +kernel⟩
theorem g_Outlook__limits (T : Tx fa fn xa fs P K mg) : MtG P w K mg base CX0 1 (He.ga K "Outlook") "_limits" ["self"] (spLimits K) := by
  obtain ⟨fd, F⟩ := T.says.def_ 26 (d := d_Outlook__limits) rfl
  have sc := sc_Outlook__limits
  refine ⟨⟨_, fd, T.meth 106, F.ok sc (fun vs H Q E h => ?len) (fun cdv A outer s H vs Q E hr h => ⟨_, PSs.nox (pss_one (ps_ret (pe_lc (own := [("item", 1)]) rfl sc.nd (pi_tup (pe_fld (pe_fld (pv 0) rfl) rfl)) (blkOk_by (N := ["self", "item"]) (sc := defScope (inClass (top 35) 12)) (by decide +kernel)) (fun _ _ _ _ _ => (pg_name (i := 1) sc.nd rfl (by first | exact Or.inl rfl | exact Or.inr rfl))) (fun _ _ _ _ _ => pts_nil) (fun _ _ _ _ _ => (pe_lvals (by rfl) (T.free 4) (pe_dix hr (pe_fldK K rfl (pv 0) rfl) (pe_fldK K rfl (pv 1) rfl) (fun _ _ => rfl))))))), ?rd⟩), F.bindsN fun _ _ _ _ _ _ us hl => match us, hl with | [_], _ => rfl⟩, T.cls 100⟩
  case len =>
    obtain ⟨y, D, k, sps, rfl, _⟩ := h
    rfl
  case rd =>
    obtain ⟨y, D, k, sps, rfl, ho, ok, hQ⟩ := h
    show tRet _ ⟨_, _, _, _⟩ [some (.ref y), none] H
    try dsimp only [cxOf]
    have hcl_Outlook : Cls K (He.ga K "Outlook") := T.cls 100
    have hn_Outlook_order : NoAttr K (He.ga K "Outlook") "order" := T.noat 101
    have hn_Outlook__spans : NoAttr K (He.ga K "Outlook") "_spans" := T.noat 102
    have hcl_Order : Cls K (He.ga K "Order") := T.cls 90
    have hn_Order_house : NoAttr K (He.ga K "Order") "house" := T.noat 91
    have hn_Order_opens : NoAttr K (He.ga K "Order") "opens" := T.noat 92
    have hn_Order_lineup : NoAttr K (He.ga K "Order") "lineup" := T.noat 93
    have hn_Order__numbers : NoAttr K (He.ga K "Order") "_numbers" := T.noat 94
    have hcl_Piece : Cls K (He.ga K "Piece") := T.cls 35
    have hn_Piece_name : NoAttr K (He.ga K "Piece") "name" := T.noat 36
    have hn_Piece_grid : NoAttr K (He.ga K "Piece") "grid" := T.noat 37
    have hn_Piece_minute : NoAttr K (He.ga K "Piece") "minute" := T.noat 38
    have hn_Piece_delay : NoAttr K (He.ga K "Piece") "delay" := T.noat 39
    have hn_Piece_least : NoAttr K (He.ga K "Piece") "least" := T.noat 40
    have hn_Piece_most : NoAttr K (He.ga K "Piece") "most" := T.noat 41
    have hcl_Break : Cls K (He.ga K "Break") := T.cls 44
    have hn_Break_name : NoAttr K (He.ga K "Break") "name" := T.noat 45
    have hn_Break_grid : NoAttr K (He.ga K "Break") "grid" := T.noat 46
    have hn_Break_minute : NoAttr K (He.ga K "Break") "minute" := T.noat 47
    have hn_Break_delay : NoAttr K (He.ga K "Break") "delay" := T.noat 48
    have hn_Break_places : NoAttr K (He.ga K "Break") "places" := T.noat 49
    have hn_Break_unit : NoAttr K (He.ga K "Break") "unit" := T.noat 50
    have hn_Break_patience : NoAttr K (He.ga K "Break") "patience" := T.noat 51
    obtain ⟨o, dx, sd, ds, ey, hod, esd, hl⟩ := ho.ex
    obtain ⟨h, as, t, nd, dxo, hor, hho, eo⟩ := hod.nums
    have la := hor.at_.1
    have l8 := ok.its.len
    have htup := hor.tup
    have lsp := ho.len.1
    walk_at "rw"
    refine lc_TH (goes_same H) htup (fun H' s => Same.tup s htup) (fun i acc H' => ∃ ls : List Addr, acc = ls.map V.ref ∧ LimL K H' ls (sps.take i)) (fun H' s => ⟨[], rfl, Each.nil⟩) ?_ ?_
    · rintro Dl i x acc H1 hD hx ⟨ls, rfl, hls⟩ s1 hat
      obtain ⟨a, ea, rfl⟩ := at_map hx
      have il : i < D.its.length := by have := (List.getElem?_eq_some_iff.mp ea).1; omega
      obtain ⟨it, hit⟩ : ∃ it, D.its[i]? = some it := ⟨_, List.getElem?_eq_getElem il⟩
      have ia := (hor.at_.keep s1).2 i a it ea hit
      obtain ⟨sp, hsp⟩ : ∃ sp, sps[i]? = some sp := ⟨_, List.getElem?_eq_getElem (by omega)⟩
      obtain ⟨d, hd, sas, ed, q, l4⟩ := (hl.keep s1).at_ hsp
      have ey1 := s1 _ _ ey
      have esd1 := s1 _ _ esd
      have hnm : (D.its.map Itm.nm)[i]? = some it.nm := by rw [List.getElem?_map, hit]; rfl
      have ev := refK_at ok.its.nd hnm hd
      have lls := hls.1
      rw [List.length_take] at lls
      have fin : kDx2 (V.ref sd) (kLVals (kEltH Same H Dl (fun i acc H' => ∃ ls : List Addr, acc = ls.map V.ref ∧ LimL K H' ls (sps.take i)) i)) (V.str it.nm) H1 := by
        refine w_kdx2 esd1 ev ?_
        refine w_klv ed fun l H2 hl2 s2 el => ?_
        rw [refK_snd (show sas.length ≤ 4 from l4)] at el
        have hat2 := s2 _ _ hat
        refine eltH_done (goes_same H) hD hat2 (by rw [List.length_map]; omega) (s1.trans s2) ⟨ls ++ [l], by rw [List.map_append]; rfl, ?_⟩
        rw [take_one hsp]
        have lD : l ≠ Dl := fun z => by rw [z, hat] at hl2; cases hl2
        exact Each.snoc ((hls.keep s2).put hat2) ⟨sas, by rw [upd_ne lD]; exact el, (q.keep s2).keeps (X := [Dl]) (.put (by simp) hat2)⟩
      refine ⟨rfl, w_yes ?_⟩
      cases it with
      | pc z st of mi de lo hi =>
        obtain ⟨dxa, g, eai, hg⟩ := ia
        walk_at "rw"
        exact fin
      | br z st of mi de pl un pa =>
        obtain ⟨dxa, g, eai, hg⟩ := ia
        walk_at "rw"
        exact fin
    · rintro L acc H1 hL s1 hat ⟨ls, rfl, hls⟩
      rw [List.length_map, la, ← lsp, List.take_length] at hls
      walk_at "rw"
      exact hQ L ls H1 hL s1 hat hls

end
end My
namespace My
open PySem PySem.Spec PyProof.Rows L2 Rd
section
variable {P : Program} {w : World} {K : PySem.W.Frag} {mg : Str → Option Value} {base : Heap}
def spRepl (K : PySem.W.Frag) : Sp := fun vs H Q _ => ∃ (y : Addr) (D : DayD) (k : Int) (sps : List (List (Int × Int))) (i j : Nat) (it : Itm) (sp : List (Int × Int)) (w : Str) (a : Addr) (s s0 : Int × Int), vs = [.ref y, .str it.nm, .str w, .ref a] ∧ OutD K H y D sps ∧ DayOk D k ∧ D.its[i]? = some it ∧ sps[i]? = some sp ∧ lagW[j]? = some w ∧ sp[j]? = some s0 ∧ IsSpan K H a s.1 s.2 ∧ ∀ (y' : Addr) (H' : Hp), H y' = none → Same H H' → OutD K H' y' D (sps.set i (sp.set j s)) → Q (.ref y') H'

theorem sc_Outlook__replaced : FnScope ["self", "name", "word", "span", "spans", "key", "lags"] ["self", "name", "word", "span"] (defScope (inClass (top 35) 13)) := ⟨rfl, rfl, rfl, by decide +kernel, rfl, by decide +kernel, by decide +kernel⟩
theorem g_Outlook__replaced (T : Tx fa fn xa fs P K mg) : MtG P w K mg base (CX P w) 9 (He.ga K "Outlook") "_replaced" ["self", "name", "word", "span"] (spRepl K) := by
  obtain ⟨fd, F⟩ := T.says.def_ 27 (d := d_Outlook__replaced) rfl
  have sc := sc_Outlook__replaced
  refine ⟨⟨_, fd, T.meth 108, F.ok sc (fun vs H Q E h => ?len) (fun cdv A outer s H vs Q E hr h => ⟨_, (pss_cons (ps_lock (ps_setDc (i := 4) (own := [("key", 5), ("lags", 6)]) rfl sc.nd rfl (by first | exact rfl | exact Or.inl rfl | exact Or.inr rfl) (sw_dict rfl rfl rfl (by decide +kernel)) (pi_items (pe_fld (pv 0) rfl)) (blkOk_by (N := ["self", "name", "word", "span", "spans", "key", "lags"]) (sc := defScope (inClass (top 35) 13)) (by decide +kernel)) (fun _ _ _ _ _ => (pg_tupK K rfl (n := 2) rfl (pgs_cons (pg_name (i := 5) sc.nd rfl (by first | exact Or.inl rfl | exact Or.inr rfl)) (pgs_cons (pg_name (i := 6) sc.nd rfl (by first | exact Or.inl rfl | exact Or.inr rfl)) pgs_nil)))) (fun _ _ _ _ _ => pts_nil) (fun _ _ _ _ _ => (pv 5)) (fun _ _ _ _ _ => (pe_callTy cDictD (by rfl) (T.free 107) (by decide +kernel) (pa_cons (pv 6) pa_nil)))))
    (pss_cons (ps_dpt hr (pe_dix hr (pv 4) (pv 1) (fun _ _ => rfl)) (pv 2) (pv 3))
    (pss_one (ps_ret (pe_cgE (g_with_spans T) (hr.mono (by decide)) rfl (passes_call (takes_of rfl rfl rfl rfl) (fun _ _ _ _ z => z)) (pa_cons (pe_fld (pv 0) rfl) (pa_cons (pv 4) pa_nil))))))), ?rd⟩), F.bindsN fun _ _ _ _ _ _ us hl => match us, hl with | [_, _, _, _], _ => rfl⟩, T.cls 100⟩
  case len =>
    obtain ⟨y, D, k, sps, i, j, it, sp, w, a, s, s0, rfl, _⟩ := h
    rfl
  case rd =>
    obtain ⟨y, D, k, sps, i, j, it, sp, w, a, s, s0, rfl, ho, ok, hit, hsp, hw, hs0, ha, hQ⟩ := h
    show tSeq _ _ ⟨_, _, _, _⟩ [some (.ref y), some (.str it.nm), some (.str w), some (.ref a), none, none, none] H
    try dsimp only [cxOf]
    have hcl_Outlook : Cls K (He.ga K "Outlook") := T.cls 100
    have hn_Outlook_order : NoAttr K (He.ga K "Outlook") "order" := T.noat 101
    have hn_Outlook__spans : NoAttr K (He.ga K "Outlook") "_spans" := T.noat 102
    obtain ⟨o, dx, sd, ds, ey, hod, esd, hl⟩ := ho.ex
    have l8 := ok.its.len
    have nd := ok.its.nd
    have lds : ds.length = D.its.length := hl.1.trans ho.len.1
    have lz : (D.its.map Itm.nm).length = ds.length := by rw [List.length_map, lds]
    walk_at "rw"
    refine w_lockS esd fun od => ?_
    have hlL : LagsAt K (upd H sd (.frz od (.dK (refK (D.its.map Itm.nm) ds)))) ds sps := hl.put esd (Nat.le_of_eq lz.symm)
    have noneL : ∀ {b : Addr}, upd H sd (.frz od (.dK (refK (D.its.map Itm.nm) ds))) b = none → H b = none := fun {b} z => by
      by_cases c : b = sd
      · rw [c, upd_same] at z; cases z
      · rwa [upd_ne c] at z
    have sameL : ∀ {H' : Hp}, Same (upd H sd (.frz od (.dK (refK (D.its.map Itm.nm) ds)))) H' → Same H (upd H' sd (.dK (refK (D.its.map Itm.nm) ds))) := fun s => same_lock esd s
    have eL : upd H sd (.frz od (.dK (refK (D.its.map Itm.nm) ds))) sd = some (.frz od (.dK (refK (D.its.map Itm.nm) ds))) := upd_same
    have eyL : upd H sd (.frz od (.dK (refK (D.its.map Itm.nm) ds))) y = _ := (upd_ne (fun z => by rw [z, esd] at ey; cases ey)).trans ey
    generalize upd H sd (.frz od (.dK (refK (D.its.map Itm.nm) ds))) = HL at hlL noneL sameL eL eyL ⊢
    walk_at "rw"
    refine dcl_I (K := K) eL (fun i kvs H' => ∃ es : List Addr, kvs = refK ((D.its.map Itm.nm).take i) es ∧ es.length = i ∧ LagsAt K H' es (sps.take i) ∧ es.Nodup ∧ ∀ e ∈ es, HL e = none) (fun H' s => ⟨[], rfl, rfl, Each.nil, List.nodup_nil, fun _ m => nomatch m⟩) ?_ ?_
    · rintro Dd n key v T kvs H1 H2 hD hkv ⟨es, rfl, le, hes, ndes, nes⟩ s1 hat s2 hT hTn
      obtain ⟨z, d, hz, hd, rfl, rfl⟩ : ∃ z d, (D.its.map Itm.nm)[n]? = some z ∧ ds[n]? = some d ∧ key = .inr z ∧ v = .ref d := by
        unfold refK at hkv
        rw [List.getElem?_map] at hkv
        cases q : ((D.its.map Itm.nm).zip ds)[n]? with
        | none => rw [q] at hkv; cases hkv
        | some zd =>
          rw [q] at hkv
          have := List.getElem?_zip_eq_some.mp q
          cases hkv
          exact ⟨zd.1, zd.2, this.1, this.2, rfl, rfl⟩
      have nl : n < D.its.length := by rw [← lds]; exact (List.getElem?_eq_some_iff.mp hd).1
      obtain ⟨sn, hsn, sas, ed, q, l4⟩ := Each.atL hlL hd
      have s12 := s1.trans s2
      have hT : SqT K H2 T [.str z, .ref d] := hT
      refine w_gt2 hT ?_
      refine ⟨rfl, w_yes ?_⟩
      walk_at "rw"
      refine w_dictD (s12 _ _ ed) fun p H3 hp s3 ep => ?_
      have s13 := s12.trans s3
      have e3 := s3 _ _ (s2 _ _ hat)
      have lt : ((D.its.map Itm.nm).take n).length = es.length := by rw [List.length_take, List.length_map, le]; omega
      have nin : z ∉ (D.its.map Itm.nm).take n := fun m => by
        obtain ⟨j, hj⟩ := List.getElem?_of_mem m
        rw [List.getElem?_take] at hj
        split at hj
        · have := (List.getElem?_inj (by rw [List.length_map]; omega) nd).mp (hj.trans hz.symm)
          omega
        · cases hj
      have hpL : HL p = none := same_none s12 hp
      have pD : p ≠ Dd := fun z => by rw [z, s2 _ _ hat] at hp; cases hp
      refine dc_done (goes_same HL) hD e3 (by rw [refK_len lt, lt, le]; omega) s13 ⟨es ++ [p], ?_, by rw [List.length_append, le]; rfl, ?_, ?_, ?_⟩
      · rw [refK_put lt nin, take_one hz]
      · rw [take_one hsn]
        exact Each.snoc ((hes.keep (s2.trans s3)).put e3 (Nat.le_of_eq lt.symm)) ⟨sas, by rw [upd_ne pD]; exact ep, Each.mono (q.keep s13) fun a s hs => hs.putD e3, l4⟩
      · refine List.nodup_append.mpr ⟨ndes, List.nodup_cons.mpr ⟨fun z => (nomatch z), List.nodup_nil⟩, fun x hx y hy c => ?_⟩
        rw [List.mem_singleton] at hy
        rw [hy] at c
        obtain ⟨m, em⟩ := List.getElem?_of_mem hx
        obtain ⟨_, _, _, ee, _⟩ := Each.atL hes em
        rw [c, same_none s2 hp] at ee
        cases ee
      · intro e he
        rcases List.mem_append.mp he with m | m
        · exact nes e m
        · rw [List.mem_singleton.mp m]; exact hpL
    · rintro nl kvs Hb hnl sb hat ⟨es, rfl, le, hes, ndes, nes⟩
      have lk : (refK (D.its.map Itm.nm) ds).length = D.its.length := by rw [refK_len lz, List.length_map]
      rw [lk] at le hat hes
      rw [List.take_of_length_le (by rw [List.length_map]; exact Nat.le_refl _)] at hat
      rw [List.take_of_length_le (by rw [ho.len.1]; exact Nat.le_refl _)] at hes
      have eLb := sb _ _ eL
      walk_at "rw"
      refine ⟨eLb, ?_⟩
      have s2 := sameL sb
      have hes2 := hes.putZ (o := .dK (refK (D.its.map Itm.nm) ds)) eLb
      have nne : nl ≠ sd := fun z => by rw [z, eL] at hnl; cases hnl
      have hat2 : upd Hb sd (.dK (refK (D.its.map Itm.nm) ds)) nl = some (.dK (refK (D.its.map Itm.nm) es)) := by rw [upd_ne nne]; exact hat
      generalize upd Hb sd (.dK (refK (D.its.map Itm.nm) ds)) = H2 at s2 hes2 hat2 ⊢
      have hnm : (D.its.map Itm.nm)[i]? = some it.nm := by rw [List.getElem?_map, hit]; rfl
      obtain ⟨d, hd, sas, ed, q, l4⟩ := hes2.at_ hsp
      obtain ⟨aw, haw, _⟩ := q.at_ hs0
      have lz2 : (D.its.map Itm.nm).length = es.length := by rw [List.length_map, le]
      have ev := refK_at nd hnm hd
      walk_at "rw"
      refine w_kdx2 hat2 ev ?_
      walk_at "rw"
      refine w_kdp3 ed (by rw [refK, List.length_map, List.length_zip, sizeLine_eq]; omega) ?_
      rw [refK_set (by decide) hw haw]
      have dn : d ≠ nl := hes2.ne hat2 (Nat.le_of_eq lz2.symm) hd
      have hl3 := hes2.set (j := j) (s := s) ndes hd hsp ed q l4 (ha.keep s2)
      have s3 : Same H (upd H2 d (.dK (refK lagW (sas.set j a)))) := same_put s2 (noneL (nes d (List.mem_of_getElem? hd)))
      have hat3 : upd H2 d (.dK (refK lagW (sas.set j a))) nl = some (.dK (refK (D.its.map Itm.nm) es)) := by rw [upd_ne dn.symm]; exact hat2
      generalize upd H2 d (.dK (refK lagW (sas.set j a))) = H3 at hl3 s3 hat3 ⊢
      have ey3 := s3 _ _ ey
      walk_at "rw"
      exact ⟨o, nl, D, k, es, _, rfl, hod.keep s3, ok, hat3, hl3, lenO_set ho.len hsp, fun y' H4 hy s4 h4 => hQ y' H4 (same_none s3 hy) (s3.trans s4) h4⟩

end
end My
namespace My
open PySem PySem.Spec PyProof.Rows L2 Rd
section
variable {P : Program} {w : World} {K : PySem.W.Frag} {mg : Str → Option Value} {base : Heap}

theorem sc__law_same : FnScope ["_law_got", "_law_due", "_law_key", "_law_k"] ["_law_got", "_law_due"] (defScope (top 67)) := ⟨rfl, rfl, rfl, by decide +kernel, rfl, by decide +kernel, by decide +kernel⟩
theorem s__law_same (T : Tx fa fn xa fs P K mg) (d : Nat) (ih : FnG P w K mg base CX0 (d + 1) "_law_same" ["_law_got", "_law_due"] ((spSameD K) d)) : FnG P w K mg base CX0 (d + 1 + 1) "_law_same" ["_law_got", "_law_due"] ((spSameD K) (d + 1)) := by
  obtain ⟨fd, F⟩ := T.says.def_ 28 (d := d__law_same) rfl
  have sc := sc__law_same
  refine ⟨_, fd, T.glo 110, F.kp, F.ok sc (fun vs H Q E h => ?len) (fun cdv A outer s H vs Q E hr h => ⟨_, PSs.nox (pss_cons (ps_if (pt_cmpR oIs (pv 1) pe_non (nomark _)) (pss_one (ps_ret (pe_cmpR oIs (pv 0) pe_non (nomark _)))) pss_nil)
    (pss_cons (ps_if (pt_val (pe_callB cIsi (by rfl) (T.free 0) (by decide +kernel) (pa_cons (pv 1) (pa_cons (pe_bltn (v := .ty "bool") (u := .type "bool") rfl (T.free 1) (by decide +kernel) rfl) pa_nil)))) (pss_one (ps_ret (pe_and (pe_callB cIsi (by rfl) (T.free 0) (by decide +kernel) (pa_cons (pv 0) (pa_cons (pe_bltn (v := .ty "bool") (u := .type "bool") rfl (T.free 1) (by decide +kernel) rfl) pa_nil))) (pe_one (pe_cmpR op_eq (pv 0) (pv 1) (nomark _)))))) pss_nil)
    (pss_cons (ps_if (pt_val (pe_callB cIsi (by rfl) (T.free 0) (by decide +kernel) (pa_cons (pv 1) (pa_cons (pe_bltn (v := .ty "int") (u := .type "int") rfl (T.free 2) (by decide +kernel) rfl) pa_nil)))) (pss_one (ps_ret (pe_and (pe_cg (g__law_is_int T) (hr.mono (by omega)) rfl (pa_cons (pv 0) pa_nil)) (pe_one (pe_cmpR op_eq (pv 0) (pv 1) (nomark _)))))) pss_nil)
    (pss_cons (ps_if (pt_val (pe_callB cIsi (by rfl) (T.free 0) (by decide +kernel) (pa_cons (pv 1) (pa_cons (pe_bltn (v := .ty "str") (u := .type "str") rfl (T.free 109) (by decide +kernel) rfl) pa_nil)))) (pss_one (ps_ret (pe_and (pe_callB cIsi (by rfl) (T.free 0) (by decide +kernel) (pa_cons (pv 0) (pa_cons (pe_bltn (v := .ty "str") (u := .type "str") rfl (T.free 109) (by decide +kernel) rfl) pa_nil))) (pe_one (pe_cmpR op_eq (pv 0) (pv 1) (nomark _)))))) pss_nil)
    (pss_cons (ps_if (pt_val (pe_callB cIsi (by rfl) (T.free 0) (by decide +kernel) (pa_cons (pv 1) (pa_cons (pe_bltn (v := .ty "dict") (u := .type "dict") rfl (T.free 107) (by decide +kernel) rfl) pa_nil)))) pss_never pss_nil)
    (pss_cons (ps_if (PW.pt (pw_or (pt_cmpR op_ne (pe_callB cIsi (by rfl) (T.free 0) (by decide +kernel) (pa_cons (pv 1) (pa_cons (pe_bltn (v := .ty "list") (u := .type "list") rfl (T.free 4) (by decide +kernel) rfl) pa_nil))) (pe_callB cIsi (by rfl) (T.free 0) (by decide +kernel) (pa_cons (pv 0) (pa_cons (pe_bltn (v := .ty "list") (u := .type "list") rfl (T.free 4) (by decide +kernel) rfl) pa_nil))) (nomark _)) (pw_or1 (pt_cmpR op_ne (pe_callB cIsi (by rfl) (T.free 0) (by decide +kernel) (pa_cons (pv 1) (pa_cons (pe_bltn (v := .ty "tuple") (u := .type "tuple") rfl (T.free 72) (by decide +kernel) rfl) pa_nil))) (pe_callB cIsi (by rfl) (T.free 0) (by decide +kernel) (pa_cons (pv 0) (pa_cons (pe_bltn (v := .ty "tuple") (u := .type "tuple") rfl (T.free 72) (by decide +kernel) rfl) pa_nil))) (nomark _))))) (pss_one (ps_ret pe_bl)) pss_nil)
    (pss_cons (ps_if (pt_cmpR op_ne (pe_callB cLen (by rfl) (T.free 6) (by decide +kernel) (pa_cons (pv 0) pa_nil)) (pe_callB cLen (by rfl) (T.free 6) (by decide +kernel) (pa_cons (pv 1) pa_nil)) (nomark _)) (pss_one (ps_ret pe_bl)) pss_nil)
    (pss_cons (ps_for PassesOwn.never rfl (pi_range1 (by rfl) (T.free 8) (pa_cons (pe_callB cLen (by rfl) (T.free 6) (by decide +kernel) (pa_cons (pv 1) pa_nil)) pa_nil)) (pg_name (i := 3) sc.nd rfl (by first | exact Or.inl rfl | exact Or.inr rfl)) (pss_one (ps_if (pt_not (pt_val (pe_cg ih (hr.mono (by omega)) rfl (pa_cons (pe_ix ix_seq (pv 0) (pv 3) (fun _ _ => rfl)) (pa_cons (pe_ix ix_seq (pv 1) (pv 3) (fun _ _ => rfl)) pa_nil))))) (pss_one (ps_ret pe_bl)) pss_nil)))
    (pss_one (ps_ret pe_bl)))))))))), ?rd⟩), F.bindsN fun _ _ _ _ _ _ us hl => match us, hl with | [_, _], _ => rfl⟩
  case len =>
    obtain ⟨v, u, X, Y, e, rfl, _⟩ := h
    rfl
  case rd =>
    obtain ⟨v, u, X, Y, e, rfl, hv, hu, nr, hQ⟩ := h
    show tSeq _ _ ⟨_, _, _, _⟩ [some v, some u, none, none] H
    try dsimp only [cxOf]
    cases hu with
    | non =>
      cases hv
      walk_at "ra"
      exact hQ
    | bl b =>
      cases hv
      walk_at "ra"
      refine w_eqB ?_
      rw [decide_eq_true rfl]
      exact hQ
    | int i =>
      cases hv
      walk_at "ra"
      refine use_isint ?_
      walk_at "ra"
      rw [decide_eq_true rfl]
      exact hQ
    | str z =>
      cases hv
      walk_at "ra"
      rw [decide_eq_true rfl]
      exact hQ
    | @lst b ys ds n1 hb lb all_b =>
      cases hv with
      | @lst a xs _ n2 ha la all_a =>
      obtain ⟨w1, w2⟩ := nr
      have ll : xs.length = ys.length := by omega
      walk_at "ra"
      refine ⟨_, rfl, by omega, by omega, for_range (n := ys.length) (fun i σ H' => H' = H ∧ ∃ c, σ = [some (.ref a), some (.ref b), none, c]) ⟨rfl, _, rfl⟩ ?_ ?_⟩
      · rintro i σ H' hlt ⟨rfl, c, rfl⟩
        obtain ⟨x, hx⟩ : ∃ x, xs[i]? = some x := ⟨xs[i], List.getElem?_eq_getElem (by omega)⟩
        obtain ⟨y, hy⟩ : ∃ y, ys[i]? = some y := ⟨ys[i], List.getElem?_eq_getElem hlt⟩
        obtain ⟨d, hd⟩ : ∃ d, ds[i]? = some d := ⟨ds[i], List.getElem?_eq_getElem (by omega)⟩
        walk_at "ra"
        refine w_ixL (SqL.of ha) (atI_nat hx) ?_
        walk_at "ra"
        refine w_ixL (SqL.of hb) (atI_nat hy) ?_
        walk_at "ra"
        refine use_sameD (all_a i x d hx hd) (all_b i y d hy hd) (w2 d (List.mem_of_getElem? hd)) ?_
        walk_at "ra"
        exact ⟨rfl, _, rfl⟩
      · rintro σ H' ⟨rfl, c, rfl⟩
        walk_at "ra"
        exact hQ
    | @tup b ys ds hb lb all_b =>
      cases hv with
      | @tup a xs _ ha la all_a =>
      obtain ⟨w1, w2⟩ := nr
      have ll : xs.length = ys.length := by omega
      walk_at "ra"
      refine w_lenT ha ?_
      walk_at "ra"
      refine w_lenT hb ?_
      walk_at "ra"
      refine w_lenT hb ?_
      refine ⟨_, rfl, by omega, by omega, for_range (n := ys.length) (fun i σ H' => H' = H ∧ ∃ c, σ = [some (.ref a), some (.ref b), none, c]) ⟨rfl, _, rfl⟩ ?_ ?_⟩
      · rintro i σ H' hlt ⟨rfl, c, rfl⟩
        obtain ⟨x, hx⟩ : ∃ x, xs[i]? = some x := ⟨xs[i], List.getElem?_eq_getElem (by omega)⟩
        obtain ⟨y, hy⟩ : ∃ y, ys[i]? = some y := ⟨ys[i], List.getElem?_eq_getElem hlt⟩
        obtain ⟨d, hd⟩ : ∃ d, ds[i]? = some d := ⟨ds[i], List.getElem?_eq_getElem (by omega)⟩
        walk_at "ra"
        refine w_ixT ha (atI_nat hx) ?_
        walk_at "ra"
        refine w_ixT hb (atI_nat hy) ?_
        walk_at "ra"
        refine use_sameD (all_a i x d hx hd) (all_b i y d hy hd) (w2 d (List.mem_of_getElem? hd)) ?_
        walk_at "ra"
        exact ⟨rfl, _, rfl⟩
      · rintro σ H' ⟨rfl, c, rfl⟩
        walk_at "ra"
        exact hQ
theorem g__law_same (T : Tx fa fn xa fs P K mg) : ∀ d : Nat, FnG P w K mg base CX0 (d + 1) "_law_same" ["_law_got", "_law_due"] ((spSameD K) d)
  | 0 => by
    obtain ⟨fd, F⟩ := T.says.def_ 28 (d := d__law_same) rfl
    exact ⟨_, fd, T.glo 110, F.kp, ⟨fun _ _ _ _ h => (recD h).elim, fun _ _ _ _ _ _ _ _ _ _ _ _ _ h => (recD h).elim⟩, F.bindsN fun _ _ _ _ _ _ us hl => match us, hl with | [_, _], _ => rfl⟩
  | d + 1 => s__law_same T d (g__law_same T d)

end
end My
namespace My
open PySem PySem.Spec PyProof.Rows L2 Rd
section
variable {P : Program} {w : World} {K : PySem.W.Frag} {mg : Str → Option Value} {base : Heap}
open NameM
def spSpansM (K : PySem.W.Frag) : Sp := fun vs H Q _ => ∃ (v : V) (D : DayD) (X Y : List Addr), vs = [v] ∧ Dat K X H v D.dat ∧ D.its.length ≤ 20 ∧ (∀ b ∈ Y, H b ≠ none) ∧ ∀ (l : Addr) (ls : List Addr) (H' : Hp), H l = none → (∀ x ∈ ls, H x = none) → Same H H' → MSp K Y H' l ls (D.its.map (lim D)) → Q (.ref l) H'

theorem sc__law_spans : FnScope ["_law_day_here", "_law_spans_here", "_law_item_here"] ["_law_day_here"] (defScope (top 66)) := ⟨rfl, rfl, rfl, by decide +kernel, rfl, by decide +kernel, by decide +kernel⟩
theorem g__law_spans (T : Tx fa fn xa fs P K mg) : FnG P w K mg base CX0 1 "_law_spans" ["_law_day_here"] (spSpansM K) := by
  obtain ⟨fd, F⟩ := T.says.def_ 29 (d := d__law_spans) rfl
  have sc := sc__law_spans
  refine ⟨_, fd, T.glo 111, F.kp, F.ok sc (fun vs H Q E h => ?len) (fun cdv A outer s H vs Q E hr h => ⟨_, PSs.nox (pss_cons (ps_set (i := 1) sc.nd rfl (by first | exact Or.inl rfl | exact Or.inr rfl) (pe_lst pa_nil))
    (pss_cons (ps_for PassesOwn.never rfl (pi_list (pe_ix ix_seq (pv 0) pe_int (fun _ _ => rfl))) (pg_name (i := 2) sc.nd rfl (by first | exact Or.inl rfl | exact Or.inr rfl)) (pss_one (ps_if (pt_cmpR op_eq (pe_ix ix_seq (pv 2) pe_int (fun _ _ => rfl)) pe_str (nomark _)) (pss_one (ps_expr (pe_bm PySem.F.plainAttrs_list PySem.F.slot_list_append PySem.F.type_list_append mt_append (pv 1) (pa_cons (pe_lst (pa_cons (pe_tup (pa_cons pe_int (pa_cons (pe_ix ix_seq (pv 2) pe_int (fun _ _ => rfl)) pa_nil))) (pa_cons (pe_tup (pa_cons (pe_ix ix_seq (pv 2) pe_int (fun _ _ => rfl)) (pa_cons (pe_ix ix_seq (pv 2) pe_int (fun _ _ => rfl)) pa_nil))) (pa_cons (pe_ix ix_seq (pv 0) pe_int (fun _ _ => rfl)) (pa_cons (pe_ix ix_seq (pv 0) pe_int (fun _ _ => rfl)) pa_nil))))) pa_nil)))) (pss_one (ps_expr (pe_bm PySem.F.plainAttrs_list PySem.F.slot_list_append PySem.F.type_list_append mt_append (pv 1) (pa_cons (pe_lst (pa_cons (pe_tup (pa_cons pe_int (pa_cons (pe_ix ix_seq (pv 2) pe_int (fun _ _ => rfl)) pa_nil))) pa_nil)) pa_nil)))))))
    (pss_one (ps_ret (pv 1))))), ?rd⟩), F.bindsN fun _ _ _ _ _ _ us hl => match us, hl with | [_], _ => rfl⟩
  case len =>
    obtain ⟨v, D, X, Y, rfl, _⟩ := h
    rfl
  case rd =>
    obtain ⟨v, D, X, Y, rfl, hv, l20, hY, hQ⟩ := h
    show tSeq _ _ ⟨_, _, _, _⟩ [some (v), none, none] H
    try dsimp only [cxOf]
    walk_at "rw"
    rename_i l H1 hl s1 el
    have hv1 : Dat K (l :: X) H1 v D.dat := (hv.off hl).keep (.same s1)
    have ss_ : ∀ (i : Nat) (it : Itm), D.its[i]? = some it → (D.its.map (lim D))[i]? = some (lim D it) := fun i it h => by rw [List.getElem?_map, h]; rfl
    refine day_8 hv1 fun u hu => ?_
    refine for_D (H0 := H1) hu (fun i σ H' => ∃ (xs : List V) (v2 : Option V), Keeps (l :: X) H1 H' ∧ Same H H' ∧ H' l = some (.lst xs) ∧ Copied K H (D.its.map (lim D)) l i xs H' ∧ σ = [some v, some (.ref l), v2]) ⟨[], _, .refl, s1, el, ⟨[], rfl, rfl, List.nodup_nil, (fun z => (nomatch z)), (fun _ z => (nomatch z)), Each.nil⟩, rfl⟩ (fun i σ H' h => let ⟨_, _, k, _⟩ := h; k) ?_ ?_
    · rintro i x d σ H2 hd hx ⟨xs, v2, k2, s2, e2, rc, rfl⟩
      obtain ⟨it, hit, rfl⟩ := at_dat hd
      have hi : i < D.its.length := (List.getElem?_eq_some_iff.mp hit).1
      have rc0 := rc
      obtain ⟨ls, rfl, lls, _⟩ := rc0
      have lx : (ls.map V.ref).length = i := by rw [List.length_map, lls]
      have fin : ∀ (H3 : Hp) (w : Addr) (ys : List V), Same H2 H3 → H3 w = some (.lst ys) → H2 w = none → DatA K [] H3 ys ((lim D it).map Rd.prD) → ∃ (zs : List V) (v2' : Option V), Keeps (l :: X) H1 (upd H3 l (.lst (ls.map V.ref ++ [.ref w]))) ∧ Same H (upd H3 l (.lst (ls.map V.ref ++ [.ref w]))) ∧ upd H3 l (.lst (ls.map V.ref ++ [.ref w])) l = some (.lst zs) ∧ Copied K H (D.its.map (lim D)) l (i + 1) zs (upd H3 l (.lst (ls.map V.ref ++ [.ref w]))) ∧ [some v, some (V.ref l), some x] = [some v, some (.ref l), v2'] := fun H3 w ys s3 ew hw dw => by
        have e3 := s3 _ _ e2
        have kl : Keeps [l] H3 (upd H3 l (.lst (ls.map V.ref ++ [.ref w]))) := .put (by simp) e3
        exact ⟨_, _, (k2.trans (.same s3)).trans (kl.weak fun b hb => by simp only [List.mem_cons, List.not_mem_nil, or_false] at hb; rw [hb]; exact List.mem_cons_self), same_put (s2.trans s3) hl, upd_same, rc.snoc (ss_ i it hit) e2 s2 hw s3 ew dw, rfl⟩
      cases it with
      | pc z st of m de lo hi =>
        obtain ⟨t, g, rfl, ht, hg⟩ := Itm.pcAt hx
        walk_at "rq"
        all_goals first
          | exact absurd rfl (by assumption)
          | skip
        rename_i t1 H3 ht1 s3 et1
        have ht3 := Same.tup s3 ht
        walk_at "rq"
        rename_i t2 H4 ht2 s4 et2
        have hv4 := hv1.keep (k2.trans (.same (s3.trans s4)))
        refine day_3 hv4 fun a3 h3 => ?_
        walk_at "rq"
        refine day_4 hv4 fun a4 h4 => ?_
        walk_at "rq"
        rename_i w H5 hw s5 ew
        have e5 : H5 l = some (.lst (ls.map V.ref)) := s5 _ _ (s4 _ _ (s3 _ _ e2))
        refine w_app e5 (by rw [lx, sizeLine_eq]; omega) ?_
        walk_at "rq"
        exact fin H5 w _ ((s3.trans s4).trans s5) ew (same_none (s3.trans s4) hw) (.cons (pr_dat (q := (0, de)) (SqT.of (s5 _ _ (s4 _ _ et1)))) (.cons (pr_dat (q := (lo, hi)) (SqT.of (s5 _ _ et2))) (.cons (pr_dat (Same.tup s5 h3)) (.cons (pr_dat (Same.tup s5 h4)) .nil))))
      | br z st of mi de pl un pa =>
        obtain ⟨t, g, rfl, ht, hg⟩ := Itm.brAt hx
        walk_at "rq"
        all_goals first
          | exact absurd (show Str.ofString "break" = Str.ofString "piece" by assumption) (by decide)
          | skip
        rename_i t1 H3 ht1 s3 et1 w H5 hw s5 ew
        have e5 : H5 l = some (.lst (ls.map V.ref)) := s5 _ _ (s3 _ _ e2)
        refine w_app e5 (by rw [lx, sizeLine_eq]; omega) ?_
        walk_at "rq"
        exact fin H5 w _ (s3.trans s5) ew (same_none s3 hw) (.cons (pr_dat (q := (0, de)) (SqT.of (s5 _ _ et1))) .nil)
    · rintro σ H2 ⟨xs, v2, k2, s2, e2, rc, rfl⟩
      rw [List.length_map, ← List.length_map (f := lim D)] at rc
      walk_at "rw"
      obtain ⟨ls, ms, nls⟩ := rc.msp hl e2 hY
      exact hQ l ls H2 hl nls s2 ms

end
end My
namespace My
open PySem PySem.Spec PyProof.Rows L2 Rd
section
variable {P : Program} {w : World} {K : PySem.W.Frag} {mg : Str → Option Value} {base : Heap}
abbrev spSize : Sp := spDraw 0 (fun _ => True) (fun _ d => 1 ≤ d ∧ d ≤ 1000000000000000000000000000)
theorem sc__law_size : FnScope ["_law_pool_here"] ["_law_pool_here"] (defScope (top 68)) := ⟨rfl, rfl, rfl, by decide +kernel, rfl, by decide +kernel, by decide +kernel⟩
theorem g__law_size (T : Tx fa fn xa fs P K mg) : FnG P w K mg base CX0 3 "_law_size" ["_law_pool_here"] spSize := by
  obtain ⟨fd, F⟩ := T.says.def_ 30 (d := d__law_size) rfl
  have sc := sc__law_size
  refine ⟨_, fd, T.glo 112, F.kp, F.ok sc (fun vs H Q E h => ?len) (fun cdv A outer s H vs Q E hr h => ⟨_, PSs.nox (pss_cons (ps_if (pt_cmpR op_eq (pe_cg (g__law_take T) (hr.mono (by decide)) rfl (pa_cons (pv 0) (pa_cons pe_int pa_nil))) pe_int (nomark _)) (pss_one (ps_ret (pe_op oAdd pe_int (pe_cg (g__law_take T) (hr.mono (by decide)) rfl (pa_cons (pv 0) (pa_cons pe_int pa_nil)))))) pss_nil)
    (pss_one (ps_ret (pe_op oAdd pe_int (pe_cg (g__law_big T) (hr.mono (by decide)) rfl (pa_cons (pv 0) pa_nil)))))), ?rd⟩), F.bindsN fun _ _ _ _ _ _ us hl => match us, hl with | [_], _ => rfl⟩
  case len => exact spDraw_len h
  case rd =>
    obtain ⟨p, is, rfl, hl, _, hp, hQ⟩ := h
    obtain rfl := List.eq_nil_of_length_eq_zero hl
    show tSeq _ _ ⟨_, _, _, _⟩ [some (.ref p)] H
    try dsimp only [cxOf]
    walk_at "rx"
    · exact hQ _ _ (by constructor <;> omega) (by walk_at "drawn")
    · rename_i hb hd
      obtain ⟨b0, b1⟩ := hb
      exact hQ _ _ (by constructor <;> omega) (by walk_at "drawn")

end
end My
namespace My
open PySem PySem.Spec PyProof.Rows L2 Rd
section
variable {P : Program} {w : World} {K : PySem.W.Frag} {mg : Str → Option Value} {base : Heap}
open NameM
def spEnlarged (K : PySem.W.Frag) : Sp := fun vs H Q _ => ∃ (p : Addr) (v : V) (D : DayD) (k : Int), vs = [.ref p, v] ∧ PoolAt H p ∧ Dat K [p] H v D.dat ∧ DayOk D k ∧ ∀ (w : V) (D' : DayD) (H' : Hp), Drawn p H H' → Dat K [p] H' w D'.dat → DayOk D' k → Q w H'

theorem sc__law_enlarged : FnScope ["_law_pool_here", "_law_day_here", "_law_items_here", "_law_item_here", "_law_way", "_law_other", "_law_low", "_law_bar"] ["_law_pool_here", "_law_day_here"] (defScope (top 69)) := ⟨rfl, rfl, rfl, by decide +kernel, rfl, by decide +kernel, by decide +kernel⟩
theorem g__law_enlarged (T : Tx fa fn xa fs P K mg) : FnG P w K mg base CX0 4 "_law_enlarged" ["_law_pool_here", "_law_day_here"] (spEnlarged K) := by
  obtain ⟨fd, F⟩ := T.says.def_ 31 (d := d__law_enlarged) rfl
  have sc := sc__law_enlarged
  refine ⟨_, fd, T.glo 113, F.kp, F.ok sc (fun vs H Q E h => ?len) (fun cdv A outer s H vs Q E hr h => ⟨_, PSs.nox (pss_cons (ps_if (pt_cmpR oGt (pe_cg (g__law_take T) (hr.mono (by decide)) rfl (pa_cons (pv 0) (pa_cons pe_int pa_nil))) pe_int (nomark _)) (pss_one (ps_ret (pv 1))) pss_nil)
    (pss_cons (ps_set (i := 2) sc.nd rfl (by first | exact Or.inl rfl | exact Or.inr rfl) (pe_lst pa_nil))
    (pss_cons (ps_for PassesOwn.never rfl (pi_list (pe_ix ix_seq (pv 1) pe_int (fun _ _ => rfl))) (pg_name (i := 3) sc.nd rfl (by first | exact Or.inl rfl | exact Or.inr rfl)) (pss_cons (ps_set (i := 4) sc.nd rfl (by first | exact Or.inl rfl | exact Or.inr rfl) (pe_cg (g__law_take T) (hr.mono (by decide)) rfl (pa_cons (pv 0) (pa_cons pe_int pa_nil))))
    (pss_cons (ps_set (i := 5) sc.nd rfl (by first | exact Or.inl rfl | exact Or.inr rfl) (pv 3))
    (C8.pss_cut (ps_if (pt_cmpR op_eq (pv 4) pe_int (nomark _)) (pss_one (ps_set (i := 5) sc.nd rfl (by first | exact Or.inl rfl | exact Or.inr rfl) (pe_op op_catT (pe_op op_catT (pe_slice oSl (pv 3) po_none (po_some pe_int)) (pe_tup (pa_cons (pe_op oSub (pe_cg (g__law_size T) (hr.mono (by decide)) rfl (pa_cons (pv 0) pa_nil)) (pe_cg (g__law_size T) (hr.mono (by decide)) rfl (pa_cons (pv 0) pa_nil))) pa_nil))) (pe_slice oSl (pv 3) (po_some pe_int) po_none)))) (pss_one (ps_if (PW.pt (pw_and (pt_cmpR op_eq (pv 4) pe_int (nomark _)) (pw_and1 (pt_cmpR op_eq (pe_ix ix_seq (pv 3) pe_int (fun _ _ => rfl)) pe_str (nomark _))))) (pss_cons (ps_set (i := 6) sc.nd rfl (by first | exact Or.inl rfl | exact Or.inr rfl) (pe_cg (g__law_size T) (hr.mono (by decide)) rfl (pa_cons (pv 0) pa_nil)))
    (pss_one (ps_set (i := 5) sc.nd rfl (by first | exact Or.inl rfl | exact Or.inr rfl) (pe_op op_catT (pe_slice oSl (pv 3) po_none (po_some pe_int)) (pe_tup (pa_cons (pv 6) (pa_cons (pe_op oSub (pe_op oAdd (pv 6) (pe_ix ix_seq (pv 3) pe_int (fun _ _ => rfl))) (pe_ix ix_seq (pv 3) pe_int (fun _ _ => rfl))) pa_nil))))))) (pss_one (ps_if (pt_cmpR op_eq (pv 4) pe_int (nomark _)) (pss_one (ps_set (i := 5) sc.nd rfl (by first | exact Or.inl rfl | exact Or.inr rfl) (pe_op op_catT (pe_slice oSl (pv 3) po_none (po_some pe_int)) (pe_tup (pa_cons (pe_cg (g__law_size T) (hr.mono (by decide)) rfl (pa_cons (pv 0) pa_nil)) (pa_cons (pe_ix ix_seq (pv 3) pe_int (fun _ _ => rfl)) pa_nil)))))) (pss_one (ps_if (pt_cmpR op_eq (pv 4) pe_int (nomark _)) (pss_cons (ps_set (i := 7) sc.nd rfl (by first | exact Or.inl rfl | exact Or.inr rfl) (pe_cg (g__law_size T) (hr.mono (by decide)) rfl (pa_cons (pv 0) pa_nil)))
    (pss_one (ps_set (i := 5) sc.nd rfl (by first | exact Or.inl rfl | exact Or.inr rfl) (pe_op op_catT (pe_op op_catT (pe_slice oSl (pv 3) po_none (po_some pe_int)) (pe_tup (pa_cons (pe_tup (pa_cons (pv 7) (pa_cons (pe_cg (g__law_take T) (hr.mono (by decide)) rfl (pa_cons (pv 0) (pa_cons (pv 7) pa_nil))) pa_nil))) pa_nil))) (pe_slice oSl (pv 3) (po_some pe_int) po_none))))) pss_nil)))))))
    (pss_one (ps_expr (pe_bm PySem.F.plainAttrs_list PySem.F.slot_list_append PySem.F.type_list_append mt_append (pv 2) (pa_cons (pv 5) pa_nil))))))))
    (pss_one (ps_ret (pe_op oAdd (pe_slice sl_list (pv 1) po_none (po_some pe_int)) (pe_lst (pa_cons (pv 2) pa_nil)))))))), ?rd⟩), F.bindsN fun _ _ _ _ _ _ us hl => match us, hl with | [_, _], _ => rfl⟩
  case len =>
    obtain ⟨p, v, D, k, rfl, _⟩ := h
    rfl
  case rd =>
    obtain ⟨p, v, D, k, rfl, hp, hv, ok, hQ⟩ := h
    show tSeq _ _ ⟨_, _, _, _⟩ [some (.ref p), some (v), none, none, none, none, none, none] H
    try dsimp only [cxOf]
    walk_at "rw"
    · rename_i tk H1 t0 t1 d1 c1
      exact hQ v D H1 d1 (hv.keep (.drawn (by simp) d1)) ok
    · rename_i tk H1 t0 t1 d1 c1 l H2 hl s2 el
      have hlH : H l = none := d1.free hl
      have d2 : Drawn p H H2 := d1.same s2
      have lp : l ≠ p := d1.ne hl
      have l8 := ok.its.len
      have hv2 : Dat K [l, p] H2 v D.dat := (hv.off hlH).keep (.drawn (by simp) d2)
      refine day_8 hv2 fun u hu => ?_
      refine for_D (X := [l, p]) (H0 := H2) hu (fun i σ H' => ∃ (xs : List V) (js : List Itm) (v3 v4 v5 v6 v7 : Option V), Keeps [l, p] H2 H' ∧ Drawn p H H' ∧ H' l = some (.lst xs) ∧ DatA K [p, l] H' xs (js.map Itm.dat) ∧ Each Like (D.its.take i) js ∧ σ = [some (.ref p), some v, some (.ref l), v3, v4, v5, v6, v7]) ⟨[], [], _, _, _, _, _, .refl, d2, el, .nil, Each.nil, rfl⟩ (fun i σ H' h => let ⟨_, _, _, _, _, _, _, k, _⟩ := h; k) ?_ ?_
      · rintro i x d σ H3 hd hx ⟨xs, js, v3, v4, v5, v6, v7, k3, d3', e3, ar, ea, rfl⟩
        obtain ⟨it, hit, rfl⟩ : ∃ it, D.its[i]? = some it ∧ d = it.dat := by
          rw [List.getElem?_map] at hd
          cases q : D.its[i]? with
          | none => rw [q] at hd; cases hd
          | some t => rw [q] at hd; exact ⟨t, rfl, (Option.some.inj hd).symm⟩
        have iok := ok.its.all it (List.mem_of_getElem? hit)
        have hp3 := d3'.pool
        walk_at "rw"
        rename_i way H4 w0 w1 d4
        have hp4 := d4.pool
        refine w_cut (fun σ' H' => ∃ (w : V) (jt : Itm) (v6 v7 : Option V), Like it jt ∧ Drawn p H4 H' ∧ Dat K [p, l] H' w jt.dat ∧ σ' = [some (.ref p), some v, some (.ref l), some x, some (.int way), some w, v6, v7]) ?_ ?_
        · cases it with
          | pc z st of m de lo hi =>
            obtain ⟨t, g, rfl, ht, hg⟩ := Itm.pcAt hx
            have tA : ∀ (H' : Hp), Drawn p H4 H' → SqT K H' t [.str "piece", .str z, .ref g, optV m, .int de, .int lo, .int hi] := fun H' d => SqT.go ht (d4.trans d)
            have gA : ∀ (H' : Hp), Drawn p H4 H' → SqT K H' g [.int st, .int of] := fun H' d => SqT.go hg (d4.trans d)
            obtain ⟨o1, o2, o3, o4, o5, o6, o7⟩ := iok
            walk_at "rw"
            · refine n_usB (tA _ (.refl hp4)) fun l1 H5 s5 h5 => ?_
              have d5 : Drawn p H4 H5 := .of_same hp4 s5
              have hp5 := d5.pool
              have h5 : SqT K H5 l1 [.str "piece", .str z, .ref g] := h5
              walk_at "rx"
              rename_i a1 H6 q1 d6 a2 H7 q2 d7 t8 H8 ht8 s8 et8
              have d58 : Drawn p H5 H8 := by walk_at "drawn"
              refine n_catT (SqT.go h5 d58) (SqT.of et8) (List.cons_ne_nil _ _) (by rw [sizeLine_eq]; exact Nat.le_of_ble_eq_true rfl) fun l9 H9 s9 h9 => ?_
              have d9 : Drawn p H4 H9 := (d5.trans d58).same s9
              walk_at "rx"
              refine n_usB (tA _ d9) fun la Ha sa ha => ?_
              have ha : SqT K Ha la [.int de, .int lo, .int hi] := ha
              walk_at "rx"
              refine n_catT (Same.tup sa h9) ha (List.cons_ne_nil _ _) (by rw [sizeLine_eq]; exact Nat.le_of_ble_eq_true rfl) fun lb Hb sb hb => ?_
              have db : Drawn p H4 Hb := (d9.same sa).same sb
              walk_at "rx"
              exact ⟨.ref lb, .pc z st of (some (a1 - a2)) de lo hi, _, _, ⟨rfl, rfl, rfl, (fun b => ⟨b.1, fun y e => by cases e; constructor <;> omega, b.2.2⟩), o1, o2, o3, o4, o5, o6, o7⟩, db, pc_dat (m := some (a1 - a2)) hb (gA _ db), rfl⟩
            · refine w_ixT (tA _ (.refl hp4)) rfl ?_
              walk_at "rx"
              · rename_i lw H5 q5 d5
                obtain ⟨q1, q2⟩ := q5
                refine n_usB (tA _ d5) fun l1 H6 s6 h6 => ?_
                have h6 : SqT K H6 l1 [.str "piece", .str z, .ref g, optV m, .int de] := h6
                have d6 := d5.same s6
                walk_at "rx"
                refine w_ixT (tA _ d6) rfl ?_
                walk_at "rx"
                refine w_ixT (tA _ d6) rfl ?_
                walk_at "rx"
                rename_i t7 H7 ht7 s7 et7
                refine n_catT (Same.tup s7 h6) (SqT.of et7) (List.cons_ne_nil _ _) (by rw [sizeLine_eq]; exact Nat.le_of_ble_eq_true rfl) fun l8 H8 s8 h8 => ?_
                have d8 := (d6.same s7).same s8
                walk_at "rx"
                exact ⟨.ref l8, .pc z st of m de lw (lw + hi - lo), _, _, ⟨rfl, rfl, rfl, (fun b => ⟨b.1, b.2.1, by omega⟩), o1, o2, o3, o4, q1, by omega, by omega⟩, d8, pc_dat h8 (gA _ d8), rfl⟩
              all_goals exact absurd rfl (by assumption)
            all_goals walk_at "rx"
            · rename_i bar H5 q5 d5
              obtain ⟨b1, b2⟩ := q5
              refine n_usB (tA _ d5) fun l1 H6 s6 h6 => ?_
              have h6 : SqT K H6 l1 [.str "piece", .str z] := h6
              have d6 := d5.same s6
              have hp6 := d6.pool
              walk_at "rx"
              rename_i sh H7 sh0 sh1 d7 t8 H8 ht8 s8 et8 t9 H9 ht9 s9 et9
              have d69 : Drawn p H6 H9 := by walk_at "drawn"
              refine n_catT (SqT.go h6 d69) (SqT.of et9) (List.cons_ne_nil _ _) (by rw [sizeLine_eq]; exact Nat.le_of_ble_eq_true rfl) fun la Ha sa ha => ?_
              have da : Drawn p H4 Ha := (d6.trans d69).same sa
              walk_at "rx"
              refine n_usB (tA _ da) fun lb Hb sb hb => ?_
              have hb : SqT K Hb lb [optV m, .int de, .int lo, .int hi] := hb
              walk_at "rx"
              refine n_catT (Same.tup sb ha) hb (List.cons_ne_nil _ _) (by rw [sizeLine_eq]; exact Nat.le_of_ble_eq_true rfl) fun lc Hc sc hc => ?_
              have dc : Drawn p H4 Hc := (da.same sb).same sc
              walk_at "rx"
              exact ⟨.ref lc, .pc z bar sh m de lo hi, _, _, ⟨rfl, rfl, rfl, (fun b => ⟨by omega, b.2⟩), o1, b1, ⟨sh0, by omega⟩, o4, o5, o6, o7⟩, dc, pc_dat hc (SqT.of (sc _ _ (sb _ _ (sa _ _ (s9 _ _ et8))))), rfl⟩
            · exact ⟨.ref t, .pc z st of m de lo hi, _, _, ⟨rfl, rfl, rfl, (fun b => b), o1, o2, o3, o4, o5, o6, o7⟩, .refl hp4, pc_dat (tA _ (.refl hp4)) (gA _ (.refl hp4)), rfl⟩
          | br z st of mi de pl un pa =>
            obtain ⟨t, g, rfl, ht, hg⟩ := Itm.brAt hx
            have tA : ∀ (H' : Hp), Drawn p H4 H' → SqT K H' t [.str "break", .str z, .ref g, .int mi, .int de, .int pl, .int un, .int pa] := fun H' d => SqT.go ht (d4.trans d)
            have gA : ∀ (H' : Hp), Drawn p H4 H' → SqT K H' g [.int st, .int of] := fun H' d => SqT.go hg (d4.trans d)
            obtain ⟨o1, o2, o3, o4, o5, o6, o7⟩ := iok
            walk_at "rw"
            · refine n_usB (tA _ (.refl hp4)) fun l1 H5 s5 h5 => ?_
              have d5 : Drawn p H4 H5 := .of_same hp4 s5
              have hp5 := d5.pool
              have h5 : SqT K H5 l1 [.str "break", .str z, .ref g] := h5
              walk_at "rx"
              rename_i a1 H6 q1 d6 a2 H7 q2 d7 t8 H8 ht8 s8 et8
              have d58 : Drawn p H5 H8 := by walk_at "drawn"
              refine n_catT (SqT.go h5 d58) (SqT.of et8) (List.cons_ne_nil _ _) (by rw [sizeLine_eq]; exact Nat.le_of_ble_eq_true rfl) fun l9 H9 s9 h9 => ?_
              have d9 : Drawn p H4 H9 := (d5.trans d58).same s9
              walk_at "rx"
              refine n_usB (tA _ d9) fun la Ha sa ha => ?_
              have ha : SqT K Ha la [.int de, .int pl, .int un, .int pa] := ha
              walk_at "rx"
              refine n_catT (Same.tup sa h9) ha (List.cons_ne_nil _ _) (by rw [sizeLine_eq]; exact Nat.le_of_ble_eq_true rfl) fun lb Hb sb hb => ?_
              have db : Drawn p H4 Hb := (d9.same sa).same sb
              walk_at "rx"
              exact ⟨.ref lb, .br z st of (a1 - a2) de pl un pa, _, _, ⟨rfl, rfl, rfl, (fun b => ⟨b.1, ⟨by omega, by omega⟩, b.2.2⟩), o1, o2, o3, o4, o5, o6, o7⟩, db, br_dat hb (gA _ db), rfl⟩
            · refine w_ixT (tA _ (.refl hp4)) rfl ?_
              walk_at "rx"
              · exact absurd (show Str.ofString "break" = Str.ofString "piece" by assumption) (by decide)
              · refine n_usB (tA _ (.refl hp4)) fun l1 H5 s5 h5 => ?_
                have h5 : SqT K H5 l1 [.str "break", .str z, .ref g, .int mi, .int de, .int pl] := h5
                have d5 : Drawn p H4 H5 := .of_same hp4 s5
                have hp5 := d5.pool
                walk_at "rx"
                rename_i un' H6 q6 d6
                obtain ⟨q1, q2⟩ := q6
                refine w_ixT (tA _ (d5.trans d6)) rfl ?_
                walk_at "rx"
                rename_i t7 H7 ht7 s7 et7
                have d57 : Drawn p H5 H7 := d6.same s7
                refine n_catT (SqT.go h5 d57) (SqT.of et7) (List.cons_ne_nil _ _) (by rw [sizeLine_eq]; exact Nat.le_of_ble_eq_true rfl) fun l8 H8 s8 h8 => ?_
                have d8 := (d5.trans d57).same s8
                walk_at "rx"
                exact ⟨.ref l8, .br z st of mi de pl un' pa, _, _, ⟨rfl, rfl, rfl, (fun b => ⟨b.1, b.2.1, by omega⟩), o1, o2, o3, o4, o5, q1, o7⟩, d8, br_dat h8 (gA _ d8), rfl⟩
            all_goals walk_at "rx"
            · rename_i bar H5 q5 d5
              obtain ⟨b1, b2⟩ := q5
              refine n_usB (tA _ d5) fun l1 H6 s6 h6 => ?_
              have h6 : SqT K H6 l1 [.str "break", .str z] := h6
              have d6 := d5.same s6
              have hp6 := d6.pool
              walk_at "rx"
              rename_i sh H7 sh0 sh1 d7 t8 H8 ht8 s8 et8 t9 H9 ht9 s9 et9
              have d69 : Drawn p H6 H9 := by walk_at "drawn"
              refine n_catT (SqT.go h6 d69) (SqT.of et9) (List.cons_ne_nil _ _) (by rw [sizeLine_eq]; exact Nat.le_of_ble_eq_true rfl) fun la Ha sa ha => ?_
              have da : Drawn p H4 Ha := (d6.trans d69).same sa
              walk_at "rx"
              refine n_usB (tA _ da) fun lb Hb sb hb => ?_
              have hb : SqT K Hb lb [.int mi, .int de, .int pl, .int un, .int pa] := hb
              walk_at "rx"
              refine n_catT (Same.tup sb ha) hb (List.cons_ne_nil _ _) (by rw [sizeLine_eq]; exact Nat.le_of_ble_eq_true rfl) fun lc Hc sc hc => ?_
              have dc : Drawn p H4 Hc := (da.same sb).same sc
              walk_at "rx"
              exact ⟨.ref lc, .br z bar sh mi de pl un pa, _, _, ⟨rfl, rfl, rfl, (fun b => ⟨by omega, b.2⟩), o1, b1, ⟨sh0, by omega⟩, o4, o5, o6, o7⟩, dc, br_dat hc (SqT.of (sc _ _ (sb _ _ (sa _ _ (s9 _ _ et8))))), rfl⟩
            · exact ⟨.ref t, .br z st of mi de pl un pa, _, _, ⟨rfl, rfl, rfl, (fun b => b), o1, o2, o3, o4, o5, o6, o7⟩, .refl hp4, br_dat (tA _ (.refl hp4)) (gA _ (.refl hp4)), rfl⟩
        · rintro σ' H5 ⟨w, jt, v6', v7', lk, d5, hw, rfl⟩
          have lx : xs.length = i := by have q := ar.len; have q2 := ea.1; have q3 := (List.getElem?_eq_some_iff.mp hit).1; rw [List.length_map] at q; rw [List.length_take] at q2; omega
          have d35 := d4.trans d5
          have e5 := d35.lst lp e3
          walk_at "rw"
          refine w_app e5 (by rw [lx, sizeLine_eq]; have q3 := (List.getElem?_eq_some_iff.mp hit).1; omega) ?_
          walk_at "rw"
          have kl : Keeps [p, l] H5 (upd H5 l (.lst (xs ++ [w]))) := .put (by simp) e5
          refine ⟨xs ++ [w], js ++ [jt], _, _, _, _, _, (k3.trans (.drawn (by simp) d35)).trans (.put (by simp) e5), (d3'.trans d35).put hlH, upd_same, ?_, ?_, rfl⟩
          · rw [List.map_append]
            exact ((ar.keep (.drawn (by simp) d35)).snoc hw).keep kl
          · rw [take_one hit]
            exact Each.snoc ea lk
      · rintro σ H3 ⟨xs, js, v3, v4, v5, v6, v7, k3, d3', e3, ar, ea, rfl⟩
        rw [List.length_map, List.take_length] at ea
        obtain ⟨lv, ys, rfl, nv, hlv, tv⟩ := Dat.list (hv.keep (.drawn (by simp) d3'))
        obtain ⟨x0, x1, x2, x3, x4, x5, x6, x7, x8, rfl⟩ := len9 tv.len
        walk_at "rw"
        rename_i l4 H4 hl4 s4 el4 l5 H5 hl5 s5 el5
        rw [show cutV [x0, x1, x2, x3, x4, x5, x6, x7, x8] none (some (8 : Int)) = [x0, x1, x2, x3, x4, x5, x6, x7] from rfl] at el4
        refine w_addL (s5 _ _ el4) el5 (by rw [sizeLine_eq]; show 8 + 1 ≤ _; decide) fun l6 hl6 => ?_
        have s35 := s4.trans s5
        have d5 : Drawn p H H5 := d3'.same s35
        have s6 : Same H5 (upd H5 l6 (.lst ([x0, x1, x2, x3, x4, x5, x6, x7] ++ [.ref l]))) := same_new hl6
        have e6 : upd H5 l6 (.lst ([x0, x1, x2, x3, x4, x5, x6, x7] ++ [.ref l])) l6 = some (.lst ([x0, x1, x2, x3, x4, x5, x6, x7] ++ [.ref l])) := upd_same
        generalize upd H5 l6 (.lst ([x0, x1, x2, x3, x4, x5, x6, x7] ++ [.ref l])) = H6 at s6 e6 ⊢
        have dl : Dat K [p] H6 (.ref l) (.list (js.map Itm.dat)) := Dat.keep (.same (s35.trans s6)) ((ar.weak (Y := [p]) (fun b hb => by simp only [List.mem_cons, List.not_mem_nil, or_false] at hb ⊢; exact .inl hb)).newL (by simpa using lp) e3)
        have t8 := (tv.keep (.same (s35.trans s6)))
        have l6p : l6 ≠ p := d5.ne hl6
        refine hQ (.ref l6) { D with its := js } H6 (d5.same s6) (DatA.newL (ds := [.int D.st, .int D.cr, .list (D.ks.map PyData.str), Rd.prD D.w, Rd.prD D.p, .int D.ah, .int D.ap, .int D.op] ++ [.list (js.map Itm.dat)]) ?_ (by simpa using l6p) e6) (ok.like ea)
        refine DatA.snoc ⟨rfl, fun i x d a b => ?_⟩ dl
        refine t8.all i x d ?_ ?_
        · rw [show [x0, x1, x2, x3, x4, x5, x6, x7, x8] = [x0, x1, x2, x3, x4, x5, x6, x7] ++ [x8] from rfl, List.getElem?_append_left (List.getElem?_eq_some_iff.mp a).1]; exact a
        · show ([PyData.int D.st, .int D.cr, .list (D.ks.map PyData.str), Rd.prD D.w, Rd.prD D.p, .int D.ah, .int D.ap, .int D.op] ++ [.list (D.its.map Itm.dat)])[i]? = _
          rw [List.getElem?_append_left (List.getElem?_eq_some_iff.mp b).1]; exact b

end
end My
namespace My
open PySem PySem.Spec PyProof.Rows L2 Rd
section
variable {P : Program} {w : World} {K : PySem.W.Frag} {mg : Str → Option Value} {base : Heap}
def spFirst (K : PySem.W.Frag) : Sp := fun vs H Q _ => ∃ (y : Addr) (D : DayD) (k : Int) (sps : List (List (Int × Int))), vs = [.ref y] ∧ OutD K H y D sps ∧ DayOk D k ∧ ∀ (l : Addr) (ts : List Addr) (H' : Hp), H l = none → Same H H' → H' l = some (.lst (ts.map V.ref)) → RowT K H' ts (lows sps) → Q (.ref l) H'

theorem sc_Outlook_first_row : FnScope ["self", "span", "spans"] ["self"] (defScope (inClass (top 35) 7)) := ⟨rfl, rfl, rfl, by decide +kernel, rfl, by decide +kernel, by decide +kernel⟩
theorem g_Outlook_first_row (T : Tx fa fn xa fs P K mg) : MtG P w K mg base CX0 2 (He.ga K "Outlook") "first_row" ["self"] (spFirst K) := by
  obtain ⟨fd, F⟩ := T.says.def_ 32 (d := d_Outlook_first_row) rfl
  have sc := sc_Outlook_first_row
  refine ⟨⟨_, fd, T.meth 114, F.ok sc (fun vs H Q E h => ?len) (fun cdv A outer s H vs Q E hr h => ⟨_, PSs.nox (pss_one (ps_ret (pe_lc (own := [("spans", 2)]) rfl sc.nd (pi_list (pe_mg0 (g_Outlook__limits T) (hr.mono (by decide)) (pv 0) )) (blkOk_by (N := ["self", "span", "spans"]) (sc := defScope (inClass (top 35) 7)) (by decide +kernel)) (fun _ _ _ _ _ => (pg_name (i := 2) sc.nd rfl (by first | exact Or.inl rfl | exact Or.inr rfl))) (fun _ _ _ _ _ => pts_nil) (fun _ _ _ _ _ => (pe_callTy (CallR.toK (r := Rd.rTuple) (K := K) cTuple rfl) (by rfl) (T.free 72) (by decide +kernel) (pa_cons (pe_lc (own := [("span", 1)]) rfl (by exact sc.nd) (pi_listK (K := K) rfl (pv 2)) (blkOk_by (by rfl)) (fun _ _ _ _ _ => (pg_name (i := 1) sc.nd rfl (by first | exact Or.inl rfl | exact Or.inr rfl))) (fun _ _ _ _ _ => pts_nil) (fun _ _ _ _ _ => (pe_fldK K rfl (pv 1) rfl))) pa_nil)))))), ?rd⟩), F.bindsN fun _ _ _ _ _ _ us hl => match us, hl with | [_], _ => rfl⟩, T.cls 100⟩
  case len =>
    obtain ⟨y, D, k, sps, rfl, _⟩ := h
    rfl
  case rd =>
    obtain ⟨y, D, k, sps, rfl, ho, ok, hQ⟩ := h
    show tRet _ ⟨_, _, _, _⟩ [some (.ref y), none, none] H
    try dsimp only [cxOf]
    have hcl_Outlook : Cls K (He.ga K "Outlook") := T.cls 100
    have hn_Outlook_order : NoAttr K (He.ga K "Outlook") "order" := T.noat 101
    have hn_Outlook__spans : NoAttr K (He.ga K "Outlook") "_spans" := T.noat 102
    have hcl_Span : Cls K (He.ga K "Span") := T.cls 57
    have hn_Span_low : NoAttr K (He.ga K "Span") "low" := T.noat 58
    have hn_Span_high : NoAttr K (He.ga K "Span") "high" := T.noat 59
    have l8 := ok.its.len
    obtain ⟨_, _, _, _, ey, _⟩ := id ho.ex
    walk_at "rw"
    refine ⟨y, D, k, sps, rfl, ho, ok, fun L ls H1 hL s1 eL hls => ?_⟩
    have lls := hls.1
    have lsp := ho.len.1
    refine lc_LH (goes_same H1) eL (fun H' s => s _ _ eL) (fun i acc H' => ∃ ts : List Addr, acc = ts.map V.ref ∧ RowT K H' ts ((lows sps).take i)) (fun H' s => ⟨[], rfl, Each.nil⟩) ?_ ?_
    · rintro Dl i x acc H2 hD hx ⟨ts, rfl, rt⟩ s2 eD
      obtain ⟨l0, el0, rfl⟩ := at_map hx
      obtain ⟨sp, esp, as, ea, hsp⟩ := Each.atL (hls.keep s2) el0
      obtain ⟨it, hit, lit⟩ := Each.atL ho.len esp
      have l4 := lim_len D it
      have las := hsp.1
      have li : i < sps.length := (List.getElem?_eq_some_iff.mp esp).1
      have lts := rt.1
      have hsl : (lows sps)[i]? = some (sp.map Prod.fst) := by unfold lows; rw [List.getElem?_map, esp]; rfl
      refine ⟨rfl, w_yes ?_⟩
      walk_at "rw"
      refine lc_L (goes_same H2) ea (fun H' s => s _ _ ea) (fun j acc => acc = ((sp.map Prod.fst).take j).map V.int) rfl ?_ ?_
      · rintro D2 j z acc H3 hD2 hz rfl s3 eD2
        obtain ⟨u, hu, rfl⟩ := at_map hz
        obtain ⟨s, es, hs⟩ := Each.atL hsp hu
        obtain ⟨dxs, eus⟩ := IsSpan.keep hs s3
        refine ⟨rfl, w_yes ?_⟩
        walk_at "rw"
        refine elt_done (goes_same H2) hD2 eD2 (by rw [List.length_map, List.length_take, List.length_map]; omega) s3 ?_
        rw [take_one (show (sp.map Prod.fst)[j]? = some (Prod.fst s) by rw [List.getElem?_map, es]; rfl), List.map_append]
        rfl
      · rintro l acc H3 hl s3 el rfl
        rw [List.length_map, las, show sp.length = (sp.map Prod.fst).length by rw [List.length_map], List.take_length] at el
        walk_at "rw"
        rename_i t H4 ht s4 et
        have e4 := s4 _ _ (s3 _ _ eD)
        refine eltH_done (goes_same H1) hD e4 (by rw [List.length_map, lts, List.length_take]; omega) ((s2.trans s3).trans s4) ⟨ts ++ [t], by rw [List.map_append]; rfl, ?_⟩
        rw [take_one hsl]
        exact Each.snoc ((rt.keep (s3.trans s4)).keeps (X := [Dl]) (.put (by simp) e4)) ((Keeps.put (X := [Dl]) (by simp) e4 : Keeps [Dl] H4 _).sqT (SqT.of et))
    · rintro l acc H2 hl s2 el ⟨ts, rfl, rt⟩
      rw [List.length_map, lls, show sps.length = (lows sps).length by unfold lows; rw [List.length_map], List.take_length] at rt
      walk_at "rw"
      exact hQ l ts H2 (same_none s1 hl) (s1.trans s2) el rt

end
end My
namespace My
open PySem PySem.Spec PyProof.Rows L2 Rd
section
variable {P : Program} {w : World} {K : PySem.W.Frag} {mg : Str → Option Value} {base : Heap}
def highs (sps : List (List (Int × Int))) : List (List Int) := sps.map fun sp => sp.map Prod.snd
def spLast (K : PySem.W.Frag) : Sp := fun vs H Q _ => ∃ (y : Addr) (D : DayD) (k : Int) (sps : List (List (Int × Int))), vs = [.ref y] ∧ OutD K H y D sps ∧ DayOk D k ∧ ∀ (l : Addr) (ts : List Addr) (H' : Hp), H l = none → Same H H' → H' l = some (.lst (ts.map V.ref)) → RowT K H' ts (highs sps) → Q (.ref l) H'

theorem sc_Outlook_last_row : FnScope ["self", "span", "spans"] ["self"] (defScope (inClass (top 35) 8)) := ⟨rfl, rfl, rfl, by decide +kernel, rfl, by decide +kernel, by decide +kernel⟩
theorem g_Outlook_last_row (T : Tx fa fn xa fs P K mg) : MtG P w K mg base CX0 2 (He.ga K "Outlook") "last_row" ["self"] (spLast K) := by
  obtain ⟨fd, F⟩ := T.says.def_ 33 (d := d_Outlook_last_row) rfl
  have sc := sc_Outlook_last_row
  refine ⟨⟨_, fd, T.meth 115, F.ok sc (fun vs H Q E h => ?len) (fun cdv A outer s H vs Q E hr h => ⟨_, PSs.nox (pss_one (ps_ret (pe_lc (own := [("spans", 2)]) rfl sc.nd (pi_list (pe_mg0 (g_Outlook__limits T) (hr.mono (by decide)) (pv 0) )) (blkOk_by (N := ["self", "span", "spans"]) (sc := defScope (inClass (top 35) 8)) (by decide +kernel)) (fun _ _ _ _ _ => (pg_name (i := 2) sc.nd rfl (by first | exact Or.inl rfl | exact Or.inr rfl))) (fun _ _ _ _ _ => pts_nil) (fun _ _ _ _ _ => (pe_callTy (CallR.toK (r := Rd.rTuple) (K := K) cTuple rfl) (by rfl) (T.free 72) (by decide +kernel) (pa_cons (pe_lc (own := [("span", 1)]) rfl (by exact sc.nd) (pi_listK (K := K) rfl (pv 2)) (blkOk_by (by rfl)) (fun _ _ _ _ _ => (pg_name (i := 1) sc.nd rfl (by first | exact Or.inl rfl | exact Or.inr rfl))) (fun _ _ _ _ _ => pts_nil) (fun _ _ _ _ _ => (pe_fldK K rfl (pv 1) rfl))) pa_nil)))))), ?rd⟩), F.bindsN fun _ _ _ _ _ _ us hl => match us, hl with | [_], _ => rfl⟩, T.cls 100⟩
  case len =>
    obtain ⟨y, D, k, sps, rfl, _⟩ := h
    rfl
  case rd =>
    obtain ⟨y, D, k, sps, rfl, ho, ok, hQ⟩ := h
    show tRet _ ⟨_, _, _, _⟩ [some (.ref y), none, none] H
    try dsimp only [cxOf]
    have hcl_Outlook : Cls K (He.ga K "Outlook") := T.cls 100
    have hn_Outlook_order : NoAttr K (He.ga K "Outlook") "order" := T.noat 101
    have hn_Outlook__spans : NoAttr K (He.ga K "Outlook") "_spans" := T.noat 102
    have hcl_Span : Cls K (He.ga K "Span") := T.cls 57
    have hn_Span_low : NoAttr K (He.ga K "Span") "low" := T.noat 58
    have hn_Span_high : NoAttr K (He.ga K "Span") "high" := T.noat 59
    have l8 := ok.its.len
    obtain ⟨_, _, _, _, ey, _⟩ := id ho.ex
    walk_at "rw"
    refine ⟨y, D, k, sps, rfl, ho, ok, fun L ls H1 hL s1 eL hls => ?_⟩
    have lls := hls.1
    have lsp := ho.len.1
    refine lc_LH (goes_same H1) eL (fun H' s => s _ _ eL) (fun i acc H' => ∃ ts : List Addr, acc = ts.map V.ref ∧ RowT K H' ts ((highs sps).take i)) (fun H' s => ⟨[], rfl, Each.nil⟩) ?_ ?_
    · rintro Dl i x acc H2 hD hx ⟨ts, rfl, rt⟩ s2 eD
      obtain ⟨l0, el0, rfl⟩ := at_map hx
      obtain ⟨sp, esp, as, ea, hsp⟩ := Each.atL (hls.keep s2) el0
      obtain ⟨it, hit, lit⟩ := Each.atL ho.len esp
      have l4 := lim_len D it
      have las := hsp.1
      have li : i < sps.length := (List.getElem?_eq_some_iff.mp esp).1
      have lts := rt.1
      have hsl : (highs sps)[i]? = some (sp.map Prod.snd) := by unfold highs; rw [List.getElem?_map, esp]; rfl
      refine ⟨rfl, w_yes ?_⟩
      walk_at "rw"
      refine lc_L (goes_same H2) ea (fun H' s => s _ _ ea) (fun j acc => acc = ((sp.map Prod.snd).take j).map V.int) rfl ?_ ?_
      · rintro D2 j z acc H3 hD2 hz rfl s3 eD2
        obtain ⟨u, hu, rfl⟩ := at_map hz
        obtain ⟨s, es, hs⟩ := Each.atL hsp hu
        obtain ⟨dxs, eus⟩ := IsSpan.keep hs s3
        refine ⟨rfl, w_yes ?_⟩
        walk_at "rw"
        refine elt_done (goes_same H2) hD2 eD2 (by rw [List.length_map, List.length_take, List.length_map]; omega) s3 ?_
        rw [take_one (show (sp.map Prod.snd)[j]? = some (Prod.snd s) by rw [List.getElem?_map, es]; rfl), List.map_append]
        rfl
      · rintro l acc H3 hl s3 el rfl
        rw [List.length_map, las, show sp.length = (sp.map Prod.snd).length by rw [List.length_map], List.take_length] at el
        walk_at "rw"
        rename_i t H4 ht s4 et
        have e4 := s4 _ _ (s3 _ _ eD)
        refine eltH_done (goes_same H1) hD e4 (by rw [List.length_map, lts, List.length_take]; omega) ((s2.trans s3).trans s4) ⟨ts ++ [t], by rw [List.map_append]; rfl, ?_⟩
        rw [take_one hsl]
        exact Each.snoc ((rt.keep (s3.trans s4)).keeps (X := [Dl]) (.put (by simp) e4)) ((Keeps.put (X := [Dl]) (by simp) e4 : Keeps [Dl] H4 _).sqT (SqT.of et))
    · rintro l acc H2 hl s2 el ⟨ts, rfl, rt⟩
      rw [List.length_map, lls, show sps.length = (highs sps).length by unfold highs; rw [List.length_map], List.take_length] at rt
      walk_at "rw"
      exact hQ l ts H2 (same_none s1 hl) (s1.trans s2) el rt

end
end My
namespace My
open PySem PySem.Spec PyProof.Rows L2 Rd
section
variable {P : Program} {w : World} {K : PySem.W.Frag} {mg : Str → Option Value} {base : Heap}
def spIterO (K : PySem.W.Frag) (base : Heap) : Sp := fun vs H Q _ => ∃ (o t h nd dxo : Addr) (op : Int) (zs : List V), vs = [.ref o] ∧ H o = some (.ins (He.ga K "Order") dxo (orderF h op t nd)) ∧ SqT K H t zs ∧ ∀ it, H it = none → base.objs.size ≤ it → Q (.ref it) (upd H it (ItT t it))

theorem sc_Order___iter__ : FnScope ["self"] ["self"] (defScope (inClass (top 51) 3)) := ⟨rfl, rfl, rfl, by decide +kernel, rfl, by decide +kernel, by decide +kernel⟩
theorem g_Order___iter__ (T : Tx fa fn xa fs P K mg) : MtG P w K mg base CX0 1 (He.ga K "Order") "__iter__" ["self"] (spIterO K base) := by
  obtain ⟨fd, F⟩ := T.says.def_ 34 (d := d_Order___iter__) rfl
  have sc := sc_Order___iter__
  refine ⟨⟨_, fd, T.meth 117, F.ok sc (fun vs H Q E h => ?len) (fun cdv A outer s H vs Q E hr h => ⟨_, PSs.nox (pss_one (ps_ret (pe_callB cIterT (by rfl) (T.free 116) (by decide +kernel) (pa_cons (pe_fld (pv 0) rfl) pa_nil)))), ?rd⟩), F.bindsN fun _ _ _ _ _ _ us hl => match us, hl with | [_], _ => rfl⟩, T.cls 90⟩
  case len =>
    obtain ⟨o, t, h, nd, dxo, op, zs, rfl, _⟩ := h
    rfl
  case rd =>
    obtain ⟨o, t, h, nd, dxo, op, zs, rfl, eo, ht, hQ⟩ := h
    show tRet _ ⟨_, _, _, _⟩ [some (.ref o)] H
    try dsimp only [cxOf]
    have hcl_Order : Cls K (He.ga K "Order") := T.cls 90
    have hn_Order_house : NoAttr K (He.ga K "Order") "house" := T.noat 91
    have hn_Order_opens : NoAttr K (He.ga K "Order") "opens" := T.noat 92
    have hn_Order_lineup : NoAttr K (He.ga K "Order") "lineup" := T.noat 93
    have hn_Order__numbers : NoAttr K (He.ga K "Order") "_numbers" := T.noat 94
    walk_at "rw"
    exact ⟨t, zs, rfl, ht, hQ⟩

end
end My
namespace My
open PySem PySem.Spec PyProof.Rows L2 Rd
section
variable {P : Program} {w : World} {K : PySem.W.Frag} {mg : Str → Option Value} {base : Heap}
theorem x_BadWord (T : Tx fa fn xa fs P K mg) : ExcG P w K mg base 1 "BadWord" ["self", "word"] (spX1 (He.ga K "BadWord") "word") := by
  obtain ⟨fd, F⟩ := T.all.sdef 7 (d := s_BadWord) rfl
  exact exc_one T (T.free 22) (T.glo 119) (T.exc 22) F (T.noat 118) rfl rfl rfl
    (cls_scope ⟨rfl, rfl, rfl, by decide +kernel, rfl, by decide +kernel, by decide +kernel⟩ (by decide +kernel) (fun _ => rfl) rfl (by decide +kernel) (fun x h => h))
    (by decide +kernel) rfl ⟨by decide, by decide⟩ ⟨by decide +kernel, by decide +kernel⟩ ⟨by decide +kernel, by decide +kernel⟩ (fun _ _ _ _ => ⟨_, rfl⟩) (fun _ _ _ _ => rfl) (fun _ _ _ _ => rfl)
    (fun _ _ _ _ _ _ _ us hu => match us, hu with | [_, _], _ => rfl)

end
end My
namespace My
open PySem PySem.Spec PyProof.Rows L2 Rd
section
variable {P : Program} {w : World} {K : PySem.W.Frag} {mg : Str → Option Value} {base : Heap}
theorem x_Unknown (T : Tx fa fn xa fs P K mg) : ExcG P w K mg base 1 "Unknown" ["self", "name"] (spX1 (He.ga K "Unknown") "name") := by
  obtain ⟨fd, F⟩ := T.all.sdef 8 (d := s_Unknown) rfl
  exact exc_one T (T.free 22) (T.glo 121) (T.exc 23) F (T.noat 120) rfl rfl rfl
    (cls_scope ⟨rfl, rfl, rfl, by decide +kernel, rfl, by decide +kernel, by decide +kernel⟩ (by decide +kernel) (fun _ => rfl) rfl (by decide +kernel) (fun x h => h))
    (by decide +kernel) rfl ⟨by decide, by decide⟩ ⟨by decide +kernel, by decide +kernel⟩ ⟨by decide +kernel, by decide +kernel⟩ (fun _ _ _ _ => ⟨_, rfl⟩) (fun _ _ _ _ => rfl) (fun _ _ _ _ => rfl)
    (fun _ _ _ _ _ _ _ us hu => match us, hu with | [_, _], _ => rfl)

end
end My
namespace My
open PySem PySem.Spec PyProof.Rows L2 Rd
section
variable {P : Program} {w : World} {K : PySem.W.Frag} {mg : Str → Option Value} {base : Heap}
theorem x_Outside (T : Tx fa fn xa fs P K mg) : ExcG P w K mg base 1 "Outside" ["self", "word"] (spX1 (He.ga K "Outside") "word") := by
  obtain ⟨fd, F⟩ := T.all.sdef 9 (d := s_Outside) rfl
  exact exc_one T (T.free 22) (T.glo 123) (T.exc 24) F (T.noat 122) rfl rfl rfl
    (cls_scope ⟨rfl, rfl, rfl, by decide +kernel, rfl, by decide +kernel, by decide +kernel⟩ (by decide +kernel) (fun _ => rfl) rfl (by decide +kernel) (fun x h => h))
    (by decide +kernel) rfl ⟨by decide, by decide⟩ ⟨by decide +kernel, by decide +kernel⟩ ⟨by decide +kernel, by decide +kernel⟩ (fun _ _ _ _ => ⟨_, rfl⟩) (fun _ _ _ _ => rfl) (fun _ _ _ _ => rfl)
    (fun _ _ _ _ _ _ _ us hu => match us, hu with | [_, _], _ => rfl)

end
end My
namespace My
open PySem PySem.Spec PyProof.Rows L2 Rd
section
variable {P : Program} {w : World} {K : PySem.W.Frag} {mg : Str → Option Value} {base : Heap}
open NameM
def spSpanOf (K : PySem.W.Frag) : Sp := fun vs H Q E => ∃ (y : Addr) (D : DayD) (sps : List (List (Int × Int))) (z w : Str), vs = [.ref y, .str z, .str w] ∧ OutD K H y D sps ∧ (D.its.map Itm.nm).Nodup ∧ (lookE D sps z w = none → ∀ a, IsSpan K H a (lookS D sps z w).1 (lookS D sps z w).2 → Q (.ref a) H) ∧ (lookE D sps z w = some (("name" : Str), z) → ∀ d, H d = none → E (.ref (He.ga K "Unknown")) (some d) (upd H d (.xd [("name", .str z)]))) ∧ (lookE D sps z w = some (("word" : Str), w) → ∀ d, H d = none → E (.ref (He.ga K "BadWord")) (some d) (upd H d (.xd [("word", .str w)])))

theorem sc_Outlook_span_of : FnScope ["self", "name", "word"] ["self", "name", "word"] (defScope (inClass (top 35) 2)) := ⟨rfl, rfl, rfl, by decide +kernel, rfl, by decide +kernel, by decide +kernel⟩
theorem g_Outlook_span_of (T : Tx fa fn xa fs P K mg) : MtG P w K mg base (CX P w) 3 (He.ga K "Outlook") "span_of" ["self", "name", "word"] (spSpanOf K) := by
  obtain ⟨fd, F⟩ := T.says.def_ 35 (d := d_Outlook_span_of) rfl
  have sc := sc_Outlook_span_of
  refine ⟨⟨_, fd, T.meth 124, F.ok sc (fun vs H Q E h => ?len) (fun cdv A outer s H vs Q E hr h => ⟨_, (pss_cons (ps_if (pt_cmpR (oNotInDk hr) (pv 1) (pe_fld (pv 0) rfl) (by with_unfolding_all rfl)) (pss_one (ps_raise rfl (takes_of rfl rfl rfl rfl) (pmk_g (x_Unknown T) (hr.mono (by decide)) rfl (pa_cons (pv 1) pa_nil)))) pss_nil)
    (pss_cons (ps_if (pt_cmpR (oNotInDk hr) (pv 2) (pe_dix hr (pe_fld (pv 0) rfl) (pv 1) (fun _ _ => rfl)) (by with_unfolding_all rfl)) (pss_one (ps_raise rfl (takes_of rfl rfl rfl rfl) (pmk_g (x_BadWord T) (hr.mono (by decide)) rfl (pa_cons (pv 2) pa_nil)))) pss_nil)
    (pss_one (ps_ret (pe_dix hr (pe_dix hr (pe_fld (pv 0) rfl) (pv 1) (fun _ _ => rfl)) (pv 2) (fun _ _ => rfl)))))), ?rd⟩), F.bindsN fun _ _ _ _ _ _ us hl => match us, hl with | [_, _, _], _ => rfl⟩, T.cls 100⟩
  case len =>
    obtain ⟨y, D, sps, z, w, rfl, _⟩ := h
    rfl
  case rd =>
    obtain ⟨y, D, sps, z, w, rfl, ho, nd, hQ, hN, hW⟩ := h
    show tSeq _ _ ⟨_, _, _, _⟩ [some (.ref y), some (.str z), some (.str w)] H
    try dsimp only [cxOf]
    have hcl_Outlook : Cls K (He.ga K "Outlook") := T.cls 100
    have hn_Outlook_order : NoAttr K (He.ga K "Outlook") "order" := T.noat 101
    have hn_Outlook__spans : NoAttr K (He.ga K "Outlook") "_spans" := T.noat 102
    obtain ⟨o, dx, sd, ds, ey, hod, esd, hl⟩ := ho.ex
    rcases look_cases (D := D) (z := z) (w := w) ho.len with ⟨hz, e⟩ | ⟨i, it, sp, hit, rfl, hsp, hi, hw, e⟩ | ⟨i, j, it, sp, s, hit, rfl, hsp, hi, hw, hs, e, eS, _⟩
    · walk_at "rw"
      refine w_notInDk esd ?_
      rw [refK_none hz]
      dsimp only [Option.isSome, Bool.not_false]
      walk_at "rw"
      refine use_raise1 fun d hd => ?_
      exact hN e d hd
    · obtain ⟨d, hd, sas, ed, q, l4⟩ := hl.at_ hsp
      have hnm : (D.its.map Itm.nm)[i]? = some it.nm := by rw [List.getElem?_map, hit]; rfl
      have ev := refK_at nd hnm hd
      walk_at "rw"
      refine w_notInDk esd ?_
      rw [ev]
      dsimp only [Option.isSome, Bool.not_true]
      walk_at "rw"
      refine w_kdx2 esd ev ?_
      walk_at "rw"
      refine w_notInDk ed ?_
      rw [refK_no (by rw [q.1]; exact hw)]
      dsimp only [Option.isSome, Bool.not_false]
      walk_at "rw"
      refine use_raise1 fun d hd => ?_
      exact hW e d hd
    · obtain ⟨d, hd, sas, ed, q, l4⟩ := hl.at_ hsp
      obtain ⟨a, ha, hspan⟩ := q.at_ hs
      have hnm : (D.its.map Itm.nm)[i]? = some it.nm := by rw [List.getElem?_map, hit]; rfl
      have ev := refK_at nd hnm hd
      have ew := refK_at (by decide) hw ha
      rw [eS] at hQ
      walk_at "rw"
      refine w_notInDk esd ?_
      rw [ev]
      dsimp only [Option.isSome, Bool.not_true]
      walk_at "rw"
      refine w_kdx2 esd ev ?_
      walk_at "rw"
      refine w_notInDk ed ?_
      rw [ew]
      dsimp only [Option.isSome, Bool.not_true]
      walk_at "rw"
      refine w_kdx2 esd ev ?_
      walk_at "rw"
      refine w_kdx2 ed ew ?_
      exact hQ e a hspan

end
end My
namespace My
open PySem PySem.Spec PyProof.Rows L2 Rd
section
variable {P : Program} {w : World} {K : PySem.W.Frag} {mg : Str → Option Value} {base : Heap}
open NameM
def spNarrow (K : PySem.W.Frag) : Sp := fun vs H Q E => ∃ (y : Addr) (D : DayD) (k : Int) (sps : List (List (Int × Int))) (z w : Str) (lo hi : Int), vs = [.ref y, .str z, .str w, .int lo, .int hi] ∧ OutD K H y D sps ∧ DayOk D k ∧ (narE D sps z w lo hi = none → ∀ (y' : Addr) (H' : Hp), H y' = none → Same H H' → OutD K H' y' D (narS D sps z w (lo, hi)) → Q (.ref y') H') ∧ (narE D sps z w lo hi = some (("name" : Str), z) → ∀ d, H d = none → E (.ref (He.ga K "Unknown")) (some d) (upd H d (.xd [("name", .str z)]))) ∧ (narE D sps z w lo hi = some (("word" : Str), w) → ∀ d, H d = none → E (.ref (He.ga K "BadWord")) (some d) (upd H d (.xd [("word", .str w)]))) ∧ (narE D sps z w lo hi = some (("outside" : Str), w) → ∀ d, H d = none → E (.ref (He.ga K "Outside")) (some d) (upd H d (.xd [("word", .str w)])))

theorem sc_Outlook_narrowed : FnScope ["self", "name", "word", "low", "high", "span"] ["self", "name", "word", "low", "high"] (defScope (inClass (top 35) 3)) := ⟨rfl, rfl, rfl, by decide +kernel, rfl, by decide +kernel, by decide +kernel⟩
theorem g_Outlook_narrowed (T : Tx fa fn xa fs P K mg) : MtG P w K mg base (CX P w) 10 (He.ga K "Outlook") "narrowed" ["self", "name", "word", "low", "high"] (spNarrow K) := by
  obtain ⟨fd, F⟩ := T.says.def_ 36 (d := d_Outlook_narrowed) rfl
  have sc := sc_Outlook_narrowed
  refine ⟨⟨_, fd, T.meth 125, F.ok sc (fun vs H Q E h => ?len) (fun cdv A outer s H vs Q E hr h => ⟨_, (pss_cons (ps_set (i := 5) sc.nd rfl (by first | exact Or.inl rfl | exact Or.inr rfl) (pe_mgE (g_Outlook_span_of T) (hr.mono (by decide)) (passes_call (takes_of rfl rfl rfl rfl) (fun _ _ _ _ z => z)) (pv 0) (pa_cons (pv 1) (pa_cons (pv 2) pa_nil))))
    (pss_cons (ps_if (PW.pt (pw_or (pt_cmpR oGt (pv 3) (pv 4) (nomark _)) (pw_or (pt_cmpR (oNotInG (g_Span___contains__ T) (hr.mono (by decide))) (pv 3) (pv 5) (by with_unfolding_all rfl)) (pw_or1 (pt_cmpR (oNotInG (g_Span___contains__ T) (hr.mono (by decide))) (pv 4) (pv 5) (by with_unfolding_all rfl)))))) (pss_one (ps_raise rfl (takes_of rfl rfl rfl rfl) (pmk_g (x_Outside T) (hr.mono (by decide)) rfl (pa_cons (pv 2) pa_nil)))) pss_nil)
    (pss_one (ps_ret (pe_mgE (g_Outlook__replaced T) (hr.mono (by decide)) (passes_call (takes_of rfl rfl rfl rfl) (fun _ _ _ _ z => z)) (pv 0) (pa_cons (pv 1) (pa_cons (pv 2) (pa_cons (pe_mkE (mk_Span T) (hr.mono (by decide)) rfl (passes_call (takes_of rfl rfl rfl rfl) (fun _ _ _ _ z => z)) (pa_cons (pv 3) (pa_cons (pv 4) pa_nil))) pa_nil)))))))), ?rd⟩), F.bindsN fun _ _ _ _ _ _ us hl => match us, hl with | [_, _, _, _, _], _ => rfl⟩, T.cls 100⟩
  case len =>
    obtain ⟨y, D, k, sps, z, w, lo, hi, rfl, _⟩ := h
    rfl
  case rd =>
    obtain ⟨y, D, k, sps, z, w, lo, hi, rfl, ho, ok, hQ, hN, hW, hO⟩ := h
    show tSeq _ _ ⟨_, _, _, _⟩ [some (.ref y), some (.str z), some (.str w), some (.int lo), some (.int hi), none] H
    try dsimp only [cxOf]
    have hcl_Outlook : Cls K (He.ga K "Outlook") := T.cls 100
    have hn_Outlook_order : NoAttr K (He.ga K "Outlook") "order" := T.noat 101
    have hn_Outlook__spans : NoAttr K (He.ga K "Outlook") "_spans" := T.noat 102
    have hcl_Span : Cls K (He.ga K "Span") := T.cls 57
    have hn_Span_low : NoAttr K (He.ga K "Span") "low" := T.noat 58
    have hn_Span_high : NoAttr K (He.ga K "Span") "high" := T.noat 59
    obtain ⟨o, dx, sd, ds, ey, hod, esd, hl⟩ := id ho.ex
    walk_at "rw"
    refine ⟨y, D, sps, z, w, rfl, ho, ok.its.nd, fun e a hspan => ?_, fun e d hd => hN (nar_of e) d hd, fun e d hd => hW (nar_of e) d hd⟩
    rcases look_cases (D := D) (z := z) (w := w) ho.len with ⟨hz, e2⟩ | ⟨i, it, sp, hit, rfl, hsp, hi_, hw, e2⟩ | ⟨i, j, it, sp, s, hit, rfl, hsp, hi_, hw, hs, _, eS, eN⟩
    · rw [e] at e2; cases e2
    · rw [e] at e2; cases e2
    rw [eS] at hspan
    obtain ⟨dxs, eas⟩ := id hspan
    walk_at "rw"
    · rename_i c
      refine use_raise1 fun d hd => ?_
      exact hO (nar_far e eS (.inl c)) d hd
    · rename_i c
      refine w_notInG eas ⟨a, s.1, s.2, lo, rfl, hspan, inB lo (s.1, s.2), rfl, ?_⟩
      cases b1 : inB lo (s.1, s.2) with
      | false =>
        have f1 := inB_f.mp b1
        walk_at "rw"
        refine use_raise1 fun d hd => ?_
        exact hO (nar_far e eS (by dsimp only at f1; omega)) d hd
      | true =>
        have f1 := inB_t.mp b1
        walk_at "rw"
        refine w_notInG eas ⟨a, s.1, s.2, hi, rfl, hspan, inB hi (s.1, s.2), rfl, ?_⟩
        cases b2 : inB hi (s.1, s.2) with
        | false =>
          have f2 := inB_f.mp b2
          walk_at "rw"
          refine use_raise1 fun d hd => ?_
          exact hO (nar_far e eS (by dsimp only at f1 f2; omega)) d hd
        | true =>
          have f2 := inB_t.mp b2
          dsimp only at f1 f2
          have en := nar_in (lo := lo) (hi := hi) e eS (by omega)
          have hQ2 := hQ en
          rw [eN] at hQ2
          walk_at "rw"
          refine use_span (Makes.ok (bad_f (by omega)) fun x1 dx1 H2 hx1 s2 e1 => ?_)
          walk_at "rw"
          refine ⟨y, D, k, sps, i, j, it, sp, w, x1, (lo, hi), s, rfl, ho.keep s2, ok, hit, hsp, hw, hs, ⟨dx1, e1⟩, fun y' H3 hy s3 h3 => ?_⟩
          exact hQ2 y' H3 (same_none s2 hy) (s2.trans s3) h3

end
end My
namespace My
open PySem PySem.Spec PyProof.Rows L2 Rd
section
variable {P : Program} {w : World} {K : PySem.W.Frag} {mg : Str → Option Value} {base : Heap}
open NameM
def zz : Nat → Str
  | 0 => "z"
  | n + 1 => zz n ++ "z"
theorem zz_len : ∀ n, (zz n).length = n + 1
  | 0 => rfl
  | n + 1 => by
    show (zz n ++ "z").length = _
    rw [cat_len, zz_len n]; rfl
theorem zz_inj {i j : Nat} (h : zz i = zz j) : i = j := by
  have := congrArg Str.length h
  rw [zz_len, zz_len] at this
  omega
theorem zz_many {ss : List Str} {c : Nat} (h : ∀ j, j < c → zz j ∈ ss) : c ≤ ss.length := by
  have q := nodup_len (l := (List.range c).map zz) (m := ss) (List.pairwise_map.mpr (List.nodup_range.imp fun ne e => ne (zz_inj e))) fun x hx => by
    obtain ⟨j, hj, rfl⟩ := List.mem_map.mp hx
    exact h j (List.mem_range.mp hj)
  rw [List.length_map, List.length_range] at q
  exact q
def spStrange (K : PySem.W.Frag) : Sp := fun vs H Q _ => ∃ (l : Addr) (ss : List Str), vs = [.ref l] ∧ H l = some (.lst (ss.map V.str)) ∧ ss.length ≤ 11 ∧ ∀ t : Str, t ∉ ss → t.length ≤ 12 → Q (.str t) H

theorem sc__law_strange : FnScope ["_law_names_here", "_law_text", "_law_k"] ["_law_names_here"] (defScope (top 58)) := ⟨rfl, rfl, rfl, by decide +kernel, rfl, by decide +kernel, by decide +kernel⟩
theorem g__law_strange (T : Tx fa fn xa fs P K mg) : FnG P w K mg base CX0 1 "_law_strange" ["_law_names_here"] (spStrange K) := by
  obtain ⟨fd, F⟩ := T.says.def_ 37 (d := d__law_strange) rfl
  have sc := sc__law_strange
  refine ⟨_, fd, T.glo 126, F.kp, F.ok sc (fun vs H Q E h => ?len) (fun cdv A outer s H vs Q E hr h => ⟨_, PSs.nox (pss_cons (ps_set (i := 1) sc.nd rfl (by first | exact Or.inl rfl | exact Or.inr rfl) pe_str)
    (pss_cons (ps_for PassesOwn.never rfl (pi_range1 (by rfl) (T.free 8) (pa_cons pe_int pa_nil)) (pg_name (i := 2) sc.nd rfl (by first | exact Or.inl rfl | exact Or.inr rfl)) (pss_one (ps_if (pt_cmpR op_in_seq (pv 1) (pv 0) (by with_unfolding_all rfl)) (pss_one (ps_set (i := 1) sc.nd rfl (by first | exact Or.inl rfl | exact Or.inr rfl) (pe_op oAdd (pv 1) pe_str))) pss_nil)))
    (pss_one (ps_ret (pv 1))))), ?rd⟩), F.bindsN fun _ _ _ _ _ _ us hl => match us, hl with | [_], _ => rfl⟩
  case len =>
    obtain ⟨l, ss, rfl, _⟩ := h
    rfl
  case rd =>
    obtain ⟨l, ss, rfl, hl, l11, hQ⟩ := h
    show tSeq _ _ ⟨_, _, _, _⟩ [some (.ref l), none, none] H
    try dsimp only [cxOf]
    walk_at "rw"
    refine ⟨11, rfl, by decide, by decide, for_range (n := 11) (fun i σ H' => H' = H ∧ ∃ (c : Nat) (v2 : Option V), c ≤ i ∧ (∀ j, j < c → zz j ∈ ss) ∧ (c < i → zz c ∉ ss) ∧ σ = [some (.ref l), some (.str (zz c)), v2]) ⟨rfl, 0, _, Nat.le_refl _, fun j h => absurd h (Nat.not_lt_zero _), fun h => absurd h (Nat.not_lt_zero _), rfl⟩ ?_ ?_⟩
    · rintro i σ H' hi ⟨rfl, c, v2, hc, hall, hno, rfl⟩
      have zl := zz_len c
      walk_at "rw"
      refine in_S (.inl (SqL.of hl)) ?_
      walk_at "rw"
      · rename_i m
        have ci : c = i := by
          rcases Nat.lt_or_ge c i with q | q
          · exact absurd m (hno q)
          · omega
        refine w_addS (by rw [sizeLine_eq]; show (zz c).length + 1 ≤ _; omega) ?_
        walk_at "rw"
        refine ⟨rfl, c + 1, _, by omega, fun j hj => ?_, fun q => absurd q (by omega), rfl⟩
        rcases Nat.lt_succ_iff_lt_or_eq.mp hj with q | rfl
        · exact hall j q
        · exact m
      · rename_i m
        exact ⟨rfl, c, _, by omega, hall, fun _ => m, rfl⟩
    · rintro σ H' ⟨rfl, c, v2, hc, hall, hno, rfl⟩
      walk_at "rw"
      have len := zz_many hall
      refine hQ _ (fun m => ?_) (by rw [zz_len]; omega)
      rcases Nat.lt_or_ge c 11 with q | q
      · exact hno q m
      · have := zz_many (c := c + 1) (ss := ss) fun j hj => by
          rcases Nat.lt_succ_iff_lt_or_eq.mp hj with q | rfl
          · exact hall j q
          · exact m
        omega

end
end My
namespace My
open PySem PySem.Spec PyProof.Rows L2 Rd
section
variable {P : Program} {w : World} {K : PySem.W.Frag} {mg : Str → Option Value} {base : Heap}
open NameM
def spPick (K : PySem.W.Frag) : Sp := fun vs H Q _ => ∃ (p l : Addr) (ss : List Str), vs = [.ref p, .ref l] ∧ PoolAt H p ∧ l ≠ p ∧ H l = some (.lst (ss.map V.str)) ∧ ss.length ≤ 11 ∧ (∀ z ∈ ss, z.length ≤ 12) ∧ ∀ (z : Str) (H' : Hp), Drawn p H H' → Q (.str z) H'

theorem sc__law_pick : FnScope ["_law_pool_here", "_law_names_here", "_law_at", "_law_free", "_law_way", "_law_text"] ["_law_pool_here", "_law_names_here"] (defScope (top 70)) := ⟨rfl, rfl, rfl, by decide +kernel, rfl, by decide +kernel, by decide +kernel⟩
theorem g__law_pick (T : Tx fa fn xa fs P K mg) : FnG P w K mg base CX0 4 "_law_pick" ["_law_pool_here", "_law_names_here"] (spPick K) := by
  obtain ⟨fd, F⟩ := T.says.def_ 38 (d := d__law_pick) rfl
  have sc := sc__law_pick
  refine ⟨_, fd, T.glo 127, F.kp, F.ok sc (fun vs H Q E h => ?len) (fun cdv A outer s H vs Q E hr h => ⟨_, PSs.nox (pss_cons (ps_set (i := 2) sc.nd rfl (by first | exact Or.inl rfl | exact Or.inr rfl) (pe_cg (g__law_take T) (hr.mono (by decide)) rfl (pa_cons (pv 0) (pa_cons (pe_op oAdd (pe_callB cLen (by rfl) (T.free 6) (by decide +kernel) (pa_cons (pv 1) pa_nil)) pe_int) pa_nil))))
    (pss_cons (ps_if (pt_cmpR oLt (pv 2) (pe_callB cLen (by rfl) (T.free 6) (by decide +kernel) (pa_cons (pv 1) pa_nil)) (nomark _)) (pss_one (ps_ret (pe_ix ix_seq (pv 1) (pv 2) (fun _ _ => rfl)))) pss_nil)
    (pss_cons (ps_set (i := 3) sc.nd rfl (by first | exact Or.inl rfl | exact Or.inr rfl) (pe_cg (g__law_strange T) (hr.mono (by decide)) rfl (pa_cons (pv 1) pa_nil)))
    (pss_cons (ps_set (i := 4) sc.nd rfl (by first | exact Or.inl rfl | exact Or.inr rfl) (pe_cg (g__law_take T) (hr.mono (by decide)) rfl (pa_cons (pv 0) (pa_cons pe_int pa_nil))))
    (pss_cons (ps_if (PW.pt (pw_or (pt_cmpR op_eq (pv 4) pe_int (nomark _)) (pw_or1 (pt_cmpR op_eq (pe_callB cLen (by rfl) (T.free 6) (by decide +kernel) (pa_cons (pv 1) pa_nil)) pe_int (nomark _))))) (pss_one (ps_ret (pv 3))) pss_nil)
    (pss_cons (ps_set (i := 5) sc.nd rfl (by first | exact Or.inl rfl | exact Or.inr rfl) (pe_ix ix_seq (pv 1) (pe_cg (g__law_take T) (hr.mono (by decide)) rfl (pa_cons (pv 0) (pa_cons (pe_callB cLen (by rfl) (T.free 6) (by decide +kernel) (pa_cons (pv 1) pa_nil)) pa_nil))) (fun _ _ => rfl)))
    (pss_cons (ps_if (pt_cmpR op_eq (pv 4) pe_int (nomark _)) (pss_one (ps_set (i := 5) sc.nd rfl (by first | exact Or.inl rfl | exact Or.inr rfl) (pe_op oAdd (pv 5) pe_str))) (pss_one (ps_if (pt_cmpR op_eq (pv 4) pe_int (nomark _)) (pss_one (ps_set (i := 5) sc.nd rfl (by first | exact Or.inl rfl | exact Or.inr rfl) (pe_slice C8.sl_txt (pv 5) (po_some pe_int) po_none))) (pss_one (ps_set (i := 5) sc.nd rfl (by first | exact Or.inl rfl | exact Or.inr rfl) (pe_m0 PySem.F.slot_str_upper PySem.F.type_str_upper mUpper (pv 5)))))))
    (pss_cons (ps_if (pt_cmpR op_in_seq (pv 5) (pv 1) (by with_unfolding_all rfl)) (pss_one (ps_ret (pv 3))) pss_nil)
    (pss_one (ps_ret (pv 5))))))))))), ?rd⟩), F.bindsN fun _ _ _ _ _ _ us hl => match us, hl with | [_, _], _ => rfl⟩
  case len =>
    obtain ⟨p, l, ss, rfl, _⟩ := h
    rfl
  case rd =>
    obtain ⟨p, l, ss, rfl, hp, lp, hl, l11, hz, hQ⟩ := h
    show tSeq _ _ ⟨_, _, _, _⟩ [some (.ref p), some (.ref l), none, none, none, none] H
    try dsimp only [cxOf]
    have lm : (ss.map V.str).length = ss.length := List.length_map ..
    walk_at "rw"
    · rename_i d H2 h0 h1 hd hc
      refine w_ixZ (hd.lst lp hl) h0 (by omega) fun z m => ?_
      walk_at "rw"
      exact hQ z H2 hd
    · rename_i d H2 h0 h1 hd hc
      have hl2 := hd.lst lp hl
      refine ⟨l, ss, rfl, hl2, l11, fun tf ntf ltf => ?_⟩
      walk_at "rw"
      · rename_i d3 H3 g0 g1 hd3 hc3
        exact hQ tf H3 (hd.trans hd3)
      · rename_i d3 H3 g0 g1 hd3 hc3 hc4
        exact hQ tf H3 (hd.trans hd3)
      · rename_i d3 H3 g0 g1 hd3 hc3 hc4 d4 H4 f0 f1 hd4
        have dd := (hd.trans hd3).trans hd4
        have hl4 := dd.lst lp hl
        refine w_ixZ hl4 f0 (by omega) fun z m => ?_
        have z12 := hz z m
        have fin : ∀ (x : Str) (Q' : VK), (x ∈ ss → Q' (.bl true) H4) → (x ∉ ss → Q' (.bl false) H4) → rIn K false (.str x) (.ref l) H4 Q' := fun x Q' a b => in_S (.inl (SqL.of hl4)) (by
          by_cases c : x ∈ ss
          · rw [decide_eq_true c]; exact a c
          · rw [decide_eq_false c]; exact b c)
        walk_at "rw"
        · refine w_addS (by rw [sizeLine_eq]; show z.length + 1 ≤ _; omega) ?_
          walk_at "rw"
          refine fin _ _ (fun _ => ?_) fun _ => ?_
          · walk_at "rw"
            exact hQ tf H4 dd
          · walk_at "rw"
            exact hQ _ H4 dd
        · refine w_slS (by rw [sizeLine_eq]; omega) ?_
          walk_at "rw"
          refine fin _ _ (fun _ => ?_) fun _ => ?_
          · walk_at "rw"
            exact hQ tf H4 dd
          · walk_at "rw"
            exact hQ _ H4 dd
        · refine n_upper z12 (by rfl) fun z2 _ => ?_
          walk_at "rw"
          refine fin _ _ (fun _ => ?_) fun _ => ?_
          · walk_at "rw"
            exact hQ tf H4 dd
          · walk_at "rw"
            exact hQ _ H4 dd

end
end My
namespace My
open PySem PySem.Spec PyProof.Rows L2 Rd
section
variable {P : Program} {w : World} {K : PySem.W.Frag} {mg : Str → Option Value} {base : Heap}
def spFind (K : PySem.W.Frag) : Sp := fun vs H Q _ => ∃ (v : V) (D : DayD) (X : List Addr) (z : Str), vs = [v, .str z] ∧ Dat K X H v D.dat ∧ D.its.length ≤ 20 ∧ (∀ (i : Nat) it, D.its[i]? = some it → it.nm = z → Q (.int (i : Int)) H) ∧ (z ∉ D.its.map Itm.nm → Q (.int (-1)) H)

theorem sc__law_find : FnScope ["_law_day_here", "_law_text", "_law_k"] ["_law_day_here", "_law_text"] (defScope (top 71)) := ⟨rfl, rfl, rfl, by decide +kernel, rfl, by decide +kernel, by decide +kernel⟩
theorem g__law_find (T : Tx fa fn xa fs P K mg) : FnG P w K mg base CX0 1 "_law_find" ["_law_day_here", "_law_text"] (spFind K) := by
  obtain ⟨fd, F⟩ := T.says.def_ 39 (d := d__law_find) rfl
  have sc := sc__law_find
  refine ⟨_, fd, T.glo 128, F.kp, F.ok sc (fun vs H Q E h => ?len) (fun cdv A outer s H vs Q E hr h => ⟨_, PSs.nox (pss_cons (ps_for PassesOwn.never rfl (pi_range1 (by rfl) (T.free 8) (pa_cons (pe_callB cLen (by rfl) (T.free 6) (by decide +kernel) (pa_cons (pe_ix ix_seq (pv 0) pe_int (fun _ _ => rfl)) pa_nil)) pa_nil)) (pg_name (i := 2) sc.nd rfl (by first | exact Or.inl rfl | exact Or.inr rfl)) (pss_one (ps_if (pt_cmpR op_eq (pe_ix ix_seq (pe_ix ix_seq (pe_ix ix_seq (pv 0) pe_int (fun _ _ => rfl)) (pv 2) (fun _ _ => rfl)) pe_int (fun _ _ => rfl)) (pv 1) (nomark _)) (pss_one (ps_ret (pv 2))) pss_nil)))
    (pss_one (ps_ret (pe_un oNeg pe_int)))), ?rd⟩), F.bindsN fun _ _ _ _ _ _ us hl => match us, hl with | [_, _], _ => rfl⟩
  case len =>
    obtain ⟨v, D, X, z, rfl, _⟩ := h
    rfl
  case rd =>
    obtain ⟨v, D, X, z, rfl, hv, l20, hQ, hN⟩ := h
    show tSeq _ _ ⟨_, _, _, _⟩ [some (v), some (.str z), none] H
    try dsimp only [cxOf]
    walk_at "rw"
    refine day_8 hv fun u8 hu8 => ?_
    walk_at "rw"
    refine len_D (.inl hu8) ?_
    rw [List.length_map]
    walk_at "rw"
    refine ⟨_, rfl, by omega, by omega, for_range (n := D.its.length) (fun i σ H' => H' = H ∧ (∀ (j : Nat) it, j < i → D.its[j]? = some it → it.nm ≠ z) ∧ ∃ v2, σ = [some v, some (.str z), v2]) ⟨rfl, fun j it q => absurd q (Nat.not_lt_zero _), _, rfl⟩ ?_ ?_⟩
    · rintro i σ H' hi ⟨rfl, hno, v2, rfl⟩
      obtain ⟨it, hit⟩ : ∃ it, D.its[i]? = some it := ⟨_, List.getElem?_eq_getElem hi⟩
      walk_at "rw"
      refine day_8 hv fun u hu => ?_
      walk_at "rw"
      refine day_its hv hu hit (by omega) fun w hw => ?_
      walk_at "rw"
      refine itm_1 hw ?_
      walk_at "rw"
      · rename_i e
        have q := hQ i it hit e
        rw [Int.zero_add]
        exact q
      · rename_i e
        refine ⟨rfl, fun j it2 hj h2 => ?_, _, rfl⟩
        rcases Nat.lt_succ_iff_lt_or_eq.mp hj with q | rfl
        · exact hno j it2 q h2
        · rw [hit] at h2; cases h2; exact e
    · rintro σ H' ⟨rfl, hno, v2, rfl⟩
      walk_at "rw"
      refine hN fun m => ?_
      obtain ⟨it, mi, e⟩ := List.mem_map.mp m
      obtain ⟨j, hj⟩ := List.getElem?_of_mem mi
      exact hno j it (List.getElem?_eq_some_iff.mp hj).1 hj e

end
end My
namespace My
open PySem PySem.Spec PyProof.Rows L2 Rd
section
variable {P : Program} {w : World} {K : PySem.W.Frag} {mg : Str → Option Value} {base : Heap}
def spWords (K : PySem.W.Frag) : Sp := fun vs H Q _ => vs = [] ∧ ∀ (l : Addr) (H' : Hp), H l = none → Same H H' → H' l = some (.lst (lagW.map V.str)) → Q (.ref l) H'

theorem sc__law_words : FnScope [] [] (defScope (top 72)) := ⟨rfl, rfl, rfl, by decide +kernel, rfl, by decide +kernel, by decide +kernel⟩
theorem g__law_words (T : Tx fa fn xa fs P K mg) : FnG P w K mg base CX0 1 "_law_words" [] (spWords K) := by
  obtain ⟨fd, F⟩ := T.says.def_ 40 (d := d__law_words) rfl
  have sc := sc__law_words
  refine ⟨_, fd, T.glo 129, F.kp, F.ok sc (fun vs H Q E h => ?len) (fun cdv A outer s H vs Q E hr h => ⟨_, PSs.nox (pss_one (ps_ret (pe_lst (pa_cons pe_str (pa_cons pe_str (pa_cons pe_str (pa_cons pe_str pa_nil))))))), ?rd⟩), F.bindsN fun _ _ _ _ _ _ us hl => match us, hl with | [], _ => rfl⟩
  case len => obtain ⟨rfl, _⟩ := h; rfl
  case rd =>
    obtain ⟨rfl, hQ⟩ := h
    show tRet _ ⟨_, _, _, _⟩ [] _
    try dsimp only [cxOf]
    walk_at "rw"
    rename_i l H1 hl s1 el
    exact hQ l H1 hl s1 el

end
end My
namespace My
open PySem PySem.Spec PyProof.Rows L2 Rd
section
variable {P : Program} {w : World} {K : PySem.W.Frag} {mg : Str → Option Value} {base : Heap}
open NameM
def spDraw20 (K : PySem.W.Frag) : Sp := fun vs H Q _ => ∃ (p : Addr) (v u : V) (D : DayD) (k : Int) (sps : List (List (Int × Int))) (X : List Addr), vs = [.ref p, v, u] ∧ PoolAt H p ∧ p ∈ X ∧ Dat K X H v D.dat ∧ Dat K X H u (spansD sps) ∧ SubD D sps ∧ DayOk D k ∧ ∀ (t : Addr) (z w : Str) (lo hi : Int) (H' : Hp), Drawn p H H' → H' t = some (.tup [.str z, .str w, .int lo, .int hi]) → Q (.ref t) H'

theorem sc__law_draw : FnScope ["_law_pool_here", "_law_day_here", "_law_spans_here", "_law_text", "_law_item_here", "_law_lags", "_law_which", "_law_lag", "_law_word", "_law_edge", "_law_low", "_law_size_here", "_law_one", "_law_two", "_law_way"] ["_law_pool_here", "_law_day_here", "_law_spans_here"] (defScope (top 73)) := ⟨rfl, rfl, rfl, by decide +kernel, rfl, by decide +kernel, by decide +kernel⟩
theorem g__law_draw (T : Tx fa fn xa fs P K mg) : FnG P w K mg base CX0 5 "_law_draw" ["_law_pool_here", "_law_day_here", "_law_spans_here"] (spDraw20 K) := by
  obtain ⟨fd, F⟩ := T.says.def_ 41 (d := d__law_draw) rfl
  have sc := sc__law_draw
  refine ⟨_, fd, T.glo 130, F.kp, F.ok sc (fun vs H Q E h => ?len) (fun cdv A outer s H vs Q E hr h => ⟨_, PSs.nox (pss_cons (ps_set (i := 3) sc.nd rfl (by first | exact Or.inl rfl | exact Or.inr rfl) (pe_cg (g__law_pick T) (hr.mono (by decide)) rfl (pa_cons (pv 0) (pa_cons (pe_lc (own := [("_law_item_here", 4)]) rfl sc.nd (pi_list (pe_ix ix_seq (pv 1) pe_int (fun _ _ => rfl))) (blkOk_by (N := ["_law_pool_here", "_law_day_here", "_law_spans_here", "_law_text", "_law_item_here", "_law_lags", "_law_which", "_law_lag", "_law_word", "_law_edge", "_law_low", "_law_size_here", "_law_one", "_law_two", "_law_way"]) (sc := defScope (top 73)) (by decide +kernel)) (fun _ _ _ _ _ => (pg_name (i := 4) sc.nd rfl (by first | exact Or.inl rfl | exact Or.inr rfl))) (fun _ _ _ _ _ => pts_nil) (fun _ _ _ _ _ => (pe_ix (ix_seqK K rfl) (pv 4) pe_int (fun _ _ => rfl)))) pa_nil))))
    (pss_cons (ps_set (i := 5) sc.nd rfl (by first | exact Or.inl rfl | exact Or.inr rfl) (pe_lst (pa_cons (pe_tup (pa_cons pe_int (pa_cons pe_int pa_nil))) pa_nil)))
    (C8.pss_cut (ps_if (pt_cmpR oGe (pe_cg (g__law_find T) (hr.mono (by decide)) rfl (pa_cons (pv 1) (pa_cons (pv 3) pa_nil))) pe_int (nomark _)) (pss_one (ps_set (i := 5) sc.nd rfl (by first | exact Or.inl rfl | exact Or.inr rfl) (pe_ix ix_seq (pv 2) (pe_cg (g__law_find T) (hr.mono (by decide)) rfl (pa_cons (pv 1) (pa_cons (pv 3) pa_nil))) (fun _ _ => rfl)))) pss_nil)
    (pss_cons (ps_set (i := 6) sc.nd rfl (by first | exact Or.inl rfl | exact Or.inr rfl) (pe_cg (g__law_take T) (hr.mono (by decide)) rfl (pa_cons (pv 0) (pa_cons pe_int pa_nil))))
    (pss_cons (ps_set (i := 7) sc.nd rfl (by first | exact Or.inl rfl | exact Or.inr rfl) (pe_op oMod (pe_callTy cInt (by rfl) (T.free 2) (by decide +kernel) (pa_cons (pv 6) pa_nil)) (pe_callB cLen (by rfl) (T.free 6) (by decide +kernel) (pa_cons (pv 5) pa_nil))))
    (pss_cons (ps_set (i := 8) sc.nd rfl (by first | exact Or.inl rfl | exact Or.inr rfl) (pe_ix ix_seq (pe_cg0 (g__law_words T) (hr.mono (by decide)) rfl) (pv 7) (fun _ _ => rfl)))
    (C8.pss_cut (ps_if (pt_cmpR op_eq (pv 6) pe_int (nomark _)) (pss_one (ps_set (i := 8) sc.nd rfl (by first | exact Or.inl rfl | exact Or.inr rfl) (pe_ix ix_seq (pe_cg0 (g__law_words T) (hr.mono (by decide)) rfl) (pe_cg (g__law_take T) (hr.mono (by decide)) rfl (pa_cons (pv 0) (pa_cons pe_int pa_nil))) (fun _ _ => rfl)))) pss_nil)
    (C8.pss_cut (ps_if (pt_cmpR op_eq (pv 6) pe_int (nomark _)) (pss_one (ps_set (i := 8) sc.nd rfl (by first | exact Or.inl rfl | exact Or.inr rfl) (pe_ix ix_seq (pe_lst (pa_cons pe_str (pa_cons pe_str (pa_cons pe_str (pa_cons pe_str pa_nil))))) (pe_cg (g__law_take T) (hr.mono (by decide)) rfl (pa_cons (pv 0) (pa_cons pe_int pa_nil))) (fun _ _ => rfl)))) pss_nil)
    (pss_cons (ps_set (i := 9) sc.nd rfl (by first | exact Or.inl rfl | exact Or.inr rfl) (pe_callTy cIntB (by rfl) (T.free 2) (by decide +kernel) (pa_cons (pe_cmpR op_eq (pe_cg (g__law_take T) (hr.mono (by decide)) rfl (pa_cons (pv 0) (pa_cons pe_int pa_nil))) pe_int (nomark _)) pa_nil)))
    (pss_cons (ps_set (i := 10) sc.nd rfl (by first | exact Or.inl rfl | exact Or.inr rfl) (pe_op oSub (pe_ix ix_seq (pe_ix ix_seq (pv 5) (pv 7) (fun _ _ => rfl)) pe_int (fun _ _ => rfl)) (pv 9)))
    (pss_cons (ps_set (i := 11) sc.nd rfl (by first | exact Or.inl rfl | exact Or.inr rfl) (pe_op oAdd (pe_op oAdd (pe_op oSub (pe_ix ix_seq (pe_ix ix_seq (pv 5) (pv 7) (fun _ _ => rfl)) pe_int (fun _ _ => rfl)) (pv 10)) (pv 9)) pe_int))
    (pss_cons (ps_set (i := 12) sc.nd rfl (by first | exact Or.inl rfl | exact Or.inr rfl) (pe_op oAdd (pv 10) (pe_cg (g__law_take T) (hr.mono (by decide)) rfl (pa_cons (pv 0) (pa_cons (pv 11) pa_nil)))))
    (pss_cons (ps_set (i := 13) sc.nd rfl (by first | exact Or.inl rfl | exact Or.inr rfl) (pe_op oAdd (pv 10) (pe_cg (g__law_take T) (hr.mono (by decide)) rfl (pa_cons (pv 0) (pa_cons (pv 11) pa_nil)))))
    (pss_cons (ps_set (i := 14) sc.nd rfl (by first | exact Or.inl rfl | exact Or.inr rfl) (pe_cg (g__law_take T) (hr.mono (by decide)) rfl (pa_cons (pv 0) (pa_cons pe_int pa_nil))))
    (pss_cons (ps_if (PW.pt (pw_and (pt_cmpR oGt (pv 12) (pv 13) (nomark _)) (pw_and1 (pt_cmpR oGt (pv 14) pe_int (nomark _))))) (pss_one (ps_ret (pe_tup (pa_cons (pv 3) (pa_cons (pv 8) (pa_cons (pv 13) (pa_cons (pv 12) pa_nil))))))) pss_nil)
    (pss_cons (ps_if (pt_cmpR op_eq (pv 14) pe_int (nomark _)) (pss_one (ps_set (i := 12) sc.nd rfl (by first | exact Or.inl rfl | exact Or.inr rfl) (pe_op oSub (pv 12) (pe_cg (g__law_big T) (hr.mono (by decide)) rfl (pa_cons (pv 0) pa_nil))))) pss_nil)
    (pss_cons (ps_if (pt_cmpR op_eq (pv 14) pe_int (nomark _)) (pss_one (ps_set (i := 13) sc.nd rfl (by first | exact Or.inl rfl | exact Or.inr rfl) (pe_op oAdd (pv 13) (pe_cg (g__law_big T) (hr.mono (by decide)) rfl (pa_cons (pv 0) pa_nil))))) pss_nil)
    (pss_one (ps_ret (pe_tup (pa_cons (pv 3) (pa_cons (pv 8) (pa_cons (pv 12) (pa_cons (pv 13) pa_nil)))))))))))))))))))))))), ?rd⟩), F.bindsN fun _ _ _ _ _ _ us hl => match us, hl with | [_, _, _], _ => rfl⟩
  case len =>
    obtain ⟨p, v, u, D, k, sps, X, rfl, _⟩ := h
    rfl
  case rd =>
    obtain ⟨p, v, u, D, k, sps, X, rfl, hp, pX, hv, hu, hsub, ok, hQ⟩ := h
    show tSeq _ _ ⟨_, _, _, _⟩ [some (.ref p), some (v), some (u), none, none, none, none, none, none, none, none, none, none, none, none] H
    try dsimp only [cxOf]
    have l8 := ok.its.len
    have lss : sps.length = D.its.length := hsub.1
    have wd := hsub.wide ok
    walk_at "rw"
    refine day_8 hv fun u8 hu8 => ?_
    refine lc_D (goes_same H) hu8 (fun H' s => .same s) (fun n acc => acc = ((D.its.map Itm.nm).take n).map V.str) rfl ?_ ?_
    · rintro D3 n z e acc3 H6 hD3 he hz rfl s6 eD3
      obtain ⟨it, hit, rfl⟩ := at_dat he
      have hnm : (D.its.map Itm.nm)[n]? = some it.nm := by rw [List.getElem?_map, hit]; rfl
      have il := (List.getElem?_eq_some_iff.mp hit).1
      refine ⟨rfl, w_yes ?_⟩
      walk_at "rw"
      refine itm_1 hz ?_
      refine elt_done (goes_same H) hD3 eD3 (by rw [List.length_map, List.length_take, List.length_map]; omega) s6 ?_
      rw [take_one hnm, List.map_append]
      rfl
    rintro n1 acc H1 hn1 s1 en1 rfl
    rw [List.length_map, show D.its.length = (D.its.map Itm.nm).length by rw [List.length_map], List.take_length] at en1
    walk_at "rw"
    refine ⟨p, n1, D.its.map Itm.nm, rfl, hp.same s1, ne_pool hp hn1, en1, by rw [List.length_map]; omega, fun z m => ?_, fun z H2 d2 => ?_⟩
    · obtain ⟨it, mi, rfl⟩ := List.mem_map.mp m
      have iok := ok.its.all it mi
      cases it with
      | pc z st of mi de lo hi => exact iok.1.1.2
      | br z st of mi de pl un pa => exact iok.1.1.2
    have d02 := (Drawn.refl hp).same s1 |>.trans d2
    walk_at "rw"
    rename_i t0 Ht ht0 st et0 l0 Hl hl0 sl el0
    have dl : Drawn p H Hl := (d02.same st).same sl
    have kd : ∀ {H H' : Hp}, Drawn p H H' → Keeps X H H' := fun d => .drawn (by simp [pX]) d
    have hv2 := hv.keep (kd dl)
    have hu2 := hu.keep (kd dl)
    refine w_cut (fun σ' H' => Drawn p H H' ∧ ∃ (g : V) (sp : List (Int × Int)), Dat K [p] H' g (spanD sp) ∧ 0 < sp.length ∧ sp.length ≤ 4 ∧ (∀ q ∈ sp, q.1 ≤ q.2 ∧ q.2 ≤ q.1 + 8) ∧ σ' = [some (.ref p), some v, some u, some (.str z), none, some g, none, none, none, none, none, none, none, none, none]) ?_ ?_
    · walk_at "rw"
      refine ⟨v, D, X, z, rfl, hv2, by omega, fun i it hit hn => ?_, fun hz => ?_⟩
      · obtain ⟨sp, hsp⟩ : ∃ sp, sps[i]? = some sp := ⟨_, List.getElem?_eq_getElem (by have := (List.getElem?_eq_some_iff.mp hit).1; omega)⟩
        obtain ⟨it', hit', ll⟩ := Each.atL hsub.len hsp
        walk_at "rw"
        refine ⟨v, D, X, z, rfl, hv2, by omega, fun i2 it2 hit2 hn2 => ?_, fun hz => absurd (List.mem_map.mpr ⟨it, List.mem_of_getElem? hit, hn⟩) hz⟩
        have ei := nm_at ok.its.nd hit hit2 (hn.trans hn2.symm)
        subst ei
        walk_at "rw"
        refine sps_at hu2 hsp rfl fun u1 hu1 => ?_
        walk_at "rw"
        exact ⟨dl, u1, sp, hu1.weak (fun b m => by rw [List.mem_singleton.mp m]; exact pX), by rw [ll]; cases it' <;> exact Nat.succ_pos _, by rw [ll]; exact lim_len D it', (wd.2 sp (List.mem_of_getElem? hsp)).2, rfl⟩
      · walk_at "rw"
        exact ⟨dl, .ref l0, [(0, 0)], DatA.newL (.cons (pr_dat (q := (0, 0)) (SqT.of (sl _ _ et0))) .nil) (fun m => (d02.same st).ne hl0 (List.mem_singleton.mp m)) el0, by decide, by decide, fun q m => by rw [List.mem_singleton.mp m]; decide, rfl⟩
    · rintro σ' H3 ⟨d3, g, sp, hg, sp0, sp4, hq, rfl⟩
      walk_at "rw"
      rename_i wh H4 w0 w1 d4
      have kp : ∀ {H H' : Hp}, Drawn p H H' → Keeps [p] H H' := fun d => .drawn (by simp) d
      have hm0 : 0 ≤ wh % (sp.length : Int) := Int.emod_nonneg _ (by omega)
      have hm1 : wh % (sp.length : Int) < sp.length := Int.emod_lt_of_pos _ (by omega)
      refine len_sp (hg.keep (kp d4)) ?_
      walk_at "rw"
      generalize wh % (sp.length : Int) = jz at hm0 hm1 ⊢
      obtain ⟨j, rfl⟩ := Int.eq_ofNat_of_zero_le hm0
      obtain ⟨w, hw⟩ : ∃ w, lagW[j]? = some w := ⟨_, List.getElem?_eq_getElem (show j < 4 by omega)⟩
      obtain ⟨q, hsq⟩ : ∃ q, sp[j]? = some q := ⟨_, List.getElem?_eq_getElem (by omega)⟩
      have hq1 := hq q (List.mem_of_getElem? hsq)
      refine ⟨rfl, fun wl H5 hwl s5 ewl => ?_⟩
      walk_at "rw"
      refine ix_St (K := K) (X := []) (ss := lagW) (Dat.strs (fun z => nomatch z) ewl) (by omega) (by omega) hw ?_
      walk_at "rw"
      have d5 := (d3.trans d4).same s5
      have g5 := (hg.keep (kp d4)).keep (.same s5)
      clear s5 ewl hwl d3 d4 dl hv2 hu2 el0 et0
      refine w_cut (fun σ' H' => Drawn p H H' ∧ Dat K [p] H' g (spanD sp) ∧ ∃ (w : Str), σ' = [some (.ref p), some v, some u, some (.str z), none, some g, some (.int wh), some (.int (j : Int)), some (.str w), none, none, none, none, none, none]) ?_ ?_
      · walk_at "rw"
        · refine ⟨rfl, fun wl H6 hwl s6 ewl => ?_⟩
          have d6 := d5.same s6
          have hp6 := d6.pool
          walk_at "rw"
          rename_i c4 H7 c40 c41 d7
          refine w_ixZ (ss := lagW) (d7.lst (ne_pool d5.pool hwl) ewl) c40 (by show c4 < 4; exact c41) fun w2 _ => ?_
          walk_at "rw"
          exact ⟨d6.trans d7, (g5.keep (.same s6)).keep (kp d7), w2, rfl⟩
        · exact ⟨d5, g5, w, rfl⟩
      rintro σ' H6 ⟨d6, g6, w, rfl⟩
      clear d5 g5 hw
      walk_at "rw"
      refine w_cut (fun σ' H' => Drawn p H H' ∧ Dat K [p] H' g (spanD sp) ∧ ∃ (w : Str), σ' = [some (.ref p), some v, some u, some (.str z), none, some g, some (.int wh), some (.int (j : Int)), some (.str w), none, none, none, none, none, none]) ?_ ?_
      · walk_at "rw"
        · rename_i lq H7 hlq s7 elq c4 H8 c40 c41 d8
          refine w_ixZ (ss := ["", "late", "Delay", "walks"]) (d8.lst (ne_pool d6.pool hlq) elq) c40 (by show c4 < 4; exact c41) fun w2 _ => ?_
          walk_at "rw"
          exact ⟨(d6.same s7).trans d8, (g6.keep (.same s7)).keep (kp d8), w2, rfl⟩
        · exact ⟨d6, g6, w, rfl⟩
      rintro σ' H7 ⟨d7, g7, w, rfl⟩
      clear d6 g6
      walk_at "rw"
      rename_i c8 H8 c80 c81 d8
      refine w_intB fun e e0 e1 => ?_
      have g8 := g7.keep (kp d8)
      walk_at "rw"
      refine sp_at g8 hsq rfl fun t1 ht1 => ?_
      walk_at "rq"
      refine sp_at g8 hsq rfl fun t2 ht2 => ?_
      walk_at "rq"
      · rename_i o1 HA a0 a1 dA o2 HB b0 b1 dB wy HC f0 f1 dC h1 h2 t9 H9 ht9 s9 et9
        exact hQ t9 z w _ _ H9 (((((d7.trans d8).trans dA).trans dB).trans dC).same s9) et9
      · rename_i o1 HA a0 a1 dA o2 HB b0 b1 dB wy HC f0 f1 dC h1 h2 h3 h4 t9 H9 ht9 s9 et9
        exact hQ t9 z w _ _ H9 (((((d7.trans d8).trans dA).trans dB).trans dC).same s9) et9
      · rename_i o1 HA a0 a1 dA o2 HB b0 b1 dB wy HC f0 f1 dC h1 h2
        have d9 := (((d7.trans d8).trans dA).trans dB).trans dC
        subst h2
        refine use_draw0 d9.pool trivial fun b HD _ dD => ?_
        walk_at "rq"
        rename_i t9 H9 ht9 s9 et9
        exact hQ t9 z w _ _ H9 ((d9.trans dD).same s9) et9
      · rename_i o1 HA a0 a1 dA o2 HB b0 b1 dB wy HC f0 f1 dC h1 h2 h3
        have d9 := (((d7.trans d8).trans dA).trans dB).trans dC
        refine use_draw0 d9.pool trivial fun b HD _ dD => ?_
        walk_at "rq"
        rename_i t9 H9 ht9 s9 et9
        exact hQ t9 z w _ _ H9 ((d9.trans dD).same s9) et9
      · rename_i o1 HA a0 a1 dA o2 HB b0 b1 dB wy HC f0 f1 dC h1 h2 h3 t9 H9 ht9 s9 et9
        exact hQ t9 z w _ _ H9 (((((d7.trans d8).trans dA).trans dB).trans dC).same s9) et9

end
end My
namespace My
open PySem PySem.Spec PyProof.Rows L2 Rd
section
variable {P : Program} {w : World} {K : PySem.W.Frag} {mg : Str → Option Value} {base : Heap}
open NameM
def spExp20 (K : PySem.W.Frag) : Sp := fun vs H Q _ => ∃ (v u : V) (t : Addr) (z w : Str) (lo hi n : Int) (D : DayD) (k : Int) (sps : List (List (Int × Int))) (X Y Z : List Addr), vs = [v, u, .ref t, .int n] ∧ Dat K X H v D.dat ∧ Dat K Y H u (spansD sps) ∧ SqT K H t [.str z, .str w, .int lo, .int hi] ∧ SubD D sps ∧ DayOk D k ∧ (∀ b ∈ Z, H b ≠ none) ∧ ∀ (r : V) (H' : Hp), Same H H' → Dat K Z H' r (expD D sps z w lo hi n) → Q r H'

theorem sc__law_expected : FnScope ["_law_day_here", "_law_spans_here", "_law_call", "_law_size_here", "_law_at", "_law_lag", "_law_low", "_law_high", "_law_changed", "_law_lags"] ["_law_day_here", "_law_spans_here", "_law_call", "_law_size_here"] (defScope (top 74)) := ⟨rfl, rfl, rfl, by decide +kernel, rfl, by decide +kernel, by decide +kernel⟩
theorem g__law_expected (T : Tx fa fn xa fs P K mg) : FnG P w K mg base CX0 4 "_law_expected" ["_law_day_here", "_law_spans_here", "_law_call", "_law_size_here"] (spExp20 K) := by
  obtain ⟨fd, F⟩ := T.says.def_ 42 (d := d__law_expected) rfl
  have sc := sc__law_expected
  refine ⟨_, fd, T.glo 131, F.kp, F.ok sc (fun vs H Q E h => ?len) (fun cdv A outer s H vs Q E hr h => ⟨_, PSs.nox (pss_cons (ps_set (i := 4) sc.nd rfl (by first | exact Or.inl rfl | exact Or.inr rfl) (pe_cg (g__law_find T) (hr.mono (by decide)) rfl (pa_cons (pv 0) (pa_cons (pe_ix ix_seq (pv 2) pe_int (fun _ _ => rfl)) pa_nil))))
    (pss_cons (ps_if (pt_cmpR oLt (pv 4) pe_int (nomark _)) (pss_one (ps_ret (pe_tup (pa_cons pe_str (pa_cons (pe_ix ix_seq (pv 2) pe_int (fun _ _ => rfl)) (pa_cons pe_bl (pa_cons pe_bl (pa_cons pe_bl (pa_cons pe_bl (pa_cons pe_bl pa_nil)))))))))) pss_nil)
    (pss_cons (ps_if (pt_cmpR op_notIn_seq (pe_ix ix_seq (pv 2) pe_int (fun _ _ => rfl)) (pe_slice sl_list (pe_cg0 (g__law_words T) (hr.mono (by decide)) rfl) po_none (po_some (pe_callB cLen (by rfl) (T.free 6) (by decide +kernel) (pa_cons (pe_ix ix_seq (pv 1) (pv 4) (fun _ _ => rfl)) pa_nil)))) (by with_unfolding_all rfl)) (pss_one (ps_ret (pe_tup (pa_cons pe_str (pa_cons (pe_ix ix_seq (pv 2) pe_int (fun _ _ => rfl)) (pa_cons pe_bl (pa_cons pe_bl (pa_cons pe_bl (pa_cons pe_bl (pa_cons pe_bl pa_nil)))))))))) pss_nil)
    (pss_cons (ps_set (i := 5) sc.nd rfl (by first | exact Or.inl rfl | exact Or.inr rfl) (pe_bm PySem.F.plainAttrs_list PySem.F.slot_list_index PySem.F.type_list_index mt_index (pe_cg0 (g__law_words T) (hr.mono (by decide)) rfl) (pa_cons (pe_ix ix_seq (pv 2) pe_int (fun _ _ => rfl)) pa_nil)))
    (pss_cons (ps_if (pt_cmpR op_eq (pv 3) pe_int (nomark _)) (pss_one (ps_ret (pe_lst (pa_cons (pe_callTy cList (by rfl) (T.free 4) (by decide +kernel) (pa_cons (pe_ix ix_seq (pe_ix ix_seq (pv 1) (pv 4) (fun _ _ => rfl)) (pv 5) (fun _ _ => rfl)) pa_nil)) pa_nil)))) pss_nil)
    (pss_cons (ps_asg (pe_ix ix_seq (pe_ix ix_seq (pv 1) (pv 4) (fun _ _ => rfl)) (pv 5) (fun _ _ => rfl)) (pg_tup (n := 2) rfl (pgs_cons (pg_name (i := 6) sc.nd rfl (by first | exact Or.inl rfl | exact Or.inr rfl)) (pgs_cons (pg_name (i := 7) sc.nd rfl (by first | exact Or.inl rfl | exact Or.inr rfl)) pgs_nil))))
    (pss_cons (ps_if (PW.pt (pw_or (pt_cmpR oGt (pe_ix ix_seq (pv 2) pe_int (fun _ _ => rfl)) (pe_ix ix_seq (pv 2) pe_int (fun _ _ => rfl)) (nomark _)) (pw_or (pt_cmpR oLt (pe_ix ix_seq (pv 2) pe_int (fun _ _ => rfl)) (pv 6) (nomark _)) (pw_or1 (pt_cmpR oGt (pe_ix ix_seq (pv 2) pe_int (fun _ _ => rfl)) (pv 7) (nomark _)))))) (pss_one (ps_ret (pe_tup (pa_cons pe_str (pa_cons (pe_ix ix_seq (pv 2) pe_int (fun _ _ => rfl)) (pa_cons pe_bl (pa_cons pe_bl (pa_cons pe_bl (pa_cons pe_bl (pa_cons pe_bl pa_nil)))))))))) pss_nil)
    (pss_cons (ps_setLc (i := 8) (own := [("_law_lags", 9)]) rfl sc.nd rfl (by first | exact rfl | exact Or.inl rfl | exact Or.inr rfl) (sw_true rfl rfl rfl (by decide +kernel)) (pi_list (pv 1)) (blkOk_by (N := ["_law_day_here", "_law_spans_here", "_law_call", "_law_size_here", "_law_at", "_law_lag", "_law_low", "_law_high", "_law_changed", "_law_lags"]) (sc := defScope (top 74)) (by decide +kernel)) (fun _ _ _ _ _ => (pg_name (i := 9) sc.nd rfl (by first | exact Or.inl rfl | exact Or.inr rfl))) (fun _ _ _ _ _ => pts_nil) (fun _ _ _ _ _ => (pe_callTy (CallR.toK (r := Rd.rList) (K := K) cList rfl) (by rfl) (T.free 4) (by decide +kernel) (pa_cons (pv 9) pa_nil))))
    (pss_cons (ps_asg (pe_tup (pa_cons (pe_ix ix_seq (pv 2) pe_int (fun _ _ => rfl)) (pa_cons (pe_ix ix_seq (pv 2) pe_int (fun _ _ => rfl)) pa_nil))) (pg_sub (pe_ix ix_seq (pv 8) (pv 4) (fun _ _ => rfl)) (pv 5) set_list))
    (pss_one (ps_ret (pv 8)))))))))))), ?rd⟩), F.bindsN fun _ _ _ _ _ _ us hl => match us, hl with | [_, _, _, _], _ => rfl⟩
  case len =>
    obtain ⟨v, u, t, z, w, lo, hi, n, D, k, sps, X, Y, Z, rfl, _⟩ := h
    rfl
  case rd =>
    obtain ⟨v, u, t, z, w, lo, hi, n, D, k, sps, X, Y, Z, rfl, hv, hu, ht, hsub, ok, hZ, hQ⟩ := h
    show tSeq _ _ ⟨_, _, _, _⟩ [some (v), some (u), some (.ref t), some (.int n), none, none, none, none, none, none] H
    try dsimp only [cxOf]
    have l8 := ok.its.len
    have lss : sps.length = D.its.length := hsub.1
    have wd := hsub.wide ok
    walk_at "rq"
    refine ⟨v, D, X, z, rfl, hv, by omega, fun i it hit hn => ?_, fun hz => ?_⟩
    · rcases look_cases (D := D) (z := z) (w := w) hsub.len with ⟨hz', _⟩ | ⟨i', it', sp, hit', hn', hsp, hi', hw, e⟩ | ⟨i', j, it', sp, s, hit', hn', hsp, hi', hw, hs, e, eS, eN⟩
      · exact absurd (List.mem_map.mpr ⟨it, List.mem_of_getElem? hit, hn⟩) hz'
      · have ei := nm_at ok.its.nd hit hit' (hn.trans hn'.symm)
        subst ei
        walk_at "rq"
        refine ⟨rfl, fun wl H1 hwl s1 ewl => ?_⟩
        walk_at "rq"
        refine sps_at (hu.keep (.same s1)) hsp rfl fun u1 hu1 => len_sp hu1 ?_
        walk_at "rq"
        rename_i l2 H2 hl2 s2 el2
        rw [cut_take (by omega), ← List.map_take, Int.toNat_natCast] at el2
        refine nin_S (.inl (SqL.of el2)) ?_
        rw [decide_eq_false hw]
        have ht2 : SqT K H2 t [.str z, .str w, .int lo, .int hi] := Same.tup (s1.trans s2) ht
        walk_at "rq"
        rename_i t5 H5 ht5 s5 et5
        exact hQ _ H5 ((s1.trans s2).trans s5) (by rw [exp_why (err_look e)]; exact why_dat et5)
      · have ei := nm_at ok.its.nd hit hit' (hn.trans hn'.symm)
        subst ei
        walk_at "rq"
        refine ⟨rfl, fun wl H1 hwl s1 ewl => ?_⟩
        walk_at "rq"
        refine sps_at (hu.keep (.same s1)) hsp rfl fun u1 hu1 => len_sp hu1 ?_
        walk_at "rq"
        rename_i l2 H2 hl2 s2 el2
        rw [cut_take (by omega), ← List.map_take, Int.toNat_natCast] at el2
        have win : w ∈ lagW.take sp.length := List.mem_of_getElem? (show (lagW.take sp.length)[j]? = some w by rw [List.getElem?_take, if_pos (List.getElem?_eq_some_iff.mp hs).1, hw])
        refine nin_S (.inl (SqL.of el2)) ?_
        rw [decide_eq_true win]
        have s02 := s1.trans s2
        have ht2 : SqT K H2 t [.str z, .str w, .int lo, .int hi] := Same.tup s02 ht
        walk_at "rq"
        refine ⟨rfl, fun wl2 H3 hwl2 s3 ewl2 => ?_⟩
        have ht3 := Same.tup s3 ht2
        clear ht2
        have s03 := s02.trans s3
        walk_at "rq"
        refine w_idxS ewl2 (by decide) hw ?_
        have hu3 := hu.keep (.same s03)
        walk_at "rq"
        · rename_i c
          refine sps_at hu3 hsp rfl fun u2 hu2 => ?_
          walk_at "rq"
          refine sp_at hu2 hs rfl fun t2 ht2 => ?_
          walk_at "rq"
          refine list_D (K := K) (X := Z) (ds := [PyData.int s.1, .int s.2]) (.inr (pr_dat ht2)) fun l xs H4 hl s4 el da => ?_
          walk_at "rq"
          rename_i l5 H5 hl5 s5 el5
          have s04 := s03.trans s4
          exact hQ _ H5 (s04.trans s5) (by rw [exp_2 (err_2 e c) c, eS]; exact DatA.newL (.cons ((da.newL (fun m => hZ l m (same_none s03 hl)) el).keep (.same s5)) .nil) (fun m => hZ l5 m (same_none s04 hl5)) el5)
        · rename_i c
          refine sps_at hu3 hsp rfl fun u2 hu2 => ?_
          walk_at "rq"
          refine sp_at hu2 hs rfl fun t2 ht2 => ?_
          refine w_gt2 ht2 ?_
          have bad : ∀ (t5 : Addr) (H5 : Hp), (hi < lo ∨ lo < s.1 ∨ s.2 < hi) → Same H3 H5 → H5 t5 = some (.tup [.str "outside", .str w, .bl true, .bl true, .bl false, .bl false, .bl false]) → Q (.ref t5) H5 := fun t5 H5 b s5 et5 => hQ _ H5 (s03.trans s5) (by rw [exp_why ((err_4 c).trans (nar_far e eS b))]; exact why_dat et5)
          walk_at "rq"
          · rename_i b t5 H5 ht5 s5 et5
            exact bad t5 H5 (.inl b) s5 et5
          · rename_i _ b t5 H5 ht5 s5 et5
            exact bad t5 H5 (.inr (.inl b)) s5 et5
          · rename_i _ _ b t5 H5 ht5 s5 et5
            exact bad t5 H5 (.inr (.inr b)) s5 et5
          rename_i b1 b2 b3
          have lss3 : sps.length ≤ 20 := wd.1
          refine lc_DA (goes_same H3) hu3 (fun H' s => .same s) (fun Dc i acc H' => Copied K H3 sps Dc i acc H') (fun Dc H' s => ⟨[], rfl, rfl, List.nodup_nil, fun z => (nomatch z), fun _ z => (nomatch z), Each.nil⟩) ?_ ?_
          · rintro Dc i x d acc H1 hD hd hx r s1 eD
            obtain ⟨sp, hsp, rfl⟩ := at_dat hd
            have ra := r
            obtain ⟨_, rfl, lls, _⟩ := ra
            have li : i < (sps).length := (List.getElem?_eq_some_iff.mp hsp).1
            refine ⟨rfl, w_yes ?_⟩
            walk_at "rw"
            refine list_D (.inl hx) fun l xs H2 hl s2 el da => ?_
            exact eltH_done (goes_same H3) hD (s2 _ _ eD) (by rw [List.length_map, lls]; have := lss3; omega) (s1.trans s2) (r.snoc hsp eD s1 hl s2 el da)
          have en := (err_4 c).trans (nar_in (lo := lo) (hi := hi) e eS (by omega))
          rintro cl acc H4 hcl s4 ecl rc
          rw [List.length_map] at rc
          obtain ⟨ls, hm, nls⟩ := Copied.msp rc hcl ecl (X := Z) (fun b m q => hZ b m (same_none s03 q))
          have s04 := s03.trans s4
          have ht4 := Same.tup s4 ht3
          walk_at "rq"
          rename_i tt H5 htt s5 ett
          have hm5 := hm.keep s5
          obtain ⟨l, xs, el, nl, exl, da⟩ := hm5.at_ hsp
          have lxs : xs.length = sp.length := by rw [da.len, List.length_map]
          have jl := (List.getElem?_eq_some_iff.mp hs).1
          refine w_ixL (SqL.of hm5.lst) (atI_of (by omega) (by rw [Int.toNat_natCast, List.getElem?_map, el]; rfl)) ?_
          walk_at "rq"
          refine n_setAny exl (by omega) (by omega) ?_
          rw [Int.toNat_natCast]
          walk_at "rq"
          refine hQ _ _ (same_put (s04.trans s5) ?_) ?_
          · exact same_none s03 (nls l (List.mem_of_getElem? el))
          · rw [exp_4 en c, eN]
            exact (hm5.set (s := (lo, hi)) el hsp exl (pr_dat (SqT.of ett))).dat
    · have e : lookE D sps z w = some (("name" : Str), z) := by unfold lookE; exact if_neg hz
      walk_at "rq"
      rename_i t5 H5 ht5 s5 et5
      exact hQ _ H5 s5 (by rw [exp_why (err_look e)]; exact why_dat et5)

end
end My
namespace My
open PySem PySem.Spec PyProof.Rows L2 Rd
section
variable {P : Program} {w : World} {K : PySem.W.Frag} {mg : Str → Option Value} {base : Heap}
open NameM
def spOutL (K : PySem.W.Frag) : Sp := fun vs H Q _ => ∃ (y t : Addr) (z w : Str) (lo hi n : Int) (D : DayD) (k : Int) (sps : List (List (Int × Int))), vs = [.ref y, .ref t, .int n] ∧ OutD K H y D sps ∧ DayOk D k ∧ SqT K H t [.str z, .str w, .int lo, .int hi] ∧
  (∀ kk x, errO D sps z w lo hi n = some (kk, x) → ∀ (u : Addr) (H' : Hp), Same H H' → H' u = some (.tup [.str kk, .str x, .bl true, .bl true, .bl false, .bl false, .bl false]) → Q (.ref u) H') ∧
  (errO D sps z w lo hi n = none → n = 2 → ∀ (l a : Addr) (H' : Hp), H l = none → Same H H' → H' l = some (.lst [.ref a]) → IsSpan K H' a (lookS D sps z w).1 (lookS D sps z w).2 → Q (.ref l) H') ∧
  (errO D sps z w lo hi n = none → ¬ n = 2 → ∀ (l y' : Addr) (H' : Hp), H l = none → Same H H' → H' l = some (.lst [.ref y']) → OutD K H' y' D (narS D sps z w (lo, hi)) → Q (.ref l) H')

theorem sc__law_outcome : FnScope ["_law_outlook", "_law_call", "_law_size_here", "_law_actual", "unknown", "bad_word", "outside"] ["_law_outlook", "_law_call", "_law_size_here"] (defScope (top 75)) := ⟨rfl, rfl, rfl, by decide +kernel, rfl, by decide +kernel, by decide +kernel⟩
theorem g__law_outcome (T : Tx fa fn xa fs P K mg) : FnG P w K mg base CX0 11 "_law_outcome" ["_law_outlook", "_law_call", "_law_size_here"] (spOutL K) := by
  obtain ⟨fd, F⟩ := T.says.def_ 43 (d := d__law_outcome) rfl
  have sc := sc__law_outcome
  refine ⟨_, fd, T.glo 135, F.kp, F.ok sc (fun vs H Q E h => ?len) (fun cdv A outer s H vs Q E hr h => ⟨_, PSs.nox (pss_cons (ps_set (i := 3) sc.nd rfl (by first | exact Or.inl rfl | exact Or.inr rfl) pe_non)
    (C8.pss_cut (ps_catches rfl rfl rfl sc.nd (fun W _ _ tk po => (pss_one (ps_if (pt_cmpR op_eq (pv 2) pe_int (nomark _)) (pss_one (ps_set (i := 3) sc.nd rfl (by first | exact Or.inl rfl | exact Or.inr rfl) (pe_lst (pa_cons (pe_mgS (C := (He.ga K "Outlook")) (sp := (spSpanOf K)) (E := WE W) (g_Outlook_span_of T) (hr.mono (by decide)) (fun σ => passAt tk σ) (pv 0) (pa_cons (pe_ix (ix_seqK K rfl) (pv 1) pe_int (fun _ _ => rfl)) (pa_cons (pe_ix (ix_seqK K rfl) (pv 1) pe_int (fun _ _ => rfl)) pa_nil))) pa_nil)))) (pss_one (ps_set (i := 3) sc.nd rfl (by first | exact Or.inl rfl | exact Or.inr rfl) (pe_lst (pa_cons (pe_mgS (C := (He.ga K "Outlook")) (sp := (spNarrow K)) (E := WE W) (g_Outlook_narrowed T) (hr.mono (by decide)) (fun σ => passAt tk σ) (pv 0) (pa_cons (pe_ix (ix_seqK K rfl) (pv 1) pe_int (fun _ _ => rfl)) (pa_cons (pe_ix (ix_seqK K rfl) (pv 1) pe_int (fun _ _ => rfl)) (pa_cons (pe_ix (ix_seqK K rfl) (pv 1) pe_int (fun _ _ => rfl)) (pa_cons (pe_ix (ix_seqK K rfl) (pv 1) pe_int (fun _ _ => rfl)) pa_nil))))) pa_nil)))))))
    (PHs.cons (i := 4) (c := .ref (He.ga K "Unknown")) rfl rfl ⟨rfl, by decide, .inl (T.glo 121)⟩ (fun _ _ => (pss_one (ps_set (i := 3) sc.nd rfl (by first | exact Or.inl rfl | exact Or.inr rfl) (pe_tup (pa_cons pe_str (pa_cons (pe_xkK K rfl (pv 4)) (pa_cons (pe_callB (CallR.toK (r := Rd.uIsi) (K := K) cIsi rfl) (by rfl) (T.free 0) (by decide +kernel) (pa_cons (pv 4) (pa_cons (pe_glob (v := .ref (He.ga K "BarbreaksError")) (by rfl) (T.glo 134) rfl) pa_nil))) (pa_cons (pe_callB (CallR.toK (r := Rd.uIsi) (K := K) cIsi rfl) (by rfl) (T.free 0) (by decide +kernel) (pa_cons (pv 4) (pa_cons (pe_bltn (v := .ty "ValueError") (u := .type "ValueError") rfl (T.free 133) (by decide +kernel) rfl) pa_nil))) (pa_cons (pe_callB (CallR.toK (r := Rd.uIsi) (K := K) cIsi rfl) (by rfl) (T.free 0) (by decide +kernel) (pa_cons (pv 4) (pa_cons (pe_glob (v := .ref (He.ga K "Refused")) (by rfl) (T.glo 132) rfl) pa_nil))) (pa_cons (pe_callB (CallR.toK (r := Rd.uIsi) (K := K) cIsi rfl) (by rfl) (T.free 0) (by decide +kernel) (pa_cons (pv 4) (pa_cons (pe_glob (v := .ref (He.ga K "BadWord")) (by rfl) (T.glo 119) rfl) pa_nil))) (pa_cons (pe_callB (CallR.toK (r := Rd.uIsi) (K := K) cIsi rfl) (by rfl) (T.free 0) (by decide +kernel) (pa_cons (pv 4) (pa_cons (pe_glob (v := .ref (He.ga K "Outside")) (by rfl) (T.glo 123) rfl) pa_nil))) pa_nil))))))))))) (PHs.cons (i := 5) (c := .ref (He.ga K "BadWord")) rfl rfl ⟨rfl, by decide, .inl (T.glo 119)⟩ (fun _ _ => (pss_one (ps_set (i := 3) sc.nd rfl (by first | exact Or.inl rfl | exact Or.inr rfl) (pe_tup (pa_cons pe_str (pa_cons (pe_xkK K rfl (pv 5)) (pa_cons (pe_callB (CallR.toK (r := Rd.uIsi) (K := K) cIsi rfl) (by rfl) (T.free 0) (by decide +kernel) (pa_cons (pv 5) (pa_cons (pe_glob (v := .ref (He.ga K "BarbreaksError")) (by rfl) (T.glo 134) rfl) pa_nil))) (pa_cons (pe_callB (CallR.toK (r := Rd.uIsi) (K := K) cIsi rfl) (by rfl) (T.free 0) (by decide +kernel) (pa_cons (pv 5) (pa_cons (pe_bltn (v := .ty "ValueError") (u := .type "ValueError") rfl (T.free 133) (by decide +kernel) rfl) pa_nil))) (pa_cons (pe_callB (CallR.toK (r := Rd.uIsi) (K := K) cIsi rfl) (by rfl) (T.free 0) (by decide +kernel) (pa_cons (pv 5) (pa_cons (pe_glob (v := .ref (He.ga K "Refused")) (by rfl) (T.glo 132) rfl) pa_nil))) (pa_cons (pe_callB (CallR.toK (r := Rd.uIsi) (K := K) cIsi rfl) (by rfl) (T.free 0) (by decide +kernel) (pa_cons (pv 5) (pa_cons (pe_glob (v := .ref (He.ga K "Unknown")) (by rfl) (T.glo 121) rfl) pa_nil))) (pa_cons (pe_callB (CallR.toK (r := Rd.uIsi) (K := K) cIsi rfl) (by rfl) (T.free 0) (by decide +kernel) (pa_cons (pv 5) (pa_cons (pe_glob (v := .ref (He.ga K "Outside")) (by rfl) (T.glo 123) rfl) pa_nil))) pa_nil))))))))))) (PHs.cons (i := 6) (c := .ref (He.ga K "Outside")) rfl rfl ⟨rfl, by decide, .inl (T.glo 123)⟩ (fun _ _ => (pss_one (ps_set (i := 3) sc.nd rfl (by first | exact Or.inl rfl | exact Or.inr rfl) (pe_tup (pa_cons pe_str (pa_cons (pe_xkK K rfl (pv 6)) (pa_cons (pe_callB (CallR.toK (r := Rd.uIsi) (K := K) cIsi rfl) (by rfl) (T.free 0) (by decide +kernel) (pa_cons (pv 6) (pa_cons (pe_glob (v := .ref (He.ga K "BarbreaksError")) (by rfl) (T.glo 134) rfl) pa_nil))) (pa_cons (pe_callB (CallR.toK (r := Rd.uIsi) (K := K) cIsi rfl) (by rfl) (T.free 0) (by decide +kernel) (pa_cons (pv 6) (pa_cons (pe_bltn (v := .ty "ValueError") (u := .type "ValueError") rfl (T.free 133) (by decide +kernel) rfl) pa_nil))) (pa_cons (pe_callB (CallR.toK (r := Rd.uIsi) (K := K) cIsi rfl) (by rfl) (T.free 0) (by decide +kernel) (pa_cons (pv 6) (pa_cons (pe_glob (v := .ref (He.ga K "Refused")) (by rfl) (T.glo 132) rfl) pa_nil))) (pa_cons (pe_callB (CallR.toK (r := Rd.uIsi) (K := K) cIsi rfl) (by rfl) (T.free 0) (by decide +kernel) (pa_cons (pv 6) (pa_cons (pe_glob (v := .ref (He.ga K "Unknown")) (by rfl) (T.glo 121) rfl) pa_nil))) (pa_cons (pe_callB (CallR.toK (r := Rd.uIsi) (K := K) cIsi rfl) (by rfl) (T.free 0) (by decide +kernel) (pa_cons (pv 6) (pa_cons (pe_glob (v := .ref (He.ga K "BadWord")) (by rfl) (T.glo 119) rfl) pa_nil))) pa_nil))))))))))) PHs.nil))))
    (pss_one (ps_ret (pv 3))))), ?rd⟩), F.bindsN fun _ _ _ _ _ _ us hl => match us, hl with | [_, _, _], _ => rfl⟩
  case len =>
    obtain ⟨y, t, z, w, lo, hi, n, D, k, sps, rfl, _⟩ := h
    rfl
  case rd =>
    have xi_Unknown := (T.exc 23 (x := "Unknown") rfl).is
    have xf_Unknown := (T.exc 23 (x := "Unknown") rfl).fld
    have xn_Unknown_name : PySem.W.findIn K (.ref (He.ga K "Unknown")) "name" = some none := T.noat 120
    have xm_Unknown_Unknown := T.exm 25 (x := "Unknown") (y := "Unknown") rfl
    have xm_Unknown_BadWord := T.exm 26 (x := "Unknown") (y := "BadWord") rfl
    have xm_Unknown_Outside := T.exm 27 (x := "Unknown") (y := "Outside") rfl
    have xk_Unknown_BarbreaksError := T.kit 28 (x := "Unknown") (y := "BarbreaksError") rfl
    have xk_Unknown_ValueError := T.kitT 29 (x := "Unknown") (t := "ValueError") rfl
    have xk_Unknown_Refused := T.kit 30 (x := "Unknown") (y := "Refused") rfl
    have xk_Unknown_BadWord := T.kit 31 (x := "Unknown") (y := "BadWord") rfl
    have xk_Unknown_Outside := T.kit 32 (x := "Unknown") (y := "Outside") rfl
    have xk_Unknown_Unknown := T.kit 33 (x := "Unknown") (y := "Unknown") rfl
    have xi_BadWord := (T.exc 22 (x := "BadWord") rfl).is
    have xf_BadWord := (T.exc 22 (x := "BadWord") rfl).fld
    have xn_BadWord_word : PySem.W.findIn K (.ref (He.ga K "BadWord")) "word" = some none := T.noat 118
    have xm_BadWord_Unknown := T.exm 34 (x := "BadWord") (y := "Unknown") rfl
    have xm_BadWord_BadWord := T.exm 35 (x := "BadWord") (y := "BadWord") rfl
    have xm_BadWord_Outside := T.exm 36 (x := "BadWord") (y := "Outside") rfl
    have xk_BadWord_BarbreaksError := T.kit 37 (x := "BadWord") (y := "BarbreaksError") rfl
    have xk_BadWord_ValueError := T.kitT 38 (x := "BadWord") (t := "ValueError") rfl
    have xk_BadWord_Refused := T.kit 39 (x := "BadWord") (y := "Refused") rfl
    have xk_BadWord_BadWord := T.kit 40 (x := "BadWord") (y := "BadWord") rfl
    have xk_BadWord_Outside := T.kit 41 (x := "BadWord") (y := "Outside") rfl
    have xk_BadWord_Unknown := T.kit 42 (x := "BadWord") (y := "Unknown") rfl
    have xi_Outside := (T.exc 24 (x := "Outside") rfl).is
    have xf_Outside := (T.exc 24 (x := "Outside") rfl).fld
    have xn_Outside_word : PySem.W.findIn K (.ref (He.ga K "Outside")) "word" = some none := T.noat 122
    have xm_Outside_Unknown := T.exm 43 (x := "Outside") (y := "Unknown") rfl
    have xm_Outside_BadWord := T.exm 44 (x := "Outside") (y := "BadWord") rfl
    have xm_Outside_Outside := T.exm 45 (x := "Outside") (y := "Outside") rfl
    have xk_Outside_BarbreaksError := T.kit 46 (x := "Outside") (y := "BarbreaksError") rfl
    have xk_Outside_ValueError := T.kitT 47 (x := "Outside") (t := "ValueError") rfl
    have xk_Outside_Refused := T.kit 48 (x := "Outside") (y := "Refused") rfl
    have xk_Outside_BadWord := T.kit 49 (x := "Outside") (y := "BadWord") rfl
    have xk_Outside_Outside := T.kit 50 (x := "Outside") (y := "Outside") rfl
    have xk_Outside_Unknown := T.kit 51 (x := "Outside") (y := "Unknown") rfl
    obtain ⟨y, t, z, w, lo, hi, n, D, k, sps, rfl, ho, ok, ht, hE, hS, hO⟩ := h
    show tSeq _ _ ⟨_, _, _, _⟩ [some (.ref y), some (.ref t), some (.int n), none, none, none, none] H
    try dsimp only [cxOf]
    have hcl_Outlook : Cls K (He.ga K "Outlook") := T.cls 100
    have hn_Outlook_order : NoAttr K (He.ga K "Outlook") "order" := T.noat 101
    have hn_Outlook__spans : NoAttr K (He.ga K "Outlook") "_spans" := T.noat 102
    obtain ⟨_, dxy, _, _, ey, _⟩ := id ho.ex
    walk_at "rq"
    refine w_cut (fun σ' H' => ∃ (x : V) (v4 v5 v6 : Option V), Q x H' ∧ σ' = [some (.ref y), some (.ref t), some (.int n), some x, v4, v5, v6]) ?_ ?_
    · walk_at "rq"
      · rename_i c
        refine ⟨y, D, sps, z, w, rfl, ho, ok.its.nd, fun e a hspan => ?_, fun e d hd => ?_, fun e d hd => ?_⟩
        · walk_at "rq"
          rename_i l H1 hl s1 el
          exact ⟨.ref l, _, _, _, hS (err_2 e c) c l a H1 hl s1 el (hspan.keep s1), rfl⟩
        · refine n_caught hd (by assumption) fun x H3 hx s3 xa => ?_
          walk_at "rw"
          rename_i l H4 hl s4 el
          exact ⟨.ref l, _, _, _, hE _ _ (err_look e) l H4 (s3.trans s4) el, rfl⟩
        · refine w_c2 (by assumption) (n_caught hd (by assumption) fun x H3 hx s3 xa => ?_)
          walk_at "rw"
          rename_i l H4 hl s4 el
          exact ⟨.ref l, _, _, _, hE _ _ (err_look e) l H4 (s3.trans s4) el, rfl⟩
      · rename_i c
        refine ⟨y, D, k, sps, z, w, lo, hi, rfl, ho, ok, fun e y' H1 hy s1 h1 => ?_, fun e d hd => ?_, fun e d hd => ?_, fun e d hd => ?_⟩
        · walk_at "rq"
          rename_i l H2 hl s2 el
          exact ⟨.ref l, _, _, _, hO ((err_4 c).trans e) c l y' H2 (same_none s1 hl) (s1.trans s2) el (h1.keep s2), rfl⟩
        · refine n_caught hd (by assumption) fun x H3 hx s3 xa => ?_
          walk_at "rw"
          rename_i l H4 hl s4 el
          exact ⟨.ref l, _, _, _, hE _ _ ((err_4 c).trans e) l H4 (s3.trans s4) el, rfl⟩
        · refine w_c2 (by assumption) (n_caught hd (by assumption) fun x H3 hx s3 xa => ?_)
          walk_at "rw"
          rename_i l H4 hl s4 el
          exact ⟨.ref l, _, _, _, hE _ _ ((err_4 c).trans e) l H4 (s3.trans s4) el, rfl⟩
        · refine w_c2 (by assumption) (w_c2 (by assumption) (n_caught hd (by assumption) fun x H3 hx s3 xa => ?_))
          walk_at "rw"
          rename_i l H4 hl s4 el
          exact ⟨.ref l, _, _, _, hE _ _ ((err_4 c).trans e) l H4 (s3.trans s4) el, rfl⟩
    · rintro σ' H2 ⟨x, v4, v5, v6, q, rfl⟩
      walk_at "rq"
      exact q

end
end My
namespace My
open PySem PySem.Spec PyProof.Rows L2 Rd
section
variable {P : Program} {w : World} {K : PySem.W.Frag} {mg : Str → Option Value} {base : Heap}
open NameM
def spMatO (K : PySem.W.Frag) : Sp := fun vs H Q _ => ∃ (y : Addr) (v u : V) (D : DayD) (k : Int) (sps : List (List (Int × Int))) (X Y : List Addr), vs = [.ref y, v, u] ∧ OutD K H y D sps ∧ Dat K X H v D.dat ∧ Dat K Y H u (spansD sps) ∧ DayOk D k ∧ SubD D sps ∧ ∀ H', Same H H' → Q (.bl true) H'
theorem nar_strs {ss : List Str} (h : ss.length ≤ 1000000) (n : Nat) : Nar (n + 2) (.list (ss.map PyData.str)) := nar_list (by rw [List.length_map]; exact h) fun d m => by
  obtain ⟨x, _, rfl⟩ := List.mem_map.mp m
  exact trivial

theorem sc__law_matches : FnScope ["_law_outlook", "_law_day_here", "_law_spans_here", "_law_item_here", "_law_k", "_law_j", "_law_span", "_law_lowest", "_law_lag", "_law_lags", "_law_greatest", "_law_first_here", "_law_last"] ["_law_outlook", "_law_day_here", "_law_spans_here"] (defScope (top 76)) := ⟨rfl, rfl, rfl, by decide +kernel, rfl, by decide +kernel, by decide +kernel⟩
theorem g__law_matches (T : Tx fa fn xa fs P K mg) : FnG P w K mg base CX0 10 "_law_matches" ["_law_outlook", "_law_day_here", "_law_spans_here"] (spMatO K) := by
  obtain ⟨fd, F⟩ := T.says.def_ 44 (d := d__law_matches) rfl
  have sc := sc__law_matches
  refine ⟨_, fd, T.glo 136, F.kp, F.ok sc (fun vs H Q E h => ?len) (fun cdv A outer s H vs Q E hr h => ⟨_, PSs.nox (pss_cons (ps_if (PW.pt (pw_or (pt_not (pt_val (pe_callB cIsi (by rfl) (T.free 0) (by decide +kernel) (pa_cons (pv 0) (pa_cons (pe_glob (v := .ref (He.ga K "Outlook")) (by rfl) (T.glo 103) rfl) pa_nil))))) (pw_or1 (pt_not (pt_val (pe_callB cIsi (by rfl) (T.free 0) (by decide +kernel) (pa_cons (pe_fld (pv 0) rfl) (pa_cons (pe_glob (v := .ref (He.ga K "Order")) (by rfl) (T.glo 95) rfl) pa_nil)))))))) (pss_one (ps_ret pe_bl)) pss_nil)
    (pss_cons (ps_if (pt_not (pt_val (pe_cg (g__law_same T 6) (hr.mono (by decide)) rfl (pa_cons (pe_lc (own := [("_law_item_here", 3)]) rfl sc.nd (pi_ownT (C := He.ga K "Order") (sp := spIterO K) (fun b => g_Order___iter__ (base := b) T) (hr.mono (by decide)) (pe_fld (pv 0) rfl)) (blkOk_by (N := ["_law_outlook", "_law_day_here", "_law_spans_here", "_law_item_here", "_law_k", "_law_j", "_law_span", "_law_lowest", "_law_lag", "_law_lags", "_law_greatest", "_law_first_here", "_law_last"]) (sc := defScope (top 76)) (by decide +kernel)) (fun _ _ _ _ _ => (pg_name (i := 3) sc.nd rfl (by first | exact Or.inl rfl | exact Or.inr rfl))) (fun _ _ _ _ _ => pts_nil) (fun _ _ _ _ _ => (pe_fldK K rfl (pv 3) rfl))) (pa_cons (pe_lc (own := [("_law_item_here", 3)]) rfl sc.nd (pi_list (pe_ix ix_seq (pv 1) pe_int (fun _ _ => rfl))) (blkOk_by (N := ["_law_outlook", "_law_day_here", "_law_spans_here", "_law_item_here", "_law_k", "_law_j", "_law_span", "_law_lowest", "_law_lag", "_law_lags", "_law_greatest", "_law_first_here", "_law_last"]) (sc := defScope (top 76)) (by decide +kernel)) (fun _ _ _ _ _ => (pg_name (i := 3) sc.nd rfl (by first | exact Or.inl rfl | exact Or.inr rfl))) (fun _ _ _ _ _ => pts_nil) (fun _ _ _ _ _ => (pe_ix (ix_seqK K rfl) (pv 3) pe_int (fun _ _ => rfl)))) pa_nil))))) (pss_one (ps_ret pe_bl)) pss_nil)
    (pss_cons (ps_for PassesOwn.never rfl (pi_range1 (by rfl) (T.free 8) (pa_cons (pe_callB cLen (by rfl) (T.free 6) (by decide +kernel) (pa_cons (pe_ix ix_seq (pv 1) pe_int (fun _ _ => rfl)) pa_nil)) pa_nil)) (pg_name (i := 4) sc.nd rfl (by first | exact Or.inl rfl | exact Or.inr rfl)) (pss_one (ps_for PassesOwn.never rfl (pi_range1 (by rfl) (T.free 8) (pa_cons (pe_callB cLen (by rfl) (T.free 6) (by decide +kernel) (pa_cons (pe_ix ix_seq (pv 2) (pv 4) (fun _ _ => rfl)) pa_nil)) pa_nil)) (pg_name (i := 5) sc.nd rfl (by first | exact Or.inl rfl | exact Or.inr rfl)) (pss_cons (ps_set (i := 6) sc.nd rfl (by first | exact Or.inl rfl | exact Or.inr rfl) (pe_mgE (g_Outlook_span_of T) (hr.mono (by decide)) passL (pv 0) (pa_cons (pe_ix ix_seq (pe_ix ix_seq (pe_ix ix_seq (pv 1) pe_int (fun _ _ => rfl)) (pv 4) (fun _ _ => rfl)) pe_int (fun _ _ => rfl)) (pa_cons (pe_ix ix_seq (pe_cg0 (g__law_words T) (hr.mono (by decide)) rfl) (pv 5) (fun _ _ => rfl)) pa_nil))))
    (pss_one (ps_if (PW.pt (pw_or (pt_not (pt_val (pe_callB cIsi (by rfl) (T.free 0) (by decide +kernel) (pa_cons (pv 6) (pa_cons (pe_glob (v := .ref (He.ga K "Span")) (by rfl) (T.glo 60) rfl) pa_nil))))) (pw_or1 (pt_not (pt_val (pe_cg (g__law_same T 6) (hr.mono (by decide)) rfl (pa_cons (pe_lst (pa_cons (pe_fld (pv 6) rfl) (pa_cons (pe_fld (pv 6) rfl) pa_nil))) (pa_cons (pe_callTy cList (by rfl) (T.free 4) (by decide +kernel) (pa_cons (pe_ix ix_seq (pe_ix ix_seq (pv 2) (pv 4) (fun _ _ => rfl)) (pv 5) (fun _ _ => rfl)) pa_nil)) pa_nil)))))))) (pss_one (ps_ret pe_bl)) pss_nil))))))
    (pss_cons (ps_setLc (i := 7) (own := [("_law_lags", 9)]) rfl sc.nd rfl (by first | exact rfl | exact Or.inl rfl | exact Or.inr rfl) (sw_true rfl rfl rfl (by decide +kernel)) (pi_list (pv 2)) (blkOk_by (N := ["_law_outlook", "_law_day_here", "_law_spans_here", "_law_item_here", "_law_k", "_law_j", "_law_span", "_law_lowest", "_law_lag", "_law_lags", "_law_greatest", "_law_first_here", "_law_last"]) (sc := defScope (top 76)) (by decide +kernel)) (fun _ _ _ _ _ => (pg_name (i := 9) sc.nd rfl (by first | exact Or.inl rfl | exact Or.inr rfl))) (fun _ _ _ _ _ => pts_nil) (fun _ _ _ _ _ => (pe_callTy (CallR.toK (r := Rd.rTuple) (K := K) cTuple rfl) (by rfl) (T.free 72) (by decide +kernel) (pa_cons (pe_lc (own := [("_law_lag", 8)]) rfl (by exact sc.nd) (pi_listK (K := K) rfl (pv 9)) (blkOk_by (by rfl)) (fun _ _ _ _ _ => (pg_name (i := 8) sc.nd rfl (by first | exact Or.inl rfl | exact Or.inr rfl))) (fun _ _ _ _ _ => pts_nil) (fun _ _ _ _ _ => (pe_ix (ix_seqK K rfl) (pv 8) pe_int (fun _ _ => rfl)))) pa_nil))))
    (pss_cons (ps_setLc (i := 10) (own := [("_law_lags", 9)]) rfl sc.nd rfl (by first | exact rfl | exact Or.inl rfl | exact Or.inr rfl) (sw_true rfl rfl rfl (by decide +kernel)) (pi_list (pv 2)) (blkOk_by (N := ["_law_outlook", "_law_day_here", "_law_spans_here", "_law_item_here", "_law_k", "_law_j", "_law_span", "_law_lowest", "_law_lag", "_law_lags", "_law_greatest", "_law_first_here", "_law_last"]) (sc := defScope (top 76)) (by decide +kernel)) (fun _ _ _ _ _ => (pg_name (i := 9) sc.nd rfl (by first | exact Or.inl rfl | exact Or.inr rfl))) (fun _ _ _ _ _ => pts_nil) (fun _ _ _ _ _ => (pe_callTy (CallR.toK (r := Rd.rTuple) (K := K) cTuple rfl) (by rfl) (T.free 72) (by decide +kernel) (pa_cons (pe_lc (own := [("_law_lag", 8)]) rfl (by exact sc.nd) (pi_listK (K := K) rfl (pv 9)) (blkOk_by (by rfl)) (fun _ _ _ _ _ => (pg_name (i := 8) sc.nd rfl (by first | exact Or.inl rfl | exact Or.inr rfl))) (fun _ _ _ _ _ => pts_nil) (fun _ _ _ _ _ => (pe_ix (ix_seqK K rfl) (pv 8) pe_int (fun _ _ => rfl)))) pa_nil))))
    (pss_cons (ps_set (i := 11) sc.nd rfl (by first | exact Or.inl rfl | exact Or.inr rfl) (pe_mg0 (g_Outlook_first_row T) (hr.mono (by decide)) (pv 0) ))
    (pss_cons (ps_set (i := 12) sc.nd rfl (by first | exact Or.inl rfl | exact Or.inr rfl) (pe_mg0 (g_Outlook_last_row T) (hr.mono (by decide)) (pv 0) ))
    (pss_cons (ps_if (PW.pt (pw_or (pt_not (pt_val (pe_cg (g__law_same T 6) (hr.mono (by decide)) rfl (pa_cons (pv 11) (pa_cons (pv 7) pa_nil))))) (pw_or1 (pt_not (pt_val (pe_cg (g__law_same T 6) (hr.mono (by decide)) rfl (pa_cons (pv 12) (pa_cons (pv 10) pa_nil)))))))) (pss_one (ps_ret pe_bl)) pss_nil)
    (pss_cons (ps_expr (pe_bm PySem.F.plainAttrs_list PySem.F.slot_list_append PySem.F.type_list_append mt_append (pv 11) (pa_cons (pe_tup pa_nil) pa_nil)))
    (pss_cons (ps_expr (pe_bm0 PySem.F.plainAttrs_list PySem.F.slot_list_clear PySem.F.type_list_clear mt_clear (pv 12)))
    (pss_one (ps_ret (pe_and (pe_cg (g__law_same T 6) (hr.mono (by decide)) rfl (pa_cons (pe_mg0 (g_Outlook_first_row T) (hr.mono (by decide)) (pv 0) ) (pa_cons (pv 7) pa_nil))) (pe_one (pe_cg (g__law_same T 6) (hr.mono (by decide)) rfl (pa_cons (pe_mg0 (g_Outlook_last_row T) (hr.mono (by decide)) (pv 0) ) (pa_cons (pv 10) pa_nil))))))))))))))))), ?rd⟩), F.bindsN fun _ _ _ _ _ _ us hl => match us, hl with | [_, _, _], _ => rfl⟩
  case len =>
    obtain ⟨y, v, u, D, k, sps, X, Y, rfl, _⟩ := h
    rfl
  case rd =>
    obtain ⟨y, v, u, D, k, sps, X, Y, rfl, ho, hv, hu, ok, hsub, hQ⟩ := h
    show tSeq _ _ ⟨_, _, _, _⟩ [some (.ref y), some (v), some (u), none, none, none, none, none, none, none, none, none, none] H
    try dsimp only [cxOf]
    have hcl_Outlook : Cls K (He.ga K "Outlook") := T.cls 100
    have hn_Outlook_order : NoAttr K (He.ga K "Outlook") "order" := T.noat 101
    have hn_Outlook__spans : NoAttr K (He.ga K "Outlook") "_spans" := T.noat 102
    have hcl_Order : Cls K (He.ga K "Order") := T.cls 90
    have hn_Order_house : NoAttr K (He.ga K "Order") "house" := T.noat 91
    have hn_Order_opens : NoAttr K (He.ga K "Order") "opens" := T.noat 92
    have hn_Order_lineup : NoAttr K (He.ga K "Order") "lineup" := T.noat 93
    have hn_Order__numbers : NoAttr K (He.ga K "Order") "_numbers" := T.noat 94
    have hcl_Piece : Cls K (He.ga K "Piece") := T.cls 35
    have hn_Piece_name : NoAttr K (He.ga K "Piece") "name" := T.noat 36
    have hn_Piece_grid : NoAttr K (He.ga K "Piece") "grid" := T.noat 37
    have hn_Piece_minute : NoAttr K (He.ga K "Piece") "minute" := T.noat 38
    have hn_Piece_delay : NoAttr K (He.ga K "Piece") "delay" := T.noat 39
    have hn_Piece_least : NoAttr K (He.ga K "Piece") "least" := T.noat 40
    have hn_Piece_most : NoAttr K (He.ga K "Piece") "most" := T.noat 41
    have hcl_Break : Cls K (He.ga K "Break") := T.cls 44
    have hn_Break_name : NoAttr K (He.ga K "Break") "name" := T.noat 45
    have hn_Break_grid : NoAttr K (He.ga K "Break") "grid" := T.noat 46
    have hn_Break_minute : NoAttr K (He.ga K "Break") "minute" := T.noat 47
    have hn_Break_delay : NoAttr K (He.ga K "Break") "delay" := T.noat 48
    have hn_Break_places : NoAttr K (He.ga K "Break") "places" := T.noat 49
    have hn_Break_unit : NoAttr K (He.ga K "Break") "unit" := T.noat 50
    have hn_Break_patience : NoAttr K (He.ga K "Break") "patience" := T.noat 51
    have hcl_Span : Cls K (He.ga K "Span") := T.cls 57
    have hn_Span_low : NoAttr K (He.ga K "Span") "low" := T.noat 58
    have hn_Span_high : NoAttr K (He.ga K "Span") "high" := T.noat 59
    have hty_Outlook : ∀ {H : Hp} {a dx : Addr} {l : List (Str × V)}, H a = some (.ins (He.ga K "Outlook") dx l) → TyX K H (.ref a) (.ref (He.ga K "Outlook")) := fun e => T.inst 52 rfl (T.cls 100) e
    have hty_Order : ∀ {H : Hp} {a dx : Addr} {l : List (Str × V)}, H a = some (.ins (He.ga K "Order") dx l) → TyX K H (.ref a) (.ref (He.ga K "Order")) := fun e => T.inst 53 rfl (T.cls 90) e
    have hty_Span : ∀ {H : Hp} {a dx : Addr} {l : List (Str × V)}, H a = some (.ins (He.ga K "Span") dx l) → TyX K H (.ref a) (.ref (He.ga K "Span")) := fun e => T.inst 54 rfl (T.cls 57) e
    have hk_Outlook_Outlook : PySem.W.kitOne K (.ref (He.ga K "Outlook")) (.ref (He.ga K "Outlook")) = some true := T.kit 55 rfl
    have hk_Order_Order : PySem.W.kitOne K (.ref (He.ga K "Order")) (.ref (He.ga K "Order")) = some true := T.kit 56 rfl
    have hk_Span_Span : PySem.W.kitOne K (.ref (He.ga K "Span")) (.ref (He.ga K "Span")) = some true := T.kit 57 rfl
    obtain ⟨o, dxo, sd, ds, ey, hod, _⟩ := id ho.ex
    obtain ⟨h, as, t, nd, dxr, hor, hho, eo⟩ := hod.nums
    have la := hor.at_.1
    have l8 := ok.its.len
    have htup := hor.tup
    have wd := hsub.wide ok
    have lss : sps.length = D.its.length := hsub.1
    walk_at "rw"
    refine w_isi_own (hty_Outlook ey) hk_Outlook_Outlook ?_
    walk_at "rw"
    refine w_isi_own (hty_Order eo) hk_Order_Order ?_
    walk_at "rw"
    refine w_lcO ?_
    walk_at "rw"
    refine w_co eo htup (fun b => ⟨o, t, h, nd, dxr, _, _, rfl, eo, htup, fun it hi hb => (⟨it, rfl, hi, hb, rfl⟩ : kIt b H t (.ref it) (upd H it (ItT t it)))⟩) ?_
    refine lc_TH (goes_same H) htup (fun H' s => Same.tup s htup) (fun i acc H' => acc = ((D.its.map Itm.nm).take i).map V.str) (fun H' s => rfl) ?_ ?_
    · rintro Dl i x acc H1 hD hx rfl s1 hat
      obtain ⟨a, ea, rfl⟩ := at_map hx
      have il : i < D.its.length := by have := (List.getElem?_eq_some_iff.mp ea).1; omega
      obtain ⟨it, hit⟩ : ∃ it, D.its[i]? = some it := ⟨_, List.getElem?_eq_getElem il⟩
      have ia := (hor.at_.keep s1).2 i a it ea hit
      have hnm : (D.its.map Itm.nm)[i]? = some it.nm := by rw [List.getElem?_map, hit]; rfl
      have fin : kEltH Same H Dl (fun i acc H' => acc = ((D.its.map Itm.nm).take i).map V.str) i (V.str it.nm) H1 := eltH_done (goes_same H) hD hat (by rw [List.length_map, List.length_take, List.length_map]; omega) s1 (by rw [take_one hnm, List.map_append]; rfl)
      refine ⟨rfl, w_yes ?_⟩
      cases it with
      | pc z st of mi de lo hi =>
        obtain ⟨dxa, g, eai, hg⟩ := ia
        walk_at "rw"
        exact fin
      | br z st of mi de pl un pa =>
        obtain ⟨dxa, g, eai, hg⟩ := ia
        walk_at "rw"
        exact fin
    rintro n1 acc H1 hn1 s1 en1 rfl
    rw [List.length_map, la, show D.its.length = (D.its.map Itm.nm).length by rw [List.length_map], List.take_length] at en1
    walk_at "rw"
    refine day_8 (hv.keep (.same s1)) fun u8 hu8 => ?_
    refine lc_D (goes_same H1) hu8 (fun H' s => .same s) (fun n acc => acc = ((D.its.map Itm.nm).take n).map V.str) rfl ?_ ?_
    · rintro D3 n z e acc3 H6 hD3 he hz rfl s6 eD3
      obtain ⟨it, hit, rfl⟩ := at_dat he
      have hnm : (D.its.map Itm.nm)[n]? = some it.nm := by rw [List.getElem?_map, hit]; rfl
      have il := (List.getElem?_eq_some_iff.mp hit).1
      refine ⟨rfl, w_yes ?_⟩
      walk_at "rw"
      refine itm_1 hz ?_
      refine elt_done (goes_same H1) hD3 eD3 (by rw [List.length_map, List.length_take, List.length_map]; omega) s6 ?_
      rw [take_one hnm, List.map_append]
      rfl
    rintro n2 acc H2 hn2 s2 en2 rfl
    rw [List.length_map, show D.its.length = (D.its.map Itm.nm).length by rw [List.length_map], List.take_length] at en2
    have s02 := s1.trans s2
    walk_at "rw"
    refine use_sameD (X := []) (Y := []) (Dat.strs (fun z => nomatch z) (s2 _ _ en1)) (Dat.strs (fun z => nomatch z) en2) (nar_strs (by rw [List.length_map]; omega) _) ?_
    clear en1 en2 hn1 hn2 hu8 s1 s2
    walk_at "rw"
    refine day_8 (hv.keep (.same s02)) fun u8 hu8 => len_D (.inl hu8) ?_
    rw [List.length_map]
    walk_at "rw"
    refine ⟨_, rfl, by omega, by omega, for_range (n := D.its.length) (fun i σ H' => Same H H' ∧ ∃ (w4 w5 w6 : Option V), σ = [some (.ref y), some v, some u, none, w4, w5, w6, none, none, none, none, none, none]) ⟨s02, _, _, _, rfl⟩ ?_ ?_⟩
    · rintro i σ H3 hi ⟨s3, w4, w5, w6, rfl⟩
      obtain ⟨it, hit⟩ : ∃ it, D.its[i]? = some it := ⟨_, List.getElem?_eq_getElem hi⟩
      obtain ⟨sp, hsp⟩ : ∃ sp, sps[i]? = some sp := ⟨_, List.getElem?_eq_getElem (by omega)⟩
      have l20 := (wd.2 sp (List.mem_of_getElem? hsp)).1
      walk_at "rw"
      refine sps_at (hu.keep (.same s3)) hsp (by omega) fun u1 hu1 => len_sp hu1 ?_
      walk_at "rw"
      refine ⟨_, rfl, by omega, by omega, for_range (n := sp.length) (fun j σ H' => Same H H' ∧ ∃ (w5 w6 : Option V), σ = [some (.ref y), some v, some u, none, some (.int (0 + (i : Int))), w5, w6, none, none, none, none, none, none]) ⟨s3, _, _, rfl⟩ ?_ ?_⟩
      · rintro j σ H4 hj ⟨s4, w5, w6, rfl⟩
        obtain ⟨s, hs⟩ : ∃ s, sp[j]? = some s := ⟨_, List.getElem?_eq_getElem hj⟩
        have l4 : sp.length ≤ 4 := by
          obtain ⟨it', hit', ll⟩ := Each.atL hsub.len hsp
          rw [ll]
          exact lim_len D it'
        obtain ⟨w, hw⟩ : ∃ w, lagW[j]? = some w := ⟨_, List.getElem?_eq_getElem (show j < 4 by omega)⟩
        obtain ⟨eE, eS⟩ := look_at ok.its.nd hsub.len hit hsp hw hs
        walk_at "rw"
        refine day_8 (hv.keep (.same s4)) fun u8 hu8 => ?_
        walk_at "rw"
        refine day_its (hv.keep (.same s4)) hu8 hit (by omega) fun wi hwi => ?_
        walk_at "rw"
        refine itm_1 hwi ?_
        walk_at "rw"
        refine ⟨rfl, fun wl H5 hwl s5 ewl => ?_⟩
        walk_at "rw"
        refine ix_St (K := K) (X := []) (ss := lagW) (Dat.strs (fun z => nomatch z) ewl) (by omega) (by omega) hw ?_
        have s05 := s4.trans s5
        have ey5 := s05 _ _ ey
        walk_at "rw"
        refine ⟨y, D, sps, it.nm, w, rfl, ho.keep s05, ok.its.nd, fun _ a hspan => ?_, fun e2 => (by rw [eE] at e2; cases e2), fun e2 => (by rw [eE] at e2; cases e2)⟩
        rw [eS] at hspan
        obtain ⟨dxs, eas⟩ := id hspan
        walk_at "rw"
        refine w_isi_own (hty_Span eas) hk_Span_Span ?_
        walk_at "rw"
        rename_i l1 H6 hl1 s6 el1
        have s06 := s05.trans s6
        refine sps_at (hu.keep (.same s06)) hsp (by omega) fun u2 hu2 => ?_
        walk_at "rw"
        refine sp_at hu2 hs (by omega) fun t2 ht2 => ?_
        refine list_D (K := K) (X := []) (ds := [PyData.int s.1, .int s.2]) (.inr (pr_dat ht2)) fun l2 xs H7 hl2 s7 el2 da => ?_
        walk_at "rw"
        refine use_sameD (X := []) (Y := []) (Dat.ints (ns := [s.1, s.2]) (fun z => nomatch z) (s7 _ _ el1)) (da.newL (fun z => nomatch z) el2) (nar_list (show 2 ≤ 1000000 by decide) fun d m => by simp only [List.map_cons, List.map_nil, List.mem_cons, List.not_mem_nil, or_false] at m; rcases m with rfl | rfl <;> exact trivial) ?_
        walk_at "rw"
        exact ⟨s06.trans s7, _, _, rfl⟩
      · rintro σ H4 ⟨s4, w5, w6, rfl⟩
        exact ⟨s4, _, _, _, rfl⟩
    rintro σ H3 ⟨s3, w4, w5, w6, rfl⟩
    walk_at "rw"
    refine lc_DH (goes_same H3) (hu.keep (.same s3)) (fun H' s => .same s) (fun j acc H' => ∃ ts : List Addr, acc = ts.map V.ref ∧ RowT K H' ts ((lows sps).take j)) (fun H' s => ⟨[], rfl, Each.nil⟩) ?_ ?_
    · rintro D2 j x d acc2 H5 hD2 hd hx ⟨ts, rfl, rt⟩ s5 eD2
      obtain ⟨sp, hsp, rfl⟩ := at_dat hd
      have hsl : (lows sps)[j]? = some (sp.map Prod.fst) := by unfold lows; rw [List.getElem?_map, hsp]; rfl
      have lts := rt.1
      have lj : j < sps.length := (List.getElem?_eq_some_iff.mp hsp).1
      have l20 := (wd.2 sp (List.mem_of_getElem? hsp)).1
      refine ⟨rfl, w_yes ?_⟩
      walk_at "rw"
      refine lc_D (goes_same H5) hx (fun H' s => .same s) (fun n acc => acc = ((sp.map Prod.fst).take n).map V.int) rfl ?_ ?_
      · rintro D3 n z e acc3 H6 hD3 he hz rfl s6 eD3
        obtain ⟨q, hq, rfl⟩ := at_dat he
        obtain ⟨t, wz, rfl, sq, aa⟩ := Dat.tuple hz
        have aa : DatA K Y H6 wz ([q.1, q.2].map PyData.int) := aa
        have ew := datA_ints aa
        subst ew
        have sq : SqT K H6 t [.int q.1, .int q.2] := sq
        refine ⟨rfl, w_yes ?_⟩
        walk_at "rq"
        refine elt_done (goes_same H5) hD3 eD3 (by rw [List.length_map, List.length_take, List.length_map]; omega) s6 ?_
        rw [take_one (show (sp.map Prod.fst)[n]? = some (Prod.fst q) by rw [List.getElem?_map, hq]; rfl), List.map_append]
        rfl
      · rintro l acc3 H6 hl s6 el3 rfl
        rw [List.length_map, show sp.length = (sp.map Prod.fst).length by rw [List.length_map], List.take_length] at el3
        walk_at "rw"
        rename_i t H7 ht s7 et
        have e7 := s7 _ _ (s6 _ _ eD2)
        refine eltH_done (goes_same H3) hD2 e7 (by rw [List.length_map, lts, List.length_take]; omega) ((s5.trans s6).trans s7) ⟨ts ++ [t], by rw [List.map_append]; rfl, ?_⟩
        rw [take_one hsl]
        exact Each.snoc ((rt.keep (s6.trans s7)).keeps (X := [D2]) (.put (by simp) e7)) ((Keeps.put (X := [D2]) (by simp) e7 : Keeps [D2] H7 _).sqT (SqT.of et))
    rintro L1 acc2 H4 hL1 s4 eL1 ⟨ts1, rfl, rt1⟩
    rw [List.length_map, show sps.length = (lows sps).length by unfold lows; rw [List.length_map], List.take_length] at rt1
    have d1 : Dat K [] H4 (.ref L1) (rowD (lows sps)) := row_dat (fun z => nomatch z) eL1 rt1
    have s04 := s3.trans s4
    clear rt1 eL1 hL1
    walk_at "rw"
    refine lc_DH (goes_same H4) (hu.keep (.same s04)) (fun H' s => .same s) (fun j acc H' => ∃ ts : List Addr, acc = ts.map V.ref ∧ RowT K H' ts ((highs sps).take j)) (fun H' s => ⟨[], rfl, Each.nil⟩) ?_ ?_
    · rintro D2 j x d acc2 H5 hD2 hd hx ⟨ts, rfl, rt⟩ s5 eD2
      obtain ⟨sp, hsp, rfl⟩ := at_dat hd
      have hsl : (highs sps)[j]? = some (sp.map Prod.snd) := by unfold highs; rw [List.getElem?_map, hsp]; rfl
      have lts := rt.1
      have lj : j < sps.length := (List.getElem?_eq_some_iff.mp hsp).1
      have l20 := (wd.2 sp (List.mem_of_getElem? hsp)).1
      refine ⟨rfl, w_yes ?_⟩
      walk_at "rw"
      refine lc_D (goes_same H5) hx (fun H' s => .same s) (fun n acc => acc = ((sp.map Prod.snd).take n).map V.int) rfl ?_ ?_
      · rintro D3 n z e acc3 H6 hD3 he hz rfl s6 eD3
        obtain ⟨q, hq, rfl⟩ := at_dat he
        obtain ⟨t, wz, rfl, sq, aa⟩ := Dat.tuple hz
        have aa : DatA K Y H6 wz ([q.1, q.2].map PyData.int) := aa
        have ew := datA_ints aa
        subst ew
        have sq : SqT K H6 t [.int q.1, .int q.2] := sq
        refine ⟨rfl, w_yes ?_⟩
        walk_at "rq"
        refine elt_done (goes_same H5) hD3 eD3 (by rw [List.length_map, List.length_take, List.length_map]; omega) s6 ?_
        rw [take_one (show (sp.map Prod.snd)[n]? = some (Prod.snd q) by rw [List.getElem?_map, hq]; rfl), List.map_append]
        rfl
      · rintro l acc3 H6 hl s6 el3 rfl
        rw [List.length_map, show sp.length = (sp.map Prod.snd).length by rw [List.length_map], List.take_length] at el3
        walk_at "rw"
        rename_i t H7 ht s7 et
        have e7 := s7 _ _ (s6 _ _ eD2)
        refine eltH_done (goes_same H4) hD2 e7 (by rw [List.length_map, lts, List.length_take]; omega) ((s5.trans s6).trans s7) ⟨ts ++ [t], by rw [List.map_append]; rfl, ?_⟩
        rw [take_one hsl]
        exact Each.snoc ((rt.keep (s6.trans s7)).keeps (X := [D2]) (.put (by simp) e7)) ((Keeps.put (X := [D2]) (by simp) e7 : Keeps [D2] H7 _).sqT (SqT.of et))
    rintro L2 acc2 H5 hL2 s5 eL2 ⟨ts2, rfl, rt2⟩
    rw [List.length_map, show sps.length = (highs sps).length by unfold highs; rw [List.length_map], List.take_length] at rt2
    have d2 : Dat K [] H5 (.ref L2) (rowD (highs sps)) := row_dat (fun z => nomatch z) eL2 rt2
    have d1 := d1.keep (.same s5)
    have s05 := s04.trans s5
    clear rt2 eL2 hL2
    have ey5 := s05 _ _ ey
    have fl : ∀ (f : Int × Int → Int), (sps.map fun sp => sp.map f).length ≤ 1000 ∧ ∀ l ∈ (sps.map fun sp => sp.map f), l.length ≤ 1000 := fun f => ⟨by rw [List.length_map]; omega, fun l m => by
      obtain ⟨sp, ms, rfl⟩ := List.mem_map.mp m
      rw [List.length_map]
      have := (wd.2 sp ms).1
      omega⟩
    walk_at "rw"
    refine ⟨y, D, k, sps, rfl, ho.keep s05, ok, fun r1 t1 H6 hr1 s6 er1 rt1 => ?_⟩
    have s06 := s05.trans s6
    have ey6 := s06 _ _ ey
    walk_at "rw"
    refine ⟨y, D, k, sps, rfl, ho.keep s06, ok, fun r2 t2 H7 hr2 s7 er2 rt2 => ?_⟩
    have s07 := s06.trans s7
    walk_at "rw"
    refine use_sameD (X := []) (row_dat (fun z => nomatch z) (s7 _ _ er1) (rt1.keep s7)) (d1.keep (.same (s6.trans s7))) (nar_rowG (fl Prod.fst).1 (fl Prod.fst).2 _) ?_
    walk_at "rw"
    refine use_sameD (X := []) (row_dat (fun z => nomatch z) er2 rt2) (d2.keep (.same (s6.trans s7))) (nar_rowG (fl Prod.snd).1 (fl Prod.snd).2 _) ?_
    have er1' := s7 _ _ er1
    walk_at "rw"
    rename_i te H8 hte s8 ete
    refine w_app (s8 _ _ er1') (by rw [List.length_map, rt1.1, lows, List.length_map, sizeLine_eq]; omega) ?_
    have sA := same_put (o := .lst (t1.map V.ref ++ [.ref te])) ((s6.trans s7).trans s8) hr1
    have r12 : r2 ≠ r1 := fun z => by rw [z, er1] at hr2; cases hr2
    have er2' : upd H8 r1 (.lst (t1.map V.ref ++ [.ref te])) r2 = some (.lst (t2.map V.ref)) := by rw [upd_ne r12]; exact s8 _ _ er2
    have n2 : H5 r2 = none := same_none s6 hr2
    generalize upd H8 r1 (.lst (t1.map V.ref ++ [.ref te])) = H9 at sA er2' ⊢
    walk_at "rw"
    refine w_clear er2' ?_
    have sB := same_put (o := .lst []) sA n2
    generalize upd H9 r2 (.lst []) = Ha at sB ⊢
    have s0B := s05.trans sB
    have eyB := s0B _ _ ey
    clear sA er2' er1' er1 er2 rt1 rt2 ey5 ey6 s06 s07 s6 s7 s8
    walk_at "rw"
    refine ⟨y, D, k, sps, rfl, ho.keep s0B, ok, fun r3 t3 Hb hr3 sb er3 rt3 => ?_⟩
    walk_at "rw"
    refine use_sameD (X := []) (row_dat (fun z => nomatch z) er3 rt3) (d1.keep (.same (sB.trans sb))) (nar_rowG (fl Prod.fst).1 (fl Prod.fst).2 _) ?_
    have s0b := s0B.trans sb
    have eyb := s0b _ _ ey
    walk_at "rw"
    refine ⟨y, D, k, sps, rfl, ho.keep s0b, ok, fun r4 t4 Hc hr4 sc er4 rt4 => ?_⟩
    walk_at "rw"
    refine use_sameD (X := []) (row_dat (fun z => nomatch z) er4 rt4) (d2.keep (.same ((sB.trans sb).trans sc))) (nar_rowG (fl Prod.snd).1 (fl Prod.snd).2 _) ?_
    walk_at "rw"
    exact hQ Hc (s0b.trans sc)

end
end My
namespace My
open PySem PySem.Spec PyProof.Rows L2 Rd
section
variable {P : Program} {w : World} {K : PySem.W.Frag} {mg : Str → Option Value} {base : Heap}
open NameM
theorem nar_exp2 {D : DayD} {sps : List (List (Int × Int))} {z w : Str} {lo hi : Int} (n : Nat) : Nar (n + 3) (expD D sps z w lo hi 2) := by
  unfold expD
  split
  · exact nar_why _ _ _
  · rw [if_pos rfl]
    exact nar_list (show 1 ≤ 1000000 by decide) fun d m => by
      rw [List.mem_singleton.mp m]
      exact nar_list (show 2 ≤ 1000000 by decide) fun d m => by
        simp only [List.mem_cons, List.not_mem_nil, or_false] at m
        rcases m with rfl | rfl <;> exact trivial
/-- what narrowed has answered -/
def Act (K : PySem.W.Frag) (X : List Addr) (H : Hp) (D : DayD) (sps : List (List (Int × Int))) (z w : Str) (lo hi n : Int) (x : V) : Prop :=
  (∃ kk s, errO D sps z w lo hi n = some (kk, s) ∧ ∃ u, x = .ref u ∧ H u = some (.tup [.str kk, .str s, .bl true, .bl true, .bl false, .bl false, .bl false])) ∨
  (errO D sps z w lo hi n = none ∧ ∃ l y', x = .ref l ∧ l ∉ X ∧ H l = some (.lst [.ref y']) ∧ OutD K H y' D (narS D sps z w (lo, hi)))
theorem Act.keep {K : PySem.W.Frag} {X : List Addr} {H H' : Hp} {D : DayD} {sps : List (List (Int × Int))} {z w : Str} {lo hi n : Int} {x : V} (h : Act K X H D sps z w lo hi n x) (s : Same H H') : Act K X H' D sps z w lo hi n x := by
  rcases h with ⟨kk, q, e, u, rfl, eu⟩ | ⟨e, l, y', rfl, nl, el, ho⟩
  · exact .inl ⟨kk, q, e, u, rfl, s _ _ eu⟩
  · exact .inr ⟨e, l, y', rfl, nl, s _ _ el, ho.keep s⟩

theorem sc_law : FnScope ["_law_script", "_law_pool_here", "_law_day_here", "_law_outlooks", "_law_known", "_law_k", "_law_at", "_law_call", "_law_expected_here", "_law_actual", "_law_span_outcome"] ["_law_script"] (defScope (top 77)) := ⟨rfl, rfl, rfl, by decide +kernel, rfl, by decide +kernel, by decide +kernel⟩
theorem ok_law (T : Tx fa fn xa fs P K mg) {f : Addr} {fd : FuncData} (F : FunD K "law" "law" (defArgs (top 77)) (defBody (top 77)) (defScope (top 77)) [] [] f fd) : FnOk P w K mg base CX0 13 f fd ["_law_script"] (spLaw K) := by
  have sc := sc_law
  refine F.ok sc (fun vs H Q E h => ?len) (fun cdv A outer s H vs Q E hr h => ⟨_, PSs.nox (pss_cons (ps_set (i := 1) sc.nd rfl (by first | exact Or.inl rfl | exact Or.inr rfl) (pe_cg (g__law_pool T) (hr.mono (by decide)) rfl (pa_cons (pv 0) pa_nil)))
    (pss_cons (ps_set (i := 2) sc.nd rfl (by first | exact Or.inl rfl | exact Or.inr rfl) (pe_cg (g__law_enlarged T) (hr.mono (by decide)) rfl (pa_cons (pv 1) (pa_cons (pe_cg (g__law_day T) (hr.mono (by decide)) rfl (pa_cons (pv 1) (pa_cons pe_bl (pa_cons pe_int pa_nil)))) pa_nil))))
    (pss_cons (ps_set (i := 3) sc.nd rfl (by first | exact Or.inl rfl | exact Or.inr rfl) (pe_lst (pa_cons (pe_mkE (mk_Outlook T) (hr.mono (by decide)) rfl passL (pa_cons (pe_cg (g__law_order T) (hr.mono (by decide)) rfl (pa_cons (pv 2) pa_nil)) pa_nil)) pa_nil)))
    (pss_cons (ps_set (i := 4) sc.nd rfl (by first | exact Or.inl rfl | exact Or.inr rfl) (pe_lst (pa_cons (pe_cg (g__law_spans T) (hr.mono (by decide)) rfl (pa_cons (pv 2) pa_nil)) pa_nil)))
    (pss_cons (ps_for PassesOwn.never rfl (pi_range1 (by rfl) (T.free 8) (pa_cons pe_int pa_nil)) (pg_name (i := 5) sc.nd rfl (by first | exact Or.inl rfl | exact Or.inr rfl)) (pss_cons (ps_set (i := 6) sc.nd rfl (by first | exact Or.inl rfl | exact Or.inr rfl) (pe_cg (g__law_take T) (hr.mono (by decide)) rfl (pa_cons (pv 1) (pa_cons (pe_callB cLen (by rfl) (T.free 6) (by decide +kernel) (pa_cons (pv 3) pa_nil)) pa_nil))))
    (pss_cons (ps_set (i := 7) sc.nd rfl (by first | exact Or.inl rfl | exact Or.inr rfl) (pe_cg (g__law_draw T) (hr.mono (by decide)) rfl (pa_cons (pv 1) (pa_cons (pv 2) (pa_cons (pe_ix ix_seq (pv 4) (pv 6) (fun _ _ => rfl)) pa_nil)))))
    (pss_cons (ps_set (i := 8) sc.nd rfl (by first | exact Or.inl rfl | exact Or.inr rfl) (pe_cg (g__law_expected T) (hr.mono (by decide)) rfl (pa_cons (pv 2) (pa_cons (pe_ix ix_seq (pv 4) (pv 6) (fun _ _ => rfl)) (pa_cons (pv 7) (pa_cons pe_int pa_nil))))))
    (C8.pss_cut (ps_set (i := 9) sc.nd rfl (by first | exact Or.inl rfl | exact Or.inr rfl) (pe_cg (g__law_outcome T) (hr.mono (by decide)) rfl (pa_cons (pe_ix ix_seq (pv 3) (pv 6) (fun _ _ => rfl)) (pa_cons (pv 7) (pa_cons pe_int pa_nil)))))
    (C8.pss_cut (ps_set (i := 10) sc.nd rfl (by first | exact Or.inl rfl | exact Or.inr rfl) (pe_cg (g__law_outcome T) (hr.mono (by decide)) rfl (pa_cons (pe_ix ix_seq (pv 3) (pv 6) (fun _ _ => rfl)) (pa_cons (pv 7) (pa_cons pe_int pa_nil)))))
    (C8.pss_cut (ps_if (pt_val (pe_callB cIsi (by rfl) (T.free 0) (by decide +kernel) (pa_cons (pv 10) (pa_cons (pe_bltn (v := .ty "list") (u := .type "list") rfl (T.free 4) (by decide +kernel) rfl) pa_nil)))) (pss_one (ps_set (i := 10) sc.nd rfl (by first | exact Or.inl rfl | exact Or.inr rfl) (pe_lst (pa_cons (pe_lst (pa_cons (pe_fld (pe_ix ix_seq (pv 10) pe_int (fun _ _ => rfl)) rfl) (pa_cons (pe_fld (pe_ix ix_seq (pv 10) pe_int (fun _ _ => rfl)) rfl) pa_nil))) pa_nil)))) pss_nil)
    (pss_cons (ps_if (pt_not (pt_val (pe_cg (g__law_same T 6) (hr.mono (by decide)) rfl (pa_cons (pv 10) (pa_cons (pe_cg (g__law_expected T) (hr.mono (by decide)) rfl (pa_cons (pv 2) (pa_cons (pe_ix ix_seq (pv 4) (pv 6) (fun _ _ => rfl)) (pa_cons (pv 7) (pa_cons pe_int pa_nil))))) pa_nil))))) (pss_one (ps_ret pe_bl)) pss_nil)
    (pss_one (ps_if (pt_val (pe_callB cIsi (by rfl) (T.free 0) (by decide +kernel) (pa_cons (pv 8) (pa_cons (pe_bltn (v := .ty "tuple") (u := .type "tuple") rfl (T.free 72) (by decide +kernel) rfl) pa_nil)))) (pss_one (ps_if (pt_not (pt_val (pe_cg (g__law_same T 6) (hr.mono (by decide)) rfl (pa_cons (pv 9) (pa_cons (pv 8) pa_nil))))) (pss_one (ps_ret pe_bl)) pss_nil)) (pss_cons (ps_if (PW.pt (pw_or (pt_not (pt_val (pe_callB cIsi (by rfl) (T.free 0) (by decide +kernel) (pa_cons (pv 9) (pa_cons (pe_bltn (v := .ty "list") (u := .type "list") rfl (T.free 4) (by decide +kernel) rfl) pa_nil))))) (pw_or1 (pt_not (pt_val (pe_cg (g__law_matches T) (hr.mono (by decide)) rfl (pa_cons (pe_ix ix_seq (pv 9) pe_int (fun _ _ => rfl)) (pa_cons (pv 2) (pa_cons (pv 8) pa_nil))))))))) (pss_one (ps_ret pe_bl)) pss_nil)
    (pss_cons (ps_expr (pe_bm PySem.F.plainAttrs_list PySem.F.slot_list_append PySem.F.type_list_append mt_append (pv 3) (pa_cons (pe_ix ix_seq (pv 9) pe_int (fun _ _ => rfl)) pa_nil)))
    (pss_one (ps_expr (pe_bm PySem.F.plainAttrs_list PySem.F.slot_list_append PySem.F.type_list_append mt_append (pv 4) (pa_cons (pv 8) pa_nil))))))))))))))))
    (pss_cons (ps_for PassesOwn.never rfl (pi_range1 (by rfl) (T.free 8) (pa_cons (pe_callB cLen (by rfl) (T.free 6) (by decide +kernel) (pa_cons (pv 3) pa_nil)) pa_nil)) (pg_name (i := 5) sc.nd rfl (by first | exact Or.inl rfl | exact Or.inr rfl)) (pss_one (ps_if (pt_not (pt_val (pe_cg (g__law_matches T) (hr.mono (by decide)) rfl (pa_cons (pe_ix ix_seq (pv 3) (pv 5) (fun _ _ => rfl)) (pa_cons (pv 2) (pa_cons (pe_ix ix_seq (pv 4) (pv 5) (fun _ _ => rfl)) pa_nil)))))) (pss_one (ps_ret pe_bl)) pss_nil)))
    (pss_one (ps_ret pe_bl)))))))), ?rd⟩)
  case len =>
    obtain ⟨a, is, rfl, _⟩ := h
    rfl
  case rd =>
    obtain ⟨a, is, rfl, _, hs, hQ⟩ := h
    show tSeq _ _ ⟨_, _, _, _⟩ [some (.ref a), none, none, none, none, none, none, none, none, none, none] H
    try dsimp only [cxOf]
    have hcl_Span : Cls K (He.ga K "Span") := T.cls 57
    have hn_Span_low : NoAttr K (He.ga K "Span") "low" := T.noat 58
    have hn_Span_high : NoAttr K (He.ga K "Span") "high" := T.noat 59
    walk_at "rw"
    refine ⟨a, is, rfl, hs, fun p H1 hp hk hp1 => ?_⟩
    walk_at "rw"
    refine ⟨p, false, 8, rfl, by decide, hp1, fun dl D0 H2 hdl d2 dat0 ok0 => ?_⟩
    walk_at "rw"
    refine ⟨p, .ref dl, D0, 8, rfl, d2.pool, dat0, ok0, fun v D H3 d3 hv3 ok => ?_⟩
    have hp3 := d3.pool
    clear d3 dat0 d2 hdl ok0 hp1 hp hk
    have l8 := ok.its.len
    have lim8 : (D.its.map (lim D)).length ≤ 8 := by rw [List.length_map]; omega
    walk_at "rw"
    refine ⟨v, D, _, 8, rfl, hv3, ok, fun o h as t nd H4 ho s4 hor hho => ?_⟩
    have od4 : OrdD K H4 o D := ⟨h, as, t, nd, hor, hho⟩
    have hv4 := hv3.keep (.same s4)
    have hp4 := hp3.same s4
    clear s4 hv3 hp3 hor hho ho
    walk_at "rw"
    refine use_outlook od4 ok fun y0 H5 hy0 s5 ho5 _ => ?_
    have hv5 := hv4.keep (.same s5)
    have hp5 := hp4.same s5
    clear s5 hv4 hp4 od4 hy0
    walk_at "rw"
    rename_i ol H6 hol s6 eol
    have hv6 := (hv5.off hol).keep (.same s6)
    have hp6 := hp5.same s6
    have ho6 := ho5.keep s6
    have olp : ol ≠ p := ne_pool hp5 hol
    clear s6 hv5 hp5 ho5 hol
    refine ⟨v, D, [ol, p], [ol, p], rfl, hv6, by omega, fun b m => by
      rcases List.mem_cons.mp m with rfl | m
      · rw [eol]; exact fun z => nomatch z
      · exact hp6.ne b m, fun sl ls H7 hsl nls s7 hm7 => ?_⟩
    have hv7 := hv6.keep (.same s7)
    have hp7 := hp6.same s7
    have ho7 := ho6.keep s7
    have eol7 := s7 _ _ eol
    have hs7 := hm7.dat
    clear s7 hv6 hp6 ho6 eol hm7 nls hsl
    walk_at "rw"
    rename_i kl H8 hkl s8 ekl
    have hv8 := (hv7.off hkl).keep (.same s8)
    have hs8 := (hs7.off hkl).keep (.same s8)
    have hp8 := hp7.same s8
    have ho8 := ho7.keep s8
    have eol8 := s8 _ _ eol7
    have klp : kl ≠ p := ne_pool hp7 hkl
    have klo : kl ≠ ol := fun z => by rw [z, eol7] at hkl; cases hkl
    clear s8 hv7 hp7 ho7 eol7 hs7 hkl
    refine ⟨6, rfl, by omega, by omega, for_range (n := 6) (fun i σ H' => ∃ (ys : List Addr) (us : List V), PoolAt H' p ∧ Dat K [kl, ol, p] H' v D.dat ∧ H' ol = some (.lst (ys.map V.ref)) ∧ H' kl = some (.lst us) ∧ Knows K [kl, ol, p] H' D ys us ∧ 1 ≤ ys.length ∧ ys.length ≤ i + 1 ∧ ∃ (w5 w6 w7 w8 w9 w10 : Option V), σ = [some (.ref a), some (.ref p), some v, some (.ref ol), some (.ref kl), w5, w6, w7, w8, w9, w10]) ⟨[y0], [.ref sl], hp8, hv8, eol8, ekl, (Each.snoc Each.nil ⟨_, ho8, hs8, .full ok⟩ : Knows K [kl, ol, p] H8 D ([] ++ [y0]) ([] ++ [.ref sl])), Nat.le_refl _, Nat.le_refl _, _, _, _, _, _, _, rfl⟩ ?_ ?_⟩
    · rintro i σ H9 hi ⟨ys, us, hp, hv, eo, ek, kn, y1, y6, w5, w6, w7, w8, w9, w10, rfl⟩
      have lm : (ys.map V.ref).length = ys.length := List.length_map ..
      walk_at "rw"
      rename_i at_ Ha a0 a1 da
      obtain ⟨m, rfl⟩ := Int.eq_ofNat_of_zero_le a0
      obtain ⟨y, hy⟩ : ∃ y, ys[m]? = some y := ⟨_, List.getElem?_eq_getElem (by omega)⟩
      obtain ⟨u, hu, _⟩ := Each.atL kn hy
      have ka : Keeps [kl, ol, p] H9 Ha := .drawn (by simp) da
      have hpa := da.pool
      have hva := hv.keep ka
      have eoa := da.lst olp eo
      have eka := da.lst klp ek
      have kna := kn.keeps ka
      clear hp hv eo ek kn ka da
      obtain ⟨sps, hOa, hUa, hsub⟩ := kna.2 m y u hy hu
      have kn0 : ys.length = us.length := kna.1
      have hyv : (ys.map V.ref)[m]? = some (.ref y) := by rw [List.getElem?_map, hy]; rfl
      refine w_ixL (SqL.of eka) (atI_nat hu) ?_
      walk_at "rw"
      refine ⟨p, v, u, D, 8, sps, [kl, ol, p], rfl, hpa, by simp, hva, hUa, hsub, ok, fun t z w lo hi Hb db etb => ?_⟩
      have kb : Keeps [kl, ol, p] Ha Hb := .drawn (by simp) db
      have hpb := db.pool
      have hvb := hva.keep kb
      have eob := db.lst olp eoa
      have ekb := db.lst klp eka
      have knb := kna.keeps kb
      have hOb := hOa.keeps kb
      have hUb := hUa.keep kb
      obtain ⟨au, _, eu, _⟩ := hUa.list
      clear hpa hva eoa eka kna hOa hUa kb db
      have hZb : ∀ b ∈ [kl, ol, p], Hb b ≠ none := fun b m => by
        rcases List.mem_cons.mp m with rfl | m
        · rw [ekb]; exact fun z => nomatch z
        rcases List.mem_cons.mp m with rfl | m
        · rw [eob]; exact fun z => nomatch z
        · exact hpb.ne b m
      walk_at "rw"
      refine w_ixL (SqL.of ekb) (atI_nat hu) ?_
      walk_at "rw"
      refine ⟨v, u, t, z, w, lo, hi, 4, D, 8, sps, _, _, [kl, ol, p], rfl, hvb, hUb, SqT.of etb, hsub, ok, hZb, fun r Hc sc hr => ?_⟩
      walk_at "rw"
      have eoc := sc _ _ eob
      have etc := sc _ _ etb
      refine w_cut (fun σ' H' => Same Hb H' ∧ ∃ x, Act K [kl, ol, p] H' D sps z w lo hi 4 x ∧ Dat K [kl, ol, p] H' r (expD D sps z w lo hi 4) ∧ σ' = [some (.ref a), some (.ref p), some v, some (.ref ol), some (.ref kl), some (.int (0 + (i : Int))), some (.int (m : Int)), some (.ref t), some r, some x, w10]) ?_ ?_
      · walk_at "rw"
        refine w_ixL (SqL.of eoc) (atI_nat hyv) ?_
        walk_at "rw"
        refine ⟨y, t, z, w, lo, hi, 4, D, 8, sps, rfl, hOb.keep sc, ok, SqT.of etc, fun kk q e u2 H' s2 eu => ?_, fun _ n => absurd n (by decide), fun e _ l y' H' hl s2 el ho => ?_⟩
        · walk_at "rw"
          exact ⟨sc.trans s2, _, .inl ⟨kk, q, e, u2, rfl, eu⟩, hr.keep (.same s2), rfl⟩
        · walk_at "rw"
          exact ⟨sc.trans s2, _, .inr ⟨e, l, y', rfl, fun m => hZb l m (same_none sc hl), el, ho⟩, hr.keep (.same s2), rfl⟩
      clear eoc etc hr sc
      rintro σ' Hd ⟨sd, x, hx, hr, rfl⟩
      have eod := sd _ _ eob
      have etd := sd _ _ etb
      walk_at "rw"
      refine w_cut (fun σ' H' => Same Hb H' ∧ ∃ x2, ((∃ kk q, errO D sps z w lo hi 2 = some (kk, q) ∧ ∃ u, x2 = V.ref u ∧ H' u = some (.tup [.str kk, .str q, .bl true, .bl true, .bl false, .bl false, .bl false])) ∨ (errO D sps z w lo hi 2 = none ∧ ∃ l b, x2 = V.ref l ∧ H' l = some (.lst [.ref b]) ∧ IsSpan K H' b (lookS D sps z w).1 (lookS D sps z w).2)) ∧ Act K [kl, ol, p] H' D sps z w lo hi 4 x ∧ Dat K [kl, ol, p] H' r (expD D sps z w lo hi 4) ∧ σ' = [some (.ref a), some (.ref p), some v, some (.ref ol), some (.ref kl), some (.int (0 + (i : Int))), some (.int (m : Int)), some (.ref t), some r, some x, some x2]) ?_ ?_
      · walk_at "rw"
        refine w_ixL (SqL.of eod) (atI_nat hyv) ?_
        walk_at "rw"
        refine ⟨y, t, z, w, lo, hi, 2, D, 8, sps, rfl, hOb.keep sd, ok, SqT.of etd, fun kk q e u2 H' s2 eu => ?_, fun e _ l b H' hl s2 el hb => ?_, fun _ n => absurd rfl n⟩
        · walk_at "rw"
          exact ⟨sd.trans s2, _, .inl ⟨kk, q, e, u2, rfl, eu⟩, hx.keep s2, hr.keep (.same s2), rfl⟩
        · walk_at "rw"
          exact ⟨sd.trans s2, _, .inr ⟨e, l, b, rfl, el, hb⟩, hx.keep s2, hr.keep (.same s2), rfl⟩
      clear eod etd hx hr sd
      rintro σ' Hd ⟨sd, x2, hx2, hx, hr, rfl⟩
      walk_at "rw"
      refine w_cut (fun σ' H' => Same Hb H' ∧ ∃ x2, Dat K [kl, ol, p] H' x2 (expD D sps z w lo hi 2) ∧ Act K [kl, ol, p] H' D sps z w lo hi 4 x ∧ Dat K [kl, ol, p] H' r (expD D sps z w lo hi 4) ∧ σ' = [some (.ref a), some (.ref p), some v, some (.ref ol), some (.ref kl), some (.int (0 + (i : Int))), some (.int (m : Int)), some (.ref t), some r, some x, some x2]) ?_ ?_
      · rcases hx2 with ⟨kk, q, e, u2, rfl, eu⟩ | ⟨e, l, b, rfl, el, hb⟩
        · walk_at "rw"
          exact ⟨sd, _, by rw [exp_why e]; exact why_dat eu, hx, hr, rfl⟩
        · obtain ⟨dxb, eb⟩ := id hb
          walk_at "rw"
          rename_i l1 H1 hl1 s1 el1 l2 H2 hl2 s2 el2
          have s12 := s1.trans s2
          exact ⟨sd.trans s12, _, by rw [exp_2 e rfl]; exact DatA.newL (.cons (DatA.newL (.cons (.int _) (.cons (.int _) .nil)) (fun m => hZb l1 m (same_none sd hl1)) (s2 _ _ el1)) .nil) (fun m => hZb l2 m (same_none (sd.trans s1) hl2)) el2, hx.keep s12, hr.keep (.same s12), rfl⟩
      clear hx hr sd hx2
      rintro σ' Hd ⟨sd, x2, hx2, hx, hr, rfl⟩
      have ekd := sd _ _ ekb
      walk_at "rw"
      refine w_ixL (SqL.of ekd) (atI_nat hu) ?_
      walk_at "rw"
      refine ⟨v, u, t, z, w, lo, hi, 2, D, 8, sps, _, _, [kl, ol, p], rfl, hvb.keep (.same sd), hUb.keep (.same sd), SqT.of (sd _ _ etb), hsub, ok, fun b m => fun c => hZb b m (same_none sd c), fun r2 Hf sf hr2 => ?_⟩
      walk_at "rw"
      refine use_sameD (hx2.keep (.same sf)) hr2 (nar_exp2 _) ?_
      have sbf := sd.trans sf
      have hvf := hvb.keep (.same sbf)
      have hpf := hpb.same sbf
      have eof := sbf _ _ eob
      have ekf := sbf _ _ ekb
      have knf := knb.keeps (.same sbf)
      have hxf := hx.keep sf
      have hrf := hr.keep (.same sf)
      clear hx hr hx2 hr2 ekd sd sf hvb hpb eob ekb knb hOb hUb etb hZb sbf
      rcases hxf with ⟨kk, q, e, u2, rfl, eu⟩ | ⟨e, l, y', rfl, nl, el, ho'⟩
      · rw [exp_why e] at hrf
        obtain ⟨tr, zr, rfl, sq, da⟩ := Dat.tuple hrf
        walk_at "rw"
        refine use_sameD (X := []) (why_dat eu) hrf (nar_why kk q _) ?_
        walk_at "rw"
        exact ⟨ys, us, hpf, hvf, eof, ekf, knf, y1, by omega, _, _, _, _, _, _, rfl⟩
      · rw [exp_4 e (by decide)] at hrf
        have en := (err_4 (by decide)).symm.trans e
        obtain ⟨lr, zr, rfl, nr, elr, da⟩ := Dat.list hrf
        walk_at "rw"
        refine ⟨y', v, .ref lr, D, 8, _, _, _, rfl, ho', hvf, hrf, ok, nar_sub hsub en, fun Hg sg => ?_⟩
        have eog := sg _ _ eof
        have ekg := sg _ _ ekf
        have elg := sg _ _ el
        have hpg := hpf.same sg
        walk_at "rw"
        refine w_app eog (by rw [lm, sizeLine_eq]; omega) ?_
        have k1 : Keeps [kl, ol, p] Hg (upd Hg ol (.lst (ys.map V.ref ++ [.ref y']))) := .put (by simp) eog
        have eo1 : upd Hg ol (.lst (ys.map V.ref ++ [.ref y'])) ol = some (.lst ((ys ++ [y']).map V.ref)) := by rw [upd_same, List.map_append]; rfl
        have ek1 : upd Hg ol (.lst (ys.map V.ref ++ [.ref y'])) kl = some (.lst us) := by rw [upd_ne klo]; exact ekg
        have hp1 : PoolAt (upd Hg ol (.lst (ys.map V.ref ++ [.ref y']))) p := hpg.putR eog olp (List.mem_of_getElem? hyv)
        generalize upd Hg ol (.lst (ys.map V.ref ++ [.ref y'])) = Hh at k1 eo1 ek1 hp1 ⊢
        walk_at "rw"
        refine w_app ek1 (by rw [← kn0, sizeLine_eq]; omega) ?_
        walk_at "rw"
        have k2 : Keeps [kl, ol, p] Hh (upd Hh kl (.lst (us ++ [.ref lr]))) := .put (by simp) ek1
        have kg2 := k1.trans k2
        exact ⟨ys ++ [y'], us ++ [.ref lr], hp1.putR ek1 klp (eu ▸ List.mem_of_getElem? hu), (hvf.keep (.same sg)).keep kg2, by rw [upd_ne klo.symm]; exact eo1, upd_same, Each.snoc ((knf.keeps (.same sg)).keeps kg2) ⟨_, (ho'.keep sg).keeps kg2, (hrf.keep (.same sg)).keep kg2, nar_sub hsub en⟩, by rw [List.length_append]; omega, by rw [List.length_append]; show ys.length + 1 ≤ _; omega, _, _, _, _, _, _, rfl⟩
    rintro σ H9 ⟨ys, us, hp, hv, eo, ek, kn, y1, y6, w5, w6, w7, w8, w9, w10, rfl⟩
    have lm : (ys.map V.ref).length = ys.length := List.length_map ..
    have lk : us.length = ys.length := kn.1.symm
    walk_at "rw"
    rw [lm]
    refine ⟨_, rfl, by omega, by omega, for_range (n := ys.length) (fun i σ H' => Same H9 H' ∧ ∃ (w5 w6 w7 w8 w9 w10 : Option V), σ = [some (.ref a), some (.ref p), some v, some (.ref ol), some (.ref kl), w5, w6, w7, w8, w9, w10]) ⟨Same.refl _, _, _, _, _, _, _, rfl⟩ ?_ ?_⟩
    · rintro i σ Ha hi ⟨sa, w5, w6, w7, w8, w9, w10, rfl⟩
      obtain ⟨y, hy⟩ : ∃ y, ys[i]? = some y := ⟨_, List.getElem?_eq_getElem hi⟩
      obtain ⟨u, hu, sps, ho, hd, hsub⟩ := Each.atL kn hy
      walk_at "rw"
      refine w_ixL (SqL.of (sa _ _ eo)) (atI_of (by omega) (by rw [show (0 + (i : Int)).toNat = i by omega, List.getElem?_map, hy]; rfl)) ?_
      walk_at "rw"
      refine w_ixL (SqL.of (sa _ _ ek)) (atI_of (by omega) (by rw [show (0 + (i : Int)).toNat = i by omega]; exact hu)) ?_
      walk_at "rw"
      refine ⟨y, v, u, D, 8, sps, _, _, rfl, ho.keep sa, hv.keep (.same sa), hd.keep (.same sa), ok, hsub, fun Hb sb => ?_⟩
      walk_at "rw"
      exact ⟨sa.trans sb, _, _, _, _, _, _, rfl⟩
    rintro σ Ha ⟨sa, w5, w6, w7, w8, w9, w10, rfl⟩
    walk_at "rw"
    exact hQ _

end
end My
namespace My
open PySem PySem.Spec PyProof.Rows L2 Rd
theorem facts : FactsP := by
  intro P w K h mg f X G hfa c hfile hno
  obtain ⟨fd, F⟩ := c.base.def_ 45 (d := d_law) rfl
  have e := hfa.symm.trans (He.glo_ok X G (c.base.fact 137 (f := .glo "law") rfl))
  cases e
  have b := FunD.bindsA (ps := ["_law_script"]) F fun _ _ _ _ _ _ us hl => match us, hl with | [_], _ => rfl
  exact ⟨fd, fun s v => b s [v] rfl, fun base _ _ => ok_law ⟨c, ⟨h, X, G⟩, hfile, hno⟩ F⟩
end My
theorem PySem.Challenge.cw_barbreaks_k20_outlook_narrowed_holds : PySem.Challenge.rw_barbreaks_k20_outlook_narrowed.Holds := by
  exact My.closing My.facts
