import PyProof.Rows.All
import Wide.All
import OpenK.AllK
import Wide.FinOn
import KE.KStateDown
import KE.KExcSuper
import Lean
import HandS.ForMost
import HandS.More
import HandS.Exc
import HandS.ExcInit
import HandS.ExcField
import HandS.ExcIs
import HandS.ExcValue
import KE.KExcIs
import HandS.ExcOwn
import HandS.WordsExc
import HandS.Defaults
import HandS.Wide
import HandS.IsInst
import HandS.Conv
import HandS.Codes
import HandS.ClsMeth
import HandS.Property
import HandS.MakeKw
import HandS.MakeKwOnly
import HandS.OwnEq
import HandS.StrMore
import HandS.Steps
import HandS.Head0
import HandS.Head1
import HandS.Head2
import HandS.HeadEnd
import HandS.HeadHook1
import HandS.HeadHook2
import HandS.HeadHook3
import HandS.NoneIn
import HandS.Walk
import KE.GoesEnum
import KE.GoesMore
import PyProof.Draws
import PyProof.EnumMake
import HandS.SortKw
import KE.DataMinMax
import KE.GoesZip
import KE.KDictList
import HandS.Style
import HandS.SortInts
import HandS.TupAny
import HandS.Zip
import HandS.RevRange
import HandS.ClsMeth
import HandS.Deep
import HandS.Strs
import KE.SortData
import HandS.Star
import KE.KOpsOwn
import PyProof.InstEq
import PySem.Challenge.RW_barbreaks_k05_grids_shared
set_option Elab.async false
set_option linter.all false
set_option maxRecDepth 100000
set_option maxHeartbeats 4000000
namespace My
open PySem PySem.W PySem.Calls PyProof.Rows
set_option maxHeartbeats 0 in
theorem opened (h : PySem.Challenge.rw_barbreaks_k05_grids_shared.row.wellSaid = true → PySem.Challenge.rw_barbreaks_k05_grids_shared.row.Holds) : PySem.Challenge.rw_barbreaks_k05_grids_shared.Holds := by
  w_on; o_law
  exact h (by assumption)
end My
/-! Rd: every reading has a named head, so that a proof goes by the head. -/
namespace Rd
open PySem PySem.Spec PyProof.Rows L2

/-! ### operators that choose by the values -/
def rAddI : R2 := rI0 fun i j => .int (i + j)
def rAddS : R2 := fun x y H Q => match x, y with
  | .str a, .str b => a.length + b.length ≤ sizeLine ∧ Q (.str (a ++ b)) H
  | _, _ => False
def uAdd : R2 := fun x y H Q => rAddI x y H Q ∨ rAddS x y H Q ∨ rCat x y H Q
def uSub : R2 := rI0 fun i j => .int (i - j)
def CMulU (i j : Int) : Prop := CMul i j ∨ CMulW i j
def uMul : R2 := fun x y H Q => rI CMulU (fun i j => .int (i * j)) x y H Q ∨ rRep x y H Q
def uDiv : R2 := rI CDivW fun i j => .int (i / j)
def uMod : R2 := rI (fun _ j => 0 < j) fun i j => .int (i % j)
def uPow : R2 := rI CPow fun i j => .int (i ^ j.toNat)
def uLt : R2 := rI0 fun i j => .bl (decide (i < j))
def uLe : R2 := rI0 fun i j => .bl (decide (i ≤ j))
def uGt : R2 := rI0 fun i j => .bl (decide (j < i))
def uGe : R2 := rI0 fun i j => .bl (decide (j ≤ i))
def uNeg : V → Hp → VK → Prop := rU fun i => .int (-i)
section
variable {X : Cx}
theorem oAddS : OpR X (binaryOp .Add) rAddS := by
  intro pins s σ H x y u v Q I rx ry h
  cases x <;> cases y <;> first | exact h.elim | skip
  exact op_add_str pins s σ H _ _ u v Q I rx ry ⟨_, _, rfl, rfl, h.1, h.2⟩
theorem oAdd : OpR X (binaryOp .Add) uAdd := op_add.or (oAddS.or op_cat)
theorem oSub : OpR X (binaryOp .Sub) uSub := op_sub
theorem oMul : OpR X (binaryOp .Mult) uMul := OpR.or (opI fun _ _ _ _ _ _ _ hc q => mul_int q (hc.elim CMul.ok CMulW.ok)) op_rep
theorem oDiv : OpR X (binaryOp .FloorDiv) uDiv := op_fdivW
theorem oMod : OpR X (binaryOp .Mod) uMod := op_mod
theorem oPow : OpR X (binaryOp .Pow) uPow := op_pow
theorem oLt : OpR X (compareOp .Lt) uLt := op_lt
theorem oLe : OpR X (compareOp .LtE) uLe := op_le
theorem oGt : OpR X (compareOp .Gt) uGt := op_gt
theorem oGe : OpR X (compareOp .GtE) uGe := op_ge
theorem oNeg : UnR X (unaryOp .USub) uNeg := un_neg
end
theorem oIs {X : Cx} : OpR X (compareOp .Is) rIsN := op_isN1
theorem oIsNot {X : Cx} : OpR X (compareOp .IsNot) rNotN := op_notN1

/-! ### what follows, named: the layer's own reading with the part that is done put in as a constant -/
abbrev tBc (b : Bool) : TT := fun _ H Q => Q b H
abbrev tAc (vs : List V) : TA := fun _ H Q => Q vs H
def kOp1 (r : R2) (tb : TE) (σ : L2.St) (Q : VK) : VK := fun x H => tOp r (tC x) tb σ H Q
def kOp2 (r : R2) (x : V) (Q : VK) : VK := fun y H => r x y H Q
def kUn (r : V → Hp → VK → Prop) (Q : VK) : VK := fun x H => r x H Q
def kTest (Q : Bool → Hp → Prop) : VK := fun x H => tTest (tC x) [] H Q
def kAnd (u : TT) (σ : L2.St) (Q : Bool → Hp → Prop) : Bool → Hp → Prop := fun b H => tAnd (tBc b) u σ H Q
def kOr (u : TT) (σ : L2.St) (Q : Bool → Hp → Prop) : Bool → Hp → Prop := fun b H => tOr (tBc b) u σ H Q
def kNot (Q : Bool → Hp → Prop) : Bool → Hp → Prop := fun b H => Q (!b) H
def kIf (t u : TS) (D : Ends) (σ : L2.St) : Bool → Hp → Prop := fun b H => tIfS (tBc b) t u D σ H
def kIfE (ta tb : TE) (σ : L2.St) (Q : VK) : Bool → Hp → Prop := fun b H => tIf (tBc b) ta tb σ H Q
def kAndV (tb : TE) (σ : L2.St) (Q : VK) : VK := fun x H => tAndV (tC x) tb σ H Q
def kOrV (tb : TE) (σ : L2.St) (Q : VK) : VK := fun x H => tOrV (tC x) tb σ H Q
def kNotV (Q : VK) : VK := fun x H => tNotV (tC x) [] H Q
def kCh1 (r r' : R2) (tb tc : TE) (σ : L2.St) (Q : VK) : VK := fun x H => tChain r r' (tC x) tb tc σ H Q
def kCh2 (r r' : R2) (tc : TE) (σ : L2.St) (x : V) (Q : VK) : VK := fun y H => tChain r r' (tC x) (tC y) tc σ H Q
def kCh3 (r' : R2) (tc : TE) (σ : L2.St) (y : V) (Q : VK) : VK := fun z H => tChain (fun _ _ H Q => Q z H) r' (tC y) (tC y) tc σ H Q
def kAsg (g : TG) (σ : L2.St) (nx : L2.St → Hp → Prop) : VK := fun x H => g x σ H nx
def kDrop (σ : L2.St) (nx : L2.St → Hp → Prop) : VK := fun _ H => nx σ H
def kSub1 (ti : TE) (t : TSet) (v : V) (σ : L2.St) (Q : L2.St → Hp → Prop) : VK := fun o H => gSub (tC o) ti t v σ H Q
def kSub2 (t : TSet) (o v : V) (σ : L2.St) (Q : L2.St → Hp → Prop) : VK := fun i H => gSub (tC o) (tC i) t v σ H Q
def kCons1 (tr : TA) (σ : L2.St) (Q : List V → Hp → Prop) : VK := fun x H => tCons (tC x) tr σ H Q
def kCons2 (x : V) (Q : List V → Hp → Prop) : List V → Hp → Prop := fun xs H => Q (x :: xs) H
def kCB (r : List V → Hp → VK → Prop) (Q : VK) : List V → Hp → Prop := fun vs H => r vs H Q
def kCall (sp : Sp) (dvs : List V) (E : XK) (Q : VK) : List V → Hp → Prop := fun vs H => tCall sp dvs E (tAc vs) [] H Q
def kLst (Q : VK) : List V → Hp → Prop := fun xs H => tLst (tAc xs) [] H Q
def kTup (Q : VK) : List V → Hp → Prop := fun xs H => tTup (tAc xs) [] H Q
def kFld (K : PySem.W.Frag) (f : Str) (Q : VK) : VK := fun x H => tFld K (tC x) f [] H Q
def kSF1 (K : PySem.W.Frag) (ta : TE) (f : Str) (σ : L2.St) (nx : L2.St → Hp → Prop) : VK := fun y H => sFld K ta (tC y) f ⟨nx, fun _ _ => False, fun _ _ => False, fun _ _ => False⟩ σ H
def kSF2 (K : PySem.W.Frag) (f : Str) (y : V) (σ : L2.St) (nx : L2.St → Hp → Prop) : VK := fun x H => sFld K (tC x) (tC y) f ⟨nx, fun _ _ => False, fun _ _ => False, fun _ _ => False⟩ σ H
def kMeth (C : Addr) (m : Str) (sp : Sp) (dvs : List V) (E : XK) (t : TA) (σ : L2.St) (Q : VK) : VK := fun x H => tMeth C m sp dvs E (tC x) t σ H Q
def kMeth2 (sp : Sp) (dvs : List V) (E : XK) (x : V) (Q : VK) : List V → Hp → Prop := fun vs H => sp (x :: (vs ++ dvs)) H Q E
def kMake (C : Addr) (sp : Sp) (dvs : List V) (E : XK) (Q : VK) : List V → Hp → Prop := fun vs H => tMake C sp dvs E (tAc vs) [] H Q
def kTru (K : PySem.W.Frag) (Q : Bool → Hp → Prop) : VK := fun x H => tTru K (tC x) [] H Q
def kBM (K : PySem.W.Frag) (T : String) (r : V → List V → Hp → VK → Prop) (t : TA) (σ : L2.St) (Q : VK) : VK := fun x H => tBM K T r (tC x) t σ H Q
def kBM2 (r : V → List V → Hp → VK → Prop) (x : V) (Q : VK) : List V → Hp → Prop := fun xs H => r x xs H Q
def kPar (i j : Nat) (σ : L2.St) (nx : L2.St → Hp → Prop) : List V → Hp → Prop := fun vs H => tPar i j (tAc vs) ⟨nx, fun _ _ => False, fun _ _ => False, fun _ _ => False⟩ σ H

section
variable {K : PySem.W.Frag} {σ : L2.St} {H : Hp} {ta tb tc te : TE} {t u : TT} {ts us : TS} {x y z v w : V} {r r' : R2} {Q : VK} {QB : Bool → Hp → Prop} {QA : List V → Hp → Prop} {nx bk ct : L2.St → Hp → Prop} {rt : VK} {i j : Int} {n m : Nat} {tl tr : TA} {g : TG} {D : Ends}
  {a p C dx : Addr} {xs vs : List V} {sp : Sp} {dvs : List V} {E : XK} {f : Str} {fs : List (Str × V)} {b : Bool}
theorem w_seq (h : ts ⟨us ⟨nx, rt, bk, ct⟩, rt, bk, ct⟩ σ H) : tSeq ts us ⟨nx, rt, bk, ct⟩ σ H := h
theorem w_next (h : nx σ H) : tNext ⟨nx, rt, bk, ct⟩ σ H := h
theorem w_brk (h : bk σ H) : tBreak ⟨nx, rt, bk, ct⟩ σ H := h
theorem w_cont (h : ct σ H) : tCont ⟨nx, rt, bk, ct⟩ σ H := h
theorem w_ret (h : te σ H rt) : tRet te ⟨nx, rt, bk, ct⟩ σ H := h
theorem w_retN (h : rt .non H) : tRetN ⟨nx, rt, bk, ct⟩ σ H := h
theorem w_drop (h : te σ H (kDrop σ nx)) : tDrop te ⟨nx, rt, bk, ct⟩ σ H := h
theorem w_kdrop (h : nx σ H) : kDrop σ nx v H := h
theorem w_asg (h : te σ H (kAsg g σ nx)) : tAsg te g ⟨nx, rt, bk, ct⟩ σ H := h
theorem w_kname (h : nx (σ.set n (some v)) H) : kAsg (gName n) σ nx v H := h
theorem w_gname (h : nx (σ.set n (some v)) H) : gName n v σ H nx := h
theorem w_ksub {to ti : TE} {s : TSet} (h : to σ H (kSub1 ti s v σ nx)) : kAsg (gSub to ti s) σ nx v H := h
theorem w_ksub1 {ti : TE} {s : TSet} {o : V} (h : ti σ H (kSub2 s o v σ nx)) : kSub1 ti s v σ nx o H := h
theorem w_ksubL {k : Int} {q : Nat} (hp : H p = some (.lst xs)) (hi : ixN xs.length k = some q) (h : nx σ (upd H p (.lst (xs.set q v)))) : kSub2 rSetL (.ref p) v σ nx (.int k) H := ⟨p, xs, k, q, rfl, rfl, hp, hi, h⟩
theorem w_ifS (h : t σ H (kIf ts us D σ)) : tIfS t ts us D σ H := h
theorem w_ifE (h : t σ H (kIfE ta tb σ Q)) : tIf t ta tb σ H Q := h
theorem w_var (hv : σ[n]? = some (some v)) (h : Q v H) : tVar n σ H Q := ⟨v, hv, h⟩
theorem w_c (h : Q v H) : tC v σ H Q := h
theorem w_op (h : ta σ H (kOp1 r tb σ Q)) : tOp r ta tb σ H Q := h
theorem w_op1 (h : tb σ H (kOp2 r x Q)) : kOp1 r tb σ Q x H := h
theorem w_op2 (h : r x y H Q) : kOp2 r x Q y H := h
theorem w_un {s : V → Hp → VK → Prop} (h : ta σ H (kUn s Q)) : tUn s ta σ H Q := h
theorem w_kun {s : V → Hp → VK → Prop} (h : s x H Q) : kUn s Q x H := h
theorem w_test (h : te σ H (kTest QB)) : tTest te σ H QB := h
theorem w_tB (h : te σ H (kTest QB)) : tB te σ H QB := h
theorem w_ktest (h : QB b H) : kTest QB (.bl b) H := ⟨b, rfl, h⟩
theorem w_and (h : t σ H (kAnd u σ QB)) : tAnd t u σ H QB := h
theorem w_or (h : t σ H (kOr u σ QB)) : tOr t u σ H QB := h
theorem w_not (h : t σ H (kNot QB)) : tNot t σ H QB := h
theorem w_knot (h : QB (!b) H) : kNot QB b H := h
theorem w_andV (h : ta σ H (kAndV tb σ Q)) : tAndV ta tb σ H Q := h
theorem w_orV (h : ta σ H (kOrV tb σ Q)) : tOrV ta tb σ H Q := h
theorem w_notV (h : ta σ H (kNotV Q)) : tNotV ta σ H Q := h
theorem w_knotV (h : Q (.bl (!b)) H) : kNotV Q (.bl b) H := ⟨b, rfl, h⟩
theorem w_ch (h : ta σ H (kCh1 r r' tb tc σ Q)) : tChain r r' ta tb tc σ H Q := h
theorem w_ch1 (h : tb σ H (kCh2 r r' tc σ x Q)) : kCh1 r r' tb tc σ Q x H := h
theorem w_ch2 (h : r x y H (kCh3 r' tc σ y Q)) : kCh2 r r' tc σ x Q y H := h
/-! tests: a literal, a bool, a decided statement -/
theorem w_kif_t (h : ts D σ H) : kIf ts us D σ true H := h
theorem w_kif_f (h : us D σ H) : kIf ts us D σ false H := h
theorem w_kif_b (h1 : b = true → ts D σ H) (h2 : b = false → us D σ H) : kIf ts us D σ b H := match b, h1, h2 with
  | true, h1, _ => w_kif_t (h1 rfl)
  | false, _, h2 => w_kif_f (h2 rfl)
theorem w_kif {c : Prop} {dc : Decidable c} (h1 : c → ts D σ H) (h2 : ¬ c → us D σ H) : kIf ts us D σ (decide c) H := w_kif_b (fun e => h1 (of_decide_eq_true e)) fun e => h2 (of_decide_eq_false e)
theorem w_kand_t (h : t σ H QB) : kAnd t σ QB true H := h
theorem w_kand_f (h : QB false H) : kAnd t σ QB false H := h
theorem w_kand_b (h1 : b = true → t σ H QB) (h2 : b = false → QB false H) : kAnd t σ QB b H := match b, h1, h2 with
  | true, h1, _ => w_kand_t (h1 rfl)
  | false, _, h2 => w_kand_f (h2 rfl)
theorem w_kand {c : Prop} {dc : Decidable c} (h1 : c → t σ H QB) (h2 : ¬ c → QB false H) : kAnd t σ QB (decide c) H := w_kand_b (fun e => h1 (of_decide_eq_true e)) fun e => h2 (of_decide_eq_false e)
theorem w_kor_t (h : QB true H) : kOr t σ QB true H := h
theorem w_kor_f (h : t σ H QB) : kOr t σ QB false H := h
theorem w_kor_b (h1 : b = true → QB true H) (h2 : b = false → t σ H QB) : kOr t σ QB b H := match b, h1, h2 with
  | true, h1, _ => w_kor_t (h1 rfl)
  | false, _, h2 => w_kor_f (h2 rfl)
theorem w_kor {c : Prop} {dc : Decidable c} (h1 : c → QB true H) (h2 : ¬ c → t σ H QB) : kOr t σ QB (decide c) H := w_kor_b (fun e => h1 (of_decide_eq_true e)) fun e => h2 (of_decide_eq_false e)
theorem w_kifE_t (h : ta σ H Q) : kIfE ta tb σ Q true H := h
theorem w_kifE_f (h : tb σ H Q) : kIfE ta tb σ Q false H := h
theorem w_kifE_b (h1 : b = true → ta σ H Q) (h2 : b = false → tb σ H Q) : kIfE ta tb σ Q b H := match b, h1, h2 with
  | true, h1, _ => w_kifE_t (h1 rfl)
  | false, _, h2 => w_kifE_f (h2 rfl)
theorem w_kifE {c : Prop} {dc : Decidable c} (h1 : c → ta σ H Q) (h2 : ¬ c → tb σ H Q) : kIfE ta tb σ Q (decide c) H := w_kifE_b (fun e => h1 (of_decide_eq_true e)) fun e => h2 (of_decide_eq_false e)
theorem w_kandV_t (h : tb σ H Q) : kAndV tb σ Q (.bl true) H := ⟨_, rfl, h⟩
theorem w_kandV_f (h : Q (.bl false) H) : kAndV tb σ Q (.bl false) H := ⟨_, rfl, h⟩
theorem w_kandV_b (h1 : b = true → tb σ H Q) (h2 : b = false → Q (.bl false) H) : kAndV tb σ Q (.bl b) H := match b, h1, h2 with
  | true, h1, _ => w_kandV_t (h1 rfl)
  | false, _, h2 => w_kandV_f (h2 rfl)
theorem w_kandV {c : Prop} {dc : Decidable c} (h1 : c → tb σ H Q) (h2 : ¬ c → Q (.bl false) H) : kAndV tb σ Q (.bl (decide c)) H := w_kandV_b (fun e => h1 (of_decide_eq_true e)) fun e => h2 (of_decide_eq_false e)
theorem w_korV_t (h : Q (.bl true) H) : kOrV tb σ Q (.bl true) H := ⟨_, rfl, h⟩
theorem w_korV_f (h : tb σ H Q) : kOrV tb σ Q (.bl false) H := ⟨_, rfl, h⟩
theorem w_korV_b (h1 : b = true → Q (.bl true) H) (h2 : b = false → tb σ H Q) : kOrV tb σ Q (.bl b) H := match b, h1, h2 with
  | true, h1, _ => w_korV_t (h1 rfl)
  | false, _, h2 => w_korV_f (h2 rfl)
theorem w_korV {c : Prop} {dc : Decidable c} (h1 : c → Q (.bl true) H) (h2 : ¬ c → tb σ H Q) : kOrV tb σ Q (.bl (decide c)) H := w_korV_b (fun e => h1 (of_decide_eq_true e)) fun e => h2 (of_decide_eq_false e)
theorem w_ch3_t (h : tc σ H (kOp2 r' y Q)) : kCh3 r' tc σ y Q (.bl true) H := ⟨_, rfl, h⟩
theorem w_ch3_f (h : Q (.bl false) H) : kCh3 r' tc σ y Q (.bl false) H := ⟨_, rfl, h⟩
theorem w_ch3_b (h1 : b = true → tc σ H (kOp2 r' y Q)) (h2 : b = false → Q (.bl false) H) : kCh3 r' tc σ y Q (.bl b) H := match b, h1, h2 with
  | true, h1, _ => w_ch3_t (h1 rfl)
  | false, _, h2 => w_ch3_f (h2 rfl)
theorem w_ch3 {c : Prop} {dc : Decidable c} (h1 : c → tc σ H (kOp2 r' y Q)) (h2 : ¬ c → Q (.bl false) H) : kCh3 r' tc σ y Q (.bl (decide c)) H := w_ch3_b (fun e => h1 (of_decide_eq_true e)) fun e => h2 (of_decide_eq_false e)
theorem w_knot_t (h : QB false H) : kNot QB true H := h
theorem w_knot_f (h : QB true H) : kNot QB false H := h
theorem w_knotV_t (h : Q (.bl false) H) : kNotV Q (.bl true) H := ⟨_, rfl, h⟩
theorem w_knotV_f (h : Q (.bl true) H) : kNotV Q (.bl false) H := ⟨_, rfl, h⟩
theorem w_kor_n {c : Prop} {dc : Decidable c} (h1 : c → t σ H QB) (h2 : ¬ c → QB true H) : kOr t σ QB (!decide c) H := w_kor_b (fun e => h2 fun hc => by rw [decide_eq_true hc] at e; cases e) fun e => h1 (of_decide_eq_true (by simpa using e))
theorem w_kand_n {c : Prop} {dc : Decidable c} (h1 : c → QB false H) (h2 : ¬ c → t σ H QB) : kAnd t σ QB (!decide c) H := w_kand_b (fun e => h2 fun hc => by rw [decide_eq_true hc] at e; cases e) fun e => h1 (of_decide_eq_true (by simpa using e))
theorem w_kif_n (h : kIf us ts D σ b H) : kIf ts us D σ (!b) H := by cases b <;> exact h
/-! ints -/
theorem w_addI (h : Q (.int (i + j)) H) : uAdd (.int i) (.int j) H Q := .inl ⟨i, j, rfl, rfl, h⟩
theorem w_addS {s s' : Str} (hl : s.length + s'.length ≤ sizeLine) (h : Q (.str (s ++ s')) H) : uAdd (.str s) (.str s') H Q := .inr (.inl ⟨hl, h⟩)
theorem w_addL {q : Addr} {ys : List V} (h1 : H p = some (.lst xs)) (h2 : H q = some (.lst ys)) (hl : xs.length + ys.length ≤ sizeLine) (h : ∀ l, H l = none → Q (.ref l) (upd H l (.lst (xs ++ ys)))) : uAdd (.ref p) (.ref q) H Q := .inr (.inr ⟨p, q, xs, ys, rfl, rfl, h1, h2, hl, h⟩)
theorem w_sub (h : Q (.int (i - j)) H) : uSub (.int i) (.int j) H Q := ⟨i, j, rfl, rfl, h⟩
theorem w_mul (hc : CMulU i j) (h : Q (.int (i * j)) H) : uMul (.int i) (.int j) H Q := .inl ⟨i, j, rfl, rfl, hc, h⟩
theorem w_div (hc : CDivW i j) (h : Q (.int (i / j)) H) : uDiv (.int i) (.int j) H Q := ⟨i, j, rfl, rfl, hc, h⟩
theorem w_mod (hc : 0 < j) (h : Q (.int (i % j)) H) : uMod (.int i) (.int j) H Q := ⟨i, j, rfl, rfl, hc, h⟩
theorem w_pow {k : Int} (hc : CPow i j) (hk : i ^ j.toNat = k) (h : Q (.int k) H) : uPow (.int i) (.int j) H Q := ⟨i, j, rfl, rfl, hc, by subst hk; exact h⟩
theorem w_lt (h : Q (.bl (decide (i < j))) H) : uLt (.int i) (.int j) H Q := ⟨i, j, rfl, rfl, h⟩
theorem w_le (h : Q (.bl (decide (i ≤ j))) H) : uLe (.int i) (.int j) H Q := ⟨i, j, rfl, rfl, h⟩
theorem w_gt (h : Q (.bl (decide (j < i))) H) : uGt (.int i) (.int j) H Q := ⟨i, j, rfl, rfl, h⟩
theorem w_ge (h : Q (.bl (decide (j ≤ i))) H) : uGe (.int i) (.int j) H Q := ⟨i, j, rfl, rfl, h⟩
theorem w_neg (h : Q (.int (-i)) H) : uNeg (.int i) H Q := ⟨i, rfl, h⟩
theorem w_eqI (h : Q (.bl (decide (i = j))) H) : rEq (.int i) (.int j) H Q := ⟨rfl, by
  have e : decide (V.int i = V.int j) = decide (i = j) := by rw [dec_int, Bool.beq_eq_decide_eq]
  rw [e]; exact h⟩
theorem w_neI (h : Q (.bl (!decide (i = j))) H) : rNe (.int i) (.int j) H Q := ⟨rfl, by
  have e : decide (V.int i = V.int j) = decide (i = j) := by rw [dec_int, Bool.beq_eq_decide_eq]
  rw [e]; exact h⟩
theorem w_eqS {s s' : Str} (h : Q (.bl (decide (s = s'))) H) : rEq (.str s) (.str s') H Q := ⟨rfl, by
  have e : decide (V.str s = V.str s') = decide (s = s') := by rw [dec_str, Bool.beq_eq_decide_eq]
  rw [e]; exact h⟩
theorem w_neS {s s' : Str} (h : Q (.bl (!decide (s = s'))) H) : rNe (.str s) (.str s') H Q := ⟨rfl, by
  have e : decide (V.str s = V.str s') = decide (s = s') := by rw [dec_str, Bool.beq_eq_decide_eq]
  rw [e]; exact h⟩
theorem w_eqB {b' : Bool} (h : Q (.bl (decide (b = b'))) H) : rEq (.bl b) (.bl b') H Q := ⟨rfl, by
  have e : decide (V.bl b = V.bl b') = decide (b = b') := by rw [dec_bl, Bool.beq_eq_decide_eq]
  rw [e]; exact h⟩
theorem w_isN_n (h : Q (.bl true) H) : rIsN .non .non H Q := ⟨rfl, h⟩
theorem w_isN_i (h : Q (.bl false) H) : rIsN (.int i) .non H Q := ⟨rfl, h⟩
theorem w_isN_r (h : Q (.bl false) H) : rIsN (.ref a) .non H Q := ⟨rfl, h⟩
theorem w_isN_b (h : Q (.bl false) H) : rIsN (.bl b) .non H Q := ⟨rfl, h⟩
theorem w_isN_s {s : Str} (h : Q (.bl false) H) : rIsN (.str s) .non H Q := ⟨rfl, h⟩
theorem w_notN_n (h : Q (.bl false) H) : rNotN .non .non H Q := ⟨rfl, h⟩
theorem w_notN_i (h : Q (.bl true) H) : rNotN (.int i) .non H Q := ⟨rfl, h⟩
theorem w_notN_r (h : Q (.bl true) H) : rNotN (.ref a) .non H Q := ⟨rfl, h⟩
/-! arguments, displays, calls -/
theorem w_nil (h : QA [] H) : tNil σ H QA := h
theorem w_cons (h : te σ H (kCons1 tr σ QA)) : tCons te tr σ H QA := h
theorem w_kcons1 (h : tr σ H (kCons2 x QA)) : kCons1 tr σ QA x H := h
theorem w_kcons2 (h : QA (x :: xs) H) : kCons2 x QA xs H := h
theorem w_cb {s : List V → Hp → VK → Prop} (h : tl σ H (kCB s Q)) : tCB s tl σ H Q := h
theorem w_kcb {s : List V → Hp → VK → Prop} (h : s vs H Q) : kCB s Q vs H := h
theorem w_call (h : tl σ H (kCall sp dvs E Q)) : tCall sp dvs E tl σ H Q := h
theorem w_kcall (h : sp vs H Q E) : kCall sp [] E Q vs H := by
  show sp (vs ++ []) H Q E
  rw [List.append_nil]; exact h
theorem w_kcallD (h : sp (vs ++ dvs) H Q E) : kCall sp dvs E Q vs H := h
theorem w_lst (h : tl σ H (kLst Q)) : tLst tl σ H Q := h
theorem w_klst (hl : xs.length ≤ sizeLine) (h : ∀ p, H p = none → Q (.ref p) (upd H p (.lst xs))) : kLst Q xs H := ⟨hl, h⟩
theorem w_tup (h : tl σ H (kTup Q)) : tTup tl σ H Q := h
theorem w_ktup (hl : xs.length ≤ sizeLine) (h : ∀ p, H p = none → Q (.ref p) (upd H p (.tup xs))) : kTup Q xs H := ⟨hl, h⟩
theorem w_fld (h : ta σ H (kFld K f Q)) : tFld K ta f σ H Q := h
theorem w_kfld (ho : H a = some (.ins C dx fs)) (hc : Cls K C) (hn : NoAttr K C f) (hl : fs.lookup f = some v) (h : Q v H) : kFld K f Q (.ref a) H := ⟨a, C, dx, fs, v, rfl, ho, hc, hn, hl, h⟩
theorem w_sfld {tv : TE} (h : tv σ H (kSF1 K ta f σ nx)) : sFld K ta tv f ⟨nx, rt, bk, ct⟩ σ H := h
theorem w_ksf1 (h : ta σ H (kSF2 K f y σ nx)) : kSF1 K ta f σ nx y H := h
theorem w_ksf2 (ho : H a = some (.ins C dx fs)) (hc : Cls K C) (hn : NoAttr K C f) (hl : fs.length < 1000) (h : nx σ (upd H a (.ins C dx (putF f y fs)))) : kSF2 K f y σ nx (.ref a) H := ⟨a, C, dx, fs, rfl, ho, hc, hn, hl, h⟩
theorem w_meth {q : Str} (h : ta σ H (kMeth C q sp dvs E tl σ Q)) : tMeth C q sp dvs E ta tl σ H Q := h
theorem w_kmeth {q : Str} (ho : H a = some (.ins C dx fs)) (hn : fs.lookup q = none) (h : tl σ H (kMeth2 sp dvs E (.ref a) Q)) : kMeth C q sp dvs E tl σ Q (.ref a) H := ⟨a, dx, fs, rfl, ho, hn, h⟩
theorem w_kmeth2 (h : sp (x :: vs) H Q E) : kMeth2 sp [] E x Q vs H := by
  show sp (x :: (vs ++ [])) H Q E
  rw [List.append_nil]; exact h
theorem w_kmeth2D (h : sp (x :: (vs ++ dvs)) H Q E) : kMeth2 sp dvs E x Q vs H := h
theorem w_make (h : tl σ H (kMake C sp dvs E Q)) : tMake C sp dvs E tl σ H Q := h
theorem w_kmake (h : ∀ x dx, H x = none → H dx = none → dx ≠ x → sp (.ref x :: (vs ++ dvs)) (upd (upd H dx (.own x)) x (.ins C dx [])) (fun v H2 => v = .non ∧ Q (.ref x) H2) E) : kMake C sp dvs E Q vs H := h
theorem w_tru (h : ta σ H (kTru K QB)) : tTru K ta σ H QB := h
theorem w_ktru_b (h : QB b H) : kTru K QB (.bl b) H := ⟨b, rfl, h⟩
theorem w_bm {T : String} {s : V → List V → Hp → VK → Prop} (h : ta σ H (kBM K T s tl σ Q)) : tBM K T s ta tl σ H Q := h
theorem w_kbm {T : String} {s : V → List V → Hp → VK → Prop} (hty : tyV K T x H) (h : tl σ H (kBM2 s x Q)) : kBM K T s tl σ Q x H := ⟨hty, h⟩
theorem w_kbm2 {s : V → List V → Hp → VK → Prop} (h : s x vs H Q) : kBM2 s x Q vs H := h
theorem w_par {q q' : Nat} (h : tl σ H (kPar q q' σ nx)) : tPar q q' tl ⟨nx, rt, bk, ct⟩ σ H := h
theorem w_kpar {q q' : Nat} (h : nx ((σ.set q (some x)).set q' (some y)) H) : kPar q q' σ nx [x, y] H := ⟨x, y, rfl, h⟩
end
end Rd
/-! Own: a def whose frame holds the cell __class__, by the layer's own start at the scope without that name. -/
namespace Rd
open PySem PySem.Spec PyProof.Rows PySem.W L2
theorem bindL_all {kd : Str → Option NameKind} : ∀ (l : List (Str × Value)) (m : Str → Option Value), (∀ y ∈ l, kd y.1 = some .local) → ∀ x, bindL kd l m x = (l.reverse.lookup x).or (m x)
  | [], _, _, _ => by simp [bindL]
  | (k, v) :: r, m, hl, x => by
    have hk := hl (k, v) List.mem_cons_self
    show bindL kd r (if kd k = some .local then fun y => if y = k then some v else m y else m) x = _
    rw [if_pos hk, bindL_all r _ (fun y hy => hl y (List.mem_cons_of_mem _ hy)) x, List.reverse_cons, List.lookup_append, Option.or_assoc]
    congr 1
    by_cases e : x = k
    · subst e; simp
    · have hb : (x == k) = false := beq_eq_false_iff_ne.mpr e
      simp [List.lookup, hb, e]
/-- sc0 is sc without the one free name -/
structure ClsScope (N P : List Str) (sc sc0 : Scope) : Prop where
  base : FnScope N P sc0
  kind : sc.kind = .function
  co : sc.isCoroutine = false
  gen : sc.isGenerator = false
  nocell : ∀ y ∈ sc.names, y.2 ≠ .cell
  nocell0 : ∀ y ∈ sc0.names, y.2 ≠ .cell
  cells0 : ∀ n : Nat, cellsFrom n sc0.names [] = []
  same : ∀ x : Str, x ≠ "__class__" → sc.names.lookup x = sc0.names.lookup x
  free : sc.names.lookup ("__class__" : Str) = some NameKind.free
  out : ("__class__" : Str) ∉ N
  par : ∀ x ∈ P, x ∈ N
/-- the context of such a body -/
def cxC (X0 : Cx) (A : Around) (env : Env) (xe : Value → Shared → Prop) : Cx := { X0 with A := A.deeper env, env := env, stack := env :: X0.outer, fn := fun x => !decide (x = "__class__"), xe := xe }
abbrev cenv (qual : Str) (sc : Scope) (L f : Addr) (cd : Value) (cc : Addr) : Env := ksEnv qual sc L f cd cc
abbrev leaves (P : Program) (w : World) (CX : CXT) (A : Around) (env : Env) (outer : List Env) (H : Hp) (s : Shared) (E : XK) : Value → Shared → Prop :=
  fun e s' => wpAny (model P w) (A.deeper env) (leaving env e) (fun _ s2 => CX outer H s E e s2) (fun e2 s2 => CX outer H s E e2 s2) s'
section
variable {CX : CXT} {P : Program} {w : World} {K : PySem.W.Frag} {mg : Str → Option Value} {base : Heap} {N ps : List Str} {qual : Str} {sc sc0 : Scope} {f cc D : Addr} {cd : Value} {A : Around} {outer : List Env} {s : Shared} {H : Hp} {E : XK} {us : List Value} {vs : List V}
  {cl : Value} {cld : Option Addr} {csl : Array (Option Value)}
abbrev cxD (CX : CXT) (P : Program) (w : World) (K : PySem.W.Frag) (mg : Str → Option Value) (base : Heap) (N : List Str) (qual : Str) (sc sc0 : Scope) (f : Addr) (cd : Value) (cc : Addr) (A : Around) (outer : List Env) (s : Shared) (H : Hp) (E : XK) : Cx :=
  cxC (cxOf CX P w K mg base N qual sc0 f cd A outer s H E) A (cenv qual sc s.heap.objs.size f cd cc) (leaves P w CX A (cenv qual sc s.heap.objs.size f cd cc) outer H s E)
theorem one_cell {x : Str} {c : Addr} (h : ([(("__class__" : Str), cc)] : List (Str × Addr)).lookup x = some c) : x = "__class__" ∧ c = cc := by
  have m := PySem.mem_of_lookup h
  simp only [List.mem_singleton, Prod.mk.injEq] at m
  exact m
/-- from the start at sc0 to the frame with the cell -/
theorem start_cell {σ : L2.St} {s1 : Shared} (S : ClsScope N ps sc sc0) (hA : A.frames = some outer) (lc : K.lookup cc = some ⟨cl, cld, .cell (some (.ref D)), csl⟩) (I : Inv (cxOf CX P w K mg base N qual sc0 f cd A outer s H E) [] σ H s1) :
    Inv (cxD CX P w K mg base N qual sc sc0 f cd cc A outer s H E) [] σ H s1 := by
  have kc := I.kIn _ _ lc
  have bc := I.bs cc _ (I.mod.kin _ _ lc)
  have o := I.ok
  have nil : ∀ b : Addr, b ∉ ([] : List Addr) := fun b hb => by cases hb
  have ok : (cxD CX P w K mg base N qual sc sc0 f cd cc A outer s H E).Ok := {
    mod := o.mod, kind := S.kind, glob := rfl, blt := rfl, above := o.above,
    inj := fun x y c h1 h2 => (one_cell h1).1.trans (one_cell h2).1.symm,
    has := fun x hx => by
      by_cases e : x = "__class__"
      · subst e; exact ⟨cc, rfl⟩
      · rcases hx with hx | hx
        · exact absurd rfl (S.nocell _ (PySem.mem_of_lookup (show sc.names.lookup x = some .cell from hx)))
        · have q : sc0.names.lookup x = some .free := (S.same x e).symm.trans hx
          exact absurd rfl (S.base.nofree _ (PySem.mem_of_lookup q)),
    cab := fun x c hx h => by
      have e := (one_cell h).1
      have hx' : (!decide (x = "__class__")) = true := hx
      rw [decide_eq_true e] at hx'; exact Bool.noConfusion hx',
    hd := o.hd, frames := Around.frames_deeper hA, stk := .inr ⟨rfl, rfl⟩, exf := fun b hb => absurd hb (nil b), bs := o.bs, bsz := o.bsz, noex := o.noex, exfs := o.exfs, funs := o.funs, frf := o.frf }
  obtain ⟨m, hn, hm⟩ := I.loc
  refine { ok := ok, os := I.os, bare := I.bare, base := I.base, loc := ⟨m, hn, fun i x v e1 e2 e3 => ?_⟩, cell := fun x c h => ?_, free := I.free, freeC := fun x c h => ?_, pin := I.pin, hok := I.hok, len := I.len }
  · have nx : x ≠ "__class__" := fun e => S.out (e ▸ List.mem_of_getElem? e1)
    have v0 : Vis sc0 x := by
      have e3' : Vis sc x := e3
      unfold Vis at e3' ⊢
      rw [← S.same x nx]; exact e3'
    obtain ⟨u, ru, lk⟩ := hm i x v e1 e2 v0
    refine ⟨u, ru, ?_⟩
    rcases lk with ⟨a, b⟩ | ⟨_, c, a, _⟩
    · exact .inl ⟨(S.same x nx).trans a, b⟩
    · have a' : (cellsFrom (s.heap.objs.size + 1) sc0.names []).lookup x = some c := a
      rw [S.cells0] at a'; cases a'
  · rw [(one_cell h).2]; exact ⟨_, _, kc, rfl⟩
  · rw [(one_cell h).2]; exact bc.2
def flowV : Flow → Value
  | .ret v => v
  | _ => .none
/-- what a body's end is to its caller -/
theorem end_of {X : Cx} {Q : VK} {fl : Flow} {s2 : Shared} (hex : X.ex = []) (h : SP X [] { nx := fun _ H' => Q .non H', rt := Q } fl s2) : CE X.outer X.prog X.w X.H_0 X.s_0 Q (flowV fl) s2 := by
  have out : ∀ {σ : L2.St} {H : Hp} {v : V} {u : Value}, Inv X [] σ H s2 → RelV v u → Q v H → CE X.outer X.prog X.w X.H_0 X.s_0 Q u s2 := fun J r q => by
    have un := J.base
    rw [hex] at un
    exact ⟨_, _, J.os, J.bare, un, J.hok, r, q⟩
  cases fl <;> simp only [SP] at h
  all_goals first
    | (obtain ⟨v, σ, H, J, r, q⟩ := h; exact out J r q)
    | (obtain ⟨σ, H, J, q⟩ := h; first | exact q.elim | exact out (v := .non) J rfl q)
theorem fn_cell {k : Nat} {name : Str} {params : Arguments} {body : List Stmt} {dV kV doc pm ct oc : Value} {an od : Option Addr} {osl : Array (Option Value)} {sp : Sp} (lk : K.lookup f = some ⟨oc, od, .func (ksFn name qual params body sc dV kV doc pm an cd ct cc), osl⟩)
    (hcd : PySem.W.codeIn K cd qual = true) (lc : K.lookup cc = some ⟨cl, cld, .cell (some (.ref D)), csl⟩) (S : ClsScope N ps sc sc0) (len : ∀ vs H Q E, sp vs H Q E → vs.length = ps.length) (hloc : ∀ x ∈ ps, sc.names.lookup x = some .local ∧ sc0.names.lookup x = some .local)
    (hbody : ∀ (A : Around) (outer : List Env) (s : Shared) (H : Hp) (vs : List V) (Q : VK) (E : XK) (s1 : Shared), Room k (A.deeper (cenv qual sc s.heap.objs.size f cd cc)) → sp vs H Q E → Inv (cxD CX P w K mg base N qual sc sc0 f cd cc A outer s H E) [] (start N vs) H s1 →
      _root_.PySem.wpAt (model P w) (A.deeper (cenv qual sc s.heap.objs.size f cd cc)) (.func body (cenv qual sc s.heap.objs.size f cd cc)) (execs body (cenv qual sc s.heap.objs.size f cd cc))
        (SP (cxD CX P w K mg base N qual sc sc0 f cd cc A outer s H E) [] { nx := fun _ H' => Q .non H', rt := Q }) (cxD CX P w K mg base N qual sc sc0 f cd cc A outer s H E).xe s1) :
    FnOk P w K mg base CX (k + 1) f (ksFn name qual params body sc dV kV doc pm an cd ct cc) ps sp where
  len := len
  run := fun A outer s H args us vs Q E hr e0 hb r hsp => by
    have up : ∀ b o, base.get? b = some o → s.heap.get? b = some o := fun b o e => (e0.bs b o e).1
    have kin := e0.mod.kin.keeps up
    refine ks_codeAny_call_defAt (fd := ksFn name qual params body sc dV kV doc pm an cd ct cc) (binds := ps.zip us) hr.depth (kin _ _ lk) rfl (e0.mod.nolimit.keeps up) (PySem.W.codeRec_of kin hcd) rfl hb S.nocell (fun y hy => (hloc y.1 (List.of_mem_zip hy).1).1) (fun h1 hns hk => ?_) S.co S.gen S.kind
    have key : (fun x => (ps.zip us).reverse.lookup x) = bindL (envOfC qual sc0 s.heap.objs.size f cd).kindOf (ps.zip us) (fun _ => none) := by
      funext x
      rw [bindL_all _ _ (fun y hy => (hloc y.1 (List.of_mem_zip hy).1).2) x, Option.or_none]
    rw [key] at hns
    have x0 : InCallC s s.heap.objs.size (bindL (envOfC qual sc0 s.heap.objs.size f cd).kindOf (ps.zip us) fun _ => none) (cellsFrom (s.heap.objs.size + 1) sc0.names []) (bindC (envOfC qual sc0 s.heap.objs.size f cd).kindOf (ps.zip us) fun _ => none) { s with heap := h1, toks := s.toks + (ps.zip us).length } := by
      rw [S.cells0]
      exact ⟨⟨⟨h1, _, rfl⟩, hns, hk, Nat.le_refl _⟩, fun n c e => (by cases e), List.Pairwise.nil, fun n c e => (by cases e)⟩
    have I0 := inv_start (CX := CX) (cd := cd) (E := E) S.base hr.hd e0 (len _ _ _ _ hsp) r x0
    refine ks_wpAt_mono (hbody A outer s H vs Q E _ (hr.deeper _) hsp (start_cell S e0.frames lc I0)) (fun fl s2 q => ?_) fun _ _ q => q
    have z := end_of (X := cxD CX P w K mg base N qual sc sc0 f cd cc A outer s H E) rfl q
    cases fl <;> exact z
end
end Rd
/-! OwnE: super().__init__(text) at the head of an own exception's __init__. -/
namespace Rd
open PySem PySem.Spec PyProof.Rows PySem.W PySem.Calls L2
section
variable {X : Cx} {pins : List (Addr × Obj)} {σ : L2.St} {H : Hp} {s : Shared} {a C : Addr}
/-- one tracked object is laid anew by a rule that tells of the ledger: all else stands -/
theorem Inv.relaid {m : Str → Option Value} {h' : Heap} {o : HO} (I : L2.Inv X pins σ H s) (mu : Mut (H a)) (fr0 : Fr X.base X.env.locals s.heap m) (fr : Fr X.base X.env.locals h' m) (nw : News X.base X.env.locals h' (rest X.base s.heap X.env.locals a))
    (new : ∃ u, h'.get? a = some u) (ok : ObjOk X.prog X.w (upd H a o) h' a o) : L2.Inv X pins σ (upd H a o) { s with heap := h' } := by
  have kept : ∀ b u, b ≠ X.env.locals → b ≠ a → s.heap.get? b = some u → h'.get? b = some u := kept_of_news I.bk fr nw
  have free : ∀ b, H b = none → b ≠ a := fun b n e => by rw [e] at n; rw [n] at mu; exact mu
  have loc : ∀ b u, H b = some u → b ≠ X.env.locals := fun b u q e => by rw [e, I.free] at q; cases q
  have rigid : ∀ b u, H b = some u → ¬ Mut (some u) → b ≠ a := fun b u q n e => by rw [e] at q; rw [q] at mu; exact n mu
  refine I.step (g' := s.gens) (t' := s.toks) (d' := s.drawn) (ch := []) (fun b hb => (by cases hb)) (fun b u n _ _ q z => kept b u n (free b z) q) (fun b u n _ _ q z => ⟨u.slots, kept b u n (free b z) q⟩) (fun b u _ q z => ?_) (fun b u _ q => ?_) (fun b xs q => ?_) (fun b u v q => ?_) (fun b vs q => ?_) (fun m2 hm2 => ?_) (fun b u q => ?_) I.bare
  · rw [upd_ne (free b z)]; exact z
  · by_cases e : b = X.env.locals
    · obtain ⟨ob, _, _, hb, _⟩ := fr.ns
      exact ⟨ob, by rw [e]; exact hb⟩
    · by_cases e2 : b = a
      · rw [e2]; exact new
      · exact ⟨u, kept b u e e2 q⟩
  · rw [upd_ne (rigid b _ q fun z => z)]; exact q
  · rw [upd_ne (rigid b _ q fun z => z)]; exact q
  · exact ⟨#[], by rw [upd_ne (rigid b _ q fun z => z), q]; simp⟩
  · rw [hm2.eq_nsMap, ← fr0.ns.eq_nsMap]; exact fr.ns
  · by_cases e : b = a
    · subst e; rw [upd_same] at q; cases q; exact ok
    · rw [upd_ne e] at q
      refine (I.hok b u q).stay (fun c v hc r => ?_) (fun c r => ?_) fun c xs r => ?_
      · rcases hc with rfl | hc
        · exact kept c v (loc c u q) e r
        · exact kept c v (loc c _ hc) (rigid c _ hc fun z => z) r
      · rw [upd_ne (rigid c _ r fun z => z)]; exact r
      · rw [upd_ne (rigid c _ r fun z => z)]; exact r
/-- what the written part says of such a class -/
structure SupC (K : PySem.W.Frag) (C : Addr) : Prop where
  op : PySem.W.nsIn K cStatics "thirdparty.any" = some none
  ini : ks_superIn K C C "__init__" = some (some (.builtin "ValueError.__init__"))
  ve : PySem.W.subIn K (.ref C) (.type "ValueError") = some true
  slf : PySem.W.mroIn K C (.ref C) = some true
  made : excInitIn K C [.type "ValueError", .type "Exception", .type "BaseException", .type "object"] "ValueError.__new__" = true
theorem upd_self {o : HO} (e : H a = some o) : upd H a o = H := by
  funext b
  by_cases z : b = a
  · rw [z, upd_same, e]
  · exact upd_ne z
/-- the bound __init__ is called: nothing of it is told -/
theorem call_wrapped {A : Around} {E : Value → Shared → Prop} {u : Addr} {us : List Value} {Q : Value → Shared → Prop} (T : SupC X.K C) (I : L2.Inv X pins σ H s) (e : H a = some (exo a C none)) (hu : s.heap.get? u = some (kxs_mw "ValueError.__init__" a)) (nb : X.base.get? u = none) (nl : u ≠ X.env.locals)
    (hl : us.length ≤ sizeLine) (h : ∀ s', L2.Inv X pins σ H s' → Q .none s') : wpAny (model X.prog X.w) A (call (.ref u) us) Q E s := by
  obtain ⟨t, ho⟩ := exo_at I.hok e
  obtain ⟨m, fr⟩ := I.fr
  have al : a ≠ X.env.locals := fun z => by rw [z, I.free] at e; cases e
  have ab : X.base.get? a = none := by
    cases q : X.base.get? a with
    | none => rfl
    | some o => have z := (I.bs a o q).2; rw [e] at z; cases z
  have ua : u ≠ a := fun z => by rw [z, ho] at hu; cases hu
  refine kxs_call (L := X.env.locals) (h₀ := X.base) (t := t) (dv := none) (c2 := .none) fr I.mod.kin (news_at al ab ho) F.excBase_ValueError T.made (List.mem_cons_of_mem _ (mem_rest nl nb hu ua)) (.head rest_ne) hl fun t' h' fr' nw' _ => ?_
  have new : h'.get? a = some _ := (nw' (a, excObj C t' none .none) (by simp)).1
  have J := Inv.relaid (o := exo a C none) I (by rw [e]; exact trivial) fr fr' (fun p hp => nw' p (List.mem_cons_of_mem _ (List.mem_cons_of_mem _ hp))) ⟨_, new⟩ (exo_ok new)
  rw [upd_self e] at J
  exact h _ J
end
section
variable {CX : CXT} {P : Program} {w : World} {K : PySem.W.Frag} {mg : Str → Option Value} {base : Heap} {N ps : List Str} {qual : Str} {sc sc0 : Scope} {f cc C cda a : Addr} {A : Around} {outer : List Env} {s0 s : Shared} {H0 H : Hp} {E : XK} {σ : L2.St}
  {cl oc ccl : Value} {cld od cdd : Option Addr} {csl osl ccs : Array (Option Value)} {fd : FuncData} {ar : Arg} {body : List Stmt} {vs : Array Value} {file : Str} {tf : Tok}
/-- the file of the text, the def and its first name, as super() asks them -/
structure SupAt (P : Program) (K : PySem.W.Frag) (mg : Str → Option Value) (sc : Scope) (f cda : Addr) (x : Str) : Prop where
  fn : ∃ oc od fd osl ar, K.lookup f = some ⟨oc, od, .func fd, osl⟩ ∧ (fd.params.posonlyargs ++ fd.params.args).head? = some ar ∧ ar.arg = x
  code : ∃ cl cd vs sl file tf, K.lookup cda = some ⟨cl, cd, .fields vs, sl⟩ ∧ vs[2]? = some (.str file tf) ∧ ((P.main.file : Str) == file) = true
  top : (P.main.scope.names.lookup ("super" : Str)).isSome = false
  glo : mg "super" = none
  here : sc.names.lookup ("super" : Str) = some .globalImplicit
/-- super() at the head of a body: a new object of the kind super, all else stands -/
theorem sup_here {x : Str} {whole : Sem Value} {attr : Str} {p0 p1 : Pos} {D : Addr} {cdD : ClassData} {ox : Obj} {Q : Value → Shared → Prop} (I : L2.Inv (cxD CX P w K mg base N qual sc sc0 f (.ref cda) cc A outer s0 H0 E) [] σ H s) (S : ClsScope N ps sc sc0) (U : SupAt P K mg sc f cda x)
    (h0 : N[0]? = some x) (hx : sc.names.lookup x = some .local) (hσ : σ[0]? = some (some (.ref a))) (lc : K.lookup cc = some ⟨cl, cld, .cell (some (.ref D)), csl⟩) (hD : clsIn K D = some cdD) (ha : s.heap.get? a = some ox) (hcls : ox.cls = .ref C) (hnc : ∀ c, ox.data ≠ .cls c)
    (hsub : mroIn K C (.ref D) = some true) (hat : (attr == ("__class__" : Str)) = false)
    (h : ∀ so h', h'.get? so = some (ks_superObj D a C) → (∀ b o, s.heap.get? b = some o → h'.get? b = some o) → Q (.ref so) { s with heap := h' }) :
    _root_.PySem.wpAt (model P w) (A.deeper (cenv qual sc s0.heap.objs.size f (.ref cda) cc)) (.func body (cenv qual sc s0.heap.objs.size f (.ref cda) cc)) (attributeBase (.Call (.Name "super" p0) [] [] p1) attr (cenv qual sc s0.heap.objs.size f (.ref cda) cc) whole) Q
      (cxD CX P w K mg base N qual sc sc0 f (.ref cda) cc A outer s0 H0 E).xe s := by
  obtain ⟨_, _, _, _, ar, lf, hp, rfl⟩ := U.fn
  obtain ⟨_, _, _, _, _, _, lcd, hv, hfile⟩ := U.code
  obtain ⟨mb, nsb, hb⟩ := I.mod.blt
  have kin : K.In s.heap := I.kIn
  obtain ⟨m, ns, lk⟩ := I.loc
  obtain ⟨u, ru, hu⟩ := lk 0 ar.arg (.ref a) h0 hσ (.inl hx)
  have um : m ar.arg = some (.ref a) := by
    cases ru
    rcases hu with ⟨_, q⟩ | ⟨q, _⟩
    · exact q
    · have q' : sc.names.lookup ar.arg = some .cell ∨ sc.names.lookup ar.arg = some .free := q
      rw [hx] at q'
      rcases q' with z | z <;> cases z
  obtain ⟨oD, gD, eD⟩ : ∃ oD, s.heap.get? D = some oD ∧ oD.data = .cls cdD := by
    unfold clsIn at hD
    split at hD
    · rename_i q
      cases hD
      exact ⟨_, kin _ _ q, rfl⟩
    · cases hD
  have boot : bootBuiltins ("super" : Str) = some (.type "super") := by first | boot_by_name | rfl | kernel_rfl
  have last : wpAny (model P w) (A.deeper (cenv qual sc s0.heap.objs.size f (.ref cda) cc)) (call (.type "super") [.ref D, .ref a]) Q (cxD CX P w K mg base N qual sc sc0 f (.ref cda) cc A outer s0 H0 E).xe s :=
    ks_wpAny_call_super gD eD ha hcls hnc (looks_mroIn kin hsub) fun h' e k => h _ h' e k
  refine ks_wpAt_super_base (env := cenv qual sc s0.heap.objs.size f (.ref cda) cc) U.here S.free hat rfl (kin _ _ lf) rfl hp rfl (kin _ _ lcd) rfl hv hfile U.top ?_
  exact ks_loadName_global S.kind U.here (loadGlobal_builtin (env := cenv qual sc s0.heap.objs.size f (.ref cda) cc) (I.mod.glob.keeps I.bk) U.glo (nsb.keeps I.bk) ((hb _ (by decide)).trans boot)
    ⟨rfl, wpAny_loadName_free S.kind S.free rfl ⟨_, kin _ _ lc, rfl⟩ (wpAny_loadName_local S.kind hx ns um (ks_wpAny_isType_cls gD eD ⟨rfl, last⟩))⟩)
end
end Rd
/-! OwnI: an own exception's __init__ keeps its promise. -/
namespace Rd
open PySem PySem.Spec PyProof.Rows PySem.W PySem.Calls L2
section
variable {CX : CXT} {P : Program} {w : World} {K : PySem.W.Frag} {mg : Str → Option Value} {base : Heap} {N ps : List Str} {qual : Str} {sc sc0 : Scope} {f cc C cda a : Addr} {A : Around} {outer : List Env} {s0 s : Shared} {H0 H : Hp} {E : XK} {σ : L2.St}
  {cl : Value} {cld : Option Addr} {csl : Array (Option Value)} {body : List Stmt}
abbrev supCall (txt : Str) (j : Nat) (p0 p1 apos cp pos : Pos) : Expr := .Call (.Attribute (.Call (.Name "super" p0) [] [] p1) "__init__" apos) [.Constant (.str txt) j cp] [] pos
/-- how such a call is gone through -/
def GoesSup (env : Env) (txt : Str) (j : Nat) (p0 p1 apos cp pos : Pos) : Prop := ∃ pl : Sem Bool, eval (supCall txt j p0 p1 apos cp pos) env = (do
  let ov ← attributeBase (.Call (.Name "super" p0) [] [] p1) "__init__" env (eval (.Call (.Name "super" p0) [] [] p1) env)
  standAt apos.atName
  let (fx, first) ← holding [ov] (getMethod ov "__init__" pl)
  callWith pos fx first (backTo pos (starEach [.Constant (.str txt) j cp] env)) [])
theorem sup_init {x : Str} {txt : Str} {j : Nat} {p0 p1 apos cp pos pos' : Pos} (I : L2.Inv (cxD CX P w K mg base N qual sc sc0 f (.ref cda) cc A outer s0 H0 E) [] σ H s) (S : ClsScope N ps sc sc0) (U : SupAt P K mg sc f cda x) (T2 : SupC K C)
    (h0 : N[0]? = some x) (hx : sc.names.lookup x = some .local) (hσ : σ[0]? = some (some (.ref a))) (lc : K.lookup cc = some ⟨cl, cld, .cell (some (.ref C)), csl⟩) (e : H a = some (exo a C none))
    (go : GoesSup (cenv qual sc s0.heap.objs.size f (.ref cda) cc) txt j p0 p1 apos cp pos) (hsw : swapsWith (supCall txt j p0 p1 apos cp pos) none pos'.line (cenv qual sc s0.heap.objs.size f (.ref cda) cc) = pure false) :
    _root_.PySem.wpAt (model P w) (A.deeper (cenv qual sc s0.heap.objs.size f (.ref cda) cc)) (.func body (cenv qual sc s0.heap.objs.size f (.ref cda) cc)) (exec (.Expr (supCall txt j p0 p1 apos cp pos) pos') (cenv qual sc s0.heap.objs.size f (.ref cda) cc))
      (fun fl s' => fl = .next ∧ L2.Inv (cxD CX P w K mg base N qual sc sc0 f (.ref cda) cc A outer s0 H0 E) [] σ H s') (cxD CX P w K mg base N qual sc sc0 f (.ref cda) cc A outer s0 H0 E).xe s := by
  obtain ⟨pl, hev⟩ := go
  obtain ⟨t, ho⟩ := exo_at I.hok e
  obtain ⟨cdC, hcd, hal⟩ : ∃ cdC, clsIn K C = some cdC ∧ alongIn K "__init__" ((cdC.mro.dropWhile (· != .ref C)).drop 1) = some (some (.builtin "ValueError.__init__")) := by
    have q := T2.ini
    unfold ks_superIn at q
    cases z : clsIn K C with
    | none => rw [z] at q; cases q
    | some c => rw [z] at q; exact ⟨c, rfl, q⟩
  refine ks_wpAt_Expr_any (ks_wpAt_MethodCall (sup_here I S U h0 hx hσ lc hcd ho rfl (fun c z => by cases z) T2.slf (by decide) fun so h1 gso k1 => ?_) hev) I.quiet hsw
  have I1 := I.kept (t' := s.toks) k1
  have kin : K.In h1 := I1.kIn
  have inst : InstAt h1 a _ C none := ⟨k1 _ _ ho, rfl, rfl, trivial⟩
  obtain ⟨hs, g, d, tk, os⟩ := s
  have mro : Looks (model P w) h1 (mroOf (.ref C)) cdC.mro := (looks_clsIn kin hcd).andThen .now
  refine kxs_getMethod (d := d) kxs_ValueError gso (looks_opaque kin T2.op) mro rfl kin hal (inst.type.andThen (looks_subIn kin T2.ve)) (ks_ne kin inst hcd) (by decide) ?_
  have I2 := I1.kept (t' := tk + 1) (h' := h1.push (kxs_mw "ValueError.__init__" a)) fun b o q => Heap.get?_push_of_some _ q
  have gu : (h1.push (kxs_mw "ValueError.__init__" a)).get? h1.objs.size = some (kxs_mw "ValueError.__init__" a) := Heap.get?_push_size _ rfl
  have ul : h1.objs.size ≠ s0.heap.objs.size := fun z => by
    have q : s0.heap.objs.size < h1.objs.size := I1.lt
    omega
  have ub : base.get? h1.objs.size = none := by
    cases q : base.get? h1.objs.size with
    | none => rfl
    | some o => exact absurd (Heap.lt_size (I1.bk _ o q)) (Nat.lt_irrefl _)
  have I3 : L2.Inv (cxD CX P w K mg base N qual sc sc0 f (.ref cda) cc A outer s0 H0 E) [(h1.objs.size, kxs_mw "ValueError.__init__" a)] σ H ⟨h1.push (kxs_mw "ValueError.__init__" a), g, d, tk + 1, os⟩ := I2.pins_of fun p hp => by
    cases List.mem_singleton.mp hp
    exact ⟨gu, I1.hok.fresh (Nat.le_refl _), ul, I1.nofs (Nat.le_refl _), fun v z => by cases z⟩
  have PAc : PA (cxD CX P w K mg base N qual sc sc0 f (.ref cda) cc A outer s0 H0 E) [.Constant (.str txt) j cp] (tCons (tC (.str txt)) tNil) := pa_cons pe_str pa_nil (by rfl)
  refine kxs_callWith1 (h₀ := base) (L := s0.heap.objs.size) (i := "ValueError.__init__") (x := a) (news := [(h1.objs.size, kxs_mw "ValueError.__init__" a)]) (fun p hp => by cases List.mem_singleton.mp hp; exact ⟨gu, ul, ub⟩) (by simp)
    (wpAny_mono (PAc.run pos _ _ σ H (fun us H' => us.length = 1 ∧ H' = H) I3 ⟨rfl, rfl⟩) (fun us s2 q => ?_) fun _ _ z => z) (by rfl) (by rfl)
  obtain ⟨ws, H2, J, rv, hl, rfl⟩ := q
  have gu2 := (J.pin _ (List.mem_append_right _ (List.mem_singleton.mpr rfl))).1
  have hus : us.length ≤ sizeLine := by rw [← rv.length, hl]; decide
  exact ⟨gu2, call_wrapped (X := cxD CX P w K mg base N qual sc sc0 f (.ref cda) cc A outer s0 H0 E) T2 J e gu2 ub ul hus fun s' J' => ⟨rfl, J'.pins_of fun p hp => by cases hp⟩⟩
/-- an __init__ whose first row is super().__init__(text) -/
theorem fn_exc {k : Nat} {name x : Str} {params : Arguments} {rest : List Stmt} {dV kV doc pm ct oc : Value} {an od : Option Addr} {osl : Array (Option Value)} {sp : Sp} {txt : Str} {j : Nat} {p0 p1 apos cp pos pos' : Pos}
    (lk : K.lookup f = some ⟨oc, od, .func (ksFn name qual params (.Expr (supCall txt j p0 p1 apos cp pos) pos' :: rest) sc dV kV doc pm an (.ref cda) ct cc), osl⟩)
    (hcd : PySem.W.codeIn K (.ref cda) qual = true) (lc : K.lookup cc = some ⟨cl, cld, .cell (some (.ref C)), csl⟩) (S : ClsScope N ps sc sc0) (len : ∀ vs H Q E, sp vs H Q E → vs.length = ps.length) (hloc : ∀ x ∈ ps, sc.names.lookup x = some .local ∧ sc0.names.lookup x = some .local)
    (U : SupAt P K mg sc f cda x) (T2 : SupC K C) (h0 : N[0]? = some x) (hx : sc.names.lookup x = some .local)
    (go : ∀ L, GoesSup (cenv qual sc L f (.ref cda) cc) txt j p0 p1 apos cp pos) (hsw : ∀ L, swapsWith (supCall txt j p0 p1 apos cp pos) none pos'.line (cenv qual sc L f (.ref cda) cc) = pure false)
    (hs : ∀ vs H Q E, sp vs H Q E → ∃ a r, vs = .ref a :: r ∧ H a = some (exo a C none))
    (hrest : ∀ (A : Around) (outer : List Env) (s : Shared) (H : Hp) (vs : List V) (Q : VK) (E : XK), Room k (A.deeper (cenv qual sc s.heap.objs.size f (.ref cda) cc)) → sp vs H Q E →
      ∃ t, PSs (cxD CX P w K mg base N qual sc sc0 f (.ref cda) cc A outer s H E) rest t ∧ t { nx := fun _ H' => Q .non H', rt := Q } (start N vs) H) :
    FnOk P w K mg base CX (k + 1) f (ksFn name qual params (.Expr (supCall txt j p0 p1 apos cp pos) pos' :: rest) sc dV kV doc pm an (.ref cda) ct cc) ps sp := by
  refine fn_cell lk hcd lc S len hloc fun A outer s H vs Q E s1 hr hsp I => ?_
  obtain ⟨a, r, rfl, e⟩ := hs _ _ _ _ hsp
  obtain ⟨t, ht, hq⟩ := hrest A outer s H _ Q E hr hsp
  refine ks_wpAt_execs_cons (ks_wpAt_mono (sup_init I S U T2 h0 hx rfl lc e (go _) (hsw _)) (fun fl s2 q => ?_) fun _ _ z => z)
  obtain ⟨rfl, J⟩ := q
  exact wpAt_of_wpAny (ht.run [] s2 _ H _ J hq)
end
end Rd
/-! Catch: try .. except C as e, where e is kept behind the suite: the caught object becomes a tracked one. Only what C names is raised. -/
namespace Rd
open PySem PySem.Spec PyProof.Rows L2
/-- at a stands an exception of the class cls, its own dict at d -/
def XcO (cls : Value) (d : Option Addr) (a : Addr) : HO := .ext fun h => ∃ (o : Obj) (fs : Array Value), h.get? a = some o ∧ Zc cls d o ∧ o.data = .fields fs
/-- a is nobody's record here -/
structure Alone (X : Cx) (pins : List (Addr × Obj)) (a : Addr) : Prop where
  loc : a ≠ X.env.locals
  old : X.s_0.heap.get? a = none
  pin : ∀ p ∈ X.pn ++ pins, p.1 ≠ a
section
variable {X : Cx} {pins : List (Addr × Obj)} {σ : L2.St} {H : Hp} {s : Shared} {a : Addr} {cls : Value} {d : Option Addr}
theorem xcO_is {P : Program} {w : World} {h : Heap} {o : Obj} {fs : Array Value} (e : h.get? a = some o) (z : Zc cls d o) (q : o.data = .fields fs) : ObjOk P w H h a (XcO cls d a) :=
  ⟨⟨o, fs, e, z, q⟩, ⟨o, e⟩, fun _ _ ⟨o, fs, e, z, q⟩ k => ⟨o, fs, k o e, z, q⟩⟩
theorem Inv.hold {o : Obj} {fs : Array Value} (I : L2.Inv X pins σ H s) (al : Alone X pins a) (na : H a = none) (e : s.heap.get? a = some o) (z : Zc cls d o) (q : o.data = .fields fs) : L2.Inv X pins σ (upd H a (XcO cls d a)) s :=
  have up : ∀ {b : Addr} {u : HO}, H b = some u → upd H a (XcO cls d a) b = some u := fun {b u} hb => (upd_ne (ne_of_none hb na)).trans hb
  { ok := I.ok, os := I.os, bare := I.bare, loc := I.loc, cell := I.cell, len := I.len
    base := { keep := I.base.keep, slot := I.base.slot, there := I.base.there
              free := fun b u hb n hx => (upd_ne fun z => by rw [z, al.old] at hb; cases hb).trans (I.base.free b u hb n hx)
              tups := fun b xs hb => up (I.base.tups b xs hb)
              frzs := fun b u v hb => up (I.base.frzs b u v hb)
              tbls := fun b ps hb => let ⟨m, w⟩ := I.base.tbls b ps hb; ⟨m, up w⟩ }
    free := (upd_ne (Ne.symm al.loc)).trans I.free
    freeC := fun x c hc => (upd_ne fun z => by
      obtain ⟨v, u, hu, hv⟩ := I.cell x c hc
      rw [z, e] at hu; cases hu; rw [q] at hv; cases hv).trans (I.freeC x c hc)
    pin := fun p hp => let ⟨h1, h2, h3⟩ := I.pin p hp; ⟨h1, (upd_ne (al.pin p hp)).trans h2, h3⟩
    hok := HOk.laidN I.hok (fun _ _ hb => hb) na (xcO_is e z q) }
/-- the same ends over another context -/
theorem sp_map {Y : Cx} {p1 : List (Addr × Obj)} {D : Ends} {f : Flow} (m : ∀ σ H, L2.Inv Y p1 σ H s → L2.Inv X pins σ H s) (h : SP Y p1 D f s) : SP X pins D f s := by
  cases f with
  | ret u => exact let ⟨v, σ, H, J, r⟩ := h; ⟨v, σ, H, m σ H J, r⟩
  | next => exact let ⟨σ, H, J, r⟩ := h; ⟨σ, H, m σ H J, r⟩
  | brk => exact let ⟨σ, H, J, r⟩ := h; ⟨σ, H, m σ H J, r⟩
  | cont => exact let ⟨σ, H, J, r⟩ := h; ⟨σ, H, m σ H J, r⟩
/-- into the suite, and back -/
theorem Inv.intoSuite (I : L2.Inv X pins σ H s) : L2.Inv (X.suite a (X.pn ++ pins)) [] σ H s :=
  { ok := I.ok.suite _ _, os := I.os, bare := I.bare, base := I.base, loc := I.loc, cell := I.cell, free := I.free, freeC := I.freeC, hok := I.hok, len := I.len, pin := fun p hp => I.pin p (by simpa using hp) }
theorem Inv.outOfSuite {pn : List (Addr × Obj)} (ok : X.Ok) (I : L2.Inv (X.suite a (X.pn ++ pins)) pn σ H s) : L2.Inv X pins σ H s :=
  { ok := ok, os := I.os, bare := I.bare, base := I.base, loc := I.loc, cell := I.cell, free := I.free, freeC := I.freeC, hok := I.hok, len := I.len, pin := fun p hp => I.pin p (List.mem_append_left _ hp) }
/-- what flew in is nobody's record -/
theorem alone_of {B h : Heap} {o : Obj} {fs : Array Value} {sI : Shared} (hs : X.stack = X.env :: X.outer) (hf : X.env.frame = some X.env.locals) (hex : X.ex = []) (J : L2.Inv X pins σ H sI) (nb : ∀ b o, sI.heap.get? b = some o → b ∉ frs X.stack → B.get? b = some o)
    (hB : B.get? a = none) (ff : h.FunFrames B (X.env :: X.outer)) (e : h.get? a = some o) (q : o.data = .fields fs) : Alone X pins a := by
  have nst : a ∉ frs X.stack := by
    rw [hs]
    intro m
    obtain ⟨_, u, hu, nf⟩ := ff.mem m
    rw [e] at hu; cases hu
    exact nf fs q
  have nI : sI.heap.get? a = none := Option.eq_none_iff_forall_ne_some.mpr fun u hu => by
    have z := nb a u hu nst
    rw [hB] at z; cases z
  refine ⟨fun z => nst ?_, Option.eq_none_iff_forall_ne_some.mpr fun u hu => ?_, fun p hp z => ?_⟩
  · rw [hs, z]
    exact List.mem_filterMap.mpr ⟨X.env, List.mem_cons_self, hf⟩
  · obtain ⟨v, hv⟩ := J.base.there a u hu (by rw [hex]; exact List.not_mem_nil)
    rw [nI] at hv; cases hv
  · have hv := (J.pin p hp).1
    rw [z, nI] at hv; cases hv
end
/-- behind the suite the clause's name is unbound -/
def unbound (D : Ends) (i : Nat) : Ends := ⟨fun σ H => D.nx (σ.set i none) H, D.rt, fun σ H => D.bk (σ.set i none) H, fun σ H => D.ct (σ.set i none) H⟩
theorem w_unb {nx : L2.St → Hp → Prop} {rt : VK} {bk ct : L2.St → Hp → Prop} {i : Nat} {σ : L2.St} {H : Hp} (h : nx (σ.set i none) H) : (unbound ⟨nx, rt, bk, ct⟩ i).nx σ H := h
/-- the wish of such a clause -/
def wCatch (K : PySem.W.Frag) (c : Value) (i : Nat) (ts : TS) (D : Ends) : WX := fun cls d σ H => PySem.W.exmOne K cls c = some true ∧ ∀ a, H a = none → ts (unbound D i) (σ.set i (some (.ref a))) (upd H a (XcO cls d a))
section
variable {X : Cx} {x n : Str} {c : Value} {i : Nat} {body suite : List Stmt} {b0 : Stmt} {np pos pos' : Pos} {tb : WX → TS} {ts : TS}
/-- the clause takes what flew in -/
theorem clause_takes {rest : List ExceptHandler} {pins : List (Addr × Obj)} {σ : L2.St} {H : Hp} {D : Ends} {s' : Shared} {h3 B : Heap} {a : Addr} {cls : Value} {d : Option Addr} (ok : X.Ok) (hN : X.N.Nodup) (hi : X.N[i]? = some n) (hln : X.env.kindOf n = some .local) (hc : Names X x c)
    (hm : PySem.W.exmOne X.K cls c = some true) (hsu : ∀ (a : Addr) (pn : List (Addr × Obj)), PSs (X.suite a pn) (b0 :: suite) ts) (fl : HandSPX.FlyingZ B (X.env :: X.outer) a (Zc cls d) h3) (al : Alone X pins a) (na : H a = none)
    (on : ∀ h, HandSPX.FlyingZ B (X.env :: X.outer) a (Zc cls d) h → h3.UpToSlots h → L2.Inv X pins σ H { s' with heap := h }) (q : ts (unbound D i) (σ.set i (some (.ref a))) (upd H a (XcO cls d a))) :
    wpAny (model X.prog X.w) X.A (handleBy (.ref a) X.env (.ExceptHandler (some (.Name x np)) (some n) (b0 :: suite) pos' :: rest)) (SP X pins D) X.xe { s' with heap := h3 } := by
  have J := on h3 fl (Heap.UpToSlots.refl _)
  obtain ⟨o, fs, e, z, _⟩ := fl.there
  have look : PySem.W.Looks (model X.prog X.w) h3 (typeOf (.ref a)) cls := fun _ _ _ _ k w => wpAny_typeOf_ref (k _ _ e) (z.1 ▸ w)
  have back : ∀ {f : Flow} {s6 : Shared}, SP (X.suite a (X.pn ++ pins)) [] (unbound D i) f s6 → wpAny (model X.prog X.w) X.A (do bindName X.env n .none; unbindBehindTheSuite X.env n pos') (fun _ s7 => SP X pins D f s7) X.xe s6 := fun {f s6} h => by
    cases f with
    | ret u => exact let ⟨v, σ, H, S, r, w⟩ := h; gone_ok (Inv.outOfSuite ok S) hN hi hln fun s7 J7 => ⟨v, _, H, J7, r, w⟩
    | next => exact let ⟨σ, H, S, w⟩ := h; gone_ok (Inv.outOfSuite ok S) hN hi hln fun s7 J7 => ⟨_, H, J7, w⟩
    | brk => exact let ⟨σ, H, S, w⟩ := h; gone_ok (Inv.outOfSuite ok S) hN hi hln fun s7 J7 => ⟨_, H, J7, w⟩
    | cont => exact let ⟨σ, H, S, w⟩ := h; gone_ok (Inv.outOfSuite ok S) hN hi hln fun s7 J7 => ⟨_, H, J7, w⟩
  have name : ∀ {R : Value → Shared → Prop} {E : Value → Shared → Prop}, R c { s' with heap := h3 } → wpAny (model X.prog X.w) (X.A.mark (some (.ref a))) (eval (.Name x np) X.env) R E { s' with heap := h3 } := fun {R E} r => by
    have S := Inv.intoSuite (a := a) J
    obtain ⟨g1, g2, g3⟩ := hc
    rcases g3 with g3 | ⟨g3, g4, g5⟩
    · exact ld_glob S g1 g3 r g2
    · exact ld_blt S g1 g3 g4 r g5 g2
  refine wpAny_handleBy_cons (codeAny_handlers_test (name ((PySem.W.exm_one J.kIn look hm).here (codeAny_handlers_suite_as (HandSPX.lands_againZ fl fun h4 fl4 up4 => ?_))))) (fun w => by cases w)
  obtain ⟨o4, fs4, e4, z4, q4⟩ := fl4.there
  have S4 := Inv.intoSuite (a := a) (Inv.hold (on h4 fl4 up4) al na e4 z4 q4)
  refine store_ok (X := X.suite a (X.pn ++ pins)) (v := .ref a) S4 hN hi (.inl hln) rfl (fun s5 S5 => wpAny_mono ((hsu a (X.pn ++ pins)).run [] s5 _ _ _ S5 q) (fun f s6 w => ?_) fun _ _ w => w.elim) (.inr hln)
  exact back w
theorem ps_catch (hs : X.stack = X.env :: X.outer) (hf : X.env.frame = some X.env.locals) (hex : X.ex = []) (hN : X.N.Nodup) (hi : X.N[i]? = some n) (hln : X.env.kindOf n = some .local) (hc : Names X x c)
    (hb : ∀ (W : WX) (pn : List (Addr × Obj)) (xe : Value → Shared → Prop), Takes (X.tr pn xe) W → PassesOwn (model X.prog X.w) X.A X.env xe → PSs (X.tr pn xe) body (tb W)) (hsu : ∀ (a : Addr) (pn : List (Addr × Obj)), PSs (X.suite a pn) (b0 :: suite) ts) :
    PS X (.Try body [.ExceptHandler (some (.Name x np)) (some n) (b0 :: suite) pos'] [] [] pos) (fun D σ H => tb (wCatch X.K c i ts D) D σ H) where
  run := fun pins s σ H D I h => by
    have ok := I.ok
    have fr : X.A.frames = some (X.env :: X.outer) := ok.frames.trans (congrArg some hs)
    refine wpAny_Try_except (wpAny_mono ((hb (wCatch X.K c i ts D) (X.pn ++ pins) _ (fun u s' xx => ?_) PassesOwn.looking).run [] s σ H D (I.toTry _) h) (fun f s1 w => ?_) fun _ _ w => w)
    · obtain ⟨a, B, sI, p1, σ1, H1, cls, d, rfl, J1, nb, up, sky, na, os, ag, hm, q⟩ := xx
      have J : L2.Inv X pins σ1 H1 sI := J1.ofTry ok
      refine Sky.land Zc.steady fr hf (hs ▸ sky) fun h3 fl up3 => ?_
      obtain ⟨o, fs, e, _, qd⟩ := fl.there
      exact clause_takes ok hN hi hln hc hm hsu fl (alone_of hs hf hex J nb fl.2.1 fl.2.2.1 e qd) na (fun h4 fl4 up4 => J.landed nb fl4.1 ((up.trans up3).trans up4) os ag) (q a na)
    · have w' : SP X pins D f s1 := sp_map (fun σ H J => J.ofTry ok) w
      cases f with
      | next => exact wpAny_execs_nil w'
      | ret u => exact w'
      | brk => exact w'
      | cont => exact w'
end
end Rd
/-! Ask: isinstance of a kept exception, its fields; raise of an own exception with fields. -/
namespace Rd
open PySem PySem.Spec PyProof.Rows PySem.W PySem.Calls L2
/-- a kept exception of the class at D with the fields fs (none: it has no dict) -/
def XcAt (H : Hp) (a D : Addr) (fs : Option (List (Str × V))) : Prop := match fs with
  | none => H a = some (XcO (.ref D) none a)
  | some l => ∃ dd, H a = some (XcO (.ref D) (some dd) a) ∧ H dd = some (.xd l)
theorem XcAt.keep {H H' : Hp} {a D : Addr} {fs : Option (List (Str × V))} (h : XcAt H a D fs) (k : ∀ b o, H b = some o → H' b = some o) : XcAt H' a D fs := match fs, h with
  | none, e => k _ _ e
  | some _, ⟨dd, e1, e2⟩ => ⟨dd, k _ _ e1, k _ _ e2⟩
section
variable {X : Cx} {pins : List (Addr × Obj)} {σ : L2.St} {H : Hp} {s : Shared} {a D : Addr} {fs : Option (List (Str × V))}
theorem kept_inst (I : L2.Inv X pins σ H s) (h : XcAt H a D fs) : ∃ o od, InstAt s.heap a o D od ∧ ∀ l f v, fs = some l → l.lookup f = some v → ∃ ob u, od = some ob ∧ lookIn f ob = some (some u) ∧ RelV v u := by
  cases fs with
  | none =>
    obtain ⟨o, vs, e, ⟨z1, z2⟩, q⟩ := (I.hok a _ h).1
    exact ⟨o, none, ⟨e, z1, by unfold notCls; rw [q], by rw [z2]; trivial⟩, fun l f v z => nomatch z⟩
  | some l =>
    obtain ⟨dd, h1, h2⟩ := h
    obtain ⟨o, vs, e, ⟨z1, z2⟩, q⟩ := (I.hok a _ h1).1
    obtain ⟨mA, ns, rel⟩ := (show ObjOk X.prog X.w H s.heap dd (.xd l) from I.hok dd _ h2)
    obtain ⟨ob, ho, hl⟩ := lookIn_ns ns
    refine ⟨o, some ob, ⟨e, z1, by unfold notCls; rw [q], by rw [z2]; exact ho⟩, fun l' f v z w => ?_⟩
    cases z
    have r := rel f
    rw [w] at r
    obtain ⟨u, hu, ru⟩ := RelO.some_of r
    exact ⟨ob, u, rfl, (hl f).trans (congrArg some hu), ru⟩
theorem exc_kit {o : Obj} {od : Option Obj} (C : ExcC X.K D) : KitX X.K (.ref a) (.ref D) (fun h => InstAt h a o D od) := by
  have some_cls : (clsIn X.K D).isSome = true := by
    obtain ⟨cd, e, _⟩ := any_some C.hd
    rw [e]; rfl
  exact kitx_exc some_cls C.hg C.hk C.hs C.ha C.hn C.ht C.hm
def rIsX (K : PySem.W.Frag) : List V → Hp → VK → Prop := fun xs H Q => match xs with
  | [.ref a, c] => ∃ D fs u b, XcAt H a D fs ∧ ExcC K D ∧ ClsV c u ∧ kitOne K (.ref D) u = some b ∧ Q (.bl b) H
  | _ => False
def rIsXT (K : PySem.W.Frag) : List V → Hp → VK → Prop := fun xs H Q => match xs with
  | [.ref a, .ref tp] => ∃ D fs cs us b, XcAt H a D fs ∧ ExcC K D ∧ H tp = some (.tup cs) ∧ Paired ClsV cs us ∧ kitAny K (.ref D) us = some b ∧ Q (.bl b) H
  | _ => False
theorem cIsX : CallR X (.builtin "isinstance") (rIsX X.K) := by
  intro pins s σ H xs us Q I r h
  unfold rIsX at h
  split at h
  · obtain ⟨D, fs, u, b, hx, C, hc, e, q⟩ := h
    obtain ⟨v1, v2, rfl, r1, r2⟩ := vals2 r
    cases r1
    cases hc.eq r2
    obtain ⟨o, od, i, _⟩ := kept_inst I hx
    exact kia_one (exc_kit C) I.kIn i e (fun z => nomatch z) fun tk => ⟨.bl b, _, I.tok tk, rfl, q⟩
  · exact h.elim
theorem cIsXT : CallR X (.builtin "isinstance") (rIsXT X.K) := by
  intro pins s σ H xs us Q I r h
  unfold rIsXT at h
  split at h
  · obtain ⟨D, fs, cs, ws, b, hx, C, ht, hc, e, q⟩ := h
    obtain ⟨v1, v2, rfl, r1, r2⟩ := vals2 r
    cases r1
    cases r2
    obtain ⟨o, od, i, _⟩ := kept_inst I hx
    obtain ⟨its, rv, ⟨⟨c1, c2, c3, c4⟩, g1, g2, n, g3⟩, _⟩ := I.tuple (SqT.of ht)
    cases g2
    cases g3
    cases ClsV.all hc rv
    exact kia_tup (exc_kit C) I.kIn i g1 e (fun z => nomatch z) fun tk => ⟨.bl b, _, I.tok tk, rfl, q⟩
  · exact h.elim
theorem CallR.or {f : Value} {r r' : List V → Hp → VK → Prop} (h : CallR X f r) (h' : CallR X f r') : CallR X f (fun xs H Q => r xs H Q ∨ r' xs H Q) :=
  fun pins s σ H xs us Q I rv z => z.elim (h pins s σ H xs us Q I rv) (h' pins s σ H xs us Q I rv)
def uIsi (K : PySem.W.Frag) : List V → Hp → VK → Prop := fun xs H Q => rIsi K xs H Q ∨ rIsX K xs H Q
def uIsiT (K : PySem.W.Frag) : List V → Hp → VK → Prop := fun xs H Q => rIsiT K xs H Q ∨ rIsXT K xs H Q
theorem cIsi : CallR X (.builtin "isinstance") (uIsi X.K) := CallR.or call_isi cIsX
theorem cIsiT : CallR X (.builtin "isinstance") (uIsiT X.K) := CallR.or call_isiT cIsXT
/-- e.f of a kept exception -/
def tXk (K : PySem.W.Frag) (f : Str) (te : TE) : TE := fun σ H Q => te σ H fun x H1 => match x with
  | .ref a => ∃ C l v, XcAt H1 a C (some l) ∧ XfC K C ∧ findIn K (.ref C) f = some none ∧ l.lookup f = some v ∧ Q v H1
  | _ => False
theorem pe_xk {e : Expr} {te : TE} {f : Str} {pos : Pos} (he : PE X e te) (hb : attributeBase e f X.env (eval e X.env) = eval e X.env := by rfl) : PE X (.Attribute e f pos) (tXk X.K f te) where
  run := fun pins s σ H Q I h => attr_of hb (thn (he.run pins s σ H _ I h) fun u s1 w => by
    obtain ⟨x, H1, I1, rx, w⟩ := w
    split at w
    · obtain ⟨C, l, v, hx, T, hno, hl, q⟩ := w
      cases rx
      obtain ⟨o, od, i, hf⟩ := kept_inst I1 hx
      obtain ⟨ob, u, rfl, hu, ru⟩ := hf l f v rfl hl
      exact HandSPX.exc_get I1.kIn i T.ga T.gg T.exC (findObj_own T.hdC hno rfl hu) (handed_of ru) ⟨v, H1, I1.tok _, ru, q⟩
    · exact w.elim)
end
theorem w_xk {K : PySem.W.Frag} {f : Str} {i : Nat} {σ : L2.St} {H : Hp} {Q : VK} {a C : Addr} {l : List (Str × V)} {v : V} (hv : σ[i]? = some (some (.ref a))) (hx : XcAt H a C (some l)) (hc : XfC K C) (hn : findIn K (.ref C) f = some none) (hl : l.lookup f = some v) (h : Q v H) : tXk K f (tVar i) σ H Q := w_var hv ⟨C, l, v, hx, hc, hn, hl, h⟩
/-! ### an own exception with fields is made -/
def spX0 (C : Addr) : Sp := fun vs H Q _ => ∃ a, vs = [.ref a] ∧ H a = some (exo a C none) ∧ Q .non H
def spX1 (C : Addr) (f : Str) : Sp := fun vs H Q _ => ∃ a y, vs = [.ref a, y] ∧ H a = some (exo a C none) ∧ ∀ d, H d = none → d ≠ a → Q .non (upd (upd H d (exd d [(f, y)])) a (exo a C (some d)))
def spX2 (C : Addr) (f g : Str) : Sp := fun vs H Q _ => ∃ a y z, vs = [.ref a, y, z] ∧ H a = some (exo a C none) ∧ ∀ d, H d = none → d ≠ a → Q .non (upd (upd (upd H d (exd d [(f, y)])) a (exo a C (some d))) d (exd d [(g, z), (f, y)]))
section
variable {H : Hp} {σ : L2.St} {C : Addr} {W : XK}
theorem new_heap {H2 : Hp} {a d : Addr} {o : HO} (na : H a = none) (nd : d ≠ a) (h : ∀ b, b ≠ a → b ≠ d → H2 b = H b) : upd (del H2 a) d o = upd H d o := by
  funext b
  by_cases e : b = d
  · rw [e, upd_same, upd_same]
  · rw [upd_ne e, upd_ne e]
    by_cases z : b = a
    · rw [z, del_same, na]
    · rw [del_ne z, h b z e]
/-- the arguments of an exception are done -/
def kMkO (C : Addr) (sp : Sp) (dvs : List V) (W : XK) : List V → Hp → Prop := fun vs H => tMkO C sp dvs (tAc vs) [] H W
theorem w_mko {sp : Sp} {dvs : List V} {ta : TA} (h : ta σ H (kMkO C sp dvs W)) : tMkO C sp dvs ta σ H W := h
theorem use_raise1 {f : Str} {y : V} (h : ∀ d, H d = none → W (.ref C) (some d) (upd H d (.xd [(f, y)]))) : kMkO C (spX1 C f) [] W [y] H := by
  refine ⟨by show 1 ≤ 1000; decide, fun a na => ⟨a, y, rfl, upd_same, fun d nd hne => ⟨rfl, d, [(f, y)], upd_same, ?_, ?_, ?_⟩⟩⟩
  · rw [upd_ne hne, upd_same]
  · rw [upd_ne hne] at nd; exact nd
  · rw [upd_ne hne] at nd
    rw [new_heap na hne fun b hb hd => by rw [upd_ne hb, upd_ne hd, upd_ne hb]]
    exact h d nd
theorem use_raise2 {f g : Str} {y z : V} (h : ∀ d, H d = none → W (.ref C) (some d) (upd H d (.xd [(g, z), (f, y)]))) : kMkO C (spX2 C f g) [] W [y, z] H := by
  refine ⟨by show 2 ≤ 1000; decide, fun a na => ⟨a, y, z, rfl, upd_same, fun d nd hne => ⟨rfl, d, [(g, z), (f, y)], ?_, upd_same, ?_, ?_⟩⟩⟩
  · rw [upd_ne (Ne.symm hne), upd_same]
  · rw [upd_ne hne] at nd; exact nd
  · rw [upd_ne hne] at nd
    rw [new_heap na hne fun b hb hd => by rw [upd_ne hd, upd_ne hb, upd_ne hd, upd_ne hb]]
    exact h d nd
end
end Rd
/-! Hk: a Hook that also tells of own exceptions, of classes beside each other, and of defs with the cell __class__. -/
namespace Rd
open PySem PySem.Spec PyProof.Rows PySem.W L2
/-- facts of our own -/
inductive Xa where
  /-- an own exception whose __init__ begins with super().__init__ -/
  | exc (x : Str)
  /-- isinstance of an instance of x: an own class y, a built-in one -/
  | kit (x y : Str) (b : Bool) | kitT (x : Str) (t : String) (b : Bool)
  /-- isinstance of a thing of a built-in type -/
  | tkit (t : String) (y : Str) (b : Bool)
  /-- an except clause of y beside an exception of x -/
  | exm (x y : Str) (b : Bool)
  /-- instances of x may be asked for their class -/
  | inst (x : Str)
  /-- a staticmethod of a class -/
  | stat (x m : Str)
  /-- the class is the first of its own line -/
  | self1 (x : Str)
  /-- C.m is a def of the class, read off the class -/
  | cfun (x m : Str)
  /-- C.f is an int -/
  | cint (x f : Str) (i : Int)
  /-- instances of x are no ints -/
  | noint (x : Str)
  /-- super().m in a def of x is the def m of y -/
  | sup (x m y : Str)
  /-- m of x is m of y -/
  | heir (x m y : Str)
  /-- a property of a class -/
  | prop (x m : Str)
  /-- a default of x.__init__ is a written tuple of ints: the i-th, the one of a name -/
  | tupD (x : Str) (i : Nat) (is : List Int) | tupK (x k : Str) (is : List Int)
  /-- a tuple of texts, a dict of texts (its values by its keys) of the top -/
  | tupS (x : Str) (ss : List Str) | dicV (x : Str) (kvs : List (Str × Str))
  /-- x's own operator nm with a thing of the built-in type t behind it -/
  | binT (x : Str) (nm t : String)
  /-- instances of x are told apart by an own == alone -/
  | neD (x : Str)
/-- the default of the name k, if it is an object -/
def kwAt (f : Str × Option Str) (k : Str) (K : PySem.W.Frag) : Addr := match K.lookup (He.fAd K f) with
  | some ⟨_, _, .func fd, _⟩ => (match fd.kwdefaults with
    | .ref D => (match PySem.W.nsIn K D k with
      | some (some (.ref a)) => a
      | _ => 0)
    | _ => 0)
  | _ => 0
def wtupB (K : PySem.W.Frag) (a : Addr) (is : List Int) : Bool := match K.lookup a with
  | some ⟨.type c, _, .seq its _, _⟩ => decide (c = "tuple") && He.relAll (is.map V.int) its.toList
  | _ => false
def wtupS (K : PySem.W.Frag) (a : Addr) (ss : List Str) : Bool := match K.lookup a with
  | some ⟨.type c, none, .seq its _, _⟩ => decide (c = "tuple") && He.relAll (ss.map V.str) its.toList
  | _ => false
def veT : List Value := [.type "ValueError", .type "Exception", .type "BaseException", .type "object"]
/-- the class object of an own exception over ValueError -/
def xclsB (K : PySem.W.Frag) (C : Addr) : Bool := match K.lookup C with
  | some ⟨.type k, _, .cls cd, sl⟩ => decide (k = "type") && (match cd.mro, sl.toList with
    | .ref C' :: bm, [_, _, _, _, some (.builtin n), _] => decide (C' = C) && (decide (n = "ValueError.__new__") && (!cd.hasDel && (cd.hasDict && HandSPX.refsVE bm)))
    | _, _ => false)
  | _ => false
abbrev iAd (K : PySem.W.Frag) (x : Str) : Addr := He.ma K (He.ga K x) "__init__"
def excB (K : PySem.W.Frag) (x : Str) : Bool :=
  xclsB K (He.ga K x) && (He.eqO (findIn K (.ref (He.ga K x)) "__setattr__") (some (some (.builtin "object.__setattr__"))) && (decide (subIn K (.ref (He.ga K x)) (.type "BaseException") = some true) && (decide (typeIn K (.ref (He.ga K x)) = some (.type "type")) && (keepIn K (.ref (He.ga K x)) &&
  (He.eqO (nsIn K cStatics "thirdparty.any") (some none) && (He.eqO (ks_superIn K (He.ga K x) (He.ga K x) "__init__") (some (some (.builtin "ValueError.__init__"))) && (decide (subIn K (.ref (He.ga K x)) (.type "ValueError") = some true) && (decide (mroIn K (He.ga K x) (.ref (He.ga K x)) = some true) && (excInitIn K (He.ga K x) veT "ValueError.__new__" &&
  (He.eqO (findIn K (.ref (He.ga K x)) "__getattribute__") (some (some (.builtin "BaseException.__getattribute__"))) && (He.eqO (findIn K (.ref (He.ga K x)) "__getattr__") (some none) && (hasDictIn K (He.ga K x) && (He.eqO (findIn K (.ref (He.ga K x)) "__class__") (some (some (.builtin "object.__class__"))) &&
  (He.eqO (specialIn K (.builtin "object.__class__") "__get__") (some (some (.builtin "getset_descriptor.__get__"))) && (decide (takesIn K (.builtin "object.__class__") = some true) && (decide (mroIn K (He.ga K x) (.type "object") = some true) &&
  (He.eqO (findIn K (.ref (He.ga K x)) "__init__") (some (some (.ref (iAd K x)))) && decide (typeIn K (.ref (iAd K x)) = some (.type "function")))))))))))))))))))
/-- what a class finds under m is a descriptor of this kind -/
def cfB (K : PySem.W.Frag) (C : Addr) (m : Str) (n : String) : Bool := match findCls K (.ref C) (.type "type") m with
  | some (.get (.builtin n') (.ref p) .none (.ref C')) => decide (n' = n) && (decide (p = He.ma K C m) && decide (C' = C))
  | _ => false
theorem cf_ok {K : PySem.W.Frag} {C : Addr} {m : Str} {n : String} (h : cfB K C m n = true) : findCls K (.ref C) (.type "type") m = some (.get (.builtin n) (.ref (He.ma K C m)) .none (.ref C)) := by
  unfold cfB at h
  split at h
  · rename_i e
    rw [Bool.and_eq_true, Bool.and_eq_true, decide_eq_true_eq, decide_eq_true_eq, decide_eq_true_eq] at h
    obtain ⟨rfl, rfl, rfl⟩ := h
    exact e
  · cases h
/-- the def under a descriptor -/
def wrapAt (w : String) (x m : Str) (K : PySem.W.Frag) : Addr := match recIn K (He.ma K (He.ga K x) m) w with
  | some (.ref g :: _) => g
  | _ => 0
def Xa.ok (K : PySem.W.Frag) : Xa → Bool
  | .exc x => excB K x
  | .kit x y b => decide (kitOne K (.ref (He.ga K x)) (.ref (He.ga K y)) = some b)
  | .kitT x t b => decide (kitOne K (.ref (He.ga K x)) (.type t) = some b)
  | .tkit t y b => decide (kitOne K (.type t) (.ref (He.ga K y)) = some b)
  | .exm x y b => decide (exmOne K (.ref (He.ga K x)) (.ref (He.ga K y)) = some b)
  | .inst x => He.eqO (findIn K (.ref (He.ga K x)) "__class__") (some (some (.builtin "object.__class__"))) && (He.eqO (specialIn K (.builtin "object.__class__") "__get__") (some (some (.builtin "getset_descriptor.__get__"))) && (decide (takesIn K (.builtin "object.__class__") = some true) && decide (mroIn K (He.ga K x) (.type "object") = some true)))
  | .stat x m => readsIn K (He.ga K x) (.type "type") && (He.eqO (specialIn K (.ref (He.ga K x)) "__getattribute__") (some (some (.builtin "type.__getattribute__"))) && (cfB K (He.ga K x) m "staticmethod.__get__" && (match recIn K (He.ma K (He.ga K x) m) "staticmethod" with
    | some (.ref g :: _) => keepIn K (.ref g)
    | _ => false)))
  | .self1 x => selfFirst K (He.ga K x)
  | .cfun x m => readsIn K (He.ga K x) (.type "type") && (He.eqO (specialIn K (.ref (He.ga K x)) "__getattribute__") (some (some (.builtin "type.__getattribute__"))) && ((match findCls K (.ref (He.ga K x)) (.type "type") m with
    | some (.val (.ref g)) => decide (g = He.ma K (He.ga K x) m)
    | _ => false) && keepIn K (.ref (He.ma K (He.ga K x) m))))
  | .cint x f i => readsIn K (He.ga K x) (.type "type") && (He.eqO (specialIn K (.ref (He.ga K x)) "__getattribute__") (some (some (.builtin "type.__getattribute__"))) && (match findCls K (.ref (He.ga K x)) (.type "type") f with
    | some (.val (.int j _)) => decide (j = i)
    | _ => false))
  | .noint x => decide (subIn K (.ref (He.ga K x)) (.type "int") = some false)
  | .sup x m y => He.eqO (nsIn K cStatics "thirdparty.any") (some none) && (He.eqO (ks_superIn K (He.ga K x) (He.ga K x) m) (some (some (.ref (He.ma K (He.ga K y) m)))) && (decide (mroIn K (He.ga K x) (.ref (He.ga K x)) = some true) && (decide (typeIn K (.ref (He.ma K (He.ga K y) m)) = some (.type "function")) && fnIn K (He.ma K (He.ga K y) m))))
  | .heir x m y => decide (He.ma K (He.ga K x) m = He.ma K (He.ga K y) m)
  | .prop x m => He.eqO (findIn K (.ref (He.ga K x)) m) (some (some (.ref (He.ma K (He.ga K x) m)))) && (He.eqO (specialIn K (.ref (He.ma K (He.ga K x) m)) "__get__") (some (some (.builtin "property.__get__"))) && (decide (takesIn K (.ref (He.ma K (He.ga K x) m)) = some true) && (match recIn K (He.ma K (He.ga K x) m) "property" with
    | some (.ref _ :: _) => true
    | _ => false)))
  | .tupD x i is => decide (is.length ≤ 100) && wtupB K (He.dflAt (x, some "__init__") i K) is
  | .tupK x k is => decide (is.length ≤ 100) && wtupB K (kwAt (x, some "__init__") k K) is
  | .tupS x ss => decide (ss.length ≤ 100) && wtupS K (He.ga K x) ss
  | .dicV x kvs => He.valsB K (He.ga K x) (kvs.map fun q => (q.1, .str q.2))
  | .binT x nm t => selfFirst K (He.ga K x) && ((match findIn K (.ref (He.ga K x)) (dunderR nm) with
    | some none => true
    | some (some (.ref _)) => true
    | _ => false) && ((findIn K (.type t) (PySem.dunder nm)).isSome && ((findIn K (.type t) (dunderR nm)).isSome && decide (subIn K (.type t) (.ref (He.ga K x)) = some false))))
  | .neD x => He.eqO (findIn K (.ref (He.ga K x)) "__ne__") (some (some (.builtin "object.__ne__"))) && decide (subIn K (.ref (He.ga K x)) (.type "object") = some true)
structure ExcT (K : PySem.W.Frag) (x : Str) : Prop where
  oex : OexC K (He.ga K x)
  sup : SupC K (He.ga K x)
  is : ExcC K (He.ga K x)
  fld : XfC K (He.ga K x)
  ini : findIn K (.ref (He.ga K x)) "__init__" = some (some (.ref (iAd K x)))
  fn : typeIn K (.ref (iAd K x)) = some (.type "function")
theorem xcls_ok {K : PySem.W.Frag} {C : Addr} (h : xclsB K C = true) : ∃ nm q N bs bm sn sub ab col dd k0 k1 k2 k3 k5, K.lookup C = some (excClassObj nm q C N bs bm true sn sub ab col dd k0 k1 k2 k3 k5 "ValueError.__new__") ∧ HandSPX.refsVE bm = true := by
  unfold xclsB at h
  split at h
  · rename_i k dd cd sl hl
    have hk := (He.ba h).1
    have hr := (He.ba h).2
    have ek := of_decide_eq_true hk
    subst ek
    split at hr
    · rename_i C' bm k0 k1 k2 k3 n k5 hm hs
      simp only [Bool.and_eq_true, decide_eq_true_eq, Bool.not_eq_true'] at hr
      obtain ⟨e1, e2, e3, e4, e5⟩ := hr
      obtain ⟨nm, bs, mro, ns, qn, hd, sn, sub, ab, col, dl⟩ := cd
      simp only at hm e3 e4
      have es : sl = #[k0, k1, k2, k3, some (.builtin n), k5] := by
        obtain ⟨l⟩ := sl
        exact congrArg Array.mk hs
      subst hm es e1 e2 e3 e4
      exact ⟨nm, qn, ns, bs, bm, sn, sub, ab, col, dd, k0, k1, k2, k3, k5, hl, e5⟩
    · exact Bool.noConfusion hr
  · exact Bool.noConfusion h
theorem exc_ok {K : PySem.W.Frag} {x : Str} (h : excB K x = true) : ExcT K x := by
  unfold excB at h
  simp only [Bool.and_eq_true, decide_eq_true_eq] at h
  obtain ⟨a1, a2, a3, a4, a5, a6, a7, a8, a9, a10, a11, a12, a13, a14, a15, a16, a17, a18, a19⟩ := h
  exact { oex := ⟨xcls_ok a1, He.eqO_ok a2, a3, a4, a5⟩, sup := ⟨He.eqO_ok a6, He.eqO_ok a7, a8, a9, a10⟩, is := ⟨He.eqO_ok a11, He.eqO_ok a12, a3, a13, He.eqO_ok a14, He.eqO_ok a15, a16, a17⟩, fld := ⟨He.eqO_ok a11, He.eqO_ok a12, a3, a13⟩, ini := He.eqO_ok a18, fn := a19 }
/-! ### a def that closes over __class__ -/
abbrev FnV : Type := Option (Str × Str × Arguments × FuncBody × Scope × Addr × List Str × Addr)
def fnV (K : PySem.W.Frag) (p : Str × Option Str) : FnV := match K.lookup (He.fAd K p) with
  | some ⟨_, _, .func fd, _⟩ => some (fd.name, fd.qualname, fd.params, fd.body, fd.scope, fd.globals, fd.closure.map (·.1), fd.builtins)
  | _ => none
structure DefS where
  cls : Str
  name : Str
  qual : Str
  st : Stmt
  dfl : List He.Dv := []
  kwd : List (Str × He.Dv) := []
def DefS.val (d : DefS) : FnV := some (d.name, d.qual, defArgs d.st, .stmts (defBody d.st), defScope d.st, mainGlobals, ["__class__"], builtinsNs)
def DefS.dvs (K : PySem.W.Frag) (d : DefS) : List V := d.dfl.map (He.Dv.v K)
def DefS.kws (K : PySem.W.Frag) (d : DefS) : List (Str × V) := d.kwd.map fun q => (q.1, q.2.v K)
def cellB (K : PySem.W.Frag) (cc C : Addr) : Bool := match K.lookup cc with
  | some ⟨_, _, .cell (some (.ref D)), _⟩ => decide (D = C)
  | _ => false
def fileB (K : PySem.W.Frag) (cd : Value) : Bool := match cd with
  | .ref c => (match K.lookup c with
    | some ⟨_, _, .fields vs, _⟩ => (match (vs[2]? : Option Value) with
      | some (.str z _) => decide (z = "/claim/cut.py")
      | _ => false)
    | _ => false)
  | _ => false
def DefS.ok (K : PySem.W.Frag) (d : DefS) : Bool := keepIn K (.ref (He.fAd K (d.cls, some d.name))) && (match K.lookup (He.fAd K (d.cls, some d.name)) with
  | some ⟨_, _, .func fd, _⟩ => codeIn K fd.code d.qual && (He.dflB K fd.defaults (d.dvs K) && (He.kwdB K fd.kwdefaults (d.kws K) && (fileB K fd.code && (match fd.closure with
    | [(_, cc)] => cellB K cc (He.ga K d.cls)
    | _ => false))))
  | _ => false)
/-- such a def as it stands behind the top -/
structure FunS (K : PySem.W.Frag) (name qual : Str) (st : Stmt) (dvs : List V) (kws : List (Str × V)) (C f : Addr) (fd : FuncData) : Prop where
  ex : ∃ oc od dV kV doc pm an cda ct osl cc cl cld csl, fd = ksFn name qual (defArgs st) (defBody st) (defScope st) dV kV doc pm an (.ref cda) ct cc ∧ K.lookup f = some ⟨oc, od, .func fd, osl⟩ ∧ codeIn K (.ref cda) qual = true ∧ DflV K dV dvs ∧ KwdV K kV kws ∧
    K.lookup cc = some ⟨cl, cld, .cell (some (.ref C)), csl⟩ ∧ ∃ ccl cdd vs sl tf, K.lookup cda = some ⟨ccl, cdd, .fields vs, sl⟩ ∧ vs[2]? = some (.str "/claim/cut.py" tf)
  kp : keepIn K (.ref f) = true
theorem cell_ok {K : PySem.W.Frag} {cc C : Addr} (h : cellB K cc C = true) : ∃ cl cld csl, K.lookup cc = some ⟨cl, cld, .cell (some (.ref C)), csl⟩ := by
  unfold cellB at h
  split at h
  · rename_i q
    cases of_decide_eq_true h
    exact ⟨_, _, _, q⟩
  · cases h
theorem file_ok {K : PySem.W.Frag} {cd : Value} (h : fileB K cd = true) : ∃ c ccl cdd vs sl tf, cd = .ref c ∧ K.lookup c = some ⟨ccl, cdd, .fields vs, sl⟩ ∧ vs[2]? = some (.str "/claim/cut.py" tf) := by
  unfold fileB at h
  split at h
  · split at h
    · rename_i q
      split at h
      · rename_i z
        cases of_decide_eq_true h
        exact ⟨_, _, _, _, _, _, rfl, q, z⟩
      · cases h
    · cases h
  · cases h
theorem DefS.funS {K : PySem.W.Frag} {d : DefS} (e : fnV K (d.cls, some d.name) = d.val) (c : d.ok K = true) : ∃ fd, FunS K d.name d.qual d.st (d.dvs K) (d.kws K) (He.ga K d.cls) (He.fAd K (d.cls, some d.name)) fd := by
  obtain ⟨kp, c⟩ := He.ba c
  unfold fnV at e
  split at c
  · rename_i oc od fd osl q
    rw [q] at e
    obtain ⟨c1, c⟩ := He.ba c
    obtain ⟨c2, c⟩ := He.ba c
    obtain ⟨c3, c⟩ := He.ba c
    obtain ⟨c4, c5⟩ := He.ba c
    obtain ⟨cda, ccl, cdd, vs, sl, tf, e1, e2, e3⟩ := file_ok c4
    split at c5
    · rename_i y cc hcl
      obtain ⟨cl, cld, csl, hc⟩ := cell_ok c5
      obtain ⟨n1, n2, n3, n4, n5, n6, n7, n8, n9, n10, n11, n12, n13, n14, n15⟩ := fd
      simp only at e hcl e1 c1 c2 c3
      subst hcl e1
      simp only [DefS.val, List.map_cons, List.map_nil, Option.some.injEq, Prod.mk.injEq, List.cons.injEq, and_true] at e
      obtain ⟨f1, f2, f3, f4, f5, f6, f7, f8⟩ := e
      subst f1 f2 f3 f4 f5 f6 f7 f8
      exact ⟨_, ⟨oc, od, n8, n9, n10, n11, n12, cda, n14, osl, cc, cl, cld, csl, rfl, q, c1, He.dflB_ok c2, He.kwdB_ok c3, hc, ccl, cdd, vs, sl, tf, e2, e3⟩, kp⟩
    · cases c5
  · cases c
/-! ### a def found by a path of its own -/
structure DefP where
  path : PySem.W.Frag → Addr
  name : Str
  qual : Str
  st : Stmt
  dfl : List He.Dv := []
  kwd : List (Str × He.Dv) := []
def fnP (K : PySem.W.Frag) (a : Addr) : He.FnW := match K.lookup a with
  | some ⟨_, _, .func fd, _⟩ => some (fd.name, fd.qualname, fd.params, fd.body, fd.scope, fd.globals, fd.closure, fd.builtins)
  | _ => none
def DefP.val (d : DefP) : He.FnW := some (d.name, d.qual, defArgs d.st, .stmts (defBody d.st), defScope d.st, mainGlobals, [], builtinsNs)
def DefP.dvs (K : PySem.W.Frag) (d : DefP) : List V := d.dfl.map (He.Dv.v K)
def DefP.kws (K : PySem.W.Frag) (d : DefP) : List (Str × V) := d.kwd.map fun q => (q.1, q.2.v K)
def DefP.ok (K : PySem.W.Frag) (d : DefP) : Bool := keepIn K (.ref (d.path K)) && (match K.lookup (d.path K) with
  | some ⟨_, _, .func fd, _⟩ => codeIn K fd.code d.qual && (He.dflB K fd.defaults (d.dvs K) && He.kwdB K fd.kwdefaults (d.kws K))
  | _ => false)
theorem DefP.funD {K : PySem.W.Frag} {d : DefP} (e : fnP K (d.path K) = d.val) (c : d.ok K = true) : ∃ fd, FunD K d.name d.qual (defArgs d.st) (defBody d.st) (defScope d.st) (d.dvs K) (d.kws K) (d.path K) fd := by
  obtain ⟨kp, c⟩ := He.ba c
  unfold fnP at e
  split at c
  · rename_i oc od fd osl q
    rw [q] at e
    obtain ⟨c1, c⟩ := He.ba c
    obtain ⟨c2, c3⟩ := He.ba c
    obtain ⟨n1, n2, n3, n4, n5, n6, n7, n8, n9, n10, n11, n12, n13, n14, n15⟩ := fd
    simp only at e c1 c2 c3
    simp only [DefP.val, Option.some.injEq, Prod.mk.injEq] at e
    obtain ⟨f1, f2, f3, f4, f5, f6, f7, f8⟩ := e
    subst f1 f2 f3 f4 f5 f6 f7 f8
    exact ⟨_, ⟨oc, od, n8, n9, n10, n11, n12, n13, n14, osl, rfl, q, c1, He.dflB_ok c2, He.kwdB_ok c3⟩, kp⟩
  · cases c
structure Fs where
  s : List DefS
  p : List DefP
  /-- dicts of the top with text keys -/
  d : List (Str × List Str) := []
/-! ### the Hook -/
/-- those that the mask has not, and the mask with them -/
def sift : List Addr → Nat → List Addr → List Addr × Nat
  | [], m, acc => (acc, m)
  | a :: r, m, acc => match Nat.beq (Nat.land (Nat.shiftRight m a) 1) 0 with
    | true => sift r (Nat.lor m (Nat.shiftLeft 1 a)) (a :: acc)
    | false => sift r m acc
/-- what is reached in n steps: level by level, each address once (a mask tells which were seen: lists without double ones by comparing them cost the kernel more than the run itself) -/
def bfs (g : Addr → Option Obj) : Nat → List Addr → Nat → List Addr → List Addr
  | 0, _, _, all => all
  | n + 1, fr, m, all => match sift (fr.flatMap fun a => match g a with
    | some o => He.refsD o
    | none => []) m [] with
    | (nw, m') => bfs g n nw m' (all ++ nw)
def asE (g : Addr → Option Obj) (n : Nat) : List Addr := bfs g n [mainGlobals, cStatics] (Nat.lor (Nat.shiftLeft 1 mainGlobals) (Nat.shiftLeft 1 cStatics)) [mainGlobals, cStatics]
abbrev AlE : Type := He.AlD × (Bool × (List FnV × (List He.FnW × List (Option (List (Option (Str × Int)))))))
def obsE (fa : List He.Fa) (fn : List He.DefD) (xa : List Xa) (fs : Fs) (K : PySem.W.Frag) : AlE := (He.obsD fa fn K, ((xa.all fun a => a.ok K) && ((fs.s.all fun d => d.ok K) && fs.p.all fun d => d.ok K), (fs.s.map fun d => fnV K (d.cls, some d.name), fs.p.map fun d => fnP K (d.path K), fs.d.map fun d => He.dicW K (He.ga K d.1))))
def valE (fn : List He.DefD) (fs : Fs) (w : World) : AlE := (He.valD fn, (true, (fs.s.map DefS.val, fs.p.map DefP.val, fs.d.map fun d => some (He.keysIn w.params d.2))))
def SaysE (fa : List He.Fa) (fn : List He.DefD) (xa : List Xa) (fs : Fs) (w : World) (K : PySem.W.Frag) : Prop := obsE fa fn xa fs K = valE fn fs w
def obsEG (n : Nat) (fa : List He.Fa) (fn : List He.DefD) (xa : List Xa) (fs : Fs) (g : Addr → Option Obj) : AlE := obsE fa fn xa fs (He.frG g (asE g n))
def hookE (n : Nat) (fa : List He.Fa) (fn : List He.DefD) (xa : List Xa) (fs : Fs) : PySem.W.Hook where
  α := AlE
  obs := fun s => obsEG n fa fn xa fs s.heap.get?
  val := fun w => valE fn fs w
  says := fun w h => ∃ K : PySem.W.Frag, K.In h ∧ SaysE fa fn xa fs w K
  of := fun _ _ e => ⟨_, He.frG_in, e⟩
  keeps := fun _ _ _ ⟨K, hK, c⟩ k => ⟨K, PySem.W.Frag.In.keeps hK k, c⟩
theorem obsEG_eq {n : Nat} {fa : List He.Fa} {fn : List He.DefD} {xa : List Xa} {fs : Fs} {g : Addr → Option Obj} {s : Shared} (h : ∀ a, g a = s.heap.get? a) : obsEG n fa fn xa fs g = (hookE n fa fn xa fs).obs s := by
  cases (funext h : g = s.heap.get?)
  rfl
section
variable {fa : List He.Fa} {fn : List He.DefD} {xa : List Xa} {fs : Fs} {w : World} {K : PySem.W.Frag}
theorem SaysE.base (c : SaysE fa fn xa fs w K) : He.SaysD fa fn K := congrArg Prod.fst c
theorem SaysE.flag (c : SaysE fa fn xa fs w K) : ((xa.all fun a => a.ok K) && ((fs.s.all fun d => d.ok K) && fs.p.all fun d => d.ok K)) = true := congrArg (fun z : AlE => z.2.1) c
theorem SaysE.own (c : SaysE fa fn xa fs w K) (i : Nat) {a : Xa} (h : xa[i]? = some a := by rfl) : a.ok K = true :=
  List.all_eq_true.mp (He.ba c.flag).1 a (List.mem_of_getElem? h)
theorem SaysE.sdef (c : SaysE fa fn xa fs w K) (i : Nat) {d : DefS} (h : fs.s[i]? = some d := by rfl) : ∃ fd, FunS K d.name d.qual d.st (d.dvs K) (d.kws K) (He.ga K d.cls) (He.fAd K (d.cls, some d.name)) fd := by
  have ok := List.all_eq_true.mp (He.ba (He.ba c.flag).2).1 d (List.mem_of_getElem? h)
  have e : (fs.s.map fun d => fnV K (d.cls, some d.name))[i]? = (fs.s.map DefS.val)[i]? := congrArg (fun z : AlE => z.2.2.1[i]?) c
  rw [List.getElem?_map, List.getElem?_map, h] at e
  exact DefS.funS (Option.some.inj e) ok
theorem SaysE.pdef (c : SaysE fa fn xa fs w K) (i : Nat) {d : DefP} (h : fs.p[i]? = some d := by rfl) : ∃ fd, FunD K d.name d.qual (defArgs d.st) (defBody d.st) (defScope d.st) (d.dvs K) (d.kws K) (d.path K) fd := by
  have ok := List.all_eq_true.mp (He.ba (He.ba c.flag).2).2 d (List.mem_of_getElem? h)
  have e : (fs.p.map fun d => fnP K (d.path K))[i]? = (fs.p.map DefP.val)[i]? := congrArg (fun z : AlE => z.2.2.2.1[i]?) c
  rw [List.getElem?_map, List.getElem?_map, h] at e
  exact DefP.funD (Option.some.inj e) ok
end
end Rd
/-! HkL: the Hook that looks at given objects alone. -/
namespace Rd
open PySem PySem.Spec PyProof.Rows PySem.W L2
def obsLG (as : List Addr) (fa : List He.Fa) (fn : List He.DefD) (xa : List Xa) (fs : Fs) (g : Addr → Option Obj) : AlE := obsE fa fn xa fs (He.frG g as)
def hookL (as : List Addr) (fa : List He.Fa) (fn : List He.DefD) (xa : List Xa) (fs : Fs) : PySem.W.Hook where
  α := AlE
  obs := fun s => obsLG as fa fn xa fs s.heap.get?
  val := fun w => valE fn fs w
  says := fun w h => ∃ K : PySem.W.Frag, K.In h ∧ SaysE fa fn xa fs w K
  of := fun _ _ e => ⟨_, He.frG_in, e⟩
  keeps := fun _ _ _ ⟨K, hK, c⟩ k => ⟨K, PySem.W.Frag.In.keeps hK k, c⟩
theorem obsLG_eq {as : List Addr} {fa : List He.Fa} {fn : List He.DefD} {xa : List Xa} {fs : Fs} {g : Addr → Option Obj} {s : Shared} (h : ∀ a, g a = s.heap.get? a) : obsLG as fa fn xa fs g = (hookL as fa fn xa fs).obs s := by
  cases (funext h : g = s.heap.get?)
  rfl
end Rd
namespace My
open PySem PySem.Spec PyProof.Rows L2 Rd
def top (i : Nat) : Stmt := PySem.Challenge.pw_barbreaks_k05_grids_shared.main.body.getD i (.Pass ⟨0, 0, 0, 0⟩)
abbrev R : PySem.W.OpenRow := PySem.W.OpenLaw.row PySem.Challenge.rw_barbreaks_k05_grids_shared
def d__law_is_int : He.DefD := ⟨("_law_is_int", none), "_law_is_int", "_law_is_int", defArgs (top 18), defBody (top 18), defScope (top 18), [], []⟩
def d__law_pool : He.DefD := ⟨("_law_pool", none), "_law_pool", "_law_pool", defArgs (top 19), defBody (top 19), defScope (top 19), [], []⟩
def d__law_take : He.DefD := ⟨("_law_take", none), "_law_take", "_law_take", defArgs (top 20), defBody (top 20), defScope (top 20), [], []⟩
def d__law_big : He.DefD := ⟨("_law_big", none), "_law_big", "_law_big", defArgs (top 21), defBody (top 21), defScope (top 21), [], []⟩
def d__law_free : He.DefD := ⟨("_law_free", none), "_law_free", "_law_free", defArgs (top 22), defBody (top 22), defScope (top 22), [], []⟩
def d__law_step : He.DefD := ⟨("_law_step", none), "_law_step", "_law_step", defArgs (top 23), defBody (top 23), defScope (top 23), [], []⟩
def d__law_shift : He.DefD := ⟨("_law_shift", none), "_law_shift", "_law_shift", defArgs (top 24), defBody (top 24), defScope (top 24), [], []⟩
def d_Grid___init__ : He.DefD := ⟨("Grid", some "__init__"), "__init__", "Grid.__init__", defArgs (inClass (top 15) 0), defBody (inClass (top 15) 0), defScope (inClass (top 15) 0), [.int 0], []⟩
def d_Grid_first_bar : He.DefD := ⟨("Grid", some "first_bar"), "first_bar", "Grid.first_bar", defArgs (inClass (top 15) 2), defBody (inClass (top 15) 2), defScope (inClass (top 15) 2), [], []⟩
def d_Grid___contains__ : He.DefD := ⟨("Grid", some "__contains__"), "__contains__", "Grid.__contains__", defArgs (inClass (top 15) 6), defBody (inClass (top 15) 6), defScope (inClass (top 15) 6), [], []⟩
def d_Grid_within : He.DefD := ⟨("Grid", some "within"), "within", "Grid.within", defArgs (inClass (top 15) 5), defBody (inClass (top 15) 5), defScope (inClass (top 15) 5), [], []⟩
def d_Grid___eq__ : He.DefD := ⟨("Grid", some "__eq__"), "__eq__", "Grid.__eq__", defArgs (inClass (top 15) 7), defBody (inClass (top 15) 7), defScope (inClass (top 15) 7), [], []⟩
def d_Grid___add__ : He.DefD := ⟨("Grid", some "__add__"), "__add__", "Grid.__add__", defArgs (inClass (top 15) 9), defBody (inClass (top 15) 9), defScope (inClass (top 15) 9), [], []⟩
def d_Grid___radd__ : He.DefD := ⟨("Grid", some "__radd__"), "__radd__", "Grid.__radd__", defArgs (inClass (top 15) 10), defBody (inClass (top 15) 10), defScope (inClass (top 15) 10), [], []⟩
def d_Grid___sub__ : He.DefD := ⟨("Grid", some "__sub__"), "__sub__", "Grid.__sub__", defArgs (inClass (top 15) 11), defBody (inClass (top 15) 11), defScope (inClass (top 15) 11), [], []⟩
def d_extended_gcd : He.DefD := ⟨("extended_gcd", none), "extended_gcd", "extended_gcd", defArgs (top 14), defBody (top 14), defScope (top 14), [], []⟩
def d_Grid___and__ : He.DefD := ⟨("Grid", some "__and__"), "__and__", "Grid.__and__", defArgs (inClass (top 15) 12), defBody (inClass (top 15) 12), defScope (inClass (top 15) 12), [], []⟩
def d_common_grid : He.DefD := ⟨("common_grid", none), "common_grid", "common_grid", defArgs (top 16), defBody (top 16), defScope (top 16), [], []⟩
def d__law_row : He.DefD := ⟨("_law_row", none), "_law_row", "_law_row", defArgs (top 25), defBody (top 25), defScope (top 25), [], []⟩
def d__law_gcd : He.DefD := ⟨("_law_gcd", none), "_law_gcd", "_law_gcd", defArgs (top 26), defBody (top 26), defScope (top 26), [], []⟩
def d__law_shared : He.DefD := ⟨("_law_shared", none), "_law_shared", "_law_shared", defArgs (top 27), defBody (top 27), defScope (top 27), [], []⟩
def d__law_grid : He.DefD := ⟨("_law_grid", none), "_law_grid", "_law_grid", defArgs (top 28), defBody (top 28), defScope (top 28), [], []⟩
def d__law_meets : He.DefD := ⟨("_law_meets", none), "_law_meets", "_law_meets", defArgs (top 29), defBody (top 29), defScope (top 29), [], []⟩
def d__law_both : He.DefD := ⟨("_law_both", none), "_law_both", "_law_both", defArgs (top 30), defBody (top 30), defScope (top 30), [], []⟩
def d__law_common : He.DefD := ⟨("_law_common", none), "_law_common", "_law_common", defArgs (top 31), defBody (top 31), defScope (top 31), [], []⟩
def d__law_all : He.DefD := ⟨("_law_all", none), "_law_all", "_law_all", defArgs (top 32), defBody (top 32), defScope (top 32), [], []⟩
def d__law_truths : He.DefD := ⟨("_law_truths", none), "_law_truths", "_law_truths", defArgs (top 33), defBody (top 33), defScope (top 33), [], []⟩
def d__law_alone : He.DefD := ⟨("_law_alone", none), "_law_alone", "_law_alone", defArgs (top 34), defBody (top 34), defScope (top 34), [], []⟩
def d__law_pair : He.DefD := ⟨("_law_pair", none), "_law_pair", "_law_pair", defArgs (top 35), defBody (top 35), defScope (top 35), [], []⟩
def d_law : He.DefD := ⟨("law", none), "law", "law", defArgs (top 36), defBody (top 36), defScope (top 36), [], []⟩
def fn : List He.DefD := [d__law_is_int, d__law_pool, d__law_take, d__law_big, d__law_free, d__law_step, d__law_shift, d_Grid___init__, d_Grid_first_bar, d_Grid___contains__, d_Grid_within, d_Grid___eq__, d_Grid___add__, d_Grid___radd__, d_Grid___sub__, d_extended_gcd, d_Grid___and__, d_common_grid, d__law_row, d__law_gcd, d__law_shared, d__law_grid, d__law_meets, d__law_both, d__law_common, d__law_all, d__law_truths, d__law_alone, d__law_pair, d_law]
def fa : List He.Fa := [.free "isinstance", .free "bool", .free "int", .glo "_law_is_int", .free "list", .glo "_law_pool", .free "len", .glo "_law_take", .free "range", .glo "_law_big", .glo "_law_free", .glo "_law_step", .glo "_law_shift", .noat "BadNumber" "number", .free "super", .glo "BadNumber", .cls "Grid", .noat "Grid" "step", .noat "Grid" "offset", .glo "Grid", .mkr "Grid", .glo "Apart", .meth "Grid" "first_bar", .meth "Grid" "__contains__", .meth "Grid" "within", .meth "Grid" "__eq__", .meth "Grid" "__add__", .meth "Grid" "__radd__", .meth "Grid" "__sub__", .glo "extended_gcd", .meth "Grid" "__and__", .glo "common_grid", .glo "_law_row", .glo "_law_gcd", .glo "_law_shared", .glo "_law_grid", .free "ValueError", .glo "BarbreaksError", .glo "Refused", .glo "NoSpans", .glo "BadText", .glo "_law_meets", .glo "_law_both", .glo "_law_common", .glo "_law_all", .glo "_law_truths", .glo "_law_alone", .glo "_law_pair", .glo "law"]
def xa : List Xa := [.exc "BadNumber", .exc "Apart", .inst "Grid", .kit "Grid" "Grid" true, .tkit "int" "Grid" false, .tkit "tuple" "Grid" false, .self1 "Grid", .kit "Apart" "BadNumber" false, .kit "Apart" "BadText" false, .kit "Apart" "NoSpans" false, .kit "Apart" "Refused" false, .kit "Apart" "BarbreaksError" true, .kitT "Apart" "ValueError" true, .kit "Apart" "Grid" false, .exm "Apart" "Apart" true, .neD "Grid", .binT "Grid" "sub" "int", .noint "Grid", .binT "Grid" "add" "int"]
def s_BadNumber : DefS := ⟨"BadNumber", "__init__", "BadNumber.__init__", (inClass (top 3) 0), [], []⟩
def s_Apart : DefS := ⟨"Apart", "__init__", "Apart.__init__", (inClass (top 5) 0), [], []⟩
def fs : Fs := ⟨[s_BadNumber, s_Apart], [], []⟩
def names0 : List PySem.Str := ["_wall", "BarbreaksError", "BadNumber", "BadText", "Apart", "NoSpans", "Refused", "DIGITS", "MOST_DIGITS", "write_number", "read_number", "extended_gcd", "Grid", "common_grid", "_law_is_int", "_law_pool", "_law_take", "_law_big", "_law_free", "_law_step", "_law_shift", "_law_row", "_law_gcd", "_law_shared", "_law_grid", "_law_meets", "_law_both", "_law_common", "_law_all", "_law_truths"]
def names1 : List PySem.Str := ["_law_alone", "_law_pair"]
def names : List PySem.Str := names0 ++ names1
def spLaw (K : PySem.W.Frag) : Sp := fun vs H Q _ => ∃ (a : Addr) (ns : List Int), vs = [.ref a] ∧ ns.length ≤ 63 ∧ SqL K H a (ns.map V.int) ∧ ∀ H', Q (.bl true) H'
end My
/-! HeadG: the run of the top cut behind some of its statements; the states between the pieces are written out (printed by headp.py), each piece is a theorem of its own, so that no piece's memory stays. -/
namespace HG
open PySem PySem.W PySem.Calls PyProof.Rows HandSHeadRun
def ent (P : Params) (x : PySem.Str) (t : Tok) (v : Value) : DictEntry := ⟨PyData.keyHash P x, .str x t, v⟩
section
variable (st : SharedT → Thread → Option (SharedT × Thread)) (n0 : Nat) (ann : Option Value)
/-- a block of the top, to its end -/
def segF : Nat → SharedT → Thread → Option (Flow × SharedT × Code × Pos)
  | 0, _, _ => none
  | m + 1, s, t => match endAt 1 t with
    | some f => some (f, s, t.code, t.pos)
    | none => match stepOk n0 ann t with
      | false => none
      | true => match st s t with
        | some r => frS r.1 fun s' => segF m s' r.2
        | none => none
/-- so many steps of the top -/
def goT : Nat → SharedT → Thread → Option (SharedT × Thread)
  | 0, s, t => some (s, t)
  | m + 1, s, t => match through t with
    | true => none
    | false => match stepOk n0 ann t with
      | false => none
      | true => match st s t with
        | some r => frS r.1 fun s' => goT m s' r.2
        | none => none
end
section
variable {p : Program} {w : World} {n0 : Nat} {ann : Option Value}
theorem segF_ok {tb : String → Option Builtin} : ∀ {m : Nat} {s s' : SharedT} {t : Thread} {f : Flow} {c : Code} {q : Pos}, segF (stepT (denote tb) p w) n0 ann m s t = some (f, s', c, q) → segRunT tb p w n0 ann 1 m s t = some (f, s', c, q)
  | 0, _, _, _, _, _, _, h => nomatch h
  | m + 1, s, s', t, f, c, q, h => by
    unfold segF at h
    unfold segRunT
    revert h
    cases endAt 1 t with
    | some x => exact id
    | none =>
      cases stepOk n0 ann t with
      | false => exact id
      | true =>
        cases stepT (denote tb) p w s t with
        | none => exact id
        | some r =>
          dsimp only
          rw [frS_eq]
          exact fun h => segF_ok h
theorem goT_ok {tb : String → Option Builtin} : ∀ {m : Nat} {s s' : SharedT} {t t' : Thread}, goT (stepT (denote tb) p w) n0 ann m s t = some (s', t') → topGo tb p w n0 ann m s.abs t = some (s'.abs, t')
  | 0, _, _, _, _, h => by cases h; rfl
  | m + 1, s, s', t, t', h => by
    unfold goT at h
    unfold topGo
    revert h
    cases through t with
    | true => intro h; cases h
    | false =>
      cases stepOk n0 ann t with
      | false => intro h; cases h
      | true =>
        cases hs : stepT (denote tb) p w s t with
        | none => intro h; cases h
        | some r =>
          dsimp only
          rw [frS_eq, stepT_spec hs]
          exact fun h => goT_ok h
theorem fast_eq : stepQ (denQ tabQ) p w = stepT (denote treeTable) p w := by rw [← stepQ_eq, ← denQ_eq, ← tabQ_eq]
theorem den_eq : denQ tabQ = denote treeTable := by rw [← denQ_eq, ← tabQ_eq]
theorem seg_of {m : Nat} {s s' : SharedT} {t : Thread} {f : Flow} {c : Code} {q : Pos} (h : segF (stepQ (denQ tabQ) p w) n0 ann m s t = some (f, s', c, q)) : segRun treeTable p w n0 ann 1 m s.abs t = some (f, s'.abs, c, q) := by
  rw [fast_eq] at h
  exact segRun_of (segF_ok h)
/-- a piece of the block, and what is left of it -/
theorem piece {env : Env} {c : Code} {q pos p' : Pos} {B : List Stmt} {i k n N : Nat} {s s' : SharedT} {r : Shared} (h : segF (stepQ (denQ tabQ) p w) n0 ann n s (piecesOf ((B.drop i).take k) env c pos [topFrame q]) = some (.next, s', c, p'))
    (r2 : topRun treeTable p w n0 ann N s'.abs (restOf (B.drop (i + k)) env c p' [topFrame q]) = some r) : topRun treeTable p w n0 ann (n + N) s.abs (restOf (B.drop i) env c pos [topFrame q]) = some r := by
  have e : B.drop i = (B.drop i).take k ++ B.drop (i + k) := by rw [← List.drop_drop]; exact (List.take_append_drop k _).symm
  rw [e]
  exact piece_app (seg_of h) r2
/-- behind the last piece -/
theorem fin {env : Env} {c : Code} {q pos : Pos} {B : List Stmt} {i N : Nat} {s s' : SharedT} (hi : B.drop i = []) (h : goF (stepQ (denQ tabQ) p w) n0 ann N s ⟨doneF .next, c, pos, [topFrame q]⟩ = some s') : topRun treeTable p w n0 ann N s.abs (restOf (B.drop i) env c pos [topFrame q]) = some s'.abs := by
  rw [hi]
  refine piece_nil ?_
  rw [fast_eq] at h
  exact goF_ok h
/-- from the boot to the block -/
theorem start {env : Env} {q pos pos2 : Pos} {B : List Stmt} {k kb N : Nat} {s0 sa sb : SharedT} {r : Shared} (h : goT (stepQ (denQ tabQ) p w) n0 ann k s0 (topStub p) = some (sa, ⟨denQ tabQ (.body B env), .body B env, pos, [topFrame q]⟩))
    (hb : segF (stepQ (denQ tabQ) p w) n0 ann kb sa (blockOf B env (.body B env) pos [topFrame q]) = some (.next, sb, .body B env, pos2))
    (r2 : topRun treeTable p w n0 ann N sb.abs (restOf (B.drop 0) env (.body B env) pos2 [topFrame q]) = some r) : topRun treeTable p w n0 ann (k + (kb + N)) s0.abs (topStub p) = some r := by
  rw [fast_eq, den_eq] at h
  exact go_top (goT_ok h) (piece_block (seg_of hb) r2)
/-- the boot's own state as a tree -/
theorem boot_abs {t : PySem.W.BT} {n : Nat} {os : OsState} (e : putAll (boot_heap w.params).objs.toList .nil 0 = some (t, n)) : (⟨t, n, (boot_heap w.params).life, #[], boot_drawn, boot_toks, os⟩ : SharedT).abs = ⟨boot_heap w.params, #[], boot_drawn, boot_toks, os⟩ := by
  show (⟨absHeap t n (boot_heap w.params).life, #[], boot_drawn, boot_toks, os⟩ : Shared) = _
  rw [putAll_heap e]
end
/-- the state opened ahead of what looks at it -/
def frB {α : Type} (s : SharedT) (k : SharedT → α) : α := match s with
  | ⟨.node v l r, n, life, gens, drawn, toks, os⟩ => frNat n fun n => k ⟨.node v l r, n, life, gens, drawn, toks, os⟩
  | s => k s
theorem frB_eq {α : Type} (s : SharedT) (k : SharedT → α) : frB s k = k s := by
  obtain ⟨T, n, life, gens, drawn, toks, os⟩ := s
  cases T with
  | nil => rfl
  | node v l r =>
    show frNat n (fun n => k ⟨.node v l r, n, life, gens, drawn, toks, os⟩) = _
    rw [frNat_eq]
/-- LeftO of the pieces -/
theorem left_of {p q : Program} {loose : List PySem.Str} {Xt : Shared → Bool} {α : Type} {Yf : Shared → α} {Ya : World → α} {N n0 M nF kF : Nat} {ann : Option Value} {sF : World → OsState → SharedT} {tF : Params → PySem.W.BT} {lF : Life} {dF : Drawn}
    (e : opening p = plainProg p.main.scope.names) (hN : Nat.ble 600 N = true) (f : ∀ s, fenceModules? p s = some s)
    (hs : ∀ w os, sF w os = ⟨tF w.params, nF, lF, #[], dF, kF, os⟩)
    (size : ∀ w : World, ((boot_heap w.params).isNs mainGlobals && true, (boot_heap w.params).objs.size, (boot_heap w.params).nsMap mainGlobals "__annotations__") = (true, n0, ann))
    (run : ∀ (w : World) (os : OsState), topRun treeTable p w n0 ann M ⟨boot_heap w.params, #[], boot_drawn, boot_toks, os⟩ (topStub p) = some (sF w os).abs) (le : Nat.ble M N = true)
    (l1 : ∀ w os, looksF p (boot_heap w.params) (sF w os).abs = true) (l2 : ∀ w os, seenQ q loose (importedModules p.main.body) Xt (sF w os).abs = openGood q loose) (l3 : ∀ w os, Yf (sF w os).abs = Ya w) : LeftO p q loose Xt Yf Ya N true := by
  obtain rfl : sF = fun w os => ⟨tF w.params, nF, lF, #[], dF, kF, os⟩ := funext fun w => funext fun os => hs w os
  refine LeftO.of_pieces (H₀ := boot_heap) (H₁ := fun P => absHeap (tF P) nF lF) (gs₀ := Array.mk []) (gs₁ := #[]) (d₀ := boot_drawn) (d₁ := dF) (k₀ := boot_toks) (k₁ := kF) (boot_open e hN f) size run le fun w => funext fun os => ?_
  have a := l1 w os
  have b := l2 w os
  rw [← seenQ_eq] at b
  exact Prod.ext a (Prod.ext b (l3 w os))
/-- a law's head, its run told by LeftO -/
theorem head {r : OpenRow} {q : Program} {H : Hook} {N : Nat} {loose : List PySem.Str} {d : DefRec} {kwd : List (PySem.Str × PySem.Expr)} (left : LeftO r.prog q loose (fun s => xlAt q [] s && recOk r.toRowW.records s) H.obs H.val N true)
    (hdef : defOf q r.name = some (d, kwd)) (hp : r.prog.theDef r.name = some (d.params, d.body, d.scope)) (hk : kwWritten? d.params.kwonlyargs d.params.kw_defaults = some kwd)
    (hwr : (!r.writes || r.records.isEmpty) = true) (k1 : r.wellSaid = true) (ok : (chainsOk q && opensWell r.prog && (frees r.toRowW && r.within.isEmpty)) = true) (hb : r.prog.bare) (hw : r.toRowW.promised)
    (call : WalkO q loose (XL q []) H.says r.toRowW d kwd fun f vs => PySem.call f vs) : r.Holds :=
  holds_open (XP := XL q []) (YP := H.says) left H.of H.keeps (fun s z => xl_of s (Bool.and_eq_true_iff.mp z).1) XL.keeps hdef hp hk (fun s z => recFacts_of (Bool.and_eq_true_iff.mp z).2) hwr k1 ok hb hw call
end HG
namespace My
open PySem PySem.Spec PyProof.Rows L2 Rd
abbrev hk : PySem.W.Hook := Rd.hookE 5 fa fn xa fs
def ob (s : PySem.W.SharedT) : Rd.AlE := Rd.obsEG 5 fa fn xa fs (HandSHeadRun.getT s)
theorem ob_eq (s : PySem.W.SharedT) : ob s = hk.obs s.abs := Rd.obsEG_eq (HandSHeadRun.getT_eq s)
end My
noncomputable section
namespace My
open PySem PySem.W PySem.Calls PyProof.Rows HandSHeadRun HG L2
abbrev bN := PySem.W.BT.node
abbrev bL (o : Obj) : PySem.W.BT := .node o .nil .nil
def codO (n : PySem.Str) (a : Tok) (q : PySem.Str) (b c : Tok) (i1 i2 i3 i4 i5 : Int) (r1 : Nat) (k : Bool) (i6 : Int) (r2 : Nat) (v1 v2 v3 : Value) (i7 i8 : Int) (d : Tok) : Obj := ⟨.type "code", none, .fields #[.str n a, .str q b, .str "/claim/cut.py" c, .int i1 0, .int i2 0, .int i3 0, .int i4 0, .int i5 0, .ref r1, .bool k, .int i6 0, .ref r2, .none, v1, v2, v3, .int i7 0, .int i8 0, .str "/claim/cut.py" d], #[]⟩
def funO (n q : PySem.Str) (s : Stmt) (g : Nat) (cl : List (PySem.Str × Addr)) (v1 v2 v3 v4 v5 v6 : Value) (b : Nat) : Obj := ⟨.type "function", none, .func ⟨n, q, defArgs s, .stmts (defBody s), defScope s, g, cl, v1, v2, v3, v4, none, v5, v6, b⟩, #[]⟩
def dedO (n q : PySem.Str) (s : Stmt) : Obj := ⟨.none, none, .func ⟨n, q, defArgs s, .stmts (defBody s), defScope s, 0, [], .none, .none, .none, .none, none, .none, .none, 0⟩, #[]⟩
def tupO (xs : Array Value) : Obj := ⟨.type "tuple", none, .seq xs 0, #[]⟩
def nilO : Obj := ⟨.none, none, .fields #[], #[]⟩
def hdB : List Stmt := behindTheImports R.prog
def hdE : Env := { scope := R.prog.main.scope, locals := mainNs, globals := mainNs, cells := [], code := (.ref 13), frame := some 14 }
abbrev hdC : Code := .body hdB hdE
abbrev hdA : Option Value := (some (.ref 6))
abbrev hdF : List Frame := [topFrame ⟨0, 0, 0, 0⟩]
def tB (P : Params) : PySem.W.BT := bN (PySem.W.boot_o_0 P) (bN (PySem.W.boot_o_1 P) (bN (PySem.W.boot_o_3 P) (bL (PySem.W.boot_o_7 P)) .nil) (bN (PySem.W.boot_o_5 P) (bL (PySem.W.boot_o_9 P)) .nil)) (bN (PySem.W.boot_o_2 P) (bN (PySem.W.boot_o_4 P) (bL (PySem.W.boot_o_8 P)) .nil) (bN (PySem.W.boot_o_6 P) (bL (PySem.W.boot_o_10 P)) .nil))
def sB (w : World) (os : OsState) : SharedT := ⟨tB w.params, 11, (boot_heap w.params).life, #[], boot_drawn, boot_toks, os⟩
def o11 : Obj := tupO #[]
def o12 : Obj := nilO
def o13 : Obj := codO "<module>" 182 "<module>" 183 184 1 0 0 0 0 11 false 181 12 .none .none .none 185 1 186
def o14 : Obj := ⟨(.type "frame"), none, .plain, #[(some (.ref 13)), (some (.ref 3)), (some (.ref 3)), none, (some (.str "__main__" 164)), none, (some (.ref 0))]⟩
def tA (P : Params) : PySem.W.BT := bN (PySem.W.boot_o_0 P) (bN (PySem.W.boot_o_1 P) (bN (PySem.W.boot_o_3 P) (bL (PySem.W.boot_o_7 P)) (bL o11)) (bN (PySem.W.boot_o_5 P) (bL (PySem.W.boot_o_9 P)) (bL o13))) (bN (PySem.W.boot_o_2 P) (bN (PySem.W.boot_o_4 P) (bL (PySem.W.boot_o_8 P)) (bL o12)) (bN (PySem.W.boot_o_6 P) (bL (PySem.W.boot_o_10 P)) (bL o14)))
def sA (w : World) (os : OsState) : SharedT := ⟨tA w.params, 15, { registered := [], finalised := [], alive := [], known := 0, ids := [], orphanDicts := [], counting := false, cnt := #[], zero := [], soft := 0, below := false, collecting := false, loading := false, debug := 0, thresholds := [2000, 10, 10], woke := false, asked := 0, gcEnabled := true, old := [], middle := [], young := 0, intoMiddle := false }, #[], ⟨0, 0, 0, 0⟩, 187, os⟩
abbrev t0 (P : Params) : PySem.W.BT := tA P
def s0 (w : World) (os : OsState) : SharedT := ⟨t0 w.params, 15, { registered := [], finalised := [], alive := [], known := 0, ids := [], orphanDicts := [], counting := false, cnt := #[], zero := [], soft := 0, below := false, collecting := false, loading := false, debug := 0, thresholds := [2000, 10, 10], woke := false, asked := 0, gcEnabled := true, old := [], middle := [], young := 0, intoMiddle := false }, #[], ⟨0, 0, 0, 0⟩, 187, os⟩
set_option maxHeartbeats 0 in
theorem hpA (w : World) (os : OsState) : goT (stepQ (denQ tabQ) R.prog w) 11 hdA 12 (sB w os) (topStub R.prog) = some (sA w os, ⟨denQ tabQ hdC, hdC, ⟨0, 0, 0, 0⟩, hdF⟩) := by kernel_rfl
set_option maxHeartbeats 0 in
theorem hp0 (w : World) (os : OsState) : segF (stepQ (denQ tabQ) R.prog w) 11 hdA 1 (sA w os) (blockOf hdB hdE hdC ⟨0, 0, 0, 0⟩ hdF) = some (.next, s0 w os, hdC, ⟨0, 0, 0, 0⟩) := by kernel_rfl
def o3 (P : Params) : Obj := ⟨(.type "dict"), none, (.dict #[(ent P "__name__" 165 (.str "law_barbreaks_k05_grids_shared" 528)), (ent P "__doc__" 166 .none), (ent P "__package__" 167 .none), (ent P "__loader__" 168 (.builtin "__main__.__loader__#opaque")), (ent P "__spec__" 169 .none), (ent P "__annotations__" 170 (.ref 6)), (ent P "__builtins__" 171 (.ref 4)), (ent P "__file__" 173 (.str "/claim/cut.py" 172)), (ent P "__cached__" 174 .none), (ent P "_wall" 193 (.ref 21)), (ent P "BarbreaksError" 213 (.ref 31)), (ent P "BadNumber" 240 (.ref 53)), (ent P "BadText" 267 (.ref 74)), (ent P "Apart" 292 (.ref 95)), (ent P "NoSpans" 317 (.ref 116)), (ent P "Refused" 333 (.ref 128)), (ent P "DIGITS" 337 (.str "0123456789" 336)), (ent P "MOST_DIGITS" 339 (.int 40 338)), (ent P "write_number" 346 (.ref 137)), (ent P "read_number" 352 (.ref 142)), (ent P "extended_gcd" 367 (.ref 149)), (ent P "Grid" 518 (.ref 254)), (ent P "common_grid" 527 (.ref 265)), (ent P "_law_is_int" 536 (.ref 272)), (ent P "_law_pool" 545 (.ref 279)), (ent P "_law_take" 557 (.ref 286)), (ent P "_law_big" 566 (.ref 293))] 27), #[]⟩
def o12_1 : Obj := ⟨.none, none, (.fields #[(.int 1 0), (.int 0 0), (.ref 20), (.int 5 0), (.int 0 0), (.ref 27), (.int 7 0), (.int 0 0), (.ref 41), (.int 12 0), (.int 0 0), (.ref 62), (.int 17 0), (.int 0 0), (.ref 83), (.int 21 0), (.int 0 0), (.ref 104), (.int 25 0), (.int 0 0), (.ref 124), (.int 30 0), (.int 0 0), (.ref 136), (.int 32 0), (.int 0 0), (.ref 141), (.int 42 0), (.int 0 0), (.ref 148), (.int 50 0), (.int 0 0), (.ref 155), (.int 114 0), (.int 0 0), (.ref 264), (.int 120 0), (.int 0 0), (.ref 271), (.int 122 0), (.int 0 0), (.ref 278), (.int 127 0), (.int 0 0), (.ref 285), (.int 143 0), (.int 0 0), (.ref 292)]), #[]⟩
def o15 : Obj := tupO #[]
def o16 : Obj := nilO
def o17 : Obj := tupO #[(.str "k" 190)]
def o18 : Obj := tupO #[]
def o19 : Obj := dedO "_wall" "_wall" (top 0)
def o20 : Obj := codO "_wall" 187 "_wall" 188 189 1 1 0 0 3 15 true 181 16 (.ref 17) (.ref 18) (.ref 19) 191 1 192
def o21 : Obj := funO "_wall" "_wall" (top 0) 3 [] .none .none .none (.str "__main__" 164) (.ref 20) .none 0
def o22 : Obj := tupO #[(.type "ValueError")]
def o23 : Obj := ⟨(.type "builtin_function_or_method"), none, (.fields #[(.builtin "type.__prepare__"), (.type "type")]), #[]⟩
def o24 (P : Params) : Obj := ⟨(.type "dict"), none, (.dict #[(ent P "__module__" 203 (.str "barbreaks.errors" 194)), (ent P "__qualname__" 205 (.str "BarbreaksError" 204)), (ent P "__firstlineno__" 207 (.int 5 206)), (ent P "__static_attributes__" 208 (.ref 29))] 4), #[]⟩
def o25 : Obj := tupO #[]
def o26 : Obj := nilO
def o27 : Obj := codO "BarbreaksError" 198 "BarbreaksError" 199 200 5 0 0 0 0 25 false 181 26 .none .none .none 201 5 202
def o28 : Obj := ⟨(.type "frame"), none, .plain, #[(some (.ref 27)), (some (.ref 3)), (some (.ref 24)), none, (some (.str "barbreaks.errors" 194)), none, (some (.ref 0))]⟩
def o29 : Obj := tupO #[]
def o30 (P : Params) : Obj := ⟨(.type "dict"), none, (.dict #[(ent P "__module__" 203 (.str "barbreaks.errors" 194)), (ent P "__firstlineno__" 207 (.int 5 206)), (ent P "__static_attributes__" 208 (.ref 29)), (ent P "__weakref__" 210 (.ref 32)), (ent P "__doc__" 211 .none)] 3), #[]⟩
def o31 : Obj := ⟨(.type "type"), none, (.cls ⟨"BarbreaksError", [(.type "ValueError")], [(.ref 31), (.type "ValueError"), (.type "Exception"), (.type "BaseException"), (.type "object")], 30, "BarbreaksError", true, [], [(.ref 53), (.ref 74), (.ref 95), (.ref 116), (.ref 128)], false, none, false⟩), #[(some (.ref 22)), none, (some (.str "BarbreaksError" 196)), (some (.str "BarbreaksError" 204)), (some (.builtin "ValueError.__new__")), (some (.bool true))]⟩
def o32 : Obj := ⟨(.type "getset_descriptor"), none, (.fields #[(.str "__weakref__" 209), (.ref 31), (.builtin "ExceptionGroup.__weakref__"), .none]), #[]⟩
def o33 : Obj := ⟨(.type "super"), none, (.fields #[(.ref 31), (.ref 31), (.ref 31)]), #[]⟩
def o34 : Obj := ⟨(.type "builtin_function_or_method"), none, (.fields #[(.builtin "object.__init_subclass__"), (.ref 31)]), #[]⟩
def o35 : Obj := tupO #[(.ref 31)]
def o36 : Obj := ⟨(.type "builtin_function_or_method"), none, (.fields #[(.builtin "type.__prepare__"), (.type "type")]), #[]⟩
def o37 (P : Params) : Obj := ⟨(.type "dict"), none, (.dict #[(ent P "__module__" 221 (.str "barbreaks.errors" 194)), (ent P "__qualname__" 223 (.str "BadNumber" 222)), (ent P "__firstlineno__" 225 (.int 7 224)), (ent P "__init__" 234 (.ref 50)), (ent P "__static_attributes__" 236 (.ref 51)), (ent P "__classcell__" 237 (.ref 38))] 6), #[]⟩
def o38 : Obj := ⟨(.type "cell"), none, (.cell (some (.ref 53))), #[]⟩
def o39 : Obj := tupO #[]
def o40 : Obj := ⟨.none, none, (.fields #[(.int 9 0), (.int 4 0), (.ref 49)]), #[]⟩
def o41 : Obj := codO "BadNumber" 216 "BadNumber" 217 218 7 0 0 0 0 39 false 181 40 .none .none .none 219 7 220
def o42 : Obj := ⟨(.type "frame"), none, .plain, #[(some (.ref 41)), (some (.ref 3)), (some (.ref 37)), none, (some (.str "barbreaks.errors" 194)), none, (some (.ref 0))]⟩
def o43 : Obj := tupO #[(.ref 38)]
def o44 : Obj := tupO #[(.str "__class__" 229)]
def o45 : Obj := nilO
def o46 : Obj := tupO #[(.str "self" 230), (.str "number" 231)]
def o47 : Obj := tupO #[]
def o48 : Obj := dedO "__init__" "BadNumber.__init__" (inClass (top 3) 0)
def o49 : Obj := codO "__init__" 226 "BadNumber.__init__" 227 228 9 2 0 0 3 44 true 181 45 (.ref 46) (.ref 47) (.ref 48) 232 9 233
def o50 : Obj := funO "__init__" "BadNumber.__init__" (inClass (top 3) 0) 3 [("__class__", 38)] .none .none .none (.str "barbreaks.errors" 194) (.ref 49) (.ref 43) 0
def o51 : Obj := tupO #[(.str "number" 235)]
def o52 (P : Params) : Obj := ⟨(.type "dict"), none, (.dict #[(ent P "__module__" 221 (.str "barbreaks.errors" 194)), (ent P "__firstlineno__" 225 (.int 7 224)), (ent P "__init__" 234 (.ref 50)), (ent P "__static_attributes__" 236 (.ref 51)), (ent P "__doc__" 238 .none)] 3), #[]⟩
def o53 : Obj := ⟨(.type "type"), none, (.cls ⟨"BadNumber", [(.ref 31)], [(.ref 53), (.ref 31), (.type "ValueError"), (.type "Exception"), (.type "BaseException"), (.type "object")], 52, "BadNumber", true, [], [], false, none, false⟩), #[(some (.ref 35)), none, (some (.str "BadNumber" 214)), (some (.str "BadNumber" 222)), (some (.builtin "ValueError.__new__")), (some (.bool true))]⟩
def o54 : Obj := ⟨(.type "super"), none, (.fields #[(.ref 53), (.ref 53), (.ref 53)]), #[]⟩
def o55 : Obj := ⟨(.type "builtin_function_or_method"), none, (.fields #[(.builtin "object.__init_subclass__"), (.ref 53)]), #[]⟩
def o56 : Obj := tupO #[(.ref 31)]
def o57 : Obj := ⟨(.type "builtin_function_or_method"), none, (.fields #[(.builtin "type.__prepare__"), (.type "type")]), #[]⟩
def o58 (P : Params) : Obj := ⟨(.type "dict"), none, (.dict #[(ent P "__module__" 248 (.str "barbreaks.errors" 194)), (ent P "__qualname__" 250 (.str "BadText" 249)), (ent P "__firstlineno__" 252 (.int 12 251)), (ent P "__init__" 261 (.ref 71)), (ent P "__static_attributes__" 263 (.ref 72)), (ent P "__classcell__" 264 (.ref 59))] 6), #[]⟩
def o59 : Obj := ⟨(.type "cell"), none, (.cell (some (.ref 74))), #[]⟩
def o60 : Obj := tupO #[]
def o61 : Obj := ⟨.none, none, (.fields #[(.int 14 0), (.int 4 0), (.ref 70)]), #[]⟩
def o62 : Obj := codO "BadText" 243 "BadText" 244 245 12 0 0 0 0 60 false 181 61 .none .none .none 246 12 247
def o63 : Obj := ⟨(.type "frame"), none, .plain, #[(some (.ref 62)), (some (.ref 3)), (some (.ref 58)), none, (some (.str "barbreaks.errors" 194)), none, (some (.ref 0))]⟩
def o64 : Obj := tupO #[(.ref 59)]
def o65 : Obj := tupO #[(.str "__class__" 256)]
def o66 : Obj := nilO
def o67 : Obj := tupO #[(.str "self" 257), (.str "text" 258)]
def o68 : Obj := tupO #[]
def o69 : Obj := dedO "__init__" "BadText.__init__" (inClass (top 4) 0)
def o70 : Obj := codO "__init__" 253 "BadText.__init__" 254 255 14 2 0 0 3 65 true 181 66 (.ref 67) (.ref 68) (.ref 69) 259 14 260
def o71 : Obj := funO "__init__" "BadText.__init__" (inClass (top 4) 0) 3 [("__class__", 59)] .none .none .none (.str "barbreaks.errors" 194) (.ref 70) (.ref 64) 0
def o72 : Obj := tupO #[(.str "text" 262)]
def o73 (P : Params) : Obj := ⟨(.type "dict"), none, (.dict #[(ent P "__module__" 248 (.str "barbreaks.errors" 194)), (ent P "__firstlineno__" 252 (.int 12 251)), (ent P "__init__" 261 (.ref 71)), (ent P "__static_attributes__" 263 (.ref 72)), (ent P "__doc__" 265 .none)] 3), #[]⟩
def o74 : Obj := ⟨(.type "type"), none, (.cls ⟨"BadText", [(.ref 31)], [(.ref 74), (.ref 31), (.type "ValueError"), (.type "Exception"), (.type "BaseException"), (.type "object")], 73, "BadText", true, [], [], false, none, false⟩), #[(some (.ref 56)), none, (some (.str "BadText" 241)), (some (.str "BadText" 249)), (some (.builtin "ValueError.__new__")), (some (.bool true))]⟩
def o75 : Obj := ⟨(.type "super"), none, (.fields #[(.ref 74), (.ref 74), (.ref 74)]), #[]⟩
def o76 : Obj := ⟨(.type "builtin_function_or_method"), none, (.fields #[(.builtin "object.__init_subclass__"), (.ref 74)]), #[]⟩
def o77 : Obj := tupO #[(.ref 31)]
def o78 : Obj := ⟨(.type "builtin_function_or_method"), none, (.fields #[(.builtin "type.__prepare__"), (.type "type")]), #[]⟩
def o79 (P : Params) : Obj := ⟨(.type "dict"), none, (.dict #[(ent P "__module__" 275 (.str "barbreaks.errors" 194)), (ent P "__qualname__" 277 (.str "Apart" 276)), (ent P "__firstlineno__" 279 (.int 17 278)), (ent P "__init__" 287 (.ref 92)), (ent P "__static_attributes__" 288 (.ref 93)), (ent P "__classcell__" 289 (.ref 80))] 6), #[]⟩
def o80 : Obj := ⟨(.type "cell"), none, (.cell (some (.ref 95))), #[]⟩
def o81 : Obj := tupO #[]
def o82 : Obj := ⟨.none, none, (.fields #[(.int 19 0), (.int 4 0), (.ref 91)]), #[]⟩
def o83 : Obj := codO "Apart" 270 "Apart" 271 272 17 0 0 0 0 81 false 181 82 .none .none .none 273 17 274
def o84 : Obj := ⟨(.type "frame"), none, .plain, #[(some (.ref 83)), (some (.ref 3)), (some (.ref 79)), none, (some (.str "barbreaks.errors" 194)), none, (some (.ref 0))]⟩
def o85 : Obj := tupO #[(.ref 80)]
def o86 : Obj := tupO #[(.str "__class__" 283)]
def o87 : Obj := nilO
def o88 : Obj := tupO #[(.str "self" 284)]
def o89 : Obj := tupO #[]
def o90 : Obj := dedO "__init__" "Apart.__init__" (inClass (top 5) 0)
def o91 : Obj := codO "__init__" 280 "Apart.__init__" 281 282 19 1 0 0 3 86 true 181 87 (.ref 88) (.ref 89) (.ref 90) 285 19 286
def o92 : Obj := funO "__init__" "Apart.__init__" (inClass (top 5) 0) 3 [("__class__", 80)] .none .none .none (.str "barbreaks.errors" 194) (.ref 91) (.ref 85) 0
def o93 : Obj := tupO #[]
def o94 (P : Params) : Obj := ⟨(.type "dict"), none, (.dict #[(ent P "__module__" 275 (.str "barbreaks.errors" 194)), (ent P "__firstlineno__" 279 (.int 17 278)), (ent P "__init__" 287 (.ref 92)), (ent P "__static_attributes__" 288 (.ref 93)), (ent P "__doc__" 290 .none)] 3), #[]⟩
def o95 : Obj := ⟨(.type "type"), none, (.cls ⟨"Apart", [(.ref 31)], [(.ref 95), (.ref 31), (.type "ValueError"), (.type "Exception"), (.type "BaseException"), (.type "object")], 94, "Apart", true, [], [], false, none, false⟩), #[(some (.ref 77)), none, (some (.str "Apart" 268)), (some (.str "Apart" 276)), (some (.builtin "ValueError.__new__")), (some (.bool true))]⟩
def o96 : Obj := ⟨(.type "super"), none, (.fields #[(.ref 95), (.ref 95), (.ref 95)]), #[]⟩
def o97 : Obj := ⟨(.type "builtin_function_or_method"), none, (.fields #[(.builtin "object.__init_subclass__"), (.ref 95)]), #[]⟩
def o98 : Obj := tupO #[(.ref 31)]
def o99 : Obj := ⟨(.type "builtin_function_or_method"), none, (.fields #[(.builtin "type.__prepare__"), (.type "type")]), #[]⟩
def o100 (P : Params) : Obj := ⟨(.type "dict"), none, (.dict #[(ent P "__module__" 300 (.str "barbreaks.errors" 194)), (ent P "__qualname__" 302 (.str "NoSpans" 301)), (ent P "__firstlineno__" 304 (.int 21 303)), (ent P "__init__" 312 (.ref 113)), (ent P "__static_attributes__" 313 (.ref 114)), (ent P "__classcell__" 314 (.ref 101))] 6), #[]⟩
def o101 : Obj := ⟨(.type "cell"), none, (.cell (some (.ref 116))), #[]⟩
def o102 : Obj := tupO #[]
def o103 : Obj := ⟨.none, none, (.fields #[(.int 23 0), (.int 4 0), (.ref 112)]), #[]⟩
def o104 : Obj := codO "NoSpans" 295 "NoSpans" 296 297 21 0 0 0 0 102 false 181 103 .none .none .none 298 21 299
def o105 : Obj := ⟨(.type "frame"), none, .plain, #[(some (.ref 104)), (some (.ref 3)), (some (.ref 100)), none, (some (.str "barbreaks.errors" 194)), none, (some (.ref 0))]⟩
def o106 : Obj := tupO #[(.ref 101)]
def o107 : Obj := tupO #[(.str "__class__" 308)]
def o108 : Obj := nilO
def o109 : Obj := tupO #[(.str "self" 309)]
def o110 : Obj := tupO #[]
def o111 : Obj := dedO "__init__" "NoSpans.__init__" (inClass (top 6) 0)
def o112 : Obj := codO "__init__" 305 "NoSpans.__init__" 306 307 23 1 0 0 3 107 true 181 108 (.ref 109) (.ref 110) (.ref 111) 310 23 311
def o113 : Obj := funO "__init__" "NoSpans.__init__" (inClass (top 6) 0) 3 [("__class__", 101)] .none .none .none (.str "barbreaks.errors" 194) (.ref 112) (.ref 106) 0
def o114 : Obj := tupO #[]
def o115 (P : Params) : Obj := ⟨(.type "dict"), none, (.dict #[(ent P "__module__" 300 (.str "barbreaks.errors" 194)), (ent P "__firstlineno__" 304 (.int 21 303)), (ent P "__init__" 312 (.ref 113)), (ent P "__static_attributes__" 313 (.ref 114)), (ent P "__doc__" 315 .none)] 3), #[]⟩
def o116 : Obj := ⟨(.type "type"), none, (.cls ⟨"NoSpans", [(.ref 31)], [(.ref 116), (.ref 31), (.type "ValueError"), (.type "Exception"), (.type "BaseException"), (.type "object")], 115, "NoSpans", true, [], [], false, none, false⟩), #[(some (.ref 98)), none, (some (.str "NoSpans" 293)), (some (.str "NoSpans" 301)), (some (.builtin "ValueError.__new__")), (some (.bool true))]⟩
def o117 : Obj := ⟨(.type "super"), none, (.fields #[(.ref 116), (.ref 116), (.ref 116)]), #[]⟩
def o118 : Obj := ⟨(.type "builtin_function_or_method"), none, (.fields #[(.builtin "object.__init_subclass__"), (.ref 116)]), #[]⟩
def o119 : Obj := tupO #[(.ref 31)]
def o120 : Obj := ⟨(.type "builtin_function_or_method"), none, (.fields #[(.builtin "type.__prepare__"), (.type "type")]), #[]⟩
def o121 (P : Params) : Obj := ⟨(.type "dict"), none, (.dict #[(ent P "__module__" 325 (.str "barbreaks.errors" 194)), (ent P "__qualname__" 327 (.str "Refused" 326)), (ent P "__firstlineno__" 329 (.int 25 328)), (ent P "__static_attributes__" 330 (.ref 126))] 4), #[]⟩
def o122 : Obj := tupO #[]
def o123 : Obj := nilO
def o124 : Obj := codO "Refused" 320 "Refused" 321 322 25 0 0 0 0 122 false 181 123 .none .none .none 323 25 324
def o125 : Obj := ⟨(.type "frame"), none, .plain, #[(some (.ref 124)), (some (.ref 3)), (some (.ref 121)), none, (some (.str "barbreaks.errors" 194)), none, (some (.ref 0))]⟩
def o126 : Obj := tupO #[]
def o127 (P : Params) : Obj := ⟨(.type "dict"), none, (.dict #[(ent P "__module__" 325 (.str "barbreaks.errors" 194)), (ent P "__firstlineno__" 329 (.int 25 328)), (ent P "__static_attributes__" 330 (.ref 126)), (ent P "__doc__" 331 .none)] 2), #[]⟩
def o128 : Obj := ⟨(.type "type"), none, (.cls ⟨"Refused", [(.ref 31)], [(.ref 128), (.ref 31), (.type "ValueError"), (.type "Exception"), (.type "BaseException"), (.type "object")], 127, "Refused", true, [], [], false, none, false⟩), #[(some (.ref 119)), none, (some (.str "Refused" 318)), (some (.str "Refused" 326)), (some (.builtin "ValueError.__new__")), (some (.bool true))]⟩
def o129 : Obj := ⟨(.type "super"), none, (.fields #[(.ref 128), (.ref 128), (.ref 128)]), #[]⟩
def o130 : Obj := ⟨(.type "builtin_function_or_method"), none, (.fields #[(.builtin "object.__init_subclass__"), (.ref 128)]), #[]⟩
def o131 : Obj := tupO #[]
def o132 : Obj := nilO
def o133 : Obj := tupO #[(.str "number" 343)]
def o134 : Obj := tupO #[]
def o135 : Obj := dedO "write_number" "write_number" (top 11)
def o136 : Obj := codO "write_number" 340 "write_number" 341 342 30 1 0 0 3 131 true 181 132 (.ref 133) (.ref 134) (.ref 135) 344 30 345
def o137 : Obj := funO "write_number" "write_number" (top 11) 3 [] .none .none .none (.str "barbreaks.words" 334) (.ref 136) .none 0
def o138 : Obj := tupO #[]
def o139 : Obj := nilO
def o140 : Obj := dedO "read_number" "read_number" (top 12)
def o141 : Obj := codO "read_number" 347 "read_number" 348 349 32 1 0 0 3 138 true 181 139 .none .none (.ref 140) 350 32 351
def o142 : Obj := funO "read_number" "read_number" (top 12) 3 [] .none .none .none (.str "barbreaks.words" 334) (.ref 141) .none 0
def o143 : Obj := tupO #[]
def o144 : Obj := nilO
def o145 : Obj := tupO #[(.str "first" 358), (.str "second" 359), (.str "divisor" 360), (.str "rest" 361), (.str "factor" 362), (.str "next_factor" 363), (.str "quotient" 364)]
def o146 : Obj := tupO #[]
def o147 : Obj := dedO "extended_gcd" "extended_gcd" (top 14)
def o148 : Obj := codO "extended_gcd" 355 "extended_gcd" 356 357 42 2 0 0 3 143 true 181 144 (.ref 145) (.ref 146) (.ref 147) 365 42 366
def o149 : Obj := funO "extended_gcd" "extended_gcd" (top 14) 3 [] .none .none .none (.str "barbreaks.grids" 353) (.ref 148) .none 0
def o150 : Obj := tupO #[]
def o151 : Obj := ⟨(.type "builtin_function_or_method"), none, (.fields #[(.builtin "type.__prepare__"), (.type "type")]), #[]⟩
def o152 (P : Params) : Obj := ⟨(.type "dict"), none, (.dict #[(ent P "__module__" 375 (.str "barbreaks.grids" 353)), (ent P "__qualname__" 377 (.str "Grid" 376)), (ent P "__firstlineno__" 379 (.int 50 378)), (ent P "__init__" 389 (.ref 164)), (ent P "read" 414 (.ref 173)), (ent P "first_bar" 422 (.ref 181)), (ent P "last_bar" 430 (.ref 188)), (ent P "bars_between" 439 (.ref 195)), (ent P "within" 447 (.ref 202)), (ent P "__contains__" 455 (.ref 209)), (ent P "__eq__" 463 (.ref 216)), (ent P "__str__" 470 (.ref 223)), (ent P "__add__" 478 (.ref 230)), (ent P "__radd__" 486 (.ref 237)), (ent P "__sub__" 494 (.ref 244)), (ent P "__and__" 507 (.ref 251)), (ent P "__static_attributes__" 510 (.ref 252))] 17), #[]⟩
def o153 : Obj := tupO #[]
def o154 : Obj := ⟨.none, none, (.fields #[(.int 52 0), (.int 4 0), (.ref 163), (.int 59 0), (.int 4 0), (.ref 170), (.int 74 0), (.int 4 0), (.ref 180), (.int 77 0), (.int 4 0), (.ref 187), (.int 80 0), (.int 4 0), (.ref 194), (.int 83 0), (.int 4 0), (.ref 201), (.int 86 0), (.int 4 0), (.ref 208), (.int 89 0), (.int 4 0), (.ref 215), (.int 92 0), (.int 4 0), (.ref 222), (.int 97 0), (.int 4 0), (.ref 229), (.int 100 0), (.int 4 0), (.ref 236), (.int 103 0), (.int 4 0), (.ref 243), (.int 106 0), (.int 4 0), (.ref 250)]), #[]⟩
def o155 : Obj := codO "Grid" 370 "Grid" 371 372 50 0 0 0 0 153 false 181 154 .none .none .none 373 50 374
def o156 : Obj := ⟨(.type "frame"), none, .plain, #[(some (.ref 155)), (some (.ref 3)), (some (.ref 152)), none, (some (.str "barbreaks.grids" 353)), none, (some (.ref 0))]⟩
def o157 : Obj := tupO #[(.int 0 380)]
def o158 : Obj := tupO #[]
def o159 : Obj := nilO
def o160 : Obj := tupO #[(.str "self" 384), (.str "step" 385), (.str "offset" 386)]
def o161 : Obj := tupO #[]
def o162 : Obj := dedO "__init__" "Grid.__init__" (inClass (top 15) 0)
def o163 : Obj := codO "__init__" 381 "Grid.__init__" 382 383 52 3 0 0 3 158 true 181 159 (.ref 160) (.ref 161) (.ref 162) 387 52 388
def o164 : Obj := funO "__init__" "Grid.__init__" (inClass (top 15) 0) 3 [] (.ref 157) .none .none (.str "barbreaks.grids" 353) (.ref 163) .none 0
def o165 : Obj := tupO #[]
def o166 : Obj := nilO
def o167 : Obj := tupO #[(.str "cls" 393), (.str "word" 394), (.str "step_text" 395), (.str "plus" 396), (.str "offset_text" 397), (.str "step" 398), (.str "offset" 399)]
def o168 : Obj := tupO #[]
def o169 : Obj := dedO "read" "Grid.read" (inClass (top 15) 1)
def o170 : Obj := codO "read" 390 "Grid.read" 391 392 58 2 0 0 3 165 true 181 166 (.ref 167) (.ref 168) (.ref 169) 400 58 401
def o171 : Obj := ⟨(.type "function"), none, (.func ⟨"read", "Grid.read", defArgs (inClass (top 15) 1), .stmts (defBody (inClass (top 15) 1)), defScope (inClass (top 15) 1), 3, [], .none, .none, .none, (.str "barbreaks.grids" 353), (some 174), (.ref 170), .none, 0⟩), #[]⟩
def o172 (P : Params) : Obj := ⟨(.type "dict"), none, (.dict #[(ent P "__module__" 403 (.str "barbreaks.grids" 353)), (ent P "__name__" 406 (.str "read" 405)), (ent P "__qualname__" 409 (.str "Grid.read" 408)), (ent P "__doc__" 411 .none), (ent P "__annotations__" 413 (.ref 174))] 5), #[]⟩
def o173 : Obj := ⟨(.type "classmethod"), (some 172), (.fields #[(.ref 171), (.bool false)]), #[]⟩
def o174 : Obj := ⟨(.type "dict"), none, (.dict #[] 0), #[]⟩
def o175 : Obj := tupO #[]
def o176 : Obj := nilO
def o177 : Obj := tupO #[(.str "self" 418), (.str "tick" 419)]
def o178 : Obj := tupO #[]
def o179 : Obj := dedO "first_bar" "Grid.first_bar" (inClass (top 15) 2)
def o180 : Obj := codO "first_bar" 415 "Grid.first_bar" 416 417 74 2 0 0 3 175 true 181 176 (.ref 177) (.ref 178) (.ref 179) 420 74 421
def o181 : Obj := funO "first_bar" "Grid.first_bar" (inClass (top 15) 2) 3 [] .none .none .none (.str "barbreaks.grids" 353) (.ref 180) .none 0
def o182 : Obj := tupO #[]
def o183 : Obj := nilO
def o184 : Obj := tupO #[(.str "self" 426), (.str "tick" 427)]
def o185 : Obj := tupO #[]
def o186 : Obj := dedO "last_bar" "Grid.last_bar" (inClass (top 15) 3)
def o187 : Obj := codO "last_bar" 423 "Grid.last_bar" 424 425 77 2 0 0 3 182 true 181 183 (.ref 184) (.ref 185) (.ref 186) 428 77 429
def o188 : Obj := funO "last_bar" "Grid.last_bar" (inClass (top 15) 3) 3 [] .none .none .none (.str "barbreaks.grids" 353) (.ref 187) .none 0
def o189 : Obj := tupO #[]
def o190 : Obj := nilO
def o191 : Obj := tupO #[(.str "self" 434), (.str "low" 435), (.str "high" 436)]
def o192 : Obj := tupO #[]
def o193 : Obj := dedO "bars_between" "Grid.bars_between" (inClass (top 15) 4)
def o194 : Obj := codO "bars_between" 431 "Grid.bars_between" 432 433 80 3 0 0 3 189 true 181 190 (.ref 191) (.ref 192) (.ref 193) 437 80 438
def o195 : Obj := funO "bars_between" "Grid.bars_between" (inClass (top 15) 4) 3 [] .none .none .none (.str "barbreaks.grids" 353) (.ref 194) .none 0
def o196 : Obj := tupO #[]
def o197 : Obj := nilO
def o198 : Obj := tupO #[(.str "self" 443), (.str "other" 444)]
def o199 : Obj := tupO #[]
def o200 : Obj := dedO "within" "Grid.within" (inClass (top 15) 5)
def o201 : Obj := codO "within" 440 "Grid.within" 441 442 83 2 0 0 3 196 true 181 197 (.ref 198) (.ref 199) (.ref 200) 445 83 446
def o202 : Obj := funO "within" "Grid.within" (inClass (top 15) 5) 3 [] .none .none .none (.str "barbreaks.grids" 353) (.ref 201) .none 0
def o203 : Obj := tupO #[]
def o204 : Obj := nilO
def o205 : Obj := tupO #[(.str "self" 451), (.str "tick" 452)]
def o206 : Obj := tupO #[]
def o207 : Obj := dedO "__contains__" "Grid.__contains__" (inClass (top 15) 6)
def o208 : Obj := codO "__contains__" 448 "Grid.__contains__" 449 450 86 2 0 0 3 203 true 181 204 (.ref 205) (.ref 206) (.ref 207) 453 86 454
def o209 : Obj := funO "__contains__" "Grid.__contains__" (inClass (top 15) 6) 3 [] .none .none .none (.str "barbreaks.grids" 353) (.ref 208) .none 0
def o210 : Obj := tupO #[]
def o211 : Obj := nilO
def o212 : Obj := tupO #[(.str "self" 459), (.str "other" 460)]
def o213 : Obj := tupO #[]
def o214 : Obj := dedO "__eq__" "Grid.__eq__" (inClass (top 15) 7)
def o215 : Obj := codO "__eq__" 456 "Grid.__eq__" 457 458 89 2 0 0 3 210 true 181 211 (.ref 212) (.ref 213) (.ref 214) 461 89 462
def o216 : Obj := funO "__eq__" "Grid.__eq__" (inClass (top 15) 7) 3 [] .none .none .none (.str "barbreaks.grids" 353) (.ref 215) .none 0
def o217 : Obj := tupO #[]
def o218 : Obj := nilO
def o219 : Obj := tupO #[(.str "self" 467)]
def o220 : Obj := tupO #[]
def o221 : Obj := dedO "__str__" "Grid.__str__" (inClass (top 15) 8)
def o222 : Obj := codO "__str__" 464 "Grid.__str__" 465 466 92 1 0 0 3 217 true 181 218 (.ref 219) (.ref 220) (.ref 221) 468 92 469
def o223 : Obj := funO "__str__" "Grid.__str__" (inClass (top 15) 8) 3 [] .none .none .none (.str "barbreaks.grids" 353) (.ref 222) .none 0
def o224 : Obj := tupO #[]
def o225 : Obj := nilO
def o226 : Obj := tupO #[(.str "self" 474), (.str "ticks" 475)]
def o227 : Obj := tupO #[]
def o228 : Obj := dedO "__add__" "Grid.__add__" (inClass (top 15) 9)
def o229 : Obj := codO "__add__" 471 "Grid.__add__" 472 473 97 2 0 0 3 224 true 181 225 (.ref 226) (.ref 227) (.ref 228) 476 97 477
def o230 : Obj := funO "__add__" "Grid.__add__" (inClass (top 15) 9) 3 [] .none .none .none (.str "barbreaks.grids" 353) (.ref 229) .none 0
def o231 : Obj := tupO #[]
def o232 : Obj := nilO
def o233 : Obj := tupO #[(.str "self" 482), (.str "ticks" 483)]
def o234 : Obj := tupO #[]
def o235 : Obj := dedO "__radd__" "Grid.__radd__" (inClass (top 15) 10)
def o236 : Obj := codO "__radd__" 479 "Grid.__radd__" 480 481 100 2 0 0 3 231 true 181 232 (.ref 233) (.ref 234) (.ref 235) 484 100 485
def o237 : Obj := funO "__radd__" "Grid.__radd__" (inClass (top 15) 10) 3 [] .none .none .none (.str "barbreaks.grids" 353) (.ref 236) .none 0
def o238 : Obj := tupO #[]
def o239 : Obj := nilO
def o240 : Obj := tupO #[(.str "self" 490), (.str "ticks" 491)]
def o241 : Obj := tupO #[]
def o242 : Obj := dedO "__sub__" "Grid.__sub__" (inClass (top 15) 11)
def o243 : Obj := codO "__sub__" 487 "Grid.__sub__" 488 489 103 2 0 0 3 238 true 181 239 (.ref 240) (.ref 241) (.ref 242) 492 103 493
def o244 : Obj := funO "__sub__" "Grid.__sub__" (inClass (top 15) 11) 3 [] .none .none .none (.str "barbreaks.grids" 353) (.ref 243) .none 0
def o245 : Obj := tupO #[]
def o246 : Obj := nilO
def o247 : Obj := tupO #[(.str "self" 498), (.str "other" 499), (.str "divisor" 500), (.str "factor" 501), (.str "distance" 502), (.str "many" 503), (.str "steps" 504)]
def o248 : Obj := tupO #[]
def o249 : Obj := dedO "__and__" "Grid.__and__" (inClass (top 15) 12)
def o250 : Obj := codO "__and__" 495 "Grid.__and__" 496 497 106 2 0 0 3 245 true 181 246 (.ref 247) (.ref 248) (.ref 249) 505 106 506
def o251 : Obj := funO "__and__" "Grid.__and__" (inClass (top 15) 12) 3 [] .none .none .none (.str "barbreaks.grids" 353) (.ref 250) .none 0
def o252 : Obj := tupO #[(.str "offset" 508), (.str "step" 509)]
def o253 (P : Params) : Obj := ⟨(.type "dict"), none, (.dict #[(ent P "__module__" 375 (.str "barbreaks.grids" 353)), (ent P "__firstlineno__" 379 (.int 50 378)), (ent P "__init__" 389 (.ref 164)), (ent P "read" 414 (.ref 173)), (ent P "first_bar" 422 (.ref 181)), (ent P "last_bar" 430 (.ref 188)), (ent P "bars_between" 439 (.ref 195)), (ent P "within" 447 (.ref 202)), (ent P "__contains__" 455 (.ref 209)), (ent P "__eq__" 463 (.ref 216)), (ent P "__str__" 470 (.ref 223)), (ent P "__add__" 478 (.ref 230)), (ent P "__radd__" 486 (.ref 237)), (ent P "__sub__" 494 (.ref 244)), (ent P "__and__" 507 (.ref 251)), (ent P "__static_attributes__" 510 (.ref 252)), (ent P "__dict__" 512 (.ref 255)), (ent P "__weakref__" 514 (.ref 256)), (ent P "__doc__" 515 .none), (ent P "__hash__" 516 .none)] 5), #[]⟩
def o254 : Obj := ⟨(.type "type"), none, (.cls ⟨"Grid", [(.type "object")], [(.ref 254), (.type "object")], 253, "Grid", true, [], [], false, none, false⟩), #[none, none, (some (.str "Grid" 368)), (some (.str "Grid" 376)), (some (.builtin "object.__new__")), (some (.bool true))]⟩
def o255 : Obj := ⟨(.type "getset_descriptor"), none, (.fields #[(.str "__dict__" 511), (.ref 254), (.builtin "function.__dict__"), (.builtin "function.__dict__#set")]), #[]⟩
def o256 : Obj := ⟨(.type "getset_descriptor"), none, (.fields #[(.str "__weakref__" 513), (.ref 254), (.builtin "ExceptionGroup.__weakref__"), .none]), #[]⟩
def o257 : Obj := ⟨(.type "super"), none, (.fields #[(.ref 254), (.ref 254), (.ref 254)]), #[]⟩
def o258 : Obj := ⟨(.type "builtin_function_or_method"), none, (.fields #[(.builtin "object.__init_subclass__"), (.ref 254)]), #[]⟩
def o259 : Obj := tupO #[]
def o260 : Obj := nilO
def o261 : Obj := tupO #[(.str "grids" 522), (.str "common" 523), (.str "grid" 524)]
def o262 : Obj := tupO #[]
def o263 : Obj := dedO "common_grid" "common_grid" (top 16)
def o264 : Obj := codO "common_grid" 519 "common_grid" 520 521 114 0 0 0 7 259 true 181 260 (.ref 261) (.ref 262) (.ref 263) 525 114 526
def o265 : Obj := funO "common_grid" "common_grid" (top 16) 3 [] .none .none .none (.str "barbreaks.grids" 353) (.ref 264) .none 0
def o266 : Obj := tupO #[]
def o267 : Obj := nilO
def o268 : Obj := tupO #[(.str "_law_x" 533)]
def o269 : Obj := tupO #[]
def o270 : Obj := dedO "_law_is_int" "_law_is_int" (top 18)
def o271 : Obj := codO "_law_is_int" 530 "_law_is_int" 531 532 120 1 0 0 3 266 true 181 267 (.ref 268) (.ref 269) (.ref 270) 534 120 535
def o272 : Obj := funO "_law_is_int" "_law_is_int" (top 18) 3 [] .none .none .none (.str "law_barbreaks_k05_grids_shared" 528) (.ref 271) .none 0
def o273 : Obj := tupO #[]
def o274 : Obj := nilO
def o275 : Obj := tupO #[(.str "_law_script" 540), (.str "_law_seed" 541), (.str "_law_cell" 542)]
def o276 : Obj := tupO #[]
def o277 : Obj := dedO "_law_pool" "_law_pool" (top 19)
def o278 : Obj := codO "_law_pool" 537 "_law_pool" 538 539 122 1 0 0 3 273 true 181 274 (.ref 275) (.ref 276) (.ref 277) 543 122 544
def o279 : Obj := funO "_law_pool" "_law_pool" (top 19) 3 [] .none .none .none (.str "law_barbreaks_k05_grids_shared" 528) (.ref 278) .none 0
def o280 : Obj := tupO #[]
def o281 : Obj := nilO
def o282 : Obj := tupO #[(.str "_law_pool_here" 549), (.str "_law_size" 550), (.str "_law_cells" 551), (.str "_law_mixed" 552), (.str "_law_cell" 553), (.str "_law_digit" 554)]
def o283 : Obj := tupO #[]
def o284 : Obj := dedO "_law_take" "_law_take" (top 20)
def o285 : Obj := codO "_law_take" 546 "_law_take" 547 548 127 2 0 0 3 280 true 181 281 (.ref 282) (.ref 283) (.ref 284) 555 127 556
def o286 : Obj := funO "_law_take" "_law_take" (top 20) 3 [] .none .none .none (.str "law_barbreaks_k05_grids_shared" 528) (.ref 285) .none 0
def o287 : Obj := tupO #[]
def o288 : Obj := nilO
def o289 : Obj := tupO #[(.str "_law_pool_here" 561), (.str "_law_value" 562), (.str "_law_k" 563)]
def o290 : Obj := tupO #[]
def o291 : Obj := dedO "_law_big" "_law_big" (top 21)
def o292 : Obj := codO "_law_big" 558 "_law_big" 559 560 143 1 0 0 3 287 true 181 288 (.ref 289) (.ref 290) (.ref 291) 564 143 565
def o293 : Obj := funO "_law_big" "_law_big" (top 21) 3 [] .none .none .none (.str "law_barbreaks_k05_grids_shared" 528) (.ref 292) .none 0
def t1 (P : Params) : PySem.W.BT := bN (PySem.W.boot_o_0 P) (bN (PySem.W.boot_o_1 P) (bN (o3 P) (bN (PySem.W.boot_o_7 P) (bN o15 (bN o31 (bN o63 (bN (o127 P) (bL o255) .nil) (bL o191)) (bN o95 (bN o159 (bL o287) .nil) (bL o223))) (bN o47 (bN (o79 P) (bN o143 (bL o271) .nil) (bL o207)) (bN o111 (bL o175) (bL o239)))) (bN o23 (bN o39 (bN o71 (bN o135 (bL o263) .nil) (bL o199)) (bN o103 (bL o167) (bL o231))) (bN o55 (bN o87 (bN o151 (bL o279) .nil) (bL o215)) (bN o119 (bL o183) (bL o247))))) (bN o11 (bN o19 (bN o35 (bN o67 (bN o131 (bL o259) .nil) (bL o195)) (bN o99 (bN o163 (bL o291) .nil) (bL o227))) (bN o51 (bN o83 (bN o147 (bL o275) .nil) (bL o211)) (bN (o115 P) (bL o179) (bL o243)))) (bN o27 (bN o43 (bN o75 (bN o139 (bL o267) .nil) (bL o203)) (bN o107 (bL o171) (bL o235))) (bN o59 (bN o91 (bN o155 (bL o283) .nil) (bL o219)) (bN o123 (bL o187) (bL o251)))))) (bN (PySem.W.boot_o_5 P) (bN (PySem.W.boot_o_9 P) (bN o17 (bN o33 (bN o65 (bN o129 (bL o257) .nil) (bL o193)) (bN o97 (bN o161 (bL o289) .nil) (bL o225))) (bN o49 (bN o81 (bN o145 (bL o273) .nil) (bL o209)) (bN o113 (bL o177) (bL o241)))) (bN o25 (bN o41 (bN (o73 P) (bN o137 (bL o265) .nil) (bL o201)) (bN o105 (bL o169) (bL o233))) (bN o57 (bN o89 (bN o153 (bL o281) .nil) (bL o217)) (bN (o121 P) (bL o185) (bL o249))))) (bN o13 (bN o21 (bN (o37 P) (bN o69 (bN o133 (bL o261) .nil) (bL o197)) (bN o101 (bN o165 (bL o293) .nil) (bL o229))) (bN o53 (bN o85 (bN o149 (bL o277) .nil) (bL o213)) (bN o117 (bL o181) (bL o245)))) (bN o29 (bN o45 (bN o77 (bN o141 (bL o269) .nil) (bL o205)) (bN o109 (bL o173) (bL o237))) (bN o61 (bN o93 (bN o157 (bL o285) .nil) (bL o221)) (bN o125 (bL o189) (bL (o253 P)))))))) (bN (PySem.W.boot_o_2 P) (bN (PySem.W.boot_o_4 P) (bN (PySem.W.boot_o_8 P) (bN o16 (bN o32 (bN o64 (bN o128 (bL o256) .nil) (bL o192)) (bN o96 (bN o160 (bL o288) .nil) (bL o224))) (bN o48 (bN o80 (bN o144 (bL o272) .nil) (bL o208)) (bN o112 (bL o176) (bL o240)))) (bN (o24 P) (bN o40 (bN o72 (bN o136 (bL o264) .nil) (bL o200)) (bN o104 (bL o168) (bL o232))) (bN o56 (bN o88 (bN (o152 P) (bL o280) .nil) (bL o216)) (bN o120 (bL o184) (bL o248))))) (bN o12_1 (bN o20 (bN o36 (bN o68 (bN o132 (bL o260) .nil) (bL o196)) (bN (o100 P) (bN o164 (bL o292) .nil) (bL o228))) (bN (o52 P) (bN o84 (bN o148 (bL o276) .nil) (bL o212)) (bN o116 (bL o180) (bL o244)))) (bN o28 (bN o44 (bN o76 (bN o140 (bL o268) .nil) (bL o204)) (bN o108 (bL (o172 P)) (bL o236))) (bN o60 (bN o92 (bN o156 (bL o284) .nil) (bL o220)) (bN o124 (bL o188) (bL o252)))))) (bN (PySem.W.boot_o_6 P) (bN (PySem.W.boot_o_10 P) (bN o18 (bN o34 (bN o66 (bN o130 (bL o258) .nil) (bL o194)) (bN o98 (bN o162 (bL o290) .nil) (bL o226))) (bN o50 (bN o82 (bN o146 (bL o274) .nil) (bL o210)) (bN o114 (bL o178) (bL o242)))) (bN o26 (bN o42 (bN o74 (bN o138 (bL o266) .nil) (bL o202)) (bN o106 (bL o170) (bL o234))) (bN (o58 P) (bN o90 (bN o154 (bL o282) .nil) (bL o218)) (bN o122 (bL o186) (bL o250))))) (bN o14 (bN o22 (bN o38 (bN o70 (bN o134 (bL o262) .nil) (bL o198)) (bN o102 (bL o166) (bL o230))) (bN o54 (bN o86 (bN o150 (bL o278) .nil) (bL o214)) (bN o118 (bL o182) (bL o246)))) (bN (o30 P) (bN o46 (bN o78 (bN o142 (bL o270) .nil) (bL o206)) (bN o110 (bL o174) (bL o238))) (bN o62 (bN (o94 P) (bN o158 (bL o286) .nil) (bL o222)) (bN o126 (bL o190) (bL o254)))))))
def s1 (w : World) (os : OsState) : SharedT := ⟨t1 w.params, 294, { registered := [], finalised := [], alive := [], known := 0, ids := [], orphanDicts := [], counting := false, cnt := #[], zero := [], soft := 0, below := false, collecting := false, loading := false, debug := 0, thresholds := [2000, 10, 10], woke := false, asked := 0, gcEnabled := true, old := [], middle := [], young := 0, intoMiddle := false }, #[], ⟨0, 0, 0, 0⟩, 567, os⟩
set_option maxHeartbeats 0 in
theorem hp1 (w : World) (os : OsState) : segF (stepQ (denQ tabQ) R.prog w) 11 hdA 2527 (s0 w os) (piecesOf ((hdB.drop 0).take 22) hdE hdC ⟨0, 0, 0, 0⟩ hdF) = some (.next, s1 w os, hdC, ⟨143, 0, 147, 21⟩) := by kernel_rfl
def o3_1 (P : Params) : Obj := ⟨(.type "dict"), none, (.dict #[(ent P "__name__" 165 (.str "law_barbreaks_k05_grids_shared" 528)), (ent P "__doc__" 166 .none), (ent P "__package__" 167 .none), (ent P "__loader__" 168 (.builtin "__main__.__loader__#opaque")), (ent P "__spec__" 169 .none), (ent P "__annotations__" 170 (.ref 6)), (ent P "__builtins__" 171 (.ref 4)), (ent P "__file__" 173 (.str "/claim/cut.py" 172)), (ent P "__cached__" 174 .none), (ent P "_wall" 193 (.ref 21)), (ent P "BarbreaksError" 213 (.ref 31)), (ent P "BadNumber" 240 (.ref 53)), (ent P "BadText" 267 (.ref 74)), (ent P "Apart" 292 (.ref 95)), (ent P "NoSpans" 317 (.ref 116)), (ent P "Refused" 333 (.ref 128)), (ent P "DIGITS" 337 (.str "0123456789" 336)), (ent P "MOST_DIGITS" 339 (.int 40 338)), (ent P "write_number" 346 (.ref 137)), (ent P "read_number" 352 (.ref 142)), (ent P "extended_gcd" 367 (.ref 149)), (ent P "Grid" 518 (.ref 254)), (ent P "common_grid" 527 (.ref 265)), (ent P "_law_is_int" 536 (.ref 272)), (ent P "_law_pool" 545 (.ref 279)), (ent P "_law_take" 557 (.ref 286)), (ent P "_law_big" 566 (.ref 293)), (ent P "_law_free" 575 (.ref 300)), (ent P "_law_step" 583 (.ref 307)), (ent P "_law_shift" 592 (.ref 314)), (ent P "_law_row" 604 (.ref 321)), (ent P "_law_gcd" 614 (.ref 328)), (ent P "_law_shared" 624 (.ref 335)), (ent P "_law_grid" 633 (.ref 342)), (ent P "_law_meets" 644 (.ref 349)), (ent P "_law_both" 656 (.ref 356)), (ent P "_law_common" 663 (.ref 363)), (ent P "_law_all" 674 (.ref 370)), (ent P "_law_truths" 683 (.ref 377)), (ent P "_law_alone" 697 (.ref 384)), (ent P "_law_pair" 712 (.ref 391)), (ent P "law" 718 (.ref 396))] 42), #[]⟩
def o12_2 : Obj := ⟨.none, none, (.fields #[(.int 1 0), (.int 0 0), (.ref 20), (.int 5 0), (.int 0 0), (.ref 27), (.int 7 0), (.int 0 0), (.ref 41), (.int 12 0), (.int 0 0), (.ref 62), (.int 17 0), (.int 0 0), (.ref 83), (.int 21 0), (.int 0 0), (.ref 104), (.int 25 0), (.int 0 0), (.ref 124), (.int 30 0), (.int 0 0), (.ref 136), (.int 32 0), (.int 0 0), (.ref 141), (.int 42 0), (.int 0 0), (.ref 148), (.int 50 0), (.int 0 0), (.ref 155), (.int 114 0), (.int 0 0), (.ref 264), (.int 120 0), (.int 0 0), (.ref 271), (.int 122 0), (.int 0 0), (.ref 278), (.int 127 0), (.int 0 0), (.ref 285), (.int 143 0), (.int 0 0), (.ref 292), (.int 148 0), (.int 0 0), (.ref 299), (.int 156 0), (.int 0 0), (.ref 306), (.int 163 0), (.int 0 0), (.ref 313), (.int 174 0), (.int 0 0), (.ref 320), (.int 187 0), (.int 0 0), (.ref 327), (.int 195 0), (.int 0 0), (.ref 334), (.int 203 0), (.int 0 0), (.ref 341), (.int 207 0), (.int 0 0), (.ref 348), (.int 221 0), (.int 0 0), (.ref 355), (.int 229 0), (.int 0 0), (.ref 362), (.int 239 0), (.int 0 0), (.ref 369), (.int 247 0), (.int 0 0), (.ref 376), (.int 252 0), (.int 0 0), (.ref 383), (.int 261 0), (.int 0 0), (.ref 390), (.int 272 0), (.int 0 0), (.ref 395)]), #[]⟩
def o294 : Obj := tupO #[]
def o295 : Obj := nilO
def o296 : Obj := tupO #[(.str "_law_pool_here" 570), (.str "_law_value" 571), (.str "_law_way" 572)]
def o297 : Obj := tupO #[]
def o298 : Obj := dedO "_law_free" "_law_free" (top 22)
def o299 : Obj := codO "_law_free" 567 "_law_free" 568 569 148 1 0 0 3 294 true 181 295 (.ref 296) (.ref 297) (.ref 298) 573 148 574
def o300 : Obj := funO "_law_free" "_law_free" (top 22) 3 [] .none .none .none (.str "law_barbreaks_k05_grids_shared" 528) (.ref 299) .none 0
def o301 : Obj := tupO #[]
def o302 : Obj := nilO
def o303 : Obj := tupO #[(.str "_law_pool_here" 579), (.str "_law_way" 580)]
def o304 : Obj := tupO #[]
def o305 : Obj := dedO "_law_step" "_law_step" (top 23)
def o306 : Obj := codO "_law_step" 576 "_law_step" 577 578 156 1 0 0 3 301 true 181 302 (.ref 303) (.ref 304) (.ref 305) 581 156 582
def o307 : Obj := funO "_law_step" "_law_step" (top 23) 3 [] .none .none .none (.str "law_barbreaks_k05_grids_shared" 528) (.ref 306) .none 0
def o308 : Obj := tupO #[]
def o309 : Obj := nilO
def o310 : Obj := tupO #[(.str "_law_pool_here" 587), (.str "_law_step_here" 588), (.str "_law_way" 589)]
def o311 : Obj := tupO #[]
def o312 : Obj := dedO "_law_shift" "_law_shift" (top 24)
def o313 : Obj := codO "_law_shift" 584 "_law_shift" 585 586 163 2 0 0 3 308 true 181 309 (.ref 310) (.ref 311) (.ref 312) 590 163 591
def o314 : Obj := funO "_law_shift" "_law_shift" (top 24) 3 [] .none .none .none (.str "law_barbreaks_k05_grids_shared" 528) (.ref 313) .none 0
def o315 : Obj := tupO #[]
def o316 : Obj := nilO
def o317 : Obj := tupO #[(.str "_law_pool_here" 596), (.str "_law_factor" 597), (.str "_law_meet" 598), (.str "_law_way" 599), (.str "_law_step_here" 600), (.str "_law_offset" 601)]
def o318 : Obj := tupO #[]
def o319 : Obj := dedO "_law_row" "_law_row" (top 25)
def o320 : Obj := codO "_law_row" 593 "_law_row" 594 595 174 3 0 0 3 315 true 181 316 (.ref 317) (.ref 318) (.ref 319) 602 174 603
def o321 : Obj := funO "_law_row" "_law_row" (top 25) 3 [] .none .none .none (.str "law_barbreaks_k05_grids_shared" 528) (.ref 320) .none 0
def o322 : Obj := tupO #[]
def o323 : Obj := nilO
def o324 : Obj := tupO #[(.str "_law_first" 608), (.str "_law_second" 609), (.str "_law_k" 610), (.str "_law_rest" 611)]
def o325 : Obj := tupO #[]
def o326 : Obj := dedO "_law_gcd" "_law_gcd" (top 26)
def o327 : Obj := codO "_law_gcd" 605 "_law_gcd" 606 607 187 2 0 0 3 322 true 181 323 (.ref 324) (.ref 325) (.ref 326) 612 187 613
def o328 : Obj := funO "_law_gcd" "_law_gcd" (top 26) 3 [] .none .none .none (.str "law_barbreaks_k05_grids_shared" 528) (.ref 327) .none 0
def o329 : Obj := tupO #[]
def o330 : Obj := nilO
def o331 : Obj := tupO #[(.str "_law_rows" 618), (.str "_law_step_here" 619), (.str "_law_i" 620), (.str "_law_j" 621)]
def o332 : Obj := tupO #[]
def o333 : Obj := dedO "_law_shared" "_law_shared" (top 27)
def o334 : Obj := codO "_law_shared" 615 "_law_shared" 616 617 195 1 0 0 3 329 true 181 330 (.ref 331) (.ref 332) (.ref 333) 622 195 623
def o335 : Obj := funO "_law_shared" "_law_shared" (top 27) 3 [] .none .none .none (.str "law_barbreaks_k05_grids_shared" 528) (.ref 334) .none 0
def o336 : Obj := tupO #[]
def o337 : Obj := nilO
def o338 : Obj := tupO #[(.str "_law_got" 628), (.str "_law_step_here" 629), (.str "_law_offset" 630)]
def o339 : Obj := tupO #[]
def o340 : Obj := dedO "_law_grid" "_law_grid" (top 28)
def o341 : Obj := codO "_law_grid" 625 "_law_grid" 626 627 203 3 0 0 3 336 true 181 337 (.ref 338) (.ref 339) (.ref 340) 631 203 632
def o342 : Obj := funO "_law_grid" "_law_grid" (top 28) 3 [] .none .none .none (.str "law_barbreaks_k05_grids_shared" 528) (.ref 341) .none 0
def o343 : Obj := tupO #[]
def o344 : Obj := nilO
def o345 : Obj := tupO #[(.str "_law_got" 637), (.str "_law_found" 638), (.str "_law_rows" 639), (.str "_law_step_here" 640), (.str "_law_row_here" 641)]
def o346 : Obj := tupO #[]
def o347 : Obj := dedO "_law_meets" "_law_meets" (top 29)
def o348 : Obj := codO "_law_meets" 634 "_law_meets" 635 636 207 3 0 0 3 343 true 181 344 (.ref 345) (.ref 346) (.ref 347) 642 207 643
def o349 : Obj := funO "_law_meets" "_law_meets" (top 29) 3 [] .none .none .none (.str "law_barbreaks_k05_grids_shared" 528) (.ref 348) .none 0
def o350 : Obj := tupO #[]
def o351 : Obj := nilO
def o352 : Obj := tupO #[(.str "_law_one" 648), (.str "_law_two" 649), (.str "_law_rows" 650), (.str "_law_found" 651), (.str "_law_got" 652), (.str "e" 653)]
def o353 : Obj := tupO #[]
def o354 : Obj := dedO "_law_both" "_law_both" (top 30)
def o355 : Obj := codO "_law_both" 645 "_law_both" 646 647 221 3 0 0 3 350 true 181 351 (.ref 352) (.ref 353) (.ref 354) 654 221 655
def o356 : Obj := funO "_law_both" "_law_both" (top 30) 3 [] .none .none .none (.str "law_barbreaks_k05_grids_shared" 528) (.ref 355) .none 0
def o357 : Obj := tupO #[]
def o358 : Obj := nilO
def o359 : Obj := tupO #[(.str "_law_grids" 660)]
def o360 : Obj := tupO #[]
def o361 : Obj := dedO "_law_common" "_law_common" (top 31)
def o362 : Obj := codO "_law_common" 657 "_law_common" 658 659 229 1 0 0 3 357 true 181 358 (.ref 359) (.ref 360) (.ref 361) 661 229 662
def o363 : Obj := funO "_law_common" "_law_common" (top 31) 3 [] .none .none .none (.str "law_barbreaks_k05_grids_shared" 528) (.ref 362) .none 0
def o364 : Obj := tupO #[]
def o365 : Obj := nilO
def o366 : Obj := tupO #[(.str "_law_grids" 667), (.str "_law_rows" 668), (.str "_law_found" 669), (.str "_law_got" 670), (.str "e" 671)]
def o367 : Obj := tupO #[]
def o368 : Obj := dedO "_law_all" "_law_all" (top 32)
def o369 : Obj := codO "_law_all" 664 "_law_all" 665 666 239 2 0 0 3 364 true 181 365 (.ref 366) (.ref 367) (.ref 368) 672 239 673
def o370 : Obj := funO "_law_all" "_law_all" (top 32) 3 [] .none .none .none (.str "law_barbreaks_k05_grids_shared" 528) (.ref 369) .none 0
def o371 : Obj := tupO #[]
def o372 : Obj := nilO
def o373 : Obj := tupO #[(.str "_law_rows" 678), (.str "_law_got" 679), (.str "_law_due" 680)]
def o374 : Obj := tupO #[]
def o375 : Obj := dedO "_law_truths" "_law_truths" (top 33)
def o376 : Obj := codO "_law_truths" 675 "_law_truths" 676 677 247 1 0 0 3 371 true 181 372 (.ref 373) (.ref 374) (.ref 375) 681 247 682
def o377 : Obj := funO "_law_truths" "_law_truths" (top 33) 3 [] .none .none .none (.str "law_barbreaks_k05_grids_shared" 528) (.ref 376) .none 0
def o378 : Obj := tupO #[]
def o379 : Obj := nilO
def o380 : Obj := tupO #[(.str "_law_one" 687), (.str "_law_a" 688), (.str "_law_k" 689), (.str "_law_got" 690), (.str "_law_offset" 691), (.str "_law_like" 692), (.str "_law_beside" 693), (.str "_law_rows" 694)]
def o381 : Obj := tupO #[]
def o382 : Obj := dedO "_law_alone" "_law_alone" (top 34)
def o383 : Obj := codO "_law_alone" 684 "_law_alone" 685 686 252 3 0 0 3 378 true 181 379 (.ref 380) (.ref 381) (.ref 382) 695 252 696
def o384 : Obj := funO "_law_alone" "_law_alone" (top 34) 3 [] .none .none .none (.str "law_barbreaks_k05_grids_shared" 528) (.ref 383) .none 0
def o385 : Obj := tupO #[]
def o386 : Obj := nilO
def o387 : Obj := tupO #[(.str "_law_one" 701), (.str "_law_two" 702), (.str "_law_a" 703), (.str "_law_b" 704), (.str "_law_ticks" 705), (.str "_law_nested" 706), (.str "_law_same" 707), (.str "_law_tick" 708), (.str "_law_told" 709)]
def o388 : Obj := tupO #[]
def o389 : Obj := dedO "_law_pair" "_law_pair" (top 35)
def o390 : Obj := codO "_law_pair" 698 "_law_pair" 699 700 261 5 0 0 3 385 true 181 386 (.ref 387) (.ref 388) (.ref 389) 710 261 711
def o391 : Obj := funO "_law_pair" "_law_pair" (top 35) 3 [] .none .none .none (.str "law_barbreaks_k05_grids_shared" 528) (.ref 390) .none 0
def o392 : Obj := tupO #[]
def o393 : Obj := nilO
def o394 : Obj := dedO "law" "law" (top 36)
def o395 : Obj := codO "law" 713 "law" 714 715 272 1 0 0 3 392 true 181 393 .none .none (.ref 394) 716 272 717
def o396 : Obj := funO "law" "law" (top 36) 3 [] .none .none .none (.str "law_barbreaks_k05_grids_shared" 528) (.ref 395) .none 0
def t2 (P : Params) : PySem.W.BT := bN (PySem.W.boot_o_0 P) (bN (PySem.W.boot_o_1 P) (bN (o3_1 P) (bN (PySem.W.boot_o_7 P) (bN o15 (bN o31 (bN o63 (bN (o127 P) (bL o255) (bL o383)) (bN o191 (bL o319) .nil)) (bN o95 (bN o159 (bL o287) .nil) (bN o223 (bL o351) .nil))) (bN o47 (bN (o79 P) (bN o143 (bL o271) .nil) (bN o207 (bL o335) .nil)) (bN o111 (bN o175 (bL o303) .nil) (bN o239 (bL o367) .nil)))) (bN o23 (bN o39 (bN o71 (bN o135 (bL o263) (bL o391)) (bN o199 (bL o327) .nil)) (bN o103 (bN o167 (bL o295) .nil) (bN o231 (bL o359) .nil))) (bN o55 (bN o87 (bN o151 (bL o279) .nil) (bN o215 (bL o343) .nil)) (bN o119 (bN o183 (bL o311) .nil) (bN o247 (bL o375) .nil))))) (bN o11 (bN o19 (bN o35 (bN o67 (bN o131 (bL o259) (bL o387)) (bN o195 (bL o323) .nil)) (bN o99 (bN o163 (bL o291) .nil) (bN o227 (bL o355) .nil))) (bN o51 (bN o83 (bN o147 (bL o275) .nil) (bN o211 (bL o339) .nil)) (bN (o115 P) (bN o179 (bL o307) .nil) (bN o243 (bL o371) .nil)))) (bN o27 (bN o43 (bN o75 (bN o139 (bL o267) (bL o395)) (bN o203 (bL o331) .nil)) (bN o107 (bN o171 (bL o299) .nil) (bN o235 (bL o363) .nil))) (bN o59 (bN o91 (bN o155 (bL o283) .nil) (bN o219 (bL o347) .nil)) (bN o123 (bN o187 (bL o315) .nil) (bN o251 (bL o379) .nil)))))) (bN (PySem.W.boot_o_5 P) (bN (PySem.W.boot_o_9 P) (bN o17 (bN o33 (bN o65 (bN o129 (bL o257) (bL o385)) (bN o193 (bL o321) .nil)) (bN o97 (bN o161 (bL o289) .nil) (bN o225 (bL o353) .nil))) (bN o49 (bN o81 (bN o145 (bL o273) .nil) (bN o209 (bL o337) .nil)) (bN o113 (bN o177 (bL o305) .nil) (bN o241 (bL o369) .nil)))) (bN o25 (bN o41 (bN (o73 P) (bN o137 (bL o265) (bL o393)) (bN o201 (bL o329) .nil)) (bN o105 (bN o169 (bL o297) .nil) (bN o233 (bL o361) .nil))) (bN o57 (bN o89 (bN o153 (bL o281) .nil) (bN o217 (bL o345) .nil)) (bN (o121 P) (bN o185 (bL o313) .nil) (bN o249 (bL o377) .nil))))) (bN o13 (bN o21 (bN (o37 P) (bN o69 (bN o133 (bL o261) (bL o389)) (bN o197 (bL o325) .nil)) (bN o101 (bN o165 (bL o293) .nil) (bN o229 (bL o357) .nil))) (bN o53 (bN o85 (bN o149 (bL o277) .nil) (bN o213 (bL o341) .nil)) (bN o117 (bN o181 (bL o309) .nil) (bN o245 (bL o373) .nil)))) (bN o29 (bN o45 (bN o77 (bN o141 (bL o269) .nil) (bN o205 (bL o333) .nil)) (bN o109 (bN o173 (bL o301) .nil) (bN o237 (bL o365) .nil))) (bN o61 (bN o93 (bN o157 (bL o285) .nil) (bN o221 (bL o349) .nil)) (bN o125 (bN o189 (bL o317) .nil) (bN (o253 P) (bL o381) .nil))))))) (bN (PySem.W.boot_o_2 P) (bN (PySem.W.boot_o_4 P) (bN (PySem.W.boot_o_8 P) (bN o16 (bN o32 (bN o64 (bN o128 (bL o256) (bL o384)) (bN o192 (bL o320) .nil)) (bN o96 (bN o160 (bL o288) .nil) (bN o224 (bL o352) .nil))) (bN o48 (bN o80 (bN o144 (bL o272) .nil) (bN o208 (bL o336) .nil)) (bN o112 (bN o176 (bL o304) .nil) (bN o240 (bL o368) .nil)))) (bN (o24 P) (bN o40 (bN o72 (bN o136 (bL o264) (bL o392)) (bN o200 (bL o328) .nil)) (bN o104 (bN o168 (bL o296) .nil) (bN o232 (bL o360) .nil))) (bN o56 (bN o88 (bN (o152 P) (bL o280) .nil) (bN o216 (bL o344) .nil)) (bN o120 (bN o184 (bL o312) .nil) (bN o248 (bL o376) .nil))))) (bN o12_2 (bN o20 (bN o36 (bN o68 (bN o132 (bL o260) (bL o388)) (bN o196 (bL o324) .nil)) (bN (o100 P) (bN o164 (bL o292) .nil) (bN o228 (bL o356) .nil))) (bN (o52 P) (bN o84 (bN o148 (bL o276) .nil) (bN o212 (bL o340) .nil)) (bN o116 (bN o180 (bL o308) .nil) (bN o244 (bL o372) .nil)))) (bN o28 (bN o44 (bN o76 (bN o140 (bL o268) (bL o396)) (bN o204 (bL o332) .nil)) (bN o108 (bN (o172 P) (bL o300) .nil) (bN o236 (bL o364) .nil))) (bN o60 (bN o92 (bN o156 (bL o284) .nil) (bN o220 (bL o348) .nil)) (bN o124 (bN o188 (bL o316) .nil) (bN o252 (bL o380) .nil)))))) (bN (PySem.W.boot_o_6 P) (bN (PySem.W.boot_o_10 P) (bN o18 (bN o34 (bN o66 (bN o130 (bL o258) (bL o386)) (bN o194 (bL o322) .nil)) (bN o98 (bN o162 (bL o290) .nil) (bN o226 (bL o354) .nil))) (bN o50 (bN o82 (bN o146 (bL o274) .nil) (bN o210 (bL o338) .nil)) (bN o114 (bN o178 (bL o306) .nil) (bN o242 (bL o370) .nil)))) (bN o26 (bN o42 (bN o74 (bN o138 (bL o266) (bL o394)) (bN o202 (bL o330) .nil)) (bN o106 (bN o170 (bL o298) .nil) (bN o234 (bL o362) .nil))) (bN (o58 P) (bN o90 (bN o154 (bL o282) .nil) (bN o218 (bL o346) .nil)) (bN o122 (bN o186 (bL o314) .nil) (bN o250 (bL o378) .nil))))) (bN o14 (bN o22 (bN o38 (bN o70 (bN o134 (bL o262) (bL o390)) (bN o198 (bL o326) .nil)) (bN o102 (bN o166 (bL o294) .nil) (bN o230 (bL o358) .nil))) (bN o54 (bN o86 (bN o150 (bL o278) .nil) (bN o214 (bL o342) .nil)) (bN o118 (bN o182 (bL o310) .nil) (bN o246 (bL o374) .nil)))) (bN (o30 P) (bN o46 (bN o78 (bN o142 (bL o270) .nil) (bN o206 (bL o334) .nil)) (bN o110 (bN o174 (bL o302) .nil) (bN o238 (bL o366) .nil))) (bN o62 (bN (o94 P) (bN o158 (bL o286) .nil) (bN o222 (bL o350) .nil)) (bN o126 (bN o190 (bL o318) .nil) (bN o254 (bL o382) .nil)))))))
def s2 (w : World) (os : OsState) : SharedT := ⟨t2 w.params, 397, { registered := [], finalised := [], alive := [], known := 0, ids := [], orphanDicts := [], counting := false, cnt := #[], zero := [], soft := 0, below := false, collecting := false, loading := false, debug := 0, thresholds := [2000, 10, 10], woke := false, asked := 0, gcEnabled := true, old := [], middle := [], young := 0, intoMiddle := false }, #[], ⟨0, 0, 0, 0⟩, 719, os⟩
set_option maxHeartbeats 0 in
theorem hp2 (w : World) (os : OsState) : segF (stepQ (denQ tabQ) R.prog w) 11 hdA 481 (s1 w os) (piecesOf ((hdB.drop 22).take 15) hdE hdC ⟨143, 0, 147, 21⟩ hdF) = some (.next, s2 w os, hdC, ⟨272, 0, 295, 15⟩) := by kernel_rfl
abbrev tF (P : Params) : PySem.W.BT := t2 P
def sF (w : World) (os : OsState) : SharedT := ⟨tF w.params, 397, { registered := [], finalised := [], alive := [], known := 0, ids := [], orphanDicts := [], counting := false, cnt := #[], zero := [], soft := 0, below := false, collecting := false, loading := false, debug := 0, thresholds := [2000, 10, 10], woke := false, asked := 0, gcEnabled := true, old := [], middle := [], young := 0, intoMiddle := false }, #[], ⟨0, 0, 0, 0⟩, 719, os⟩
set_option maxHeartbeats 0 in
theorem hpF (w : World) (os : OsState) : goF (stepQ (denQ tabQ) R.prog w) 11 hdA 2 (s2 w os) ⟨doneF .next, hdC, ⟨272, 0, 295, 15⟩, hdF⟩ = some (sF w os) := by kernel_rfl
theorem hdRun (w : World) (os : OsState) : topRun treeTable R.prog w 11 hdA (12 + (1 + (2527 + (481 + (2))))) ⟨boot_heap w.params, #[], boot_drawn, boot_toks, os⟩ (topStub R.prog) = some (sF w os).abs := by
  rw [← boot_abs (t := tB w.params) (n := 11) (by kernel_rfl)]
  exact start (hpA w os) (hp0 w os) (piece (i := 0) (k := 22) (hp1 w os) (piece (i := 22) (k := 15) (hp2 w os) (fin (by kernel_rfl) (hpF w os))))
set_option maxHeartbeats 0 in
theorem hdL1 (w : World) (os : OsState) : looksF R.prog (boot_heap w.params) (sF w os).abs = true := by kernel_rfl
set_option maxHeartbeats 0 in
theorem hdL2 (w : World) (os : OsState) : seenQ (view R.prog [36]) names (importedModules R.prog.main.body) (fun s => xlAt (view R.prog [36]) [] s && recOk R.toRowW.records s) (sF w os).abs = openGood (view R.prog [36]) names := by kernel_rfl
set_option maxHeartbeats 0 in
theorem hdL3 (w : World) (os : OsState) : (some (frB (sF w os) fun s => ob s)) = some (hk.val w) := by kernel_rfl
set_option maxHeartbeats 0 in
theorem hdOp : opening R.prog = plainProg R.prog.main.scope.names := by kernel_rfl
set_option maxHeartbeats 0 in
theorem hdFe (s : Shared) : fenceModules? R.prog s = some s := by kernel_rfl
set_option maxHeartbeats 0 in
theorem hdSz (w : World) : ((boot_heap w.params).isNs mainGlobals && true, (boot_heap w.params).objs.size, (boot_heap w.params).nsMap mainGlobals "__annotations__") = (true, 11, hdA) := by kernel_rfl
theorem hdSt (w : World) (os : OsState) : sF w os = ⟨tF w.params, 397, { registered := [], finalised := [], alive := [], known := 0, ids := [], orphanDicts := [], counting := false, cnt := #[], zero := [], soft := 0, below := false, collecting := false, loading := false, debug := 0, thresholds := [2000, 10, 10], woke := false, asked := 0, gcEnabled := true, old := [], middle := [], young := 0, intoMiddle := false }, #[], ⟨0, 0, 0, 0⟩, 719, os⟩ := rfl
theorem hdL (w : World) (os : OsState) : hk.obs (sF w os).abs = hk.val w := (ob_eq _).symm.trans ((frB_eq _ _).symm.trans (Option.some.inj (hdL3 w os)))
set_option maxHeartbeats 0 in
theorem left : LeftO R.prog (view R.prog [36]) names (fun s => xlAt (view R.prog [36]) [] s && recOk R.toRowW.records s) hk.obs hk.val 60000 true := left_of hdOp (by kernel_rfl) hdFe hdSt hdSz hdRun (by kernel_rfl) hdL1 hdL2 hdL
end My
end
namespace My
open PySem PySem.Spec PyProof.Rows L2 Rd
def FactsP : Prop := ∀ {P : Program} {w : World} {K : PySem.W.Frag} {h : Heap} {mg : Str → Option Value} {f : Addr} (X : K.In h) (G : h.Ns mainGlobals mg) (hfa : mg ("law" : Str) = some (.ref f)) (c : SaysE fa fn xa fs w K) (hfile : ((P.main.file : Str) == ("/claim/cut.py" : Str)) = true) (hno : (P.main.scope.names.lookup ("super" : Str)).isSome = false),
    ∃ fd : FuncData, (∀ (s : Shared) (v : Value), BindsTo s fd ⟨[v], []⟩ [("_law_script", v)]) ∧ ∀ base : Heap, K.In base → base.Ns mainGlobals mg → FnOk P w K mg base CX0 10 f fd ["_law_script"] (spLaw K)
end My
section
open PySem PySem.W PySem.Calls PyProof.Rows
set_option maxHeartbeats 0 in
theorem My.closing (F : My.FactsP) : PySem.Challenge.rw_barbreaks_k05_grids_shared.Holds := by
  refine My.opened fun said => ?_
  refine HG.head (r := OpenLaw.row PySem.Challenge.rw_barbreaks_k05_grids_shared) (q := view (OpenLaw.row PySem.Challenge.rw_barbreaks_k05_grids_shared).prog [36]) (H := My.hk) (N := 60000) (loose := My.names) (d := HandSHeadRun.topDef (OpenLaw.row PySem.Challenge.rw_barbreaks_k05_grids_shared).prog 36) (kwd := []) My.left
    (by kernel_rfl) (by kernel_rfl) (by kernel_rfl) (by rfl) (by first | assumption | decide +kernel) (by decide +kernel) ⟨rfl, rfl, rfl, rfl, rfl, by decide +kernel⟩ ?hw ?hc
  case hw => w_witness2
  case hc =>
    refine L2.walk_ofE (l := PySem.Challenge.rw_barbreaks_k05_grids_shared) (n := 63) (k := 10) (x := "_law_script") (CX := L2.CX0) rfl (by decide) (by kernel_rfl) ⟨rfl, by decide, by decide⟩ ?F (fun _ _ _ _ z => z)
    intro w mg fa h Y G hmg0
    obtain ⟨K, KX, c⟩ := Y
    have hmg : mg ("law" : PySem.Str) = some (.ref fa) := by
      have e : (HandSHeadRun.topDef (OpenLaw.row PySem.Challenge.rw_barbreaks_k05_grids_shared).prog 36).name = ("law" : PySem.Str) := by kernel_rfl
      rw [← e]
      exact hmg0
    obtain ⟨fd, hb, hF⟩ := F (P := (PySem.Challenge.rw_barbreaks_k05_grids_shared).prog) (w := w) KX G hmg c (by kernel_rfl) (by kernel_rfl)
    exact ⟨K, fd, My.spLaw K, KX, hb, fun H a ns hl _ hS => ⟨a, ns, rfl, hl, hS, fun _ => rfl⟩, hF⟩
end
/-! Fx: what the head tells, defs and own exceptions by name. -/
namespace Rd
open PySem PySem.Spec PyProof.Rows L2
structure Tx (fa : List He.Fa) (fn : List He.DefD) (xa : List Xa) (fs : Fs) (P : Program) (w : World) (K : PySem.W.Frag) (mg : Str → Option Value) : Prop where
  all : SaysE fa fn xa fs w K
  hh : ∃ h : Heap, K.In h ∧ h.Ns mainGlobals mg
  file : ((P.main.file : Str) == ("/claim/cut.py" : Str)) = true
  nosup : (P.main.scope.names.lookup ("super" : Str)).isSome = false
section
variable {fa : List He.Fa} {fn : List He.DefD} {xa : List Xa} {fs : Fs} {P : Program} {w : World} {K : PySem.W.Frag} {mg : Str → Option Value}
theorem Tx.says (T : Tx fa fn xa fs P w K mg) : He.SaysD fa fn K := T.all.base
theorem Tx.glo (T : Tx fa fn xa fs P w K mg) (i : Nat) {x : Str} (h : fa[i]? = some (.glo x) := by rfl) : mg x = some (.ref (He.ga K x)) := by
  obtain ⟨_, X, G⟩ := T.hh
  exact He.glo_ok X G (T.says.fact i h)
theorem Tx.free (T : Tx fa fn xa fs P w K mg) (i : Nat) {x : Str} (h : fa[i]? = some (.free x) := by rfl) : mg x = none := by
  obtain ⟨_, X, G⟩ := T.hh
  exact He.free_ok X G (T.says.fact i h)
theorem Tx.int (T : Tx fa fn xa fs P w K mg) (i : Nat) {x : Str} {n : Int} (h : fa[i]? = some (.int x n) := by rfl) : ∃ t, mg x = some (.int n t) := by
  obtain ⟨_, X, G⟩ := T.hh
  exact He.int_ok X G (T.says.fact i h)
theorem Tx.str (T : Tx fa fn xa fs P w K mg) (i : Nat) {x z : Str} (h : fa[i]? = some (.str x z) := by rfl) : ∃ t, mg x = some (.str z t) := by
  obtain ⟨_, X, G⟩ := T.hh
  exact He.str_ok X G (T.says.fact i h)
theorem Tx.noat (T : Tx fa fn xa fs P w K mg) (i : Nat) {x f : Str} (h : fa[i]? = some (.noat x f) := by rfl) : NoAttr K (He.ga K x) f := He.eqO_ok (T.says.fact i h)
theorem Tx.cls (T : Tx fa fn xa fs P w K mg) (i : Nat) {x : Str} (h : fa[i]? = some (.cls x) := by rfl) : Cls K (He.ga K x) := by
  obtain ⟨a, r⟩ := He.ba (T.says.fact i h)
  obtain ⟨b, r⟩ := He.ba r
  obtain ⟨c, d⟩ := He.ba r
  exact ⟨a, b, c, He.eqO_ok d⟩
theorem Tx.meth (T : Tx fa fn xa fs P w K mg) (i : Nat) {x m : Str} (h : fa[i]? = some (.meth x m) := by rfl) : Meth K (He.ga K x) m (He.ma K (He.ga K x) m) := by
  obtain ⟨a, r⟩ := He.ba (T.says.fact i h)
  obtain ⟨b, c⟩ := He.ba r
  exact ⟨He.eqO_ok a, b, c⟩
theorem Tx.mkr (T : Tx fa fn xa fs P w K mg) (i : Nat) {x : Str} (h : fa[i]? = some (.mkr x) := by rfl) : Mk K (He.ga K x) (He.ma K (He.ga K x) "__init__") := by
  obtain ⟨a, r⟩ := He.ba (T.says.fact i h)
  obtain ⟨b, r⟩ := He.ba r
  obtain ⟨c, d⟩ := He.ba r
  exact ⟨a, He.eqO_ok b, c, d⟩
theorem Tx.exc (T : Tx fa fn xa fs P w K mg) (i : Nat) {x : Str} (h : xa[i]? = some (.exc x) := by rfl) : ExcT K x := exc_ok (T.all.own i h)
theorem Tx.kit (T : Tx fa fn xa fs P w K mg) (i : Nat) {x y : Str} {b : Bool} (h : xa[i]? = some (.kit x y b) := by rfl) : PySem.W.kitOne K (.ref (He.ga K x)) (.ref (He.ga K y)) = some b := of_decide_eq_true (T.all.own i h)
theorem Tx.kitT (T : Tx fa fn xa fs P w K mg) (i : Nat) {x : Str} {t : String} {b : Bool} (h : xa[i]? = some (.kitT x t b) := by rfl) : PySem.W.kitOne K (.ref (He.ga K x)) (.type t) = some b := of_decide_eq_true (T.all.own i h)
theorem Tx.tkit (T : Tx fa fn xa fs P w K mg) (i : Nat) {y : Str} {t : String} {b : Bool} (h : xa[i]? = some (.tkit t y b) := by rfl) : PySem.W.kitOne K (.type t) (.ref (He.ga K y)) = some b := of_decide_eq_true (T.all.own i h)
theorem Tx.exm (T : Tx fa fn xa fs P w K mg) (i : Nat) {x y : Str} {b : Bool} (h : xa[i]? = some (.exm x y b) := by rfl) : PySem.W.exmOne K (.ref (He.ga K x)) (.ref (He.ga K y)) = some b := of_decide_eq_true (T.all.own i h)
theorem Tx.inst (T : Tx fa fn xa fs P w K mg) (i : Nat) {x : Str} (h : xa[i]? = some (.inst x) := by rfl) (c : Cls K (He.ga K x)) {H : Hp} {a dx : Addr} {l : List (Str × V)} (e : H a = some (.ins (He.ga K x) dx l)) : TyX K H (.ref a) (.ref (He.ga K x)) := by
  obtain ⟨a1, r⟩ := He.ba (T.all.own i h)
  obtain ⟨a2, r⟩ := He.ba r
  obtain ⟨a3, a4⟩ := He.ba r
  exact .base (.ins e c (He.eqO_ok a1) (He.eqO_ok a2) (of_decide_eq_true a3) (of_decide_eq_true a4))
end
/-- a def of the module by its name -/
structure FnG (P : Program) (w : World) (K : PySem.W.Frag) (mg : Str → Option Value) (base : Heap) (CX : CXT) (k : Nat) (x : Str) (ps : List Str) (sp : Sp) : Prop where
  ex : ∃ f fd, mg x = some (.ref f) ∧ PySem.W.keepIn K (.ref f) = true ∧ FnOk P w K mg base CX k f fd ps sp ∧ Binds K fd ps []
/-- a method of a class -/
structure MtG (P : Program) (w : World) (K : PySem.W.Frag) (mg : Str → Option Value) (base : Heap) (CX : CXT) (k : Nat) (C : Addr) (m : Str) (ps : List Str) (sp : Sp) : Prop where
  ex : ∃ f fd, Meth K C m f ∧ FnOk P w K mg base CX k f fd ps sp ∧ Binds K fd ps []
  cls : Cls K C
/-- a class that is made by its __init__, the defaults dvs filling up -/
structure MkG (P : Program) (w : World) (K : PySem.W.Frag) (mg : Str → Option Value) (base : Heap) (CX : CXT) (k : Nat) (x : Str) (ps : List Str) (dvs : List V) (sp : Sp) : Prop where
  ex : ∃ f fd ds, mg x = some (.ref (He.ga K x)) ∧ Mk K (He.ga K x) f ∧ FnOk P w K mg base CX k f fd ps sp ∧ Binds K fd ps ds ∧ Vals dvs ds
/-- an own exception that may be raised -/
structure ExcG (P : Program) (w : World) (K : PySem.W.Frag) (mg : Str → Option Value) (base : Heap) (k : Nat) (x : Str) (ps : List Str) (sp : Sp) : Prop where
  ex : ∃ fd, mg x = some (.ref (He.ga K x)) ∧ ExcT K x ∧ FnOk P w K mg base CX0 k (iAd K x) fd ps sp ∧ Binds K fd ps []
section
variable {X : Cx} {x : Str} {p pos apos : Pos} {k : Nat} {ps : List Str} {sp : Sp} {e o : Expr} {es : List Expr} {t : TA} {ta : TE} {CX : CXT} {E : XK} {dvs : List V} {C : Addr} {m : Str}
theorem pe_gint {i : Int} (h : ∃ t, X.mg x = some (.int i t)) (hg : Gl X x) (hd : (x == ("__debug__" : Str)) = false := by decide) : PE X (.Name x pos) (tC (.int i)) := by
  obtain ⟨t, h⟩ := h
  exact pe_glob hg h ⟨t, rfl⟩ hd
theorem pe_gstr {z : Str} (h : ∃ t, X.mg x = some (.str z t)) (hg : Gl X x) (hd : (x == ("__debug__" : Str)) = false := by decide) : PE X (.Name x pos) (tC (.str z)) := by
  obtain ⟨t, h⟩ := h
  exact pe_glob hg h ⟨t, rfl⟩ hd
theorem pe_cgE (F : FnG X.prog X.w X.K X.mg X.base CX k x ps sp) (hr : Room k X.A) (hg : Gl X x) (hx : Passes CX X E) (ha : PA X (e :: es) t) (h1 : (x == ("__debug__" : Str)) = false := by decide) (h2 : starEach (e :: es) X.env = (false, eval e X.env) :: starEach es X.env := by rfl) (h3 : (backTo pos (starEach es X.env)).any (·.1) = false := by rfl) : PE X (.Call (.Name x p) (e :: es) [] pos) (tCall sp [] E t) := by
  obtain ⟨f, fd, a, b, c, d⟩ := F.ex
  exact pe_call c hr hg a b d .nil hx ha h1 h2 h3
theorem pe_cg (F : FnG X.prog X.w X.K X.mg X.base CX0 k x ps sp) (hr : Room k X.A) (hg : Gl X x) (ha : PA X (e :: es) t) (h1 : (x == ("__debug__" : Str)) = false := by decide) (h2 : starEach (e :: es) X.env = (false, eval e X.env) :: starEach es X.env := by rfl) (h3 : (backTo pos (starEach es X.env)).any (·.1) = false := by rfl) : PE X (.Call (.Name x p) (e :: es) [] pos) (tCall sp [] E0 t) := pe_cgE F hr hg pass0 ha h1 h2 h3
theorem pe_mkE (F : MkG X.prog X.w X.K X.mg X.base CX k x ps dvs sp) (hr : Room (k + 1) X.A) (hg : Gl X x) (hx : Passes CX X E) (ha : PA X (e :: es) t) (h1 : (x == ("__debug__" : Str)) = false := by decide) (h2 : starEach (e :: es) X.env = (false, eval e X.env) :: starEach es X.env := by rfl) (h3 : (backTo pos (starEach es X.env)).any (·.1) = false := by rfl) : PE X (.Call (.Name x p) (e :: es) [] pos) (tMake (He.ga X.K x) sp dvs E t) := by
  obtain ⟨f, fd, ds, a, b, c, d, v⟩ := F.ex
  exact pe_make b c hr hg a d v hx ha h1 h2 h3
theorem pmk_g (G : ExcG X.prog X.w X.K X.mg X.base k x ps sp) (hr : Room (k + 1) X.A) (hg : Gl X x) (ha : PA X (e :: es) t) (h1 : (x == ("__debug__" : Str)) = false := by decide) (h2 : starEach (e :: es) X.env = (false, eval e X.env) :: starEach es X.env := by rfl) (h3 : (backTo pos (starEach es X.env)).any (·.1) = false := by rfl) : PMk X (.Call (.Name x p) (e :: es) [] pos) (tMkO (He.ga X.K x) sp [] t) := by
  obtain ⟨fd, a, T, F, b⟩ := G.ex
  exact pmk_oex T.oex T.ini T.fn F hr b .nil (fun _ _ _ _ _ _ _ z => z.elim) hg a ha h1 h2 h3
end
/-! ### the scope without __class__ -/
def notCn (y : Str × NameKind) : Bool := !decide (y.1 = ("__class__" : Str))
def noCls (sc : Scope) : Scope := { sc with names := sc.names.filter notCn }
theorem lookup_rest {x : Str} (h : x ≠ "__class__") : ∀ l : List (Str × NameKind), l.lookup x = (l.filter notCn).lookup x
  | [] => rfl
  | (a, b) :: r => by
    by_cases e : a = "__class__"
    · have hx : (x == a) = false := beq_eq_false_iff_ne.mpr (e ▸ h)
      rw [List.filter_cons_of_neg (by simp [notCn, e]), List.lookup_cons, hx]
      exact lookup_rest h r
    · rw [List.filter_cons_of_pos (by simp [notCn, e]), List.lookup_cons, List.lookup_cons, lookup_rest h r]
theorem cls_scope {N P : List Str} {sc : Scope} (b : FnScope N P (noCls sc)) (c : ∀ y ∈ sc.names, y.2 ≠ .cell) (z : ∀ n : Nat, cellsFrom n (noCls sc).names [] = []) (f : sc.names.lookup ("__class__" : Str) = some NameKind.free) (o : ("__class__" : Str) ∉ N) (p : ∀ x ∈ P, x ∈ N) : ClsScope N P sc (noCls sc) :=
  ⟨b, b.kind, b.co, b.gen, c, fun y hy => c y (List.mem_filter.mp hy).1, z, fun x hx => lookup_rest hx _, f, o, p⟩
/-! ### the own exceptions of one and of two fields -/
section
variable {fa : List He.Fa} {fn : List He.DefD} {xa : List Xa} {fs : Fs} {P : Program} {w : World} {K : PySem.W.Frag} {mg : Str → Option Value} {base : Heap} {x qual self y z f g : Str} {st : Stmt} {fd : FuncData} {txt : Str} {j : Nat} {p0 p1 p2 p3 p4 p5 q1 q2 q3 q4 q5 q6 q7 q8 : Pos}
theorem sup_at {cda : Addr} {oc : Value} {od : Option Addr} {osl : Array (Option Value)} {F : Addr} {ar : Arg} {ccl : Value} {cdd : Option Addr} {vs : Array Value} {sl : Array (Option Value)} {tf : Tok} (T : Tx fa fn xa fs P w K mg) (hs : mg "super" = none) (lk : K.lookup F = some ⟨oc, od, .func fd, osl⟩) (hp : (fd.params.posonlyargs ++ fd.params.args).head? = some ar)
    (lc : K.lookup cda = some ⟨ccl, cdd, .fields vs, sl⟩) (hv : vs[2]? = some (.str "/claim/cut.py" tf)) (hh : (defScope st).names.lookup ("super" : Str) = some NameKind.globalImplicit) : SupAt P K mg (defScope st) F cda ar.arg :=
  ⟨⟨oc, od, fd, osl, ar, lk, hp, rfl⟩, ⟨ccl, cdd, vs, sl, _, tf, lc, hv, T.file⟩, T.nosup, hs, hh⟩
theorem exc_one {ar : Arg} (T : Tx fa fn xa fs P w K mg) (hs : mg "super" = none) (hm : mg x = some (.ref (He.ga K x))) (X : ExcT K x) (F : FunS K "__init__" qual st [] [] (He.ga K x) (iAd K x) fd) (na : NoAttr K (He.ga K x) f)
    (hb : defBody st = [.Expr (supCall txt j p0 p1 p2 p3 p4) p5, .Assign [.Attribute (.Name self q1) f q2] (.Name y q3) q4]) (ha : ((defArgs st).posonlyargs ++ (defArgs st).args).head? = some ar) (har : ar.arg = self)
    (S : ClsScope [self, y] [self, y] (defScope st) (noCls (defScope st))) (hl : ∀ v ∈ [self, y], (defScope st).names.lookup v = some .local) (hh : (defScope st).names.lookup ("super" : Str) = some NameKind.globalImplicit) (nd : (self == ("__debug__" : Str)) = false ∧ (y == ("__debug__" : Str)) = false) (ndc : self ≠ "__classdict__" ∧ y ≠ "__classdict__") (nc : self ≠ "__class__" ∧ y ≠ "__class__")
    (go : ∀ L ff cda cc, GoesSup (cenv qual (defScope st) L ff (.ref cda) cc) txt j p0 p1 p2 p3 p4) (hsw : ∀ L ff cda cc, swapsWith (supCall txt j p0 p1 p2 p3 p4) none p5.line (cenv qual (defScope st) L ff (.ref cda) cc) = pure false)
    (hsy : ∀ L ff cda cc, swapsWith (.Name y q3) (some (.Attribute (.Name self q1) f q2)) q4.line (cenv qual (defScope st) L ff (.ref cda) cc) = pure false)
    (hbind : ∀ (kV doc pm : Value) (an : Option Addr) (cda : Addr) (ct : Value) (cc : Addr) (us : List Value), us.length = 2 → bindArgs (PySem.W.ksFn "__init__" qual (defArgs st) (defBody st) (defScope st) .none kV doc pm an (.ref cda) ct cc) ⟨us, []⟩ = pure ([self, y].zip us)) :
    ExcG P w K mg base 1 x [self, y] (spX1 (He.ga K x) f) := by
  obtain ⟨oc, od, dV, kV, doc, pm, an, cda, ct, osl, cc, cl, cld, csl, rfl, lk, hcd, hd, _, lc, ccl, cdd, vs, sl, tf, e2, e3⟩ := F.ex
  have U : SupAt P K mg (defScope st) (iAd K x) cda ar.arg := sup_at T hs lk ha e2 e3 hh
  rw [har] at U
  have edV : dV = .none := by rcases hd with ⟨_, e⟩ | ⟨e, _⟩; exact e; exact absurd rfl e
  subst edV
  have B := Binds.all (K := K) (fun us hu => hbind kV doc pm an cda ct cc us hu)
  have hl0 : ∀ v ∈ [self, y], (noCls (defScope st)).names.lookup v = some .local := fun v hv => by
    have hne : v ≠ "__class__" := by
      rcases List.mem_cons.mp hv with rfl | hv
      · exact nc.1
      · cases List.mem_singleton.mp hv; exact nc.2
    exact (S.same v hne).symm.trans (hl v hv)
  refine ⟨_, hm, X, ?_, B⟩
  rw [hb] at lk ⊢
  refine fn_exc (k := 0) lk hcd lc S (fun vs H Q E h => ?_) (fun v hv => ⟨hl v hv, hl0 v hv⟩) U X.sup rfl (hl self List.mem_cons_self) (fun L => go L _ _ _) (fun L => hsw L _ _ _) (fun vs H Q E h => ?_) (fun A outer s H vs Q E hr h => ?_)
  · obtain ⟨a, v, rfl, _⟩ := h; rfl
  · obtain ⟨a, v, rfl, e, _⟩ := h; exact ⟨a, _, rfl, e⟩
  · obtain ⟨a, v, rfl, e, hQ⟩ := h
    have v0 : Vis (defScope st) self := .inl (hl self List.mem_cons_self)
    have v1 : Vis (defScope st) y := .inl (hl y (by simp))
    refine ⟨_, pss_one (ps_ost (pe_var (i := 0) rfl v0 nd.1 (beq_eq_false_iff_ne.mpr ndc.1)) (pe_var (i := 1) rfl v1 nd.2 (beq_eq_false_iff_ne.mpr ndc.2)) (hsy _ _ _ _)), ?_⟩
    exact ⟨v, rfl, .ref a, rfl, a, He.ga K x, rfl, X.oex, na, .inl ⟨e, fun d h1 h2 => hQ d h1 h2⟩⟩
theorem exc_two {ar : Arg} (T : Tx fa fn xa fs P w K mg) (hs : mg "super" = none) (hm : mg x = some (.ref (He.ga K x))) (X : ExcT K x) (F : FunS K "__init__" qual st [] [] (He.ga K x) (iAd K x) fd) (na : NoAttr K (He.ga K x) f) (na2 : NoAttr K (He.ga K x) g)
    (hb : defBody st = [.Expr (supCall txt j p0 p1 p2 p3 p4) p5, .Assign [.Attribute (.Name self q1) f q2] (.Name y q3) q4, .Assign [.Attribute (.Name self q5) g q6] (.Name z q7) q8]) (ha : ((defArgs st).posonlyargs ++ (defArgs st).args).head? = some ar) (har : ar.arg = self)
    (S : ClsScope [self, y, z] [self, y, z] (defScope st) (noCls (defScope st))) (hl : ∀ v ∈ [self, y, z], (defScope st).names.lookup v = some .local) (hh : (defScope st).names.lookup ("super" : Str) = some NameKind.globalImplicit) (nd : ∀ v ∈ [self, y, z], (v == ("__debug__" : Str)) = false) (ndc : ∀ v ∈ [self, y, z], v ≠ "__classdict__") (nc : ∀ v ∈ [self, y, z], v ≠ "__class__")
    (go : ∀ L ff cda cc, GoesSup (cenv qual (defScope st) L ff (.ref cda) cc) txt j p0 p1 p2 p3 p4) (hsw : ∀ L ff cda cc, swapsWith (supCall txt j p0 p1 p2 p3 p4) none p5.line (cenv qual (defScope st) L ff (.ref cda) cc) = pure false)
    (hsy : ∀ L ff cda cc, swapsWith (.Name y q3) (some (.Attribute (.Name self q1) f q2)) q4.line (cenv qual (defScope st) L ff (.ref cda) cc) = pure false) (hsz : ∀ L ff cda cc, swapsWith (.Name z q7) (some (.Attribute (.Name self q5) g q6)) q8.line (cenv qual (defScope st) L ff (.ref cda) cc) = pure false)
    (hbind : ∀ (kV doc pm : Value) (an : Option Addr) (cda : Addr) (ct : Value) (cc : Addr) (us : List Value), us.length = 3 → bindArgs (PySem.W.ksFn "__init__" qual (defArgs st) (defBody st) (defScope st) .none kV doc pm an (.ref cda) ct cc) ⟨us, []⟩ = pure ([self, y, z].zip us)) :
    ExcG P w K mg base 1 x [self, y, z] (spX2 (He.ga K x) f g) := by
  obtain ⟨oc, od, dV, kV, doc, pm, an, cda, ct, osl, cc, cl, cld, csl, rfl, lk, hcd, hd, _, lc, ccl, cdd, vs, sl, tf, e2, e3⟩ := F.ex
  have U : SupAt P K mg (defScope st) (iAd K x) cda ar.arg := sup_at T hs lk ha e2 e3 hh
  rw [har] at U
  have edV : dV = .none := by rcases hd with ⟨_, e⟩ | ⟨e, _⟩; exact e; exact absurd rfl e
  subst edV
  have B := Binds.all (K := K) (fun us hu => hbind kV doc pm an cda ct cc us hu)
  have hl0 : ∀ v ∈ [self, y, z], (noCls (defScope st)).names.lookup v = some .local := fun v hv => (S.same v (nc v hv)).symm.trans (hl v hv)
  refine ⟨_, hm, X, ?_, B⟩
  rw [hb] at lk ⊢
  have m0 : self ∈ [self, y, z] := List.mem_cons_self
  have m1 : y ∈ [self, y, z] := by simp
  have m2 : z ∈ [self, y, z] := by simp
  refine fn_exc (k := 0) lk hcd lc S (fun vs H Q E h => ?_) (fun v hv => ⟨hl v hv, hl0 v hv⟩) U X.sup rfl (hl self m0) (fun L => go L _ _ _) (fun L => hsw L _ _ _) (fun vs H Q E h => ?_) (fun A outer s H vs Q E hr h => ?_)
  · obtain ⟨a, v, v2, rfl, _⟩ := h; rfl
  · obtain ⟨a, v, v2, rfl, e, _⟩ := h; exact ⟨a, _, rfl, e⟩
  · obtain ⟨a, v, v2, rfl, e, hQ⟩ := h
    have v0 : Vis (defScope st) self := .inl (hl self m0)
    have v1 : Vis (defScope st) y := .inl (hl y m1)
    have v2' : Vis (defScope st) z := .inl (hl z m2)
    refine ⟨_, pss_cons (ps_ost (pe_var (i := 0) rfl v0 (nd self m0) (beq_eq_false_iff_ne.mpr (ndc self m0))) (pe_var (i := 1) rfl v1 (nd y m1) (beq_eq_false_iff_ne.mpr (ndc y m1))) (hsy _ _ _ _)) (pss_one (ps_ost (pe_var (i := 0) rfl v0 (nd self m0) (beq_eq_false_iff_ne.mpr (ndc self m0))) (pe_var (i := 2) rfl v2' (nd z m2) (beq_eq_false_iff_ne.mpr (ndc z m2))) (hsz _ _ _ _))), ?_⟩
    refine ⟨v, rfl, .ref a, rfl, a, He.ga K x, rfl, X.oex, na, .inl ⟨e, fun d h1 h2 => ?_⟩⟩
    refine ⟨v2, rfl, .ref a, rfl, a, He.ga K x, rfl, X.oex, na2, .inr ⟨d, [(f, v)], upd_same, ?_, (show 1 ≤ 900 by decide), hQ d h1 h2⟩⟩
    rw [upd_ne h2, upd_same]
end
end Rd
/-! Bi: built-ins by named readings. -/
namespace Rd
open PySem PySem.Spec PyProof.Rows L2
/-! readings of our own shape, by the form of the arguments -/
def rInt1 : List V → Hp → VK → Prop := fun xs H Q => match xs with
  | [.int n] => Q (.int n) H
  | _ => False
def rLen (K : PySem.W.Frag) : List V → Hp → VK → Prop := fun xs H Q => match xs with
  | [v] => ∃ n, LenV K v H n ∧ Q (.int n) H
  | _ => False
/-- at p a list or a tuple of ys is to be read -/
def SqA (K : PySem.W.Frag) (H : Hp) (p : Addr) (ys : List V) : Prop := SqL K H p ys ∨ SqT K H p ys
def rList (K : PySem.W.Frag) : List V → Hp → VK → Prop := fun xs H Q => match xs with
  | [.ref p] => ∃ ys, SqA K H p ys ∧ ∀ l, H l = none → Q (.ref l) (upd H l (.lst ys))
  | _ => False
def rTuple (K : PySem.W.Frag) : List V → Hp → VK → Prop := fun xs H Q => match xs with
  | [.ref p] => (∃ ys, SqL K H p ys ∧ ∀ l, H l = none → Q (.ref l) (upd H l (.tup ys))) ∨ ((∃ ys, SqT K H p ys) ∧ Q (.ref p) H)
  | _ => False
def rTwo (g : Int → Int → Int) : List V → Hp → VK → Prop := fun xs H Q => match xs with
  | [.int a, .int b] => Q (.int (g a b)) H
  | _ => False
def rOne (g : Int → Int) : List V → Hp → VK → Prop := fun xs H Q => match xs with
  | [.int a] => Q (.int (g a)) H
  | _ => False
section
variable {X : Cx}
theorem cInt : CallR X (.type "int") rInt1 := by
  intro pins s σ H xs us Q I r h
  unfold rInt1 at h
  split at h
  · exact call_int1 pins s σ H _ us Q I r (.inl ⟨_, rfl, h⟩)
  · exact h.elim
theorem cLen : CallR X (.builtin "len") (rLen X.K) := by
  intro pins s σ H xs us Q I r h
  unfold rLen at h
  split at h
  · obtain ⟨n, hl, hq⟩ := h
    exact call_len pins s σ H _ us Q I r ⟨_, n, rfl, hl, hq⟩
  · exact h.elim
theorem cList : CallR X (.type "list") (rList X.K) := by
  intro pins s σ H xs us Q I r h
  unfold rList at h
  split at h
  · obtain ⟨ys, hl, hq⟩ := h
    exact call_list_of pins s σ H _ us Q I r ⟨_, ys, rfl, hl, hq⟩
  · exact h.elim
theorem cTuple : CallR X (.type "tuple") (rTuple X.K) := by
  intro pins s σ H xs us Q I r h
  unfold rTuple at h
  split at h
  · rcases h with ⟨ys, hl, hq⟩ | ⟨⟨ys, hl⟩, hq⟩
    · exact call_tuple_of pins s σ H _ us Q I r ⟨_, ys, rfl, .inl ⟨hl, hq⟩⟩
    · exact call_tuple_of pins s σ H _ us Q I r ⟨_, ys, rfl, .inr ⟨hl, hq⟩⟩
  · exact h.elim
theorem cMax2 (hc : X.calm = true) : CallR X (.builtin "max") (rTwo max) := by
  intro pins s σ H xs us Q I r h
  unfold rTwo at h
  split at h
  · rename_i a b
    refine call_max2 hc pins s σ H _ us Q I r ⟨a, b, rfl, ?_⟩
    rw [show (if b > a then b else a) = max a b by split <;> omega]
    exact h
  · exact h.elim
theorem cMin2 (hc : X.calm = true) : CallR X (.builtin "min") (rTwo min) := by
  intro pins s σ H xs us Q I r h
  unfold rTwo at h
  split at h
  · rename_i a b
    refine call_min2 hc pins s σ H _ us Q I r ⟨a, b, rfl, ?_⟩
    rw [show (if b < a then b else a) = min a b by split <;> omega]
    exact h
  · exact h.elim
def absI (a : Int) : Int := if a < 0 then -a else a
theorem cAbs : CallR X (.builtin "abs") (rOne absI) := by
  intro pins s σ H xs us Q I r h
  unfold rOne at h
  split at h
  · exact call_abs pins s σ H _ us Q I r ⟨_, rfl, h⟩
  · exact h.elim
end
section
variable {K : PySem.W.Frag} {H : Hp} {Q : VK} {i j : Int} {xs ys : List V} {p : Addr} {x v : V} {b : Bool}
theorem w_int (h : Q (.int i) H) : rInt1 [.int i] H Q := h
theorem w_lenL (hs : SqL K H p xs) (h : Q (.int xs.length) H) : rLen K [.ref p] H Q := ⟨xs.length, .inl ⟨xs, hs, rfl⟩, h⟩
theorem w_lenT (hs : SqT K H p xs) (h : Q (.int xs.length) H) : rLen K [.ref p] H Q := ⟨xs.length, .inr ⟨xs, hs, rfl⟩, h⟩
theorem w_lenS {s : Str} (hl : s.length ≤ sizeLine) (h : Q (.int s.length) H) : rLen K [.str s] H Q := ⟨s.length, ⟨hl, rfl⟩, h⟩
theorem w_listL (hs : SqL K H p ys) (h : ∀ l, H l = none → Q (.ref l) (upd H l (.lst ys))) : rList K [.ref p] H Q := ⟨ys, .inl hs, h⟩
theorem w_listT (hs : SqT K H p ys) (h : ∀ l, H l = none → Q (.ref l) (upd H l (.lst ys))) : rList K [.ref p] H Q := ⟨ys, .inr hs, h⟩
theorem w_tupL (hs : SqL K H p ys) (h : ∀ l, H l = none → Q (.ref l) (upd H l (.tup ys))) : rTuple K [.ref p] H Q := .inl ⟨ys, hs, h⟩
theorem w_tupT (hs : SqT K H p ys) (h : Q (.ref p) H) : rTuple K [.ref p] H Q := .inr ⟨⟨ys, hs⟩, h⟩
theorem w_two {g : Int → Int → Int} (h : Q (.int (g i j)) H) : rTwo g [.int i, .int j] H Q := h
theorem w_one {g : Int → Int} (h : Q (.int (g i)) H) : rOne g [.int i] H Q := h
theorem w_ixL (hs : SqL K H p xs) (ha : atI xs i = some v) (h : Q v H) : rIx K (.ref p) (.int i) H Q := .inl ⟨p, xs, i, v, rfl, rfl, hs, ha, h⟩
theorem w_ixT (hs : SqT K H p xs) (ha : atI xs i = some v) (h : Q v H) : rIx K (.ref p) (.int i) H Q := .inr (.inl ⟨p, xs, i, v, rfl, rfl, hs, ha, h⟩)
theorem w_ixS {s : Str} {c : Nat} (hl : s.length ≤ sizeLine) (ha : atI s.cps.toList i = some c) (h : Q (.str ⟨#[c]⟩) H) : rIx K (.str s) (.int i) H Q := .inr (.inr ⟨s, i, c, rfl, rfl, hl, ha, h⟩)
theorem atI_of {α : Type} {l : List α} {k : Int} {x : α} (h0 : 0 ≤ k) (h : l[k.toNat]? = some x) : atI l k = some x := by
  have hk : k < l.length := by
    have := List.getElem?_eq_some_iff.mp h
    obtain ⟨q, _⟩ := this
    omega
  unfold atI ixN
  rw [if_pos h0, if_pos hk]
  exact h
theorem atI_ints {ns : List Int} {k : Int} (h0 : 0 ≤ k) (h1 : k < ns.length) : atI (ns.map V.int) k = some (.int (ns.getD k.toNat 0)) := by
  refine atI_of h0 ?_
  have hk : k.toNat < ns.length := by omega
  rw [List.getElem?_map, List.getElem?_eq_getElem hk, List.getD_eq_getElem?_getD, List.getElem?_eq_getElem hk]
  rfl
theorem w_lenM {ns : List Int} (hs : SqL K H p (ns.map V.int)) (h : Q (.int ns.length) H) : rLen K [.ref p] H Q := w_lenL hs (by rw [List.length_map]; exact h)
theorem w_lenMT {ns : List Int} (hs : SqT K H p (ns.map V.int)) (h : Q (.int ns.length) H) : rLen K [.ref p] H Q := w_lenT hs (by rw [List.length_map]; exact h)
theorem w_ixM {ns : List Int} (hs : SqL K H p (ns.map V.int)) (h0 : 0 ≤ i) (h1 : i < ns.length) (h : Q (.int (ns.getD i.toNat 0)) H) : rIx K (.ref p) (.int i) H Q := w_ixL hs (atI_ints h0 h1) h
theorem w_ixMT {ns : List Int} (hs : SqT K H p (ns.map V.int)) (h0 : 0 ≤ i) (h1 : i < ns.length) (h : Q (.int (ns.getD i.toNat 0)) H) : rIx K (.ref p) (.int i) H Q := w_ixT hs (atI_ints h0 h1) h
theorem w_isi_int (h : Q (.bl true) H) : uIsi K [.int i, .ty "int"] H Q := .inl ⟨_, _, _, _, true, rfl, .ty _, .base (.int i), kit_ty (by decide +kernel), h⟩
theorem w_isi_bool (h : Q (.bl false) H) : uIsi K [.int i, .ty "bool"] H Q := .inl ⟨_, _, _, _, false, rfl, .ty _, .base (.int i), kit_ty (by decide +kernel), h⟩
theorem w_isi_own {a C D : Addr} {b : Bool} (hc : TyX K H (.ref a) (.ref C)) (e : PySem.W.kitOne K (.ref C) (.ref D) = some b) (h : Q (.bl b) H) : uIsi K [.ref a, .ref D] H Q := .inl ⟨_, _, _, _, b, rfl, .own _, hc, e, h⟩
theorem w_isi_none {D : Addr} {b : Bool} (e : PySem.W.kitOne K (.type "NoneType") (.ref D) = some b) (h : Q (.bl b) H) : uIsi K [.non, .ref D] H Q := .inl ⟨_, _, _, _, b, rfl, .own _, .base .non, e, h⟩
theorem w_isx {a D C : Addr} {fs : Option (List (Str × V))} {b : Bool} (hx : XcAt H a D fs) (c : ExcC K D) (e : PySem.W.kitOne K (.ref D) (.ref C) = some b) (h : Q (.bl b) H) : uIsi K [.ref a, .ref C] H Q := .inr ⟨D, fs, _, b, hx, c, .own _, e, h⟩
theorem w_isxT {a D : Addr} {t : String} {fs : Option (List (Str × V))} {b : Bool} (hx : XcAt H a D fs) (c : ExcC K D) (e : PySem.W.kitOne K (.ref D) (.type t) = some b) (h : Q (.bl b) H) : uIsi K [.ref a, .ty t] H Q := .inr ⟨D, fs, _, b, hx, c, .ty _, e, h⟩
/-- none of the classes -/
def NoneOf (K : PySem.W.Frag) (D : Addr) : List Addr → Prop
  | [] => True
  | C :: r => PySem.W.kitOne K (.ref D) (.ref C) = some false ∧ NoneOf K D r
theorem NoneOf.any {D : Addr} : ∀ {Cs : List Addr}, NoneOf K D Cs → PySem.W.kitAny K (.ref D) (Cs.map Value.ref) = some false
  | [], _ => rfl
  | _ :: _, h => kitAny_cons h.1 (fun _ => NoneOf.any h.2) (fun z => nomatch z)
theorem pairedR : ∀ Cs : List Addr, Paired ClsV (Cs.map V.ref) (Cs.map Value.ref)
  | [] => .nil
  | _ :: r => .cons (.own _) (pairedR r)
theorem w_isxs {a D tp : Addr} {fs : Option (List (Str × V))} (Cs : List Addr) (hx : XcAt H a D fs) (c : ExcC K D) (ht : H tp = some (.tup (Cs.map V.ref))) (e : NoneOf K D Cs) (h : Q (.bl false) H) : uIsiT K [.ref a, .ref tp] H Q := .inr ⟨D, fs, _, _, false, hx, c, ht, pairedR Cs, e.any, h⟩
end
end Rd
/-! Pool: the law's own drawing, by what it promises. -/
namespace Rd
open PySem PySem.Spec PyProof.Rows L2
/-- all but p stands -/
def Grow (p : Addr) (H H' : Hp) : Prop := ∀ a o, a ≠ p → H a = some o → H' a = some o
theorem Grow.refl {p : Addr} {H : Hp} : Grow p H H := fun _ _ _ h => h
theorem Grow.trans {p : Addr} {H H1 H2 : Hp} (a : Grow p H H1) (b : Grow p H1 H2) : Grow p H H2 := fun x o n h => b x o n (a x o n h)
theorem Grow.put {p : Addr} {H : Hp} {o : HO} : Grow p H (upd H p o) := fun a u n h => by rw [upd_ne n]; exact h
theorem Grow.new {p q : Addr} {H : Hp} {o : HO} (hq : H q = none) : Grow p H (upd H q o) := fun a u _ h => by rw [upd_ne (ne_of_none h hq)]; exact h
def PoolL (q : Addr) (l : List V) : Prop := ∃ a b c s : Int, l = [.int a, .int b, .int c, .int s, .ref q] ∧ 0 ≤ a ∧ 0 ≤ b ∧ 0 ≤ s ∧ s < 2147483647
def PoolAt (H : Hp) (p : Addr) : Prop := ∃ (q : Addr) (l : List V) (ns : List Int), H p = some (.lst l) ∧ PoolL q l ∧ H q = some (.lst (ns.map V.int)) ∧ q ≠ p
theorem PoolAt.keep {H H' : Hp} {p : Addr} (h : PoolAt H p) (g : ∀ a o, H a = some o → H' a = some o) : PoolAt H' p := by
  obtain ⟨q, l, ns, h1, h2, h3, h4⟩ := h
  exact ⟨q, l, ns, g _ _ h1, h2, g _ _ h3, h4⟩
theorem PoolAt.new {H : Hp} {p x : Addr} {o : HO} (h : PoolAt H p) (hx : H x = none) : PoolAt (upd H x o) p := h.keep fun a u e => by rw [upd_ne (ne_of_none e hx)]; exact e
theorem PoolAt.lst {H : Hp} {p : Addr} (h : PoolAt H p) : ∃ l, H p = some (.lst l) := by
  obtain ⟨q, l, ns, h1, _⟩ := h
  exact ⟨l, h1⟩
/-- p is the pool, H' is H but for the pool and what is new -/
structure Drawn (p : Addr) (H H' : Hp) : Prop where
  grow : Grow p H H'
  core : ∃ (q : Addr) (l l' : List V) (ns : List Int), H p = some (.lst l) ∧ PoolL q l ∧ H q = some (.lst (ns.map V.int)) ∧ q ≠ p ∧ H' p = some (.lst l') ∧ PoolL q l'
theorem Drawn.pool {p : Addr} {H H' : Hp} (h : Drawn p H H') : PoolAt H' p := let ⟨q, _, l', ns, _, _, h3, h4, h5, h6⟩ := h.core; ⟨q, l', ns, h5, h6, h.grow q _ h4 h3, h4⟩
theorem Drawn.was {p : Addr} {H H' : Hp} (h : Drawn p H H') : ∃ l, H p = some (.lst l) := let ⟨_, l, _, _, h1, _⟩ := h.core; ⟨l, h1⟩
theorem PoolL.inj {q q' : Addr} {l : List V} (h : PoolL q l) (h' : PoolL q' l) : q = q' := by
  obtain ⟨a, b, c, s, rfl, _⟩ := h
  obtain ⟨a', b', c', s', e, _⟩ := h'
  simp only [List.cons.injEq, V.ref.injEq] at e
  exact e.2.2.2.2.1
def Small (n : Int) : Prop := n ≤ 10 ^ 70
theorem small_of {n : Int} (h : n ≤ 10 ^ 60) : Small n := Int.le_trans h (by decide)
theorem Small.div {i n : Int} (h : Small n) (h0 : 0 < n) : CDivW i n := by
  refine wide_div h0 (b := 250) ?_ (by decide) (by decide)
  have h1 : n ≤ 10 ^ 70 := h
  have h2 : ((10 : Int) ^ 70).toNat < 2 ^ 250 := by decide
  have h3 : n.natAbs ≤ ((10 : Int) ^ 70).toNat := by omega
  exact Nat.lt_of_le_of_lt h3 h2
theorem drawn_put {H : Hp} {p q : Addr} {l : List V} {ns : List Int} {a b c s : Int} (h1 : H p = some (.lst l)) (h2 : PoolL q l) (h3 : H q = some (.lst (ns.map V.int))) (h4 : q ≠ p) (ha : 0 ≤ a) (hb : 0 ≤ b) (hs : 0 ≤ s) (hs1 : s < 2147483647) : Drawn p H (upd H p (.lst [.int a, .int b, .int c, .int s, .ref q])) :=
  ⟨Grow.put, ⟨q, l, _, ns, h1, h2, h3, h4, upd_same, ⟨a, b, c, s, rfl, ha, hb, hs, hs1⟩⟩⟩
theorem Drawn.refl {p : Addr} {H : Hp} (h : PoolAt H p) : Drawn p H H := ⟨Grow.refl, let ⟨q, l, ns, h1, h2, h3, h4⟩ := h; ⟨q, l, l, ns, h1, h2, h3, h4, h1, h2⟩⟩
theorem Drawn.trans {p : Addr} {H H1 H2 : Hp} (a : Drawn p H H1) (b : Drawn p H1 H2) : Drawn p H H2 := ⟨a.grow.trans b.grow, by
  obtain ⟨q, l, l', ns, h1, h2, h3, h4, h5, h6⟩ := a.core
  obtain ⟨q', k, k', ms, g1, g2, g3, g4, g5, g6⟩ := b.core
  rw [h5] at g1
  cases g1
  cases h6.inj g2
  exact ⟨q, l, k', ns, h1, h2, h3, h4, g5, g6⟩⟩
/-- what was new may change -/
theorem Drawn.put {p D : Addr} {H H1 : Hp} {o : HO} (a : Drawn p H H1) (hD : H D = none) : Drawn p H (upd H1 D o) :=
  ⟨fun b u nb hb => by rw [upd_ne (ne_of_none hb hD)]; exact a.grow b u nb hb, by
    obtain ⟨q, l, l', ns, h1, h2, h3, h4, h5, h6⟩ := a.core
    exact ⟨q, l, l', ns, h1, h2, h3, h4, by rw [upd_ne (ne_of_none h1 hD)]; exact h5, h6⟩⟩
theorem Drawn.new {p x : Addr} {H H1 : Hp} {o : HO} (a : Drawn p H H1) (hx : H1 x = none) : Drawn p H (upd H1 x o) := a.trans ((Drawn.refl a.pool).put hx)
/-- a drawing def: the pool and further ints in, an int with P out -/
def spDraw (n : Nat) (pre : List Int → Prop) (post : List Int → Int → Prop) : Sp := fun vs H Q _ => ∃ (p : Addr) (is : List Int), vs = .ref p :: is.map V.int ∧ is.length = n ∧ pre is ∧ PoolAt H p ∧ ∀ d H', post is d → Drawn p H H' → Q (.int d) H'
def spPool (K : PySem.W.Frag) : Sp := fun vs H Q _ => ∃ (a : Addr) (ns : List Int), vs = [.ref a] ∧ SqL K H a (ns.map V.int) ∧ ∀ p H', H p = none → (∀ b o, H b = some o → H' b = some o) → PoolAt H' p → Q (.ref p) H'
def spTake : Sp := fun vs H Q _ => ∃ (p : Addr) (n : Int), vs = [.ref p, .int n] ∧ 0 < n ∧ Small n ∧ PoolAt H p ∧ ∀ d H', 0 ≤ d → d < n → Drawn p H H' → Q (.int d) H'
theorem use_take {p : Addr} {n : Int} {H : Hp} {Q : VK} {E : XK} (hp : PoolAt H p) (h0 : 0 < n) (hs : Small n) (h : ∀ d H', 0 ≤ d → d < n → Drawn p H H' → Q (.int d) H') : spTake [.ref p, .int n] H Q E := ⟨p, n, rfl, h0, hs, hp, h⟩
theorem len2 {α : Type} : ∀ {l : List α}, l.length = 2 → ∃ a b, l = [a, b]
  | [a, b], _ => ⟨a, b, rfl⟩
theorem spDraw_len {n : Nat} {pre : List Int → Prop} {post : List Int → Int → Prop} {vs : List V} {H : Hp} {Q : VK} {E : XK} (h : spDraw n pre post vs H Q E) : vs.length = n + 1 := by
  obtain ⟨p, is, rfl, hl, _⟩ := h
  rw [List.length_cons, List.length_map, hl]
theorem use_draw0 {pre : List Int → Prop} {post : List Int → Int → Prop} {p : Addr} {H : Hp} {Q : VK} {E : XK} (hp : PoolAt H p) (hpre : pre []) (h : ∀ d H', post [] d → Drawn p H H' → Q (.int d) H') : spDraw 0 pre post [.ref p] H Q E := ⟨p, [], rfl, rfl, hpre, hp, h⟩
theorem use_draw1 {pre : List Int → Prop} {post : List Int → Int → Prop} {p : Addr} {a : Int} {H : Hp} {Q : VK} {E : XK} (hp : PoolAt H p) (hpre : pre [a]) (h : ∀ d H', post [a] d → Drawn p H H' → Q (.int d) H') : spDraw 1 pre post [.ref p, .int a] H Q E := ⟨p, [a], rfl, rfl, hpre, hp, h⟩
theorem use_draw2 {pre : List Int → Prop} {post : List Int → Int → Prop} {p : Addr} {a b : Int} {H : Hp} {Q : VK} {E : XK} (hp : PoolAt H p) (hpre : pre [a, b]) (h : ∀ d H', post [a, b] d → Drawn p H H' → Q (.int d) H') : spDraw 2 pre post [.ref p, .int a, .int b] H Q E := ⟨p, [a, b], rfl, rfl, hpre, hp, h⟩
theorem PoolAt.ints {H : Hp} {p D : Addr} (h : PoolAt H p) (n : D ≠ p) (is : List Int) : PoolAt (upd H D (.lst (is.map V.int))) p := by
  obtain ⟨q, l, ns, h1, h2, h3, h4⟩ := h
  by_cases e : q = D
  · exact ⟨q, l, is, by rw [upd_ne (Ne.symm n)]; exact h1, h2, by rw [e, upd_same], h4⟩
  · exact ⟨q, l, ns, by rw [upd_ne (Ne.symm n)]; exact h1, h2, by rw [upd_ne e]; exact h3, h4⟩
theorem Drawn.ints {H H1 : Hp} {p D : Addr} (h : Drawn p H H1) (hD : H D = none) (_ : D ≠ p) (is : List Int) : Drawn p H (upd H1 D (.lst (is.map V.int))) := h.put hD
theorem Drawn.ne {H H1 : Hp} {p D : Addr} (h : Drawn p H H1) (hD : H1 D = none) : D ≠ p := fun e => by
  obtain ⟨l, z⟩ := h.pool.lst
  rw [e, z] at hD; cases hD
theorem Drawn.tup {H H1 : Hp} {p a : Addr} {xs : List V} (h : Drawn p H H1) (e : H a = some (.tup xs)) : H1 a = some (.tup xs) := h.grow a _ (fun z => by
  obtain ⟨l, w⟩ := h.was
  rw [z, w] at e; cases e) e
theorem Drawn.ins {H H1 : Hp} {p a C dx : Addr} {fs : List (Str × V)} (h : Drawn p H H1) (e : H a = some (.ins C dx fs)) : H1 a = some (.ins C dx fs) := h.grow a _ (fun z => by
  obtain ⟨l, w⟩ := h.was
  rw [z, w] at e; cases e) e
theorem Drawn.lst {H H1 : Hp} {p a : Addr} {xs : List V} (h : Drawn p H H1) (n : a ≠ p) (e : H a = some (.lst xs)) : H1 a = some (.lst xs) := h.grow a _ n e
/-- only new things -/
theorem Drawn.of_same {H H1 : Hp} {p : Addr} (h : PoolAt H p) (s : L2.Same H H1) : Drawn p H H1 := ⟨fun a o _ e => s a o e, let ⟨q, l, ns, h1, h2, h3, h4⟩ := h; ⟨q, l, l, ns, h1, h2, h3, h4, s _ _ h1, h2⟩⟩
theorem Drawn.same {H H1 H2 : Hp} {p : Addr} (h : Drawn p H H1) (s : L2.Same H1 H2) : Drawn p H H2 := h.trans (.of_same h.pool s)
/-- what was free is not the pool -/
theorem Drawn.fresh {H H1 : Hp} {p x : Addr} (h : Drawn p H H1) (e : H1 x = none) : x ≠ p := h.ne e
theorem Drawn.free {H H1 : Hp} {p x : Addr} (h : Drawn p H H1) (e : H1 x = none) : H x = none := Option.eq_none_iff_forall_ne_some.mpr fun o z => by
  have n := h.ne e
  rw [h.grow x o n z] at e; cases e
theorem sameAt {H H1 : Hp} {a : Addr} {o : HO} (s : L2.Same H H1) (e : H a = some o) : H1 a = some o := s a o e
/-- a new thing that then gets its fields -/
theorem same_made {H : Hp} {x dx : Addr} {o1 o2 o3 : HO} (hx : H x = none) (hd : H dx = none) : L2.Same H (upd (upd (upd H dx o1) x o2) x o3) := fun b o hb => by
  rw [upd_ne (ne_of_none hb hx), upd_ne (ne_of_none hb hx), upd_ne (ne_of_none hb hd)]; exact hb
theorem same_new {H : Hp} {x : Addr} {o : HO} (hx : H x = none) : L2.Same H (upd H x o) := fun b u hb => by rw [upd_ne (ne_of_none hb hx)]; exact hb
theorem len5 {α : Type} : ∀ {l : List α}, l.length = 5 → ∃ a b c d e, l = [a, b, c, d, e]
  | [a, b, c, d, e], _ => ⟨a, b, c, d, e, rfl⟩
theorem len3 {α : Type} : ∀ {l : List α}, l.length = 3 → ∃ a b c, l = [a, b, c]
  | [a, b, c], _ => ⟨a, b, c, rfl⟩
/-- the items of a list of ints -/
theorem int_at {ns : List Int} {i : Nat} {x : V} (h : (ns.map V.int)[i]? = some x) : ∃ c, x = .int c ∧ c ∈ ns := by
  obtain ⟨c, hc, e⟩ := List.mem_map.mp (List.mem_of_getElem? h)
  exact ⟨c, e.symm, hc⟩
theorem w_yes {σ : L2.St} {H : Hp} {A B : Hp → Prop} (h : A H) : tYes σ H (fun b H3 => if b = true then A H3 else B H3) := by
  show (if true = true then A H else B H)
  rw [if_pos rfl]; exact h
end Rd
/-! Ops: x in o by an own __contains__. -/
namespace Rd
open PySem PySem.Spec PyProof.Rows PySem.W L2
def rInG (C : Addr) (sp : Sp) : R2 := fun x y H Q => match y with
  | .ref a => ∃ dx fs, H a = some (.ins C dx fs) ∧ sp [.ref a, x] H (fun v H2 => ∃ b, v = .bl b ∧ Q (.bl b) H2) E0
  | _ => False
section
variable {X : Cx} {k : Nat} {C : Addr} {ps : List Str} {sp : Sp}
theorem inst_of {pins : List (Addr × Obj)} {σ : L2.St} {H : Hp} {s : Shared} {a dx : Addr} {fs : List (Str × V)} (I : L2.Inv X pins σ H s) (e : H a = some (.ins C dx fs)) : ∃ od, InstAt s.heap a (instObj C dx) C (some od) := by
  obtain ⟨mA, om, _⟩ := ins_get I.hok e
  obtain ⟨od, i, _⟩ := om.look
  exact ⟨od, i⟩
theorem oInG (G : MtG X.prog X.w X.K X.mg X.base CX0 k C "__contains__" ps sp) (hr : Room k X.A) : OpR X (compareOp .In) (rInG C sp) := by
  intro pins s σ H x y u v Q I rx ry h
  unfold rInG at h
  split at h
  · rename_i a
    obtain ⟨dx, fs, e, h⟩ := h
    obtain ⟨f, fd, m, F, b⟩ := G.ex
    obtain ⟨od, i⟩ := inst_of I e
    obtain ⟨_, fr⟩ := I.fr
    cases ry
    refine in_K fr I.mod.kin i m.at_ m.fn (thn (run_fn (vs := [V.ref a, x]) (dvs := []) F hr b .nil pass0 I (.cons (show RelV (V.ref a) (Value.ref a) from rfl) (.cons rx .nil)) h) fun r s1 w => ?_)
    obtain ⟨z, H1, I1, rz, c, rfl, q⟩ := w
    cases rz
    exact thn (tru_ok pins s1 σ H1 (.bl c) _ (fun b H' => Q (.bl b) H') I1 rfl ⟨c, rfl, q⟩) fun b2 s2 w2 => let ⟨H2, I2, q2⟩ := w2; ⟨.bl b2, H2, I2, rfl, q2⟩
  · exact h.elim
theorem pe_mg {o e : Expr} {es : List Expr} {m : Str} {t : TA} {ta : TE} {pos apos : Pos} {pl : Sem Bool} (G : MtG X.prog X.w X.K X.mg X.base CX0 k C m ps sp) (hr : Room k X.A) (ho : PE X o ta) (ha : PA X (e :: es) t) (h1 : starEach (e :: es) X.env = (false, eval e X.env) :: starEach es X.env := by rfl) (h2 : (backTo pos (starEach es X.env)).any (·.1) = false := by rfl)
    (h3 : eval (.Call (.Attribute o m apos) (e :: es) [] pos) X.env = (eval o X.env >>= fun ov => standAt apos.atName >>= fun _ => holding [ov] (getMethod ov m pl) >>= fun fx => callWith pos fx.1 fx.2 (backTo pos (starEach (e :: es) X.env)) (backToKw pos (keywordEach [] X.env))) := by rfl) : PE X (.Call (.Attribute o m apos) (e :: es) [] pos) (tMeth C m sp [] E0 ta t) := by
  obtain ⟨f, fd, mt, F, b⟩ := G.ex
  exact pe_meth ho G.cls mt F hr b .nil pass0 ha h1 h2 h3
end
section
variable {K : PySem.W.Frag} {H : Hp} {Q : VK} {C a dx : Addr} {fs : List (Str × V)} {sp : Sp} {x : V}
theorem w_inG (e : H a = some (.ins C dx fs)) (h : sp [.ref a, x] H (fun v H2 => ∃ b, v = .bl b ∧ Q (.bl b) H2) E0) : rInG C sp x (.ref a) H Q := ⟨dx, fs, e, h⟩
end
end Rd
/-! Rng: range(a, b) over ints of any size. -/
namespace Rd
open PySem PySem.Spec PyProof.Rows L2
/-- what is asked of an iterator that is one record and gives lo, lo + 1, .. -/
structure IntsIt (P : Program) (w : World) (it : Addr) (lo : Int) (n : Nat) (cn : String) (St : Nat → Heap → Prop) : Prop where
  name : ["enumerate", "zip", "dict_itemiterator", "dict_reverseitemiterator", "odict_iterator", "itertools.zip_longest", "itertools.pairwise"].contains cn = false
  one : ∀ i h, St i h → ∃ vs, h.get? it = some { cls := .type cn, data := .fields vs }
  keep : ∀ i h h', St i h → (∀ o, h.get? it = some o → h'.get? it = some o) → St i h'
  walks : ∀ A : Around, A.handled = none → Walks P w A it [it] [it] n (fun i v => ∃ t, v = .int (lo + i * 1) t) St
  ends : ∀ (A : Around), A.handled = none → ∀ (i : Nat) (s : Shared) (Q : Option Value → Shared → Prop) (E : Value → Shared → Prop), n ≤ i → St i s.heap → (∀ h', Heap.ExtBut it s.heap h' → Q none { s with heap := h' }) → wpAny (model P w) A (pyNext (.ref it)) Q E s
  again : ∀ (A : Around) (i : Nat) (s : Shared) (Q E : Value → Shared → Prop), St i s.heap → Q (.ref it) s → wpAny (model P w) A (pyIter (.ref it)) Q E s
theorem turn_ints {P : Program} {w : World} {K : PySem.W.Frag} {tg : Expr} {it : Addr} {lo : Int} {n : Nat} {St : Nat → Heap → Prop} {cn : String} (R : IntsIt P w it lo n cn St) : Turn P w K tg (Itr lo n) [it] it St where
  mem := List.mem_singleton.mpr rfl
  obj := fun i h st b hb => by
    cases List.mem_singleton.mp hb
    obtain ⟨vs, e⟩ := R.one i h st
    exact ⟨_, e, fun v z => by cases z⟩
  keep := fun i h h' st k => R.keep i h h' st (k it (List.mem_singleton.mpr rfl))
  item := fun X hP hw hK hc i pins s σ H E I hf st hg => by
    subst hP hw hK
    obtain ⟨f0, f1, f2, f3, f4, f5⟩ := hf it (List.mem_singleton.mpr rfl)
    refine (R.walks X.A (I.ok.hd hc)).item i s _ _ hg st fun v h' tk hv st' k => ?_
    obtain ⟨t, rfl⟩ := hv
    have J := I.turned (t' := tk) (fun b o hb e => k b o (fun z => hb (List.mem_singleton.mp z)) e) f0 f1 f3 f4 f5
    obtain ⟨vs, e⟩ := R.one _ _ st'
    exact ⟨_, rfl, go_of (s := { s with heap := h', toks := tk }) (n := cn) e rfl rfl R.name ⟨.int (lo + i), H, J, ⟨t, by rw [Int.mul_one]⟩, ⟨rfl, rfl⟩, st', fun b hb => (hf b hb).1⟩⟩
  done := fun X hP hw hK hc i pins s σ H E I hf st hg => by
    subst hP hw hK
    obtain ⟨f0, f1, f2, f3, f4, f5⟩ := hf it (List.mem_singleton.mpr rfl)
    exact R.ends X.A (I.ok.hd hc) i s _ _ hg st fun h' eb => ⟨rfl, I.turned (t' := s.toks) (fun b o hb e => eb b o hb e) f0 f1 f3 f4 f5⟩
  self := fun A i s Q E st h => R.again A i s Q E st h
def iRngZ (ta : TA) : TI := fun σ H R => ta σ H fun vs H1 => match vs with
  | [.int a, .int b] => R (Itr a (b - a).toNat) H1
  | _ => False
section
variable {X : Cx} {tg : Expr}
theorem small_it {it : Addr} {lo : Int} {n : Nat} : IntsIt X.prog X.w it lo n "range_iterator" (fun i h => IsRangeIter h it (lo + (i : Nat) * 1) ((n : Int) - (i : Nat)) 1) where
  name := by decide
  one := fun i h st => ⟨_, st⟩
  keep := fun i h h' st k => k _ st
  walks := fun A hA => Walks.range hA it lo 1 n
  ends := fun A hA i s Q E hi st hQ => wpAny_pyNext_range_end hA st (by omega) hQ
  again := fun A i s Q E st h => wpAny_pyIter_rangeiter st h
theorem long_it {it : Addr} {lo : Int} {n : Nat} : IntsIt X.prog X.w it lo n "longrange_iterator" (fun i h => IsLongIter h it (lo + (i : Nat) * 1) ((n : Int) - (i : Nat)) 1) where
  name := by decide
  one := fun i h st => ⟨_, st⟩
  keep := fun i h h' st k => k _ st
  walks := fun A hA => Walks.longrange hA it lo 1 n
  ends := fun A hA i s Q E hi st hQ => wpAny_pyNext_long_end hA st (by omega) hQ
  again := fun A i s Q E st h => wpAny_pyIter_longiter st h
/-- the walk of a range just made, whatever its ends -/
theorem range_any {pins : List (Addr × Obj)} {σ : L2.St} {H : Hp} {s : Shared} {R : It → Hp → Prop} {E : Value → Shared → Prop} {lo hi : Int} {t u v : Tok} {r : Addr} (I : L2.Inv X pins σ H s) (hr : IsRange s.heap r lo hi 1 t u v) (q : R (Itr lo (hi - lo).toNat) H) :
    wpAny (model X.prog X.w) X.A (pyIter (.ref r)) (PIE X pins σ tg R) E s := by
  have e1 : lo + ((0 : Nat) : Int) * 1 = lo := by simp
  have e2 : (((hi - lo).toNat : Nat) : Int) - ((0 : Nat) : Int) = Builtin.Range.rangeSize lo hi 1 := by rw [rangeSize_one]; split <;> omega
  have fresh : ∀ {b : Addr}, b ∈ [s.heap.objs.size] → FpOk X pins H b := fun hb => by
    cases List.mem_singleton.mp hb
    exact I.fpOk (Nat.le_refl _) (I.hok.fresh (Nat.le_refl _))
  cases hs : Builtin.Range.small lo hi 1 with
  | true =>
    refine wpAny_pyIter_range hr hs ⟨s.heap.objs.size, [s.heap.objs.size], _, _, H, rfl, I.kept (t' := s.toks) fun b o e => Heap.get?_push_of_some _ e, turn_ints small_it, ?_, fun b hb => fresh hb, q⟩
    show IsRangeIter _ _ (lo + ((0 : Nat) : Int) * 1) ((((hi - lo).toNat : Nat) : Int) - ((0 : Nat) : Int)) 1
    rw [e1, e2]
    exact Heap.get?_push_size _ rfl
  | false =>
    refine wpAny_pyIter_longrange hr hs ⟨s.heap.objs.size, [s.heap.objs.size], _, _, H, rfl, I.kept (t' := s.toks) fun b o e => Heap.get?_push_of_some _ e, turn_ints long_it, ?_, fun b hb => fresh hb, q⟩
    show IsLongIter _ _ (lo + ((0 : Nat) : Int) * 1) ((((hi - lo).toNat : Nat) : Int) - ((0 : Nat) : Int)) 1
    rw [e1, e2]
    exact Heap.get?_push_size _ rfl
theorem pi_rangeZ {a b : Expr} {ta : TA} {p pos : Pos} (hg : Gl X "range") (hm : X.mg "range" = none) (ha : PA X [a, b] ta) (hs : starEach [a, b] X.env = [(false, eval a X.env), (false, eval b X.env)] := by rfl) (hs2 : starEach [b] X.env = [(false, eval b X.env)] := by rfl) :
    PI X tg (.Call (.Name "range" p) [a, b] [] pos) (iRngZ ta) where
  run := fun pins s σ H R I h => by
    refine Call_ (ld_blt I hg hm boot_range (PyProof.Rows.callWith_type1 (thn (ha.run pos pins s σ H _ I h) fun us s1 w => ?_) (hs.trans (by rw [hs2])) (by rw [hs2]; rfl)))
    obtain ⟨vs, H1, I1, rv, w⟩ := w
    split at w
    · obtain ⟨v1, v2, rfl, ⟨t1, rfl⟩, ⟨t2, rfl⟩⟩ := vals2 rv
      exact call_range_2 (range_any (I1.kept (t' := s1.toks + 1) fun b o e => Heap.get?_push_of_some _ e) (Heap.get?_push_size _ rfl) w)
    · exact w.elim
end
end Rd
/-! MkS: C(e, ..) where what is raised is wished for at the caller's slots. -/
namespace Rd
open PySem PySem.Spec PyProof.Rows L2
/-- a call's end, seen from the body that called -/
def Came (X : Cx) (pins : List (Addr × Obj)) (σ : L2.St) (Q : VK) (r : Result) (s' : Shared) : Prop := match r with
  | .ok (.ret u) => EP X pins σ Q u s'
  | .ok _ => False
  | .error e => X.xe e s'
theorem came_of {X : Cx} {CX : CXT} {pins : List (Addr × Obj)} {σ : L2.St} {H : Hp} {s s' : Shared} {Q : VK} {E : XK} (I : L2.Inv X pins σ H s) (hx : PassesAt CX X σ E) : ∀ {r : Result}, CR CX X.stack X.prog X.w H s Q E r s' → Came X pins σ Q r s'
  | .error e, c => hx pins H s e s' I c
  | .ok (.ret _), c => I.after c
  | .ok .next, c => c
  | .ok .brk, c => c
  | .ok .cont, c => c
/-- the reading: the layer's own for a new instance, its wish at the slots -/
def tMkS (C : Addr) (sp : Sp) (dvs : List V) (E : L2.St → XK) (t : TA) : TE := fun σ H Q => tMake C sp dvs (E σ) t σ H Q
section
variable {X : Cx} {CX : CXT} {k : Nat} {x : Str} {ps : List Str} {dvs : List V} {sp : Sp} {E : L2.St → XK} {e : Expr} {es : List Expr} {t : TA} {p pos : Pos}
theorem pe_mkS (G : MkG X.prog X.w X.K X.mg X.base CX k x ps dvs sp) (hr : Room (k + 1) X.A) (hg : Gl X x) (hx : ∀ σ, PassesAt CX X σ (E σ)) (ha : PA X (e :: es) t) (h1 : (x == ("__debug__" : Str)) = false := by decide) (h2 : starEach (e :: es) X.env = (false, eval e X.env) :: starEach es X.env := by rfl) (h3 : (backTo pos (starEach es X.env)).any (·.1) = false := by rfl) :
    PE X (.Call (.Name x p) (e :: es) [] pos) (tMkS (He.ga X.K x) sp dvs E t) where
  run := fun pins s σ H Q I h => by
    obtain ⟨f, fd, ds, hm, M, F, hb, hd⟩ := G.ex
    refine wpAny_Call_Name_kw (ld_glob I hg hm (PySem.W.callWith_K (h₀ := X.base) I.ok.mod.kin M.kp (thn (ha.run pos pins s σ H _ I h) fun us s1 w => ⟨?_, ?_⟩) h2 h3) h1)
    · obtain ⟨vs, H1, I1, _⟩ := w; exact I1.kIn
    · obtain ⟨vs, H1, I1, rv, w⟩ := w
      have new := Inv.made (C := He.ga X.K x) I1
      have say := w (s1.heap.objs.size + 1) s1.heap.objs.size (I1.hok.fresh (Nat.le_succ _)) (I1.hok.fresh (Nat.le_refl _)) (Nat.ne_of_lt (Nat.lt_succ_self _))
      have rel : Vals (.ref (s1.heap.objs.size + 1) :: (vs ++ dvs)) (.ref (s1.heap.objs.size + 1) :: (us ++ ds)) := .cons rfl (rv.append hd)
      have len := rel.length.symm.trans (F.len _ _ _ _ say)
      refine wpAny_call (make_map (f := f) I1.kIn M.makes M.init (beq_iff_eq.mp M.fn) (codeAny_mono (F.run _ X.stack _ _ ⟨.ref (s1.heap.objs.size + 1) :: us, []⟩ _ _ _ (E σ) (hr.make _ us []) (new.env0.make _ us []) (hb _ (.ref (s1.heap.objs.size + 1) :: us) new.kIn len) rel say) fun r s2 c => ?_))
      have z := came_of new (hx σ) c
      cases r with
      | error e2 => exact z
      | ok fl => cases fl with
        | ret u =>
          obtain ⟨v, H2, I2, ru, ev, q⟩ := z
          cases ev
          exact ⟨ru, V.ref (s1.heap.objs.size + 1), H2, I2, rfl, q⟩
        | _ => exact (show False from z).elim
/-- the same, the class's place given ahead -/
theorem pe_mkC (C : Addr) (hC : He.ga X.K x = C) (G : MkG X.prog X.w X.K X.mg X.base CX k x ps dvs sp) (hr : Room (k + 1) X.A) (hg : Gl X x) (hx : ∀ σ, PassesAt CX X σ (E σ)) (ha : PA X (e :: es) t) (h1 : (x == ("__debug__" : Str)) = false := by decide) (h2 : starEach (e :: es) X.env = (false, eval e X.env) :: starEach es X.env := by rfl) (h3 : (backTo pos (starEach es X.env)).any (·.1) = false := by rfl) :
    PE X (.Call (.Name x p) (e :: es) [] pos) (tMkS C sp dvs E t) := hC ▸ pe_mkS G hr hg hx ha h1 h2 h3
end
section
variable {C : Addr} {sp : Sp} {dvs : List V} {E : L2.St → XK} {tl : TA} {σ : L2.St} {H : Hp} {Q : VK}
theorem w_mkS (h : tl σ H (kMake C sp dvs (E σ) Q)) : tMkS C sp dvs E tl σ H Q := h
end
end Rd
/-! SameM: values that are alike through and through, and isinstance of the plain types. -/
namespace Rd
open PySem PySem.Spec PyProof.Rows L2
/-- v and w are alike, down to the depth d -/
def Alike (H : Hp) : Nat → V → V → Prop
  | 0, _, _ => False
  | d + 1, v, w => (v = .non ∧ w = .non) ∨ (∃ b, v = .bl b ∧ w = .bl b) ∨ (∃ i, v = .int i ∧ w = .int i) ∨ (∃ s, v = .str s ∧ w = .str s) ∨
      ∃ (a b : Addr) (xs ys : List V), v = .ref a ∧ w = .ref b ∧ ((H a = some (.lst xs) ∧ H b = some (.lst ys)) ∨ (H a = some (.tup xs) ∧ H b = some (.tup ys))) ∧ xs.length = ys.length ∧ xs.length ≤ 1000000 ∧ ∀ (i : Nat) (x y : V), xs[i]? = some x → ys[i]? = some y → Alike H d x y
theorem Alike.keep {H H' : Hp} (k : Same H H') : ∀ {d : Nat} {v w : V}, Alike H d v w → Alike H' d v w
  | 0, _, _, h => h.elim
  | _ + 1, _, _, .inl h => .inl h
  | _ + 1, _, _, .inr (.inl h) => .inr (.inl h)
  | _ + 1, _, _, .inr (.inr (.inl h)) => .inr (.inr (.inl h))
  | _ + 1, _, _, .inr (.inr (.inr (.inl h))) => .inr (.inr (.inr (.inl h)))
  | _ + 1, _, _, .inr (.inr (.inr (.inr ⟨a, b, xs, ys, e1, e2, h, hl, hs, hi⟩))) => .inr (.inr (.inr (.inr ⟨a, b, xs, ys, e1, e2, h.elim (fun z => .inl ⟨k _ _ z.1, k _ _ z.2⟩) (fun z => .inr ⟨k _ _ z.1, k _ _ z.2⟩), hl, hs, fun i x y hx hy => (hi i x y hx hy).keep k⟩)))
section
variable {H : Hp} {d : Nat} {a b : Addr} {xs ys : List V}
theorem alike_non : Alike H (d + 1) .non .non := .inl ⟨rfl, rfl⟩
theorem alike_bl {x : Bool} : Alike H (d + 1) (.bl x) (.bl x) := .inr (.inl ⟨x, rfl, rfl⟩)
theorem alike_int {i : Int} : Alike H (d + 1) (.int i) (.int i) := .inr (.inr (.inl ⟨i, rfl, rfl⟩))
theorem alike_str {s : Str} : Alike H (d + 1) (.str s) (.str s) := .inr (.inr (.inr (.inl ⟨s, rfl, rfl⟩)))
theorem alike_lst (ha : H a = some (.lst xs)) (hb : H b = some (.lst ys)) (hl : xs.length = ys.length) (hs : xs.length ≤ 1000000) (h : ∀ (i : Nat) (x y : V), xs[i]? = some x → ys[i]? = some y → Alike H d x y) : Alike H (d + 1) (.ref a) (.ref b) :=
  .inr (.inr (.inr (.inr ⟨a, b, xs, ys, rfl, rfl, .inl ⟨ha, hb⟩, hl, hs, h⟩)))
theorem alike_tup (ha : H a = some (.tup xs)) (hb : H b = some (.tup ys)) (hl : xs.length = ys.length) (hs : xs.length ≤ 1000000) (h : ∀ (i : Nat) (x y : V), xs[i]? = some x → ys[i]? = some y → Alike H d x y) : Alike H (d + 1) (.ref a) (.ref b) :=
  .inr (.inr (.inr (.inr ⟨a, b, xs, ys, rfl, rfl, .inr ⟨ha, hb⟩, hl, hs, h⟩)))
/-- plain items -/
def Plain : V → Prop
  | .non => True
  | .bl _ => True
  | .int _ => True
  | .str _ => True
  | _ => False
theorem alike_plain : ∀ {x : V}, Plain x → Alike H (d + 1) x x
  | .non, _ => alike_non
  | .bl _, _ => alike_bl
  | .int _, _ => alike_int
  | .str _, _ => alike_str
theorem plain_ints (ns : List Int) : ∀ x ∈ ns.map V.int, Plain x := fun x hx => by
  obtain ⟨c, _, rfl⟩ := List.mem_map.mp hx
  trivial
theorem alike_items (hp : ∀ x ∈ xs, Plain x) : ∀ (i : Nat) (x y : V), xs[i]? = some x → xs[i]? = some y → Alike H (d + 1) x y := fun i x y hx hy => by
  rw [hx] at hy
  cases hy
  exact alike_plain (hp x (List.mem_of_getElem? hx))
theorem alike_plst (ha : H a = some (.lst xs)) (hb : H b = some (.lst xs)) (hs : xs.length ≤ 1000000) (hp : ∀ x ∈ xs, Plain x) : Alike H (d + 2) (.ref a) (.ref b) := alike_lst ha hb rfl hs (alike_items hp)
theorem alike_ptup (ha : H a = some (.tup xs)) (hb : H b = some (.tup xs)) (hs : xs.length ≤ 1000000) (hp : ∀ x ∈ xs, Plain x) : Alike H (d + 2) (.ref a) (.ref b) := alike_tup ha hb rfl hs (alike_items hp)
def spSame (d : Nat) : Sp := fun vs H Q _ => ∃ v w, vs = [v, w] ∧ Alike H d v w ∧ Q (.bl true) H
theorem rec0 {vs : List V} {Q : VK} {E : XK} (h : spSame 0 vs H Q E) : False := by
  obtain ⟨_, _, _, h, _⟩ := h
  exact h
theorem use_same {v w : V} {Q : VK} {E : XK} (h : Alike H d v w) (q : Q (.bl true) H) : spSame d [v, w] H Q E := ⟨v, w, rfl, h, q⟩
theorem atI_nat {α : Type} {l : List α} {i : Nat} {x : α} (h : l[i]? = some x) : atI l (0 + (i : Int)) = some x := atI_of (by omega) (by rw [show (0 + (i : Int)).toNat = i by omega]; exact h)
end
section
variable {K : PySem.W.Frag} {H : Hp} {Q : VK} {a : Addr} {xs : List V}
theorem w_isB {v : V} {T t : String} {r : Bool} (ty : TyX K H v (.type T)) (e : kitB T t = some r) (h : Q (.bl r) H) : uIsi K [v, .ty t] H Q := .inl ⟨_, _, _, _, r, rfl, .ty _, ty, kit_ty e, h⟩
theorem w_neB_tt (h : Q (.bl false) H) : rNe (.bl true) (.bl true) H Q := ⟨rfl, h⟩
theorem w_neB_ff (h : Q (.bl false) H) : rNe (.bl false) (.bl false) H Q := ⟨rfl, h⟩
theorem w_neB_tf (h : Q (.bl true) H) : rNe (.bl true) (.bl false) H Q := ⟨rfl, h⟩
theorem w_neB_ft (h : Q (.bl true) H) : rNe (.bl false) (.bl true) H Q := ⟨rfl, h⟩
theorem w_isb_NoneType_bool (h : Q (.bl false) H) : uIsi K [.non, .ty "bool"] H Q := w_isB (.base .non) (by decide +kernel) h
theorem w_isb_NoneType_int (h : Q (.bl false) H) : uIsi K [.non, .ty "int"] H Q := w_isB (.base .non) (by decide +kernel) h
theorem w_isb_NoneType_str (h : Q (.bl false) H) : uIsi K [.non, .ty "str"] H Q := w_isB (.base .non) (by decide +kernel) h
theorem w_isb_NoneType_dict (h : Q (.bl false) H) : uIsi K [.non, .ty "dict"] H Q := w_isB (.base .non) (by decide +kernel) h
theorem w_isb_NoneType_list (h : Q (.bl false) H) : uIsi K [.non, .ty "list"] H Q := w_isB (.base .non) (by decide +kernel) h
theorem w_isb_NoneType_tuple (h : Q (.bl false) H) : uIsi K [.non, .ty "tuple"] H Q := w_isB (.base .non) (by decide +kernel) h
theorem w_isb_bool_bool {x : Bool} (h : Q (.bl true) H) : uIsi K [.bl x, .ty "bool"] H Q := w_isB (.base (.bl x)) (by decide +kernel) h
theorem w_isb_bool_int {x : Bool} (h : Q (.bl true) H) : uIsi K [.bl x, .ty "int"] H Q := w_isB (.base (.bl x)) (by decide +kernel) h
theorem w_isb_bool_str {x : Bool} (h : Q (.bl false) H) : uIsi K [.bl x, .ty "str"] H Q := w_isB (.base (.bl x)) (by decide +kernel) h
theorem w_isb_bool_dict {x : Bool} (h : Q (.bl false) H) : uIsi K [.bl x, .ty "dict"] H Q := w_isB (.base (.bl x)) (by decide +kernel) h
theorem w_isb_bool_list {x : Bool} (h : Q (.bl false) H) : uIsi K [.bl x, .ty "list"] H Q := w_isB (.base (.bl x)) (by decide +kernel) h
theorem w_isb_bool_tuple {x : Bool} (h : Q (.bl false) H) : uIsi K [.bl x, .ty "tuple"] H Q := w_isB (.base (.bl x)) (by decide +kernel) h
theorem w_isb_int_bool {x : Int} (h : Q (.bl false) H) : uIsi K [.int x, .ty "bool"] H Q := w_isB (.base (.int x)) (by decide +kernel) h
theorem w_isb_int_int {x : Int} (h : Q (.bl true) H) : uIsi K [.int x, .ty "int"] H Q := w_isB (.base (.int x)) (by decide +kernel) h
theorem w_isb_int_str {x : Int} (h : Q (.bl false) H) : uIsi K [.int x, .ty "str"] H Q := w_isB (.base (.int x)) (by decide +kernel) h
theorem w_isb_int_dict {x : Int} (h : Q (.bl false) H) : uIsi K [.int x, .ty "dict"] H Q := w_isB (.base (.int x)) (by decide +kernel) h
theorem w_isb_int_list {x : Int} (h : Q (.bl false) H) : uIsi K [.int x, .ty "list"] H Q := w_isB (.base (.int x)) (by decide +kernel) h
theorem w_isb_int_tuple {x : Int} (h : Q (.bl false) H) : uIsi K [.int x, .ty "tuple"] H Q := w_isB (.base (.int x)) (by decide +kernel) h
theorem w_isb_str_bool {x : Str} (h : Q (.bl false) H) : uIsi K [.str x, .ty "bool"] H Q := w_isB (.base (.str x)) (by decide +kernel) h
theorem w_isb_str_int {x : Str} (h : Q (.bl false) H) : uIsi K [.str x, .ty "int"] H Q := w_isB (.base (.str x)) (by decide +kernel) h
theorem w_isb_str_str {x : Str} (h : Q (.bl true) H) : uIsi K [.str x, .ty "str"] H Q := w_isB (.base (.str x)) (by decide +kernel) h
theorem w_isb_str_dict {x : Str} (h : Q (.bl false) H) : uIsi K [.str x, .ty "dict"] H Q := w_isB (.base (.str x)) (by decide +kernel) h
theorem w_isb_str_list {x : Str} (h : Q (.bl false) H) : uIsi K [.str x, .ty "list"] H Q := w_isB (.base (.str x)) (by decide +kernel) h
theorem w_isb_str_tuple {x : Str} (h : Q (.bl false) H) : uIsi K [.str x, .ty "tuple"] H Q := w_isB (.base (.str x)) (by decide +kernel) h
theorem w_isb_list_bool (e : H a = some (.lst xs)) (h : Q (.bl false) H) : uIsi K [.ref a, .ty "bool"] H Q := w_isB (.base (.lst e)) (by decide +kernel) h
theorem w_isb_list_int (e : H a = some (.lst xs)) (h : Q (.bl false) H) : uIsi K [.ref a, .ty "int"] H Q := w_isB (.base (.lst e)) (by decide +kernel) h
theorem w_isb_list_str (e : H a = some (.lst xs)) (h : Q (.bl false) H) : uIsi K [.ref a, .ty "str"] H Q := w_isB (.base (.lst e)) (by decide +kernel) h
theorem w_isb_list_dict (e : H a = some (.lst xs)) (h : Q (.bl false) H) : uIsi K [.ref a, .ty "dict"] H Q := w_isB (.base (.lst e)) (by decide +kernel) h
theorem w_isb_list_list (e : H a = some (.lst xs)) (h : Q (.bl true) H) : uIsi K [.ref a, .ty "list"] H Q := w_isB (.base (.lst e)) (by decide +kernel) h
theorem w_isb_list_tuple (e : H a = some (.lst xs)) (h : Q (.bl false) H) : uIsi K [.ref a, .ty "tuple"] H Q := w_isB (.base (.lst e)) (by decide +kernel) h
theorem w_isb_tuple_bool (e : H a = some (.tup xs)) (h : Q (.bl false) H) : uIsi K [.ref a, .ty "bool"] H Q := w_isB (.base (.tup e)) (by decide +kernel) h
theorem w_isb_tuple_int (e : H a = some (.tup xs)) (h : Q (.bl false) H) : uIsi K [.ref a, .ty "int"] H Q := w_isB (.base (.tup e)) (by decide +kernel) h
theorem w_isb_tuple_str (e : H a = some (.tup xs)) (h : Q (.bl false) H) : uIsi K [.ref a, .ty "str"] H Q := w_isB (.base (.tup e)) (by decide +kernel) h
theorem w_isb_tuple_dict (e : H a = some (.tup xs)) (h : Q (.bl false) H) : uIsi K [.ref a, .ty "dict"] H Q := w_isB (.base (.tup e)) (by decide +kernel) h
theorem w_isb_tuple_list (e : H a = some (.tup xs)) (h : Q (.bl false) H) : uIsi K [.ref a, .ty "list"] H Q := w_isB (.base (.tup e)) (by decide +kernel) h
theorem w_isb_tuple_tuple (e : H a = some (.tup xs)) (h : Q (.bl true) H) : uIsi K [.ref a, .ty "tuple"] H Q := w_isB (.base (.tup e)) (by decide +kernel) h
end
end Rd
/-! Loops: for and comprehensions, when what they go over is done. -/
namespace Rd
open PySem PySem.Spec PyProof.Rows L2
section
variable {K : PySem.W.Frag} {g : TG} {tb : TS} {D : Ends} {σ : L2.St} {H : Hp} {tl : TA} {te : TE}
def kFR1 (g : TG) (tb : TS) (D : Ends) (σ : L2.St) : List V → Hp → Prop := fun vs H => tFor (iRng1 (tAc vs)) g tb D σ H
def kFR2 (g : TG) (tb : TS) (D : Ends) (σ : L2.St) : List V → Hp → Prop := fun vs H => tFor (iRng2 (tAc vs)) g tb D σ H
def kFL (K : PySem.W.Frag) (g : TG) (tb : TS) (D : Ends) (σ : L2.St) : VK := fun x H => tFor (iList K (tC x)) g tb D σ H
def kFT (K : PySem.W.Frag) (g : TG) (tb : TS) (D : Ends) (σ : L2.St) : VK := fun x H => tFor (iTup K (tC x)) g tb D σ H
def kFE (K : PySem.W.Frag) (g : TG) (tb : TS) (D : Ends) (σ : L2.St) : List V → Hp → Prop := fun vs H => tFor (iEnum K (tAc vs)) g tb D σ H
theorem w_forR1 (h : tl σ H (kFR1 g tb D σ)) : tFor (iRng1 tl) g tb D σ H := h
theorem w_forR2 (h : tl σ H (kFR2 g tb D σ)) : tFor (iRng2 tl) g tb D σ H := h
theorem w_forL (h : te σ H (kFL K g tb D σ)) : tFor (iList K te) g tb D σ H := h
theorem w_forT (h : te σ H (kFT K g tb D σ)) : tFor (iTup K te) g tb D σ H := h
theorem w_forE (h : tl σ H (kFE K g tb D σ)) : tFor (iEnum K tl) g tb D σ H := h
variable {tt : TT} {ty : TE} {vs : List Nat} {Q : VK}
def kCR1 (g : TG) (tt : TT) (ty : TE) (vs : List Nat) (σ : L2.St) (Q : VK) : List V → Hp → Prop := fun xs H => tLc (iRng1 (tAc xs)) g tt ty vs σ H Q
def kCR2 (g : TG) (tt : TT) (ty : TE) (vs : List Nat) (σ : L2.St) (Q : VK) : List V → Hp → Prop := fun xs H => tLc (iRng2 (tAc xs)) g tt ty vs σ H Q
def kCL (K : PySem.W.Frag) (g : TG) (tt : TT) (ty : TE) (vs : List Nat) (σ : L2.St) (Q : VK) : VK := fun x H => tLc (iList K (tC x)) g tt ty vs σ H Q
def kCT (K : PySem.W.Frag) (g : TG) (tt : TT) (ty : TE) (vs : List Nat) (σ : L2.St) (Q : VK) : VK := fun x H => tLc (iTup K (tC x)) g tt ty vs σ H Q
def kCE (K : PySem.W.Frag) (g : TG) (tt : TT) (ty : TE) (vs : List Nat) (σ : L2.St) (Q : VK) : List V → Hp → Prop := fun xs H => tLc (iEnum K (tAc xs)) g tt ty vs σ H Q
theorem w_lcR1 (h : tl σ H (kCR1 g tt ty vs σ Q)) : tLc (iRng1 tl) g tt ty vs σ H Q := h
theorem w_lcR2 (h : tl σ H (kCR2 g tt ty vs σ Q)) : tLc (iRng2 tl) g tt ty vs σ H Q := h
theorem w_lcL (h : te σ H (kCL K g tt ty vs σ Q)) : tLc (iList K te) g tt ty vs σ H Q := h
theorem w_lcT (h : te σ H (kCT K g tt ty vs σ Q)) : tLc (iTup K te) g tt ty vs σ H Q := h
theorem w_lcE (h : tl σ H (kCE K g tt ty vs σ Q)) : tLc (iEnum K tl) g tt ty vs σ H Q := h
/-- list methods: the receiver is a list of the heap -/
theorem w_kbmL {s : V → List V → Hp → VK → Prop} {p : Addr} {xs : List V} (hp : H p = some (.lst xs)) (h : tl σ H (kBM2 s (.ref p) Q)) : kBM K "list" s tl σ Q (.ref p) H := ⟨.inl ⟨rfl, xs, SqL.of hp⟩, h⟩
theorem w_app {p : Addr} {xs : List V} {y : V} (hp : H p = some (.lst xs)) (hl : xs.length < sizeLine) (h : Q .non (upd H p (.lst (xs ++ [y])))) : rAppend (.ref p) [y] H Q := ⟨p, xs, y, rfl, rfl, hp, hl, h⟩
end
section
variable {K : PySem.W.Frag} {σ : L2.St} {H : Hp} {T : Addr} {x y z : V} {Q : L2.St → Hp → Prop}
/-- a tuple into names -/
theorem w_gt2 {i j : Nat} (h : SqT K H T [x, y]) (q : Q ((σ.set i (some x)).set j (some y)) H) : gTup K 2 (gCons (gName i) (gCons (gName j) gNil)) (.ref T) σ H Q := ⟨T, _, rfl, h, rfl, _, _, rfl, _, _, rfl, rfl, q⟩
theorem w_gt3 {i j k : Nat} (h : SqT K H T [x, y, z]) (q : Q (((σ.set i (some x)).set j (some y)).set k (some z)) H) : gTup K 3 (gCons (gName i) (gCons (gName j) (gCons (gName k) gNil))) (.ref T) σ H Q := ⟨T, _, rfl, h, rfl, _, _, rfl, _, _, rfl, _, _, rfl, rfl, q⟩
theorem w_gl2 {i j : Nat} (h : SqL K H T [x, y]) (q : Q ((σ.set i (some x)).set j (some y)) H) : gUnl K 2 (gCons (gName i) (gCons (gName j) gNil)) (.ref T) σ H Q := ⟨T, _, rfl, h, rfl, _, _, rfl, _, _, rfl, rfl, q⟩
theorem w_gl3 {i j k : Nat} (h : SqL K H T [x, y, z]) (q : Q (((σ.set i (some x)).set j (some y)).set k (some z)) H) : gUnl K 3 (gCons (gName i) (gCons (gName j) (gCons (gName k) gNil))) (.ref T) σ H Q := ⟨T, _, rfl, h, rfl, _, _, rfl, _, _, rfl, _, _, rfl, rfl, q⟩
end
end Rd
/-! EnumT: enumerate(v) for a tuple v. -/
namespace Rd
open PySem PySem.Spec PyProof.Rows L2
/-- enumerate.__new__ of anything that begins, no start given -/
theorem enum_made {v : Value} {o : Obj} {G : Heap → Prop} (B : Begins v o G) :
    Meets (Builtin.«enumerate.__new__» ⟨[.type "enumerate", v], []⟩) (fun _ R s => G s.heap ∧ R (.ok (.ret (.ref (s.heap.push o).objs.size)))
      { s with heap := (s.heap.push o).push { cls := .type "enumerate", data := .fields #[.none, .bool false, .ref s.heap.objs.size, rawInt 0, .none, .none] } }) :=
  .of_wp fun P w A R ⟨h, g, d, n, os⟩ ⟨hG, q⟩ => by
    have sub := sub_enumerate
    have step : ∀ {A' : Around} {E : Value → Shared → Prop} {Q : Value → Shared → Prop}, Q (.ref h.objs.size) ⟨h.push o, g, d, n, os⟩ → wpAny (model P w) A' (pyIter v) Q E ⟨h, g, d, n, os⟩ := fun z => B.iter P w _ _ ⟨h, g, d, n, os⟩ _ hG z
    wp_walk using step
    refine wpAny_stack_any fun st => wpAny_pure ?_
    split <;> first
      | (wp_walk using step; exact ⟨_, rfl, q⟩)
      | (rename_i c _ _ _ _ _; cases (c == Value.type "enumerate") <;> (wp_walk using step; exact ⟨_, rfl, q⟩))
/-- the call: two new cells, all else stands -/
theorem call_enum {P : Program} {w : World} {A : Around} {E : Value → Shared → Prop} {s : Shared} {v : Value} {o : Obj} {G : Heap → Prop} {Q : Value → Shared → Prop} (B : Begins v o G) (hG : G s.heap)
    (q : ∀ h', IsEnum h' (s.heap.objs.size + 1) s.heap.objs.size 0 .none → h'.get? s.heap.objs.size = some o → (∀ b u, s.heap.get? b = some u → h'.get? b = some u) → Q (.ref (s.heap.objs.size + 1)) { s with heap := h' }) :
    wpAny (model P w) A (call (.type "enumerate") [v]) Q E s := by
  have sz : (s.heap.push o).objs.size = s.heap.objs.size + 1 := Heap.size_push ..
  refine callType_new F.called_enumerate (by decide) (F.typeCall_enumerate_1 _) (F.newCall_enumerate_1 _) (fun ob => F.args_object_init_2 ob _) F.entry_enumerate_new (enum_made B) ⟨hG, ?_⟩
  have new := Heap.get?_push_size (s.heap.push o) (o := { cls := .type "enumerate", data := .fields #[.none, .bool false, .ref s.heap.objs.size, rawInt 0, .none, .none] }) rfl
  show _ ∧ _
  rw [sz] at new ⊢
  exact ⟨⟨_, new, rfl⟩, q _ new (Heap.get?_push_of_some _ (Heap.get?_push_size _ B.free)) fun b u hb => Heap.get?_push_of_some _ (Heap.get?_push_of_some _ hb)⟩
/-- the tuple at a, each item with its place in a new pair -/
def IteT (K : PySem.W.Frag) (a : Addr) : It :=
  ⟨fun i H => ∃ (xs : List V) (x : V), SqT K H a xs ∧ xs[i]? = some x, fun i H v H' => ∃ T x, v = .ref T ∧ H T = none ∧ H' = upd H T (.tup [.int (i : Nat), x]) ∧ ∀ xs, SqT K H a xs → xs[i]? = some x, fun i H => ∃ xs : List V, SqT K H a xs ∧ xs.length = i⟩
/-- the cells at turn i -/
def EnumAt (a e it : Addr) (i : Nat) (h : Heap) : Prop := (∃ old, IsEnum h e it ((i : Nat) : Int) old) ∧ h.IsTupleIter it a i
section
variable {a e it : Addr} {i : Nat} {h : Heap}
theorem EnumAt.ne (st : EnumAt a e it i h) : e ≠ it := fun z => by
  obtain ⟨⟨_, q⟩, o, ho, hc, _⟩ := st
  rw [← z, q] at ho
  cases ho
  exact absurd (show Value.type "enumerate" = Value.type "tuple_iterator" from hc) (by decide)
theorem EnumAt.off {t : Array Value} (st : EnumAt a e it i h) (ht : h.IsTuple a t) : a ≠ it ∧ e ∉ [it, a] := by
  obtain ⟨⟨_, q⟩, o, ho, hc, _⟩ := id st
  obtain ⟨u, hu, uc, _⟩ := ht
  refine ⟨fun z => ?_, fun m => ?_⟩
  · rw [z, ho] at hu; cases hu; rw [uc] at hc; exact absurd hc (by decide)
  · rcases List.mem_cons.mp m with z | z
    · exact st.ne z
    · have z' := List.mem_singleton.mp z
      rw [← z', q] at hu; cases hu; exact absurd (show Value.type "enumerate" = Value.type "tuple" from uc) (by decide)
theorem EnumAt.keep {h' : Heap} (st : EnumAt a e it i h) (k : ∀ b ∈ [e, it], ∀ o, h.get? b = some o → h'.get? b = some o) : EnumAt a e it i h' :=
  let ⟨⟨old, q⟩, r⟩ := st; ⟨⟨old, k e (by simp) _ q⟩, r.at fun o z => k it (by simp) o z⟩
end
theorem turn_enumT {P : Program} {w : World} {K : PySem.W.Frag} {elts : List Expr} {kk : Nat} {tpos : Pos} (a e it : Addr) : Turn P w K (.Tuple elts kk tpos) (IteT K a) [e, it] e (EnumAt a e it) where
  mem := by simp
  obj := fun i h st b hb => by
    obtain ⟨⟨old, q⟩, o, ho, _, hd⟩ := st
    rcases List.mem_cons.mp hb with rfl | hb
    · exact ⟨_, q, fun v z => nomatch z⟩
    · rw [List.mem_singleton.mp hb]; exact ⟨o, ho, fun v z => by rw [hd] at z; cases z⟩
  keep := fun i h h' st k => st.keep k
  item := fun X hP hw hK hc i pins s σ H E I fp st go => by
    subst hP hw hK
    obtain ⟨xs, x, hx, xi⟩ := go
    obtain ⟨its, rv, tp, _⟩ := I.tuple hx
    obtain ⟨off, off2⟩ := st.off tp
    have ne := st.ne
    obtain ⟨u, hu, ru⟩ := rv.get xi
    have lt : i < its.toArray.size := by
      have z := (List.getElem?_eq_some_iff.mp hu).1
      simpa using z
    obtain ⟨⟨old, q⟩, ti⟩ := id st
    have le : e < s.heap.objs.size := Heap.lt_size q
    have li : it < s.heap.objs.size := by obtain ⟨_, z, _⟩ := ti; exact Heap.lt_size z
    refine wpAny_pyNext_enum_itemD (Draws.tuple (A := X.A.in1) (I.ok.hd hc) it a off its.toArray) q ⟨ti, tp⟩ lt ne off2 fun y h1 tk hy out ti1 new sz k1 => ?_
    have yu : y = u := by
      have z : its.toArray[i]? = some u := by simpa using hu
      rw [z] at hy; exact (Option.some.inj hy).symm
    subst yu
    refine ⟨_, rfl, wpAny_letOwnedTupleGo_enum (s := { s with heap := h1, toks := tk + 1 }) out fun h2 q2 sb => ?_⟩
    have new2 : h2.get? s.heap.objs.size = some { cls := .type "tuple", data := .seq #[.int i tk, y] } := (sb.2 _ (Nat.ne_of_gt le)).trans new
    have J := I.turnedNew (t' := tk + 1) (ch := [e, it]) (T := s.heap.objs.size) (ob := .tup [.int (i : Nat), x]) (h' := h2)
      (fun b o hb z => (sb.2 b fun w => hb (by simp [w])).trans (k1 b o (fun w => hb (by simp [w])) (fun w => hb (by simp [w])) z)) fp (Nat.le_refl _)
      ⟨show 2 ≤ sizeLine by decide, [.int i tk, y], .cons ⟨_, rfl⟩ (.cons ru .nil), ⟨_, new2, rfl, _, rfl⟩⟩
    refine ⟨.ref s.heap.objs.size, _, J, rfl, ⟨_, x, rfl, I.hok.fresh (Nat.le_refl _), rfl, fun ys hy => I.tuple_inj hx hy ▸ xi⟩, ⟨⟨y, ?_⟩, ti1.1.at fun o z => (sb.2 it (Ne.symm ne)).trans z⟩, fun b hb => ?_⟩
    · rw [show ((i + 1 : Nat) : Int) = (i : Int) + 1 by omega]; exact q2
    · have lb : b < s.heap.objs.size := by
        rcases List.mem_cons.mp hb with z | z
        · rw [z]; exact le
        · rw [List.mem_singleton.mp z]; exact li
      rw [upd_ne (Nat.ne_of_lt lb)]; exact (fp b hb).1
  done := fun X hP hw hK hc i pins s σ H E I fp st go => by
    subst hP hw hK
    obtain ⟨xs, hx, xi⟩ := go
    obtain ⟨its, rv, tp, _⟩ := I.tuple hx
    obtain ⟨off, off2⟩ := st.off tp
    obtain ⟨⟨old, q⟩, ti⟩ := id st
    have ln : its.toArray.size = i := by
      have z := rv.length
      simp; omega
    obtain ⟨f0, f1, f2, f3, f4, f5⟩ := fp it (by simp)
    exact wpAny_pyNext_enum_endD (Draws.tuple (A := X.A.in1) (I.ok.hd hc) it a off its.toArray) q ⟨ln ▸ ti, tp⟩ fun h' eb => ⟨rfl, I.turned (t' := s.toks) (fun b o hb z => eb b o hb z) f0 f1 f3 f4 f5⟩
  self := fun A i s Q E st h => let ⟨⟨_, q⟩, _⟩ := st; wpAny_pyIter_enum q h
/-- enumerate of a list or of a tuple -/
def iEnumA (K : PySem.W.Frag) (ta : TA) : TI := fun σ H R => ta σ H fun vs H1 => match vs with
  | [.ref a] => (∃ xs, SqL K H1 a xs ∧ R (Ite K a) H1) ∨ (∃ xs, SqT K H1 a xs ∧ R (IteT K a) H1)
  | _ => False
theorem pi_enumA {X : Cx} {e : Expr} {ta : TA} {p pos tpos : Pos} {elts : List Expr} {kk : Nat} (hg : Gl X "enumerate") (hm : X.mg "enumerate" = none) (ha : PA X [e] ta) (hs : starEach [e] X.env = [(false, eval e X.env)] := by rfl) :
    PI X (.Tuple elts kk tpos) (.Call (.Name "enumerate" p) [e] [] pos) (iEnumA X.K ta) where
  run := fun pins s σ H R I h => Call_ (ld_blt I hg hm boot_enumerate (callWith_type1 (thn (ha.run pos pins s σ H _ I h) fun us s1 w => by
    obtain ⟨vs, H1, I1, rv, w⟩ := w
    split at w
    · rename_i a
      obtain ⟨v1, rfl, r1⟩ := vals1 rv
      cases r1
      rcases w with ⟨xs, hx, w⟩ | ⟨xs, hx, w⟩
      · obtain ⟨its, _, l, _⟩ := I1.list hx
        refine call_enumerate_list l.isList fun h' he hit hsz hk => wpAny_pyIter_enum he ⟨_, [s1.heap.objs.size + 1, s1.heap.objs.size], _, _, H1, rfl, I1.kept (t' := s1.toks) hk, turn_enum a _ _, ⟨⟨_, he⟩, hit, Nat.succ_ne_self _⟩, fun b hb => ?_, w⟩
        have le : s1.heap.objs.size ≤ b := by
          rcases List.mem_cons.mp hb with z | z
          · rw [z]; exact Nat.le_succ _
          · rw [List.mem_singleton.mp z]; exact Nat.le_refl _
        exact I1.fpOk le (I1.hok.fresh le)
      · obtain ⟨its, _, tp, _⟩ := I1.tuple hx
        refine call_enum (begins_tuple a its.toArray) tp fun h' he hit hk => wpAny_pyIter_enum he ⟨_, [s1.heap.objs.size + 1, s1.heap.objs.size], _, _, H1, rfl, I1.kept (t' := s1.toks) hk, turn_enumT a _ _, ⟨⟨_, he⟩, ⟨_, hit, rfl, rfl⟩⟩, fun b hb => ?_, w⟩
        have le : s1.heap.objs.size ≤ b := by
          rcases List.mem_cons.mp hb with z | z
          · rw [z]; exact Nat.le_succ _
          · rw [List.mem_singleton.mp z]; exact Nat.le_refl _
        exact I1.fpOk le (I1.hok.fresh le)
    · exact w.elim) hs rfl))
theorem walk_enumT {K : PySem.W.Frag} {a : Addr} {xs : List V} : Walk (IteT K a) xs.length (fun H => SqT K H a xs) (YPair (fun i => some (.int (i : Nat))) (fun i => xs[i]?)) where
  goes := fun i _ hi h => ⟨xs, xs[i], h, List.getElem?_eq_getElem hi⟩
  stops := fun _ h => ⟨xs, h, rfl⟩
  yields := fun i H v H' _ h ⟨T, x, h1, h2, h3, h4⟩ => ⟨T, .int (i : Nat), x, h1, h2, h3, rfl, h4 xs h⟩
section
variable {K : PySem.W.Frag} {g : TG} {tb : TS} {D : Ends} {σ : L2.St} {H : Hp} {tl : TA} {tt : TT} {ty : TE} {vs : List Nat} {Q : VK}
def kFEA (K : PySem.W.Frag) (g : TG) (tb : TS) (D : Ends) (σ : L2.St) : List V → Hp → Prop := fun vs H => tFor (iEnumA K (tAc vs)) g tb D σ H
def kCEA (K : PySem.W.Frag) (g : TG) (tt : TT) (ty : TE) (vs : List Nat) (σ : L2.St) (Q : VK) : List V → Hp → Prop := fun xs H => tLc (iEnumA K (tAc xs)) g tt ty vs σ H Q
theorem w_forEA (h : tl σ H (kFEA K g tb D σ)) : tFor (iEnumA K tl) g tb D σ H := h
theorem w_lcEA (h : tl σ H (kCEA K g tt ty vs σ Q)) : tLc (iEnumA K tl) g tt ty vs σ H Q := h
end
end Rd
/-! LenG: len(o) by an own __len__; == of lists by their items. -/
namespace Rd
open PySem PySem.Spec PyProof.Rows PySem.W L2
def rLenG (C : Addr) (sp : Sp) : List V → Hp → VK → Prop := fun xs H Q => match xs with
  | [.ref a] => ∃ dx fs, H a = some (.ins C dx fs) ∧ sp [.ref a] H (fun v H2 => ∃ n : Int, v = .int n ∧ (0 ≤ n ∧ n < 2 ^ 63) ∧ Q (.int n) H2) E0
  | _ => False
section
variable {X : Cx} {k : Nat} {C : Addr} {ps : List Str} {sp : Sp}
theorem cLenG (G : MtG X.prog X.w X.K X.mg X.base CX0 k C "__len__" ps sp) (hr : Room (k + 1) X.A) : CallR X (.builtin "len") (rLenG C sp) := by
  intro pins s σ H xs us Q I r h
  unfold rLenG at h
  split at h
  · rename_i a
    obtain ⟨dx, fs, e, h⟩ := h
    obtain ⟨v1, rfl, r1⟩ := vals1 r
    cases r1
    obtain ⟨f, fd, m, F, b⟩ := G.ex
    obtain ⟨od, i⟩ := inst_of I e
    obtain ⟨_, fr⟩ := I.fr
    have ln := F.len _ _ _ _ h
    have bd := b s [.ref a] I.kIn (by rw [List.append_nil]; exact ln)
    rw [List.append_nil] at bd
    refine len_K fr I.mod.kin i m.at_ m.fn (wpAny_call (codeAny_mono (F.run X.A.in1 X.stack s H ⟨[.ref a], []⟩ [.ref a] [.ref a] _ E0 hr.in1 I.env0.in1 bd (.cons rfl .nil) h) fun r s' c => ?_))
    have z := came_of I (fun pins H s e s' J w => pass0 pins σ H s e s' J w) c
    cases r with
    | error e => exact z
    | ok fl => cases fl with
      | ret u =>
        obtain ⟨v, H2, I2, ru, n, rfl, hn, q⟩ := z
        obtain ⟨t, rfl⟩ := ru
        exact ⟨hn, .int n, H2, I2.tok _, ⟨_, rfl⟩, q⟩
      | _ => exact (show False from z).elim
  · exact h.elim
end
section
variable {K : PySem.W.Frag} {H : Hp} {Q : VK} {C a dx : Addr} {fs : List (Str × V)} {sp : Sp}
theorem w_lenG (e : H a = some (.ins C dx fs)) (h : sp [.ref a] H (fun v H2 => ∃ n : Int, v = .int n ∧ (0 ≤ n ∧ n < 2 ^ 63) ∧ Q (.int n) H2) E0) : rLenG C sp [.ref a] H Q := ⟨dx, fs, e, h⟩
end
/-! ### == by the items -/
theorem dp_ints {K : PySem.W.Frag} {H : Hp} : ∀ ns : List Int, DpAll K H (ns.map V.int) (ns.map PyData.int)
  | [] => .nil
  | i :: r => .cons (.int i) (dp_ints r)
theorem lay_ints : ∀ ns : List Int, PyData.canLayAll0 (ns.map PyData.int) = true
  | [] => by simp [PyData.canLayAll0]
  | i :: r => by simp only [List.map_cons, PyData.canLayAll0, PyData.canLay0, lay_ints r, Bool.and_self]
theorem depth_ints : ∀ ns : List Int, PyData.depthAll (ns.map PyData.int) = 0
  | [] => by simp [PyData.depthAll]
  | i :: r => by simp only [List.map_cons, PyData.depthAll, PyData.depth, depth_ints r, Nat.max_self]
theorem shaped_ints (ns : List Int) : SeqAt.shaped (.list (ns.map PyData.int)) = true := by
  unfold SeqAt.shaped
  simp [PyData.canLay0, PyData.depth, lay_ints, depth_ints]
theorem shaped_intsT (ns : List Int) : SeqAt.shaped (.tuple (ns.map PyData.int)) = true := by
  unfold SeqAt.shaped
  simp [PyData.canLay0, PyData.depth, lay_ints, depth_ints]
theorem eqv_ints : ∀ ns ms : List Int, PyData.eqvAll (ns.map PyData.int) (ms.map PyData.int) = decide (ns = ms)
  | [], [] => by simp [PyData.eqvAll]
  | [], _ :: _ => by simp [PyData.eqvAll]
  | _ :: _, [] => by simp [PyData.eqvAll]
  | i :: r, j :: t => by
    simp only [List.map_cons, PyData.eqvAll, PyData.eqv, eqv_ints r t]
    rw [Bool.eq_iff_iff]
    simp
/-- plain values, or lists of ints -/
def uEq (K : PySem.W.Frag) : R2 := fun x y H Q => rEq x y H Q ∨ rEqD K x y H Q
def uNe (K : PySem.W.Frag) : R2 := fun x y H Q => rNe x y H Q ∨ rNeD K x y H Q
theorem oEq {X : Cx} {k : Nat} (hr : Room k X.A) : OpR X (compareOp .Eq) (uEq X.K) := OpR.or op_eq (op_eqD hr.units)
theorem oNe {X : Cx} {k : Nat} (hr : Room k X.A) : OpR X (compareOp .NotEq) (uNe X.K) := OpR.or op_ne (op_neD hr.units)
section
variable {K : PySem.W.Frag} {H : Hp} {Q : VK} {a b : Addr} {ns ms : List Int}
theorem w_eqL (ha : H a = some (.lst (ns.map V.int))) (hb : H b = some (.lst (ms.map V.int))) (h : Q (.bl (decide (ns = ms))) H) : uEq K (.ref a) (.ref b) H Q :=
  .inr ⟨_, _, .lst (SqL.of ha) (dp_ints ns), .lst (SqL.of hb) (dp_ints ms), shaped_ints ns, shaped_ints ms, by show Q (.bl (PyData.eqv (.list _) (.list _))) H; rw [PyData.eqv, eqv_ints]; exact h⟩
theorem w_neL (ha : H a = some (.lst (ns.map V.int))) (hb : H b = some (.lst (ms.map V.int))) (h : Q (.bl (!decide (ns = ms))) H) : uNe K (.ref a) (.ref b) H Q :=
  .inr ⟨_, _, .lst (SqL.of ha) (dp_ints ns), .lst (SqL.of hb) (dp_ints ms), shaped_ints ns, shaped_ints ms, by show Q (.bl (!PyData.eqv (.list _) (.list _))) H; rw [PyData.eqv, eqv_ints]; exact h⟩
end
theorem atI_last {ns : List Int} (h : ns ≠ []) : atI (ns.map V.int) (-1) = some (.int (ns.getLastD 0)) := by
  have hp : 0 < ns.length := List.length_pos_iff.mpr h
  unfold atI ixN
  rw [if_neg (by decide), List.length_map, if_pos (by omega)]
  show (ns.map V.int)[_]? = _
  rw [List.getElem?_map, show ((-1 : Int) + ns.length).toNat = ns.length - 1 by omega, List.getElem?_eq_getElem (by omega), List.getLastD_eq_getLast?, List.getLast?_eq_getElem?, List.getElem?_eq_getElem (by omega)]
  rfl
theorem w_ixLast {K : PySem.W.Frag} {H : Hp} {Q : VK} {p : Addr} {ns : List Int} (hp : H p = some (.lst (ns.map V.int))) (hn : ns ≠ []) (h : Q (.int (ns.getLastD 0)) H) : rIx K (.ref p) (.int (-1)) H Q := w_ixL (SqL.of hp) (atI_last hn) h
theorem getLastD_mem : ∀ {ns : List Int}, ns ≠ [] → ns.getLastD 0 ∈ ns
  | [], h => absurd rfl h
  | a :: r, h => by
    rw [List.getLastD_cons, ← List.getLast_eq_getLastD (h := h)]
    exact List.getLast_mem h
/-- a method that may raise -/
theorem pe_mgE {X : Cx} {k : Nat} {C : Addr} {ps : List Str} {sp : Sp} {CX : CXT} {E : XK} {o e : Expr} {es : List Expr} {m : Str} {t : TA} {ta : TE} {pos apos : Pos} {pl : Sem Bool} (G : MtG X.prog X.w X.K X.mg X.base CX k C m ps sp) (hr : Room k X.A) (hx : Passes CX X E) (ho : PE X o ta) (ha : PA X (e :: es) t) (h1 : starEach (e :: es) X.env = (false, eval e X.env) :: starEach es X.env := by rfl) (h2 : (backTo pos (starEach es X.env)).any (·.1) = false := by rfl)
    (h3 : eval (.Call (.Attribute o m apos) (e :: es) [] pos) X.env = (eval o X.env >>= fun ov => standAt apos.atName >>= fun _ => holding [ov] (getMethod ov m pl) >>= fun fx => callWith pos fx.1 fx.2 (backTo pos (starEach (e :: es) X.env)) (backToKw pos (keywordEach [] X.env))) := by rfl) : PE X (.Call (.Attribute o m apos) (e :: es) [] pos) (tMeth C m sp [] E ta t) := by
  obtain ⟨f, fd, mt, F, b⟩ := G.ex
  exact pe_meth ho G.cls mt F hr b .nil hx ha h1 h2 h3
end Rd
/-! MaxD: max(ints, default=d). -/
namespace Rd
open PySem PySem.Spec PyProof.Rows PySem.W L2
def maxDef (d : Int) : List Int → Int
  | [] => d
  | n :: r => r.foldl max n
def rMaxDef (K : PySem.W.Frag) : List V → List V → Hp → VK → Prop := fun xs zs H Q => match xs, zs with
  | [.ref p], [.int d] => ∃ ns : List Int, SqL K H p (ns.map V.int) ∧ Q (.int (maxDef d ns)) H
  | _, _ => False
theorem alike_all (ns : List Int) : AlikeAll (ns.map PyData.int) := by
  refine ⟨fun x hx y hy => ?_, fun x hx => ?_⟩
  · obtain ⟨i, _, rfl⟩ := List.mem_map.mp hx
    obtain ⟨j, _, rfl⟩ := List.mem_map.mp hy
    rfl
  · obtain ⟨i, _, rfl⟩ := List.mem_map.mp hx
    exact fun z => nomatch z
theorem cMaxD {X : Cx} {k : Nat} (hc : X.calm = true) (hr : Room k X.A) : CallRK X (.builtin "max") ["default"] (rMaxDef X.K) := by
  intro pins s σ H xs zs us ws Q I r1 r2 h
  unfold rMaxDef at h
  split at h
  · rename_i p d
    obtain ⟨ns, hs, q⟩ := h
    obtain ⟨u, rfl, ru⟩ := vals1 r1
    obtain ⟨w, rfl, rw'⟩ := vals1 r2
    cases ru
    obtain ⟨its, rv, hl, _⟩ := I.list hs
    obtain ⟨as, ra⟩ := Dp.readsAll I _ _ _ (dp_ints ns) rv
    have un := hr.units
    refine max_list_default (xs := ns.map PyData.int) (I.ok.hd hc) hl.isList (by simpa using ra) (alike_all ns) (by rw [depth_ints]; omega) (fun e h' tk hk => ?_) (fun y ys i v h' tk bs e hv rd hk => ?_)
    · have e2 : ns = [] := List.map_eq_nil_iff.mp e
      subst e2
      exact ⟨.int d, H, I.kept hk, rw', q⟩
    · cases ns with
      | nil => cases e
      | cons n r =>
        cases e
        rw [maxD_ints] at rd
        cases rd
        exact ⟨.int _, H, I.kept hk, ⟨_, rfl⟩, q⟩
  · exact h.elim
def kKw1 (r : List V → List V → Hp → VK → Prop) (tk : TA) (σ : L2.St) (Q : VK) : List V → Hp → Prop := fun vs H => tCKw r (tAc vs) tk σ H Q
def kKw2 (r : List V → List V → Hp → VK → Prop) (vs : List V) (Q : VK) : List V → Hp → Prop := fun zs H => r vs zs H Q
section
variable {r : List V → List V → Hp → VK → Prop} {t tk : TA} {σ : L2.St} {H : Hp} {Q : VK} {vs zs : List V} {K : PySem.W.Frag} {p : Addr} {d : Int} {ns : List Int}
theorem w_ckw (h : t σ H (kKw1 r tk σ Q)) : tCKw r t tk σ H Q := h
theorem w_kkw1 (h : tk σ H (kKw2 r vs Q)) : kKw1 r tk σ Q vs H := h
theorem w_kkw2 (h : r vs zs H Q) : kKw2 r vs Q zs H := h
theorem w_maxD (hp : H p = some (.lst (ns.map V.int))) (h : Q (.int (maxDef d ns)) H) : rMaxDef K [.ref p] [.int d] H Q := ⟨ns, SqL.of hp, h⟩
end
theorem w_sum {K : PySem.W.Frag} {H : Hp} {Q : VK} {p : Addr} {ns : List Int} (hp : H p = some (.lst (ns.map V.int))) (h : Q (.int ns.sum) H) : rSum K [.ref p] H Q := ⟨p, ns, rfl, SqL.of hp, h⟩
theorem ref_at {rs : List Addr} {j : Nat} {x : V} (h : (rs.map V.ref)[j]? = some x) : ∃ r, rs[j]? = some r ∧ x = .ref r := by
  rw [List.getElem?_map] at h
  cases e : rs[j]? with
  | none => rw [e] at h; cases h
  | some r => rw [e] at h; exact ⟨r, rfl, (Option.some.inj h).symm⟩
theorem int_is {ns : List Int} {i : Nat} {x : V} (hi : i < ns.length) (h : (ns.map V.int)[i]? = some x) : x = .int (ns.getD i 0) := by
  rw [List.getElem?_map, List.getElem?_eq_getElem hi] at h
  rw [List.getD_eq_getElem?_getD, List.getElem?_eq_getElem hi]
  exact (Option.some.inj h).symm
theorem in_ints {x : Int} {ns : List Int} : inV (.int x) (ns.map V.int) = decide (x ∈ ns) := by
  rw [Bool.eq_iff_iff]
  have e : ∀ a : Int, eqV (.int a) (.int x) = (a == x) := fun a => rfl
  simp [inV, e]
theorem flat_ints (ns : List Int) : (ns.map V.int).all flatV = true := by
  simp [flatV]
theorem w_inI {K : PySem.W.Frag} {H : Hp} {Q : VK} {p : Addr} {x : Int} {ns : List Int} (hp : H p = some (.lst (ns.map V.int))) (h : Q (.bl (decide (x ∈ ns))) H) : rIn K false (.int x) (.ref p) H Q :=
  ⟨p, _, rfl, .inl (SqL.of hp), rfl, flat_ints ns, by rw [if_neg (by decide), in_ints]; exact h⟩
end Rd
/-! InK: the rules whose reading names the written part, with that part given: for the inside of a comprehension. -/
namespace Rd
open PySem PySem.Spec PyProof.Rows L2
section
variable {X : Cx} {K : PySem.W.Frag}
theorem CallR.toK {f : Value} {r : PySem.W.Frag → List V → Hp → VK → Prop} (h : CallR X f (r X.K)) (e : X.K = K) : CallR X f (r K) := e ▸ h
theorem OpR.toK {o : Value → Value → Sem Value} {r : PySem.W.Frag → R2} (h : OpR X o (r X.K)) (e : X.K = K) : OpR X o (r K) := e ▸ h
theorem ix_seqK (K : PySem.W.Frag) (e : X.K = K) : IxR X (rIx K) := e ▸ ix_seq
theorem sl_listK (K : PySem.W.Frag) (e : X.K = K) : SlR X (rSlL K) := e ▸ sl_list
theorem pe_fldK {o : Expr} {ta : TE} {f : Str} {pos : Pos} (K : PySem.W.Frag) (e : X.K = K) (he : PE X o ta) (hb : attributeBase o f X.env (eval o X.env) = eval o X.env) : PE X (.Attribute o f pos) (tFld K ta f) := e ▸ pe_fld he hb
theorem pg_tupK {es : List Expr} {k : Nat} {t : TGs} {n : Nat} {pos : Pos} (K : PySem.W.Frag) (e : X.K = K) (hc : X.calm = true) (h : PGs X es t) (hn : (assignEach es X.env).length = n := by rfl) (hst : (assignEach es X.env).findIdx? (·.1) = none := by rfl) : PG X (.Tuple es k pos) (gTup K n t) := e ▸ pg_tup hc h hn hst
end
end Rd
/-! CatchM: try with several clauses `except C as e`; calls of defs and methods inside a try. -/
namespace Rd
open PySem PySem.Spec PyProof.Rows L2
/-- a clause: what it takes, the slot of its name, its suite -/
structure Clause where
  c : Value
  i : Nat
  ts : TS
def wCatches (K : PySem.W.Frag) : List Clause → Ends → WX
  | [], _ => fun _ _ _ _ => False
  | u :: r, D => fun cls d σ H => wCatch K u.c u.i u.ts D cls d σ H ∨ (PySem.W.exmOne K cls u.c = some false ∧ wCatches K r D cls d σ H)
inductive PHs (X : Cx) : List ExceptHandler → List Clause → Prop
  | nil : PHs X [] []
  | cons {x n : Str} {c : Value} {i : Nat} {suite : List Stmt} {b0 : Stmt} {np pos : Pos} {ts : TS} {hs : List ExceptHandler} {cs : List Clause} (hi : X.N[i]? = some n) (hln : X.env.kindOf n = some .local) (hc : Names X x c) (hsu : ∀ (a : Addr) (pn : List (Addr × Obj)), PSs (X.suite a pn) (b0 :: suite) ts) (hr : PHs X hs cs) : PHs X (.ExceptHandler (some (.Name x np)) (some n) (b0 :: suite) pos :: hs) (⟨c, i, ts⟩ :: cs)
section
variable {X : Cx}
theorem clauses_take {pins : List (Addr × Obj)} {σ : L2.St} {H : Hp} {D : Ends} {s' : Shared} {h3 B : Heap} {a : Addr} {cls : Value} {d : Option Addr} (ok : X.Ok) (hN : X.N.Nodup) (fl : HandSPX.FlyingZ B (X.env :: X.outer) a (Zc cls d) h3) (al : Alone X pins a) (na : H a = none)
    (on : ∀ h, HandSPX.FlyingZ B (X.env :: X.outer) a (Zc cls d) h → h3.UpToSlots h → L2.Inv X pins σ H { s' with heap := h }) {hs : List ExceptHandler} {cs : List Clause} (p : PHs X hs cs) (q : wCatches X.K cs D cls d σ H) :
    wpAny (model X.prog X.w) X.A (handleBy (.ref a) X.env hs) (SP X pins D) X.xe { s' with heap := h3 } := by
  induction p with
  | nil => exact q.elim
  | cons hi hln hc hsu _ ih =>
    rcases q with ⟨hm, q⟩ | ⟨hm, q⟩
    · exact clause_takes ok hN hi hln hc hm hsu fl al na on (q a na)
    · have J := on h3 fl (Heap.UpToSlots.refl _)
      obtain ⟨o, fs, e, z, _⟩ := fl.there
      have look : PySem.W.Looks (model X.prog X.w) h3 (typeOf (.ref a)) cls := fun _ _ _ _ k w => wpAny_typeOf_ref (k _ _ e) (z.1 ▸ w)
      have S := Inv.intoSuite (a := a) J
      refine wpAny_handleBy_cons (codeAny_handlers_test ?_) (fun w => by cases w)
      obtain ⟨g1, g2, g3⟩ := hc
      rcases g3 with g3 | ⟨g3, g4, g5⟩
      · exact ld_glob S g1 g3 ((PySem.W.exm_one J.kIn look hm).here (ih q)) g2
      · exact ld_blt S g1 g3 g4 ((PySem.W.exm_one J.kIn look hm).here (ih q)) g5 g2
theorem ps_catches {body : List Stmt} {hds : List ExceptHandler} {cs : List Clause} {pos : Pos} {tb : WX → TS} (hs : X.stack = X.env :: X.outer) (hf : X.env.frame = some X.env.locals) (hex : X.ex = []) (hN : X.N.Nodup)
    (hb : ∀ (W : WX) (pn : List (Addr × Obj)) (xe : Value → Shared → Prop), Takes (X.tr pn xe) W → PassesOwn (model X.prog X.w) X.A X.env xe → PSs (X.tr pn xe) body (tb W)) (hh : PHs X hds cs) (hne : hds ≠ [] := by exact List.cons_ne_nil _ _) :
    PS X (.Try body hds [] [] pos) (fun D σ H => tb (wCatches X.K cs D) D σ H) where
  run := fun pins s σ H D I h => by
    have ok := I.ok
    have fr : X.A.frames = some (X.env :: X.outer) := ok.frames.trans (congrArg some hs)
    obtain ⟨h0, hr, rfl⟩ := List.exists_cons_of_ne_nil hne
    refine wpAny_Try_except (wpAny_mono ((hb (wCatches X.K cs D) (X.pn ++ pins) _ (fun u s' xx => ?_) PassesOwn.looking).run [] s σ H D (I.toTry _) h) (fun f s1 w => ?_) fun _ _ w => w)
    · obtain ⟨a, B, sI, p1, σ1, H1, cls, d, rfl, J1, nb, up, sky, na, os, ag, q⟩ := xx
      have J : L2.Inv X pins σ1 H1 sI := J1.ofTry ok
      refine Sky.land Zc.steady fr hf (hs ▸ sky) fun h3 fl up3 => ?_
      obtain ⟨o, fs, e, _, qd⟩ := fl.there
      exact clauses_take ok hN fl (alone_of hs hf hex J nb fl.2.1 fl.2.2.1 e qd) na (fun h4 fl4 up4 => J.landed nb fl4.1 ((up.trans up3).trans up4) os ag) hh q
    · have w' : SP X pins D f s1 := sp_map (fun σ H J => J.ofTry ok) w
      cases f with
      | next => exact wpAny_execs_nil w'
      | ret u => exact w'
      | brk => exact w'
      | cont => exact w'
end
/-! ### calls inside a try -/
def tMethS (C : Addr) (m : Str) (sp : Sp) (E : L2.St → XK) (ta : TE) (t : TA) : TE := fun σ H Q => tMeth C m sp [] (E σ) ta t σ H Q
section
variable {X : Cx} {CX : CXT} {k : Nat} {C : Addr} {x m : Str} {ps : List Str} {sp : Sp} {E : L2.St → XK} {o e : Expr} {es : List Expr} {ta : TE} {t : TA} {p pos apos : Pos} {pl : Sem Bool}
theorem pe_cgS (F : FnG X.prog X.w X.K X.mg X.base CX k x ps sp) (hr : Room k X.A) (hg : Gl X x) (hx : ∀ σ, PassesAt CX X σ (E σ)) (ha : PA X (e :: es) t) (h1 : (x == ("__debug__" : Str)) = false := by decide) (h2 : starEach (e :: es) X.env = (false, eval e X.env) :: starEach es X.env := by rfl) (h3 : (backTo pos (starEach es X.env)).any (·.1) = false := by rfl) : PE X (.Call (.Name x p) (e :: es) [] pos) (tCallS sp E t) := by
  obtain ⟨f, fd, a, b, c, d⟩ := F.ex
  exact pe_callS c hr hg a b d hx ha h1 h2 h3
theorem pe_mgS (G : MtG X.prog X.w X.K X.mg X.base CX k C m ps sp) (hr : Room k X.A) (hx : ∀ σ, PassesAt CX X σ (E σ)) (ho : PE X o ta) (ha : PA X (e :: es) t) (h1 : starEach (e :: es) X.env = (false, eval e X.env) :: starEach es X.env := by rfl) (h2 : (backTo pos (starEach es X.env)).any (·.1) = false := by rfl)
    (h3 : eval (.Call (.Attribute o m apos) (e :: es) [] pos) X.env = (eval o X.env >>= fun ov => standAt apos.atName >>= fun _ => holding [ov] (getMethod ov m pl) >>= fun fx => callWith pos fx.1 fx.2 (backTo pos (starEach (e :: es) X.env)) (backToKw pos (keywordEach [] X.env))) := by rfl) : PE X (.Call (.Attribute o m apos) (e :: es) [] pos) (tMethS C m sp E ta t) where
  run := fun pins s σ H Q I h => by
    obtain ⟨f, fd, mt, F, b⟩ := G.ex
    refine PySem.W.methodCall_KW (pl := pl) (wpAny_mono (ho.run pins s σ H _ I h) (fun u s1 z => ?_) fun _ _ w => w) h3
    obtain ⟨y, H1, I1, ry, a, dx, fs, rfl, ea, nl, q⟩ := z
    cases (show u = Value.ref a from ry)
    have room := I.ok.mod.kin
    have arg : wpAny (model X.prog X.w) X.A (spliced (backTo pos (starEach (e :: es) X.env))) (AP X pins σ _) X.xe s1 := ha.run pos pins s1 σ H1 _ I1 q
    refine getmeth_ok I1 ea G.cls mt nl (PySem.W.callWith_K (first := [.ref a]) (h₀ := X.base) room mt.kp (wpAny_mono arg (fun us s2 z => ?_) fun _ _ w => w) h1 h2)
    obtain ⟨vs, H2, I2, rv, q2⟩ := z
    rw [List.append_nil] at q2
    exact ⟨I2.kIn, run_fnS (us := .ref a :: us) (vs := .ref a :: vs) F hr b (hx σ) I2 (.cons ry rv) q2⟩
end
section
variable {C : Addr} {sp : Sp} {E : L2.St → XK} {ta : TE} {tl : TA} {σ : L2.St} {H : Hp} {Q : VK} {q : Str}
theorem w_callS (h : tl σ H (kCall sp [] (E σ) Q)) : tCallS sp E tl σ H Q := by
  have e : kCall sp [] (E σ) Q = fun vs H1 => sp vs H1 Q (E σ) := funext fun vs => funext fun H1 => by
    show sp (vs ++ []) H1 Q (E σ) = _
    rw [List.append_nil]
  rw [e] at h; exact h
theorem w_methS (h : ta σ H (kMeth C q sp [] (E σ) tl σ Q)) : tMethS C q sp E ta tl σ H Q := h
theorem w_c1 {K : PySem.W.Frag} {u : Clause} {r : List Clause} {D : Ends} {cls : Value} {d : Option Addr} (hm : PySem.W.exmOne K cls u.c = some true) (h : ∀ a, H a = none → u.ts (unbound D u.i) (σ.set u.i (some (.ref a))) (upd H a (XcO cls d a))) : wCatches K (u :: r) D cls d σ H := .inl ⟨hm, h⟩
theorem w_c2 {K : PySem.W.Frag} {u : Clause} {r : List Clause} {D : Ends} {cls : Value} {d : Option Addr} (hm : PySem.W.exmOne K cls u.c = some false) (h : wCatches K r D cls d σ H) : wCatches K (u :: r) D cls d σ H := .inr ⟨hm, h⟩
end
end Rd
/-! Auto: steps that hand on the next heap by a name, with what is known of it. -/
namespace Rd
open PySem PySem.Spec PyProof.Rows L2
def spIsInt : Sp := fun vs H Q _ => ∃ i : Int, vs = [.int i] ∧ Q (.bl true) H
section
variable {K : PySem.W.Frag} {H H' : Hp} {Q : VK} {E : XK} {xs ys : List V} {p q a D d : Addr} {i : Int} {fs : Option (List (Str × V))}
theorem use_isint (h : Q (.bl true) H) : spIsInt [.int i] H Q E := ⟨i, rfl, h⟩
theorem n_klst (hl : xs.length ≤ sizeLine) (h : ∀ (l : Addr) (H' : Hp), H l = none → Same H H' → H' l = some (.lst xs) → Q (.ref l) H') : kLst Q xs H := w_klst hl fun p hp => h p _ hp (same_new hp) upd_same
theorem n_ktup (hl : xs.length ≤ sizeLine) (h : ∀ (l : Addr) (H' : Hp), H l = none → Same H H' → H' l = some (.tup xs) → Q (.ref l) H') : kTup Q xs H := w_ktup hl fun p hp => h p _ hp (same_new hp) upd_same
theorem n_addL (h1 : H p = some (.lst xs)) (h2 : H q = some (.lst ys)) (hl : xs.length + ys.length ≤ sizeLine) (h : ∀ (l : Addr) (H' : Hp), H l = none → Same H H' → H' l = some (.lst (xs ++ ys)) → Q (.ref l) H') : uAdd (.ref p) (.ref q) H Q := w_addL h1 h2 hl fun l hn => h l _ hn (same_new hn) upd_same
theorem n_listL (hs : H p = some (.lst ys)) (h : ∀ (l : Addr) (H' : Hp), H l = none → Same H H' → H' l = some (.lst ys) → Q (.ref l) H') : rList K [.ref p] H Q := w_listL (SqL.of hs) fun l hn => h l _ hn (same_new hn) upd_same
theorem n_listT (hs : H p = some (.tup ys)) (h : ∀ (l : Addr) (H' : Hp), H l = none → Same H H' → H' l = some (.lst ys) → Q (.ref l) H') : rList K [.ref p] H Q := w_listT (SqT.of hs) fun l hn => h l _ hn (same_new hn) upd_same
theorem n_tupL (hs : H p = some (.lst ys)) (h : ∀ (l : Addr) (H' : Hp), H l = none → Same H H' → H' l = some (.tup ys) → Q (.ref l) H') : rTuple K [.ref p] H Q := w_tupL (SqL.of hs) fun l hn => h l _ hn (same_new hn) upd_same
theorem n_tupT (hs : H p = some (.tup ys)) (h : Q (.ref p) H) : rTuple K [.ref p] H Q := w_tupT (SqT.of hs) h
theorem XcAt.same (s : Same H H') (h : XcAt H a D fs) : XcAt H' a D fs := h.keep s
theorem PoolAt.same (s : Same H H') (h : PoolAt H p) : PoolAt H' p := h.keep s
theorem pool_drawn (h : Drawn p H H') : PoolAt H' p := h.pool
theorem ne_pool (hp : PoolAt H p) (hl : H q = none) : q ≠ p := (Drawn.refl hp).ne hl
theorem ne_lst (h1 : H p = some (.lst xs)) (h2 : H q = some (.tup ys)) : p ≠ q := fun e => by rw [e, h2] at h1; cases h1
/-- a new thing changed again -/
theorem same_put {o : HO} (s : Same H H') (hn : H p = none) : Same H (upd H' p o) := fun b u hb => by rw [upd_ne (ne_of_none hb hn)]; exact s b u hb
theorem xmade (hd : H d = none) {l : List (Str × V)} {C : Addr} (na : upd H d (.xd l) a = none) : Same H (upd (upd H d (.xd l)) a (XcO (.ref C) (some d) a)) ∧ XcAt (upd (upd H d (.xd l)) a (XcO (.ref C) (some d) a)) a C (some l) := by
  have ad : d ≠ a := fun e => by rw [← e, upd_same] at na; cases na
  exact ⟨same_put (same_new hd) (by rw [upd_ne (Ne.symm ad)] at na; exact na), d, upd_same, by rw [upd_ne ad, upd_same]⟩
theorem n_caught {u : Clause} {r : List Clause} {D : Ends} {C : Addr} {l : List (Str × V)} {σ : L2.St} (hd : H d = none) (hm : PySem.W.exmOne K (.ref C) u.c = some true) (h : ∀ (a : Addr) (H2 : Hp), H a = none → Same H H2 → XcAt H2 a C (some l) → u.ts (unbound D u.i) (σ.set u.i (some (.ref a))) H2) : wCatches K (u :: r) D (.ref C) (some d) σ (upd H d (.xd l)) :=
  w_c1 hm fun a na => let ⟨s, x⟩ := xmade hd na; h a _ (by
    have ad : a ≠ d := fun e => by rw [e, upd_same] at na; cases na
    rw [upd_ne ad] at na; exact na) s x
end
/-! ### exceptions by K given ahead -/
theorem pe_xkK {X : Cx} {e : Expr} {te : TE} {f : Str} {pos : Pos} (K : PySem.W.Frag) (e1 : X.K = K) (he : PE X e te) (hb : attributeBase e f X.env (eval e X.env) = eval e X.env := by rfl) : PE X (.Attribute e f pos) (tXk K f te) := e1 ▸ pe_xk he hb
/-! ### methods without arguments -/
section
variable {X : Cx} {CX : CXT} {k : Nat} {C : Addr} {m : Str} {ps : List Str} {sp : Sp} {E : XK} {o : Expr} {ta : TE} {pos apos : Pos} {pl : Sem Bool}
theorem pe_mgE0 (G : MtG X.prog X.w X.K X.mg X.base CX k C m ps sp) (hr : Room k X.A) (hx : Passes CX X E) (ho : PE X o ta)
    (h3 : eval (.Call (.Attribute o m apos) [] [] pos) X.env = (eval o X.env >>= fun ov => standAt apos.atName >>= fun _ => holding [ov] (getMethod ov m pl) >>= fun fx => callWith pos fx.1 fx.2 (backTo pos (starEach [] X.env)) (backToKw pos (keywordEach [] X.env))) := by rfl) : PE X (.Call (.Attribute o m apos) [] [] pos) (tMeth C m sp [] E ta tNil) := by
  obtain ⟨f, fd, mt, F, b⟩ := G.ex
  exact pe_meth0 ho G.cls mt F hr b .nil hx h3
theorem pe_mg0 (G : MtG X.prog X.w X.K X.mg X.base CX0 k C m ps sp) (hr : Room k X.A) (ho : PE X o ta)
    (h3 : eval (.Call (.Attribute o m apos) [] [] pos) X.env = (eval o X.env >>= fun ov => standAt apos.atName >>= fun _ => holding [ov] (getMethod ov m pl) >>= fun fx => callWith pos fx.1 fx.2 (backTo pos (starEach [] X.env)) (backToKw pos (keywordEach [] X.env))) := by rfl) : PE X (.Call (.Attribute o m apos) [] [] pos) (tMeth C m sp [] E0 ta tNil) := pe_mgE0 G hr pass0 ho h3
end
end Rd
/-! Auto2: list(range(a, b)), slices, == of plain lists with []. -/
namespace Rd
open PySem PySem.Spec PyProof.Rows L2
def rg (a b : Int) : List Int := (List.range (b - a).toNat).map fun i => a + (i : Nat)
theorem rgV_eq (a b : Int) : rgV a b = (rg a b).map V.int := by unfold rgV rg; rw [List.map_map]; rfl
theorem rg_len {a b : Int} : (rg a b).length = (b - a).toNat := by unfold rg; rw [List.length_map, List.length_range]
theorem rg_at {a b : Int} {i : Nat} (h : i < (b - a).toNat) : (rg a b).getD i 0 = a + i := by
  unfold rg
  rw [List.getD_eq_getElem?_getD, List.getElem?_map, List.getElem?_range h]; rfl
theorem rg_mem {a b x : Int} (h : x ∈ rg a b) : a ≤ x ∧ x < b := by
  unfold rg at h
  obtain ⟨i, hi, e⟩ := List.mem_map.mp h
  have := List.mem_range.mp hi
  omega
def kRg1 (tb : TE) (σ : L2.St) (Q : VK) : VK := fun x H => tLstRg (tRg2 (tC x) tb) σ H Q
def kRg2 (x : V) (Q : VK) : VK := fun y H => tLstRg (tRg2 (tC x) (tC y)) [] H Q
def kRg0 (Q : VK) : VK := fun y H => tLstRg (tRg1 (tC y)) [] H Q
def kSl1 (r : V → Option Int → Option Int → Hp → VK → Prop) (tl th : TO) (σ : L2.St) (Q : VK) : VK := fun x H => tSl r (tC x) tl th σ H Q
def kSl2 (r : V → Option Int → Option Int → Hp → VK → Prop) (x : V) (th : TO) (σ : L2.St) (Q : VK) : VK := fun y H => tSl r (tC x) (tPart (tC y)) th σ H Q
def kSl3 (r : V → Option Int → Option Int → Hp → VK → Prop) (x : V) (l : Option Int) (Q : VK) : VK := fun y H => ∃ i, y = .int i ∧ r x l (some i) H Q
section
variable {K : PySem.W.Frag} {σ : L2.St} {H : Hp} {Q : VK} {te ta tb : TE} {tl th : TO} {x y : V} {i j : Int} {l : Option Int} {a p : Addr} {xs : List V} {r : V → Option Int → Option Int → Hp → VK → Prop}
theorem w_lrg (h : ta σ H (kRg1 tb σ Q)) : tLstRg (tRg2 ta tb) σ H Q := h
theorem w_lrg0 (h : ta σ H (kRg0 Q)) : tLstRg (tRg1 ta) σ H Q := h
theorem w_krg1 (h : tb σ H (kRg2 x Q)) : kRg1 tb σ Q x H := h
theorem n_krg2 (ok : RgOk i j) (h : ∀ (l : Addr) (H' : Hp), H l = none → Same H H' → H' l = some (.lst ((rg i j).map V.int)) → Q (.ref l) H') : kRg2 (.int i) Q (.int j) H :=
  ⟨i, j, rfl, rfl, ok, fun q hq => h q _ hq (same_new hq) (by rw [upd_same, rgV_eq])⟩
theorem n_krg0 (ok : RgOk 0 j) (h : ∀ (l : Addr) (H' : Hp), H l = none → Same H H' → H' l = some (.lst ((rg 0 j).map V.int)) → Q (.ref l) H') : kRg0 Q (.int j) H :=
  ⟨j, rfl, ok, fun q hq => h q _ hq (same_new hq) (by rw [upd_same, rgV_eq])⟩
theorem w_sl (h : te σ H (kSl1 r tl th σ Q)) : tSl r te tl th σ H Q := h
theorem w_sl_u (h : te σ H (kSl3 r x none Q)) : kSl1 r tNoPart (tPart te) σ Q x H := h
theorem w_sl_l (h : te σ H (kSl2 r x th σ Q)) : kSl1 r (tPart te) th σ Q x H := h
theorem w_sl_ln (h : r x (some i) none H Q) : kSl2 r x tNoPart σ Q (.int i) H := ⟨i, rfl, h⟩
theorem w_sl_lu (h : te σ H (kSl3 r x (some i) Q)) : kSl2 r x (tPart te) σ Q (.int i) H := ⟨i, rfl, h⟩
theorem w_sl3 (h : r x l (some i) H Q) : kSl3 r x l Q (.int i) H := ⟨i, rfl, h⟩
theorem n_slL {lo hi : Option Int} (hs : H p = some (.lst xs)) (h : ∀ (l : Addr) (H' : Hp), H l = none → Same H H' → H' l = some (.lst (cutV xs lo hi)) → Q (.ref l) H') : rSlL K (.ref p) lo hi H Q := ⟨p, xs, rfl, SqL.of hs, fun q hq => h q _ hq (same_new hq) upd_same⟩
end
theorem cut_take {xs : List V} {k : Int} (h : 0 ≤ k) : cutV xs none (some k) = xs.take k.toNat := by
  have e : HT.sIx xs.length xs.length (some k) = min k.toNat xs.length := if_neg (by omega)
  unfold cutV
  rw [e, HT.sIx_none, List.drop_zero, Nat.sub_zero]
  by_cases c : xs.length ≤ k.toNat
  · rw [List.take_of_length_le (by omega), List.take_of_length_le c]
  · rw [show min k.toNat xs.length = k.toNat by omega]
theorem cut_drop {xs : List V} {k : Int} (h : 0 ≤ k) : cutV xs (some k) none = xs.drop k.toNat := by
  have e : HT.sIx xs.length 0 (some k) = min k.toNat xs.length := if_neg (by omega)
  unfold cutV
  rw [e, HT.sIx_none]
  by_cases c : xs.length ≤ k.toNat
  · rw [List.drop_of_length_le (by omega), List.drop_of_length_le c, List.take_nil]
  · rw [show min k.toNat xs.length = k.toNat by omega, List.take_of_length_le (by rw [List.length_drop]; exact Nat.le_refl _)]
theorem cut_mid {xs : List V} {j k : Int} (h : 0 ≤ j) (h2 : 0 ≤ k) : cutV xs (some j) (some k) = (xs.drop j.toNat).take (k.toNat - j.toNat) := by
  have e : HT.sIx xs.length 0 (some j) = min j.toNat xs.length := if_neg (by omega)
  have f : HT.sIx xs.length xs.length (some k) = min k.toNat xs.length := if_neg (by omega)
  unfold cutV
  rw [e, f]
  by_cases c : xs.length ≤ j.toNat
  · rw [List.drop_of_length_le (by omega), List.drop_of_length_le c, List.take_nil, List.take_nil]
  · rw [show min j.toNat xs.length = j.toNat by omega]
    by_cases d : xs.length ≤ k.toNat
    · rw [List.take_of_length_le (by rw [List.length_drop]; omega), List.take_of_length_le (by rw [List.length_drop]; omega)]
    · rw [show min k.toNat xs.length = k.toNat by omega]
/-- plain items that == can tell -/
def Flat : V → Prop
  | .non => True
  | .bl _ => True
  | .int _ => True
  | .str s => PyData.strOk s = true
  | _ => False
theorem Flat.plain : ∀ {x : V}, Flat x → Plain x
  | .non, _ => trivial
  | .bl _, _ => trivial
  | .int _, _ => trivial
  | .str _, _ => trivial
/-! ### == of a plain list with [] -/
def plD : V → PyData
  | .non => .none
  | .bl b => .bool b
  | .int i => .int i
  | .str s => .str s
  | _ => .none
theorem dp_plain {K : PySem.W.Frag} {H : Hp} : ∀ {xs : List V}, (∀ x ∈ xs, Flat x) → DpAll K H xs (xs.map plD)
  | [], _ => .nil
  | x :: r, h => by
    refine .cons ?_ (dp_plain fun y hy => h y (List.mem_cons_of_mem _ hy))
    have hx := h x List.mem_cons_self
    cases x with
    | non => exact .non
    | bl b => exact .bl b
    | int i => exact .int i
    | str s => exact .str s
    | _ => exact hx.elim
theorem lay_plain : ∀ {xs : List V}, (∀ x ∈ xs, Flat x) → PyData.canLayAll0 (xs.map plD) = true ∧ PyData.depthAll (xs.map plD) = 0
  | [], _ => by simp [PyData.canLayAll0, PyData.depthAll]
  | x :: r, h => by
    have ih := lay_plain fun y hy => h y (List.mem_cons_of_mem _ hy)
    have hx := h x List.mem_cons_self
    have e : PyData.canLay0 (plD x) = true ∧ PyData.depth (plD x) = 0 := by
      cases x with
      | non => simp [plD, PyData.canLay0, PyData.depth]
      | bl b => simp [plD, PyData.canLay0, PyData.depth]
      | int i => simp [plD, PyData.canLay0, PyData.depth]
      | str s => simp only [plD, PyData.canLay0, PyData.depth, and_true]; exact hx
      | _ => exact hx.elim
    simp only [List.map_cons, PyData.canLayAll0, PyData.depthAll, ih.1, ih.2, e.1, e.2, Bool.and_self, Nat.max_self, and_self]
theorem shaped_plain {xs : List V} (h : ∀ x ∈ xs, Flat x) : SeqAt.shaped (.list (xs.map plD)) = true := by
  unfold SeqAt.shaped
  simp [PyData.canLay0, PyData.depth, lay_plain h]
section
variable {K : PySem.W.Frag} {H : Hp} {Q : VK} {a b : Addr} {xs : List V}
theorem eqv_none (h : ∀ x ∈ xs, Flat x) : PyData.eqvAll (xs.map plD) [] = decide (xs = []) := by
  cases xs <;> simp [PyData.eqvAll]
theorem w_neE (h : ∀ x ∈ xs, Flat x) (ha : H a = some (.lst xs)) (hb : H b = some (.lst [])) (q : Q (.bl (!decide (xs = []))) H) : uNe K (.ref a) (.ref b) H Q :=
  .inr ⟨_, _, .lst (SqL.of ha) (dp_plain h), .lst (SqL.of hb) .nil, shaped_plain h, shaped_ints [], by show Q (.bl (!PyData.eqv (.list _) (.list _))) H; rw [PyData.eqv, eqv_none h]; exact q⟩
theorem w_eqE (h : ∀ x ∈ xs, Flat x) (ha : H a = some (.lst xs)) (hb : H b = some (.lst [])) (q : Q (.bl (decide (xs = []))) H) : uEq K (.ref a) (.ref b) H Q :=
  .inr ⟨_, _, .lst (SqL.of ha) (dp_plain h), .lst (SqL.of hb) .nil, shaped_plain h, shaped_ints [], by show Q (.bl (PyData.eqv (.list _) (.list _))) H; rw [PyData.eqv, eqv_none h]; exact q⟩
end
/-! ### an item of some ints; an item stored -/
theorem ixN_of {n : Nat} {k : Int} (h0 : 0 ≤ k) (h1 : k < n) : ixN n k = some k.toNat := by
  unfold ixN
  rw [if_pos h0, if_pos (by omega)]
section
variable {K : PySem.W.Frag} {H : Hp} {Q : VK} {p : Addr} {xs : List V} {ns : List Int} {i x : Int} {σ : L2.St} {nx : L2.St → Hp → Prop}
theorem w_ixAny (hp : H p = some (.lst xs)) (h0 : 0 ≤ i) (h1 : i < xs.length) (hi : ∀ x ∈ xs, ∃ c : Int, x = .int c) (h : ∀ c : Int, Q (.int c) H) : rIx K (.ref p) (.int i) H Q := by
  have hx : xs[i.toNat]? = some (xs[i.toNat]'(by omega)) := List.getElem?_eq_getElem (by omega)
  obtain ⟨c, e⟩ := hi _ (List.mem_of_getElem? hx)
  refine w_ixL (SqL.of hp) (atI_of h0 hx) ?_
  rw [e]; exact h c
theorem n_ksubM (hp : H p = some (.lst (ns.map V.int))) (h0 : 0 ≤ i) (h1 : i < ns.length) (h : nx σ (upd H p (.lst ((ns.set i.toNat x).map V.int)))) : kSub2 rSetL (.ref p) (.int x) σ nx (.int i) H :=
  w_ksubL hp (by rw [List.length_map]; exact ixN_of h0 h1) (by rw [← List.map_set]; exact h)
end
/-- [told, got] twice -/
theorem alike_pair {H : Hp} {d : Nat} {a a' t t' : Addr} {b : V} {xs : List V} (ha : H a = some (.lst [.ref t, b])) (ha' : H a' = some (.lst [.ref t', b])) (ht : H t = some (.lst xs)) (ht' : H t' = some (.lst xs)) (hx : ∀ x ∈ xs, Plain x) (hb : Plain b) (hl : xs.length ≤ 1000000) : Alike H (d + 3) (.ref a) (.ref a') :=
  alike_lst ha ha' rfl (Nat.le_of_ble_eq_true rfl) fun i x y hx' hy => match i with
    | 0 => by cases hx'; cases hy; exact alike_plst ht ht' hl hx
    | 1 => by cases hx'; cases hy; exact alike_plain hb
    | _ + 2 => by cases hx'
theorem w_cut {t u : TS} {nx bk ct : L2.St → Hp → Prop} {rt : VK} {σ : L2.St} {H : Hp} (Mid : L2.St → Hp → Prop) (h1 : t ⟨Mid, rt, bk, ct⟩ σ H) (h2 : ∀ σ' H', Mid σ' H' → u ⟨nx, rt, bk, ct⟩ σ' H') : C8.tCut t u ⟨nx, rt, bk, ct⟩ σ H := ⟨Mid, h1, h2⟩
/-! ### K given ahead -/
theorem pg_unlK {X : Cx} {pos : Pos} {es : List Expr} {k : Nat} {t : TGs} {n : Nat} (K : PySem.W.Frag) (e : X.K = K) (hc : X.calm = true) (h : PGs X es t) (hn : (assignEach es X.env).length = n := by rfl) (hst : (assignEach es X.env).findIdx? (·.1) = none := by rfl) : PG X (.Tuple es k pos) (gUnl K n t) := e ▸ pg_unl hc h hn hst
end Rd
/-! Comp: list comprehensions by what they leave. -/
namespace Rd
open PySem PySem.Spec PyProof.Rows L2
/-- how a heap may go on: what stood stands (Same), or all but the pool (Drawn p) -/
structure GoesOn (G : Hp → Hp → Prop) (H : Hp) : Prop where
  refl : G H H
  trans : ∀ {H1 H2}, G H H1 → G H1 H2 → G H H2
  put : ∀ {H1 : Hp} {D : Addr} {o : HO}, G H H1 → H D = none → G H (upd H1 D o)
theorem goes_same (H : Hp) : GoesOn Same H := ⟨Same.refl H, Same.trans, fun s hD => fun b u hb => by rw [upd_ne (ne_of_none hb hD)]; exact s b u hb⟩
theorem goes_drawn {p : Addr} {H : Hp} (h : PoolAt H p) : GoesOn (Drawn p) H := ⟨.refl h, .trans, .put⟩
/-- the list so far -/
def LcP (G : Hp → Hp → Prop) (H : Hp) (D : Addr) (R : Nat → List V → Prop) (i : Nat) (H' : Hp) : Prop := ∃ acc, H' D = some (.lst acc) ∧ G H H' ∧ R i acc
/-- an element is there -/
def kElt (G : Hp → Hp → Prop) (H : Hp) (D : Addr) (R : Nat → List V → Prop) (i : Nat) : VK := fun y H4 => ∃ acc, H4 D = some (.lst acc) ∧ acc.length < sizeLine ∧ LcP G H D R (i + 1) (upd H4 D (.lst (acc ++ [y])))
section
variable {K : PySem.W.Frag} {G : Hp → Hp → Prop} {g : TG} {tt : TT} {te : TE} {vs : List Nat} {σ : L2.St} {H H4 : Hp} {Q : VK} {p D : Addr} {xs acc : List V} {R : Nat → List V → Prop} {i : Nat} {y : V}
theorem elt_done (gs : GoesOn G H) (hD : H D = none) (ha : H4 D = some (.lst acc)) (hz : acc.length ≤ 1000000) (s : G H H4) (r : R (i + 1) (acc ++ [y])) : kElt G H D R i y H4 := ⟨acc, ha, by rw [sizeLine_eq]; omega, _, upd_same, gs.put s hD, r⟩
theorem elt_not (ha : H4 D = some (.lst acc)) (s : G H H4) (r : R (i + 1) acc) : LcP G H D R (i + 1) H4 := ⟨acc, ha, s, r⟩
/-- one turn -/
abbrev LcStep (G : Hp → Hp → Prop) (H : Hp) (D : Addr) (R : Nat → List V → Prop) (g : TG) (tt : TT) (te : TE) (vs : List Nat) (σ : L2.St) (i : Nat) (x : V) (H1 : Hp) : Prop :=
  g x (wipe σ vs) H1 fun σ2 H2 => wipe σ2 vs = wipe σ vs ∧ tt σ2 H2 fun b H3 => if b = true then te σ2 H3 (kElt G H D R i) else LcP G H D R (i + 1) H3
theorem lc_L (gs : GoesOn G H) (hp : H p = some (.lst xs)) (hx : ∀ H', G H H' → H' p = some (.lst xs)) (R : Nat → List V → Prop) (r0 : R 0 [])
    (step : ∀ (D : Addr) i x acc H1, H D = none → xs[i]? = some x → R i acc → G H H1 → H1 D = some (.lst acc) → LcStep G H D R g tt te vs σ i x H1)
    (done : ∀ (l : Addr) (acc : List V) (H' : Hp), H l = none → G H H' → H' l = some (.lst acc) → R xs.length acc → Q (.ref l) H') : kCL K g tt te vs σ Q (.ref p) H := by
  refine ⟨p, rfl, ⟨_, SqL.of hp⟩, fun D hD => lc_list (xs := xs) (LcP G H D R) ⟨[], upd_same, gs.put gs.refl hD, r0⟩ ?_ ?_ ?_⟩
  · rintro i H' _ ⟨acc, _, s, _⟩
    exact SqL.of (hx H' s)
  · rintro i x H' hxi ⟨acc, ha, s, r⟩
    exact step D i x acc H' hD hxi r s ha
  · rintro H' ⟨acc, ha, s, r⟩
    exact done D acc H' hD s ha r
theorem lc_T (gs : GoesOn G H) (hp : H p = some (.tup xs)) (hx : ∀ H', G H H' → H' p = some (.tup xs)) (R : Nat → List V → Prop) (r0 : R 0 [])
    (step : ∀ (D : Addr) i x acc H1, H D = none → xs[i]? = some x → R i acc → G H H1 → H1 D = some (.lst acc) → LcStep G H D R g tt te vs σ i x H1)
    (done : ∀ (l : Addr) (acc : List V) (H' : Hp), H l = none → G H H' → H' l = some (.lst acc) → R xs.length acc → Q (.ref l) H') : kCT K g tt te vs σ Q (.ref p) H := by
  refine ⟨p, rfl, ⟨_, SqT.of hp⟩, fun D hD => lc_tup (xs := xs) (LcP G H D R) ⟨[], upd_same, gs.put gs.refl hD, r0⟩ ?_ ?_ ?_⟩
  · rintro i H' _ ⟨acc, _, s, _⟩
    exact SqT.of (hx H' s)
  · rintro i x H' hxi ⟨acc, ha, s, r⟩
    exact step D i x acc H' hD hxi r s ha
  · rintro H' ⟨acc, ha, s, r⟩
    exact done D acc H' hD s ha r
theorem lc_R1 {n : Int} (gs : GoesOn G H) (h0 : -(2 ^ 62) ≤ n) (h1 : n < 2 ^ 62) (R : Nat → List V → Prop) (r0 : R 0 [])
    (step : ∀ (D : Addr) i acc H1, H D = none → i < n.toNat → R i acc → G H H1 → H1 D = some (.lst acc) → LcStep G H D R g tt te vs σ i (.int (0 + (i : Int))) H1)
    (done : ∀ (l : Addr) (acc : List V) (H' : Hp), H l = none → G H H' → H' l = some (.lst acc) → R n.toNat acc → Q (.ref l) H') : kCR1 g tt te vs σ Q [.int n] H := by
  refine ⟨n, rfl, h0, h1, fun D hD => lc_range (n := n.toNat) (LcP G H D R) ⟨[], upd_same, gs.put gs.refl hD, r0⟩ ?_ ?_⟩
  · rintro i H' hi ⟨acc, ha, s, r⟩
    exact step D i acc H' hD hi r s ha
  · rintro H' ⟨acc, ha, s, r⟩
    exact done D acc H' hD s ha r
theorem lc_R2 {m n : Int} (gs : GoesOn G H) (hb : -(2 ^ 62) ≤ m ∧ m < 2 ^ 62 ∧ -(2 ^ 62) ≤ n ∧ n < 2 ^ 62) (R : Nat → List V → Prop) (r0 : R 0 [])
    (step : ∀ (D : Addr) i acc H1, H D = none → i < (n - m).toNat → R i acc → G H H1 → H1 D = some (.lst acc) → LcStep G H D R g tt te vs σ i (.int (m + (i : Int))) H1)
    (done : ∀ (l : Addr) (acc : List V) (H' : Hp), H l = none → G H H' → H' l = some (.lst acc) → R (n - m).toNat acc → Q (.ref l) H') : kCR2 g tt te vs σ Q [.int m, .int n] H := by
  refine ⟨m, n, rfl, hb, fun D hD => lc_range (n := (n - m).toNat) (LcP G H D R) ⟨[], upd_same, gs.put gs.refl hD, r0⟩ ?_ ?_⟩
  · rintro i H' hi ⟨acc, ha, s, r⟩
    exact step D i acc H' hD hi r s ha
  · rintro H' ⟨acc, ha, s, r⟩
    exact done D acc H' hD s ha r
end
end Rd
/-! More: x += e, while, extend, xs[::-1], sorted ints, x not in ints, xs[-k]. -/
namespace Rd
open PySem PySem.Spec PyProof.Rows L2
def kAug (n : Nat) (ti : TIp) (x : V) (σ : L2.St) (nx : L2.St → Hp → Prop) : VK := fun y H1 => ti x y H1 fun z H2 => nx (σ.set n (some z)) H2
def kWh (W : Nat → L2.St → Hp → Prop) (m : Nat) (tb : TS) (nx : L2.St → Hp → Prop) (rt : VK) (σ : L2.St) : Bool → Hp → Prop := fun b H1 =>
  if b = true then ∃ N : L2.St → Hp → Prop, (∀ σ' H', N σ' H' → ∃ m', m' < m ∧ W m' σ' H') ∧ tb ⟨N, rt, nx, N⟩ σ H1 else nx σ H1
def kRevL (K : PySem.W.Frag) (Q : VK) : VK := fun x H => tRevL K (tC x) [] H Q
/-- one turn less -/
def Less (W : Nat → L2.St → Hp → Prop) (m : Nat) : L2.St → Hp → Prop := fun σ H => ∃ m', m' < m ∧ W m' σ H
section
variable {K : PySem.W.Frag} {σ : L2.St} {H : Hp} {te : TE} {tc : TT} {tb : TS} {ti : TIp} {x : V} {Q : VK} {nx bk ct : L2.St → Hp → Prop} {rt : VK} {i j : Int} {n m : Nat} {p q : Addr} {xs ys : List V} {ns : List Int} {W : Nat → L2.St → Hp → Prop}
theorem w_aug (hv : σ[n]? = some (some x)) (h : te σ H (kAug n ti x σ nx)) : tAug n te ti ⟨nx, rt, bk, ct⟩ σ H := ⟨x, hv, h⟩
theorem w_kasgU {k : Nat} {t : TGs} (h : gUnl K k t x σ H nx) : kAsg (gUnl K k t) σ nx x H := h
theorem w_kasgT {k : Nat} {t : TGs} (h : gTup K k t x σ H nx) : kAsg (gTup K k t) σ nx x H := h
theorem w_kor_nt {t : TT} {QB : Bool → Hp → Prop} (h : t σ H QB) : kOr t σ QB (!true) H := h
theorem w_kor_nf {t : TT} {QB : Bool → Hp → Prop} (h : QB true H) : kOr t σ QB (!false) H := h
theorem w_kand_nt {t : TT} {QB : Bool → Hp → Prop} (h : QB false H) : kAnd t σ QB (!true) H := h
theorem w_kand_nf {t : TT} {QB : Bool → Hp → Prop} (h : t σ H QB) : kAnd t σ QB (!false) H := h
theorem w_augAdd (h : nx (σ.set n (some (.int (i + j)))) H) : kAug n (ipI fun i j => i + j) (.int i) σ nx (.int j) H := ⟨i, j, rfl, rfl, h⟩
theorem w_augSub (h : nx (σ.set n (some (.int (i - j)))) H) : kAug n (ipI fun i j => i - j) (.int i) σ nx (.int j) H := ⟨i, j, rfl, rfl, h⟩
theorem w_while (W : Nat → L2.St → Hp → Prop) (m : Nat) (h0 : W m σ H) (hs : ∀ m σ H, W m σ H → tc σ H (kWh W m tb nx rt σ)) : tWhile tc tb ⟨nx, rt, bk, ct⟩ σ H := ⟨W, ⟨m, h0⟩, hs⟩
theorem w_kwh_t (h : tb ⟨Less W m, rt, nx, Less W m⟩ σ H) : kWh W m tb nx rt σ true H := by
  show (if true = true then _ else _)
  rw [if_pos rfl]; exact ⟨_, fun _ _ z => z, h⟩
theorem w_kwh_f (h : nx σ H) : kWh W m tb nx rt σ false H := by
  show (if false = true then _ else _)
  rw [if_neg (fun z => nomatch z)]; exact h
theorem w_kwh {c : Prop} {dc : Decidable c} (h1 : c → tb ⟨Less W m, rt, nx, Less W m⟩ σ H) (h2 : ¬ c → nx σ H) : kWh W m tb nx rt σ (decide c) H := by
  by_cases hc : c
  · rw [decide_eq_true hc]; exact w_kwh_t (h1 hc)
  · rw [decide_eq_false hc]; exact w_kwh_f (h2 hc)
theorem less_of {m' : Nat} (h : W m' σ H) (hm : m' < m) : Less W m σ H := ⟨m', hm, h⟩
theorem w_revL (h : te σ H (kRevL K Q)) : tRevL K te σ H Q := h
theorem n_revL (hs : H p = some (.lst xs)) (h : ∀ (l : Addr) (H' : Hp), H l = none → Same H H' → H' l = some (.lst xs.reverse) → Q (.ref l) H') : kRevL K Q (.ref p) H := ⟨p, xs, rfl, SqL.of hs, fun q hq => h q _ hq (same_new hq) upd_same⟩
theorem w_ext (hp : H p = some (.lst xs)) (hq : H q = some (.lst ys)) (hl : xs.length + ys.length ≤ sizeLine) (h : Q .non (upd H p (.lst (xs ++ ys)))) : rExtend (.ref p) [.ref q] H Q := ⟨p, q, xs, ys, rfl, rfl, hp, hq, hl, h⟩
theorem n_sorted (hp : H p = some (.lst (ns.map V.int))) (h : ∀ (ms : List Int) (l : Addr) (H' : Hp), ms.Perm ns → ms.Pairwise (· ≤ ·) → H l = none → Same H H' → H' l = some (.lst (ms.map V.int)) → Q (.ref l) H') : rSortedI K [.ref p] H Q := ⟨p, ns, rfl, SqL.of hp, fun ms l h1 h2 h3 => h ms l _ h1 h2 h3 (same_new h3) upd_same⟩
theorem w_notInI (hp : H p = some (.lst (ns.map V.int))) (h : Q (.bl (!decide (i ∈ ns))) H) : rIn K true (.int i) (.ref p) H Q :=
  ⟨p, _, rfl, .inl (SqL.of hp), rfl, flat_ints ns, by rw [if_pos rfl, in_ints]; exact h⟩
theorem atI_neg {k : Int} (h0 : 0 < k) (h1 : k ≤ ns.length) : atI (ns.map V.int) (-k) = some (.int (ns.getD (ns.length - k.toNat) 0)) := by
  unfold atI ixN
  rw [if_neg (by omega), List.length_map, if_pos (by omega)]
  show (ns.map V.int)[_]? = _
  rw [List.getElem?_map, show (-k + (ns.length : Int)).toNat = ns.length - k.toNat by omega, List.getD_eq_getElem?_getD, List.getElem?_eq_getElem (by omega)]
  rfl
theorem w_ixNeg {k : Int} (hp : H p = some (.lst (ns.map V.int))) (h0 : 0 < k) (h1 : k ≤ ns.length) (h : Q (.int (ns.getD (ns.length - k.toNat) 0)) H) : rIx K (.ref p) (.int (-k)) H Q := w_ixL (SqL.of hp) (atI_neg h0 h1) h
/-- a tuple of two -/
theorem w_lenT2 {y : V} (hs : SqT K H p [x, y]) (h : Q (.int 2) H) : rLen K [.ref p] H Q := w_lenT hs h
end
/-! ### for over one of two kinds -/
def iOr (a b : TI) : TI := fun σ H R => a σ H R ∨ b σ H R
theorem PI.or {X : Cx} {tg l : Expr} {a b : TI} (h1 : PI X tg l a) (h2 : PI X tg l b) : PI X tg l (iOr a b) := ⟨fun pins s σ H R I h => h.elim (h1.run pins s σ H R I) (h2.run pins s σ H R I)⟩
section
variable {a b : TI} {g : TG} {tb : TS} {D : Ends} {σ : L2.St} {H : Hp}
theorem w_forA (h : tFor a g tb D σ H) : tFor (iOr a b) g tb D σ H := .inl h
theorem w_forB (h : tFor b g tb D σ H) : tFor (iOr a b) g tb D σ H := .inr h
end
end Rd
/-! PairL: lists of tuples of two ints. -/
namespace Rd
open PySem PySem.Spec PyProof.Rows L2
def PairP (R : Int → Int → Prop) (H : Hp) (xs : List V) : Prop := ∀ x ∈ xs, ∃ (t : Addr) (f l : Int), x = .ref t ∧ H t = some (.tup [.int f, .int l]) ∧ R f l
/-- tuples of two ints, by place -/
structure Pairs (H : Hp) (ts : List Addr) (gs : List (Int × Int)) : Prop where
  len : ts.length = gs.length
  at_ : ∀ (j : Nat) (t : Addr) (f l : Int), ts[j]? = some t → gs[j]? = some (f, l) → H t = some (.tup [.int f, .int l])
section
variable {R S : Int → Int → Prop} {H H' : Hp} {xs ys : List V} {p : Addr} {K : PySem.W.Frag} {Q : VK} {i : Int} {x : V} {σ : L2.St} {nx : L2.St → Hp → Prop}
theorem PairP.keep (h : PairP R H xs) (k : Same H H') : PairP R H' xs := fun x hx => let ⟨t, f, l, e, ht, r⟩ := h x hx; ⟨t, f, l, e, k _ _ ht, r⟩
theorem PairP.drawn (h : PairP R H xs) (k : Drawn p H H') : PairP R H' xs := fun x hx => let ⟨t, f, l, e, ht, r⟩ := h x hx; ⟨t, f, l, e, k.tup ht, r⟩
theorem PairP.put (h : PairP R H xs) (hp : H p = some (.lst ys)) {zs : List V} : PairP R (upd H p (.lst zs)) xs := fun x hx => let ⟨t, f, l, e, ht, r⟩ := h x hx; ⟨t, f, l, e, by rw [upd_ne fun z => by rw [z, hp] at ht; cases ht]; exact ht, r⟩
theorem PairP.weak (h : PairP R H xs) (w : ∀ f l, R f l → S f l) : PairP S H xs := fun x hx => let ⟨t, f, l, e, ht, r⟩ := h x hx; ⟨t, f, l, e, ht, w f l r⟩
theorem PairP.nil : PairP R H [] := fun _ hx => absurd hx List.not_mem_nil
theorem PairP.cons {t : Addr} {f l : Int} (ht : H t = some (.tup [.int f, .int l])) (r : R f l) (h : PairP R H xs) : PairP R H (.ref t :: xs) := fun x hx => (List.mem_cons.mp hx).elim (fun e => ⟨t, f, l, e, ht, r⟩) (h x)
theorem PairP.app (h : PairP R H xs) (k : PairP R H ys) : PairP R H (xs ++ ys) := fun x hx => (List.mem_append.mp hx).elim (h x) (k x)
theorem PairP.sub (h : PairP R H xs) (s : ∀ x ∈ ys, x ∈ xs) : PairP R H ys := fun x hx => h x (s x hx)
theorem PairP.set (h : PairP R H xs) {k : Nat} {t : Addr} {f l : Int} (ht : H t = some (.tup [.int f, .int l])) (r : R f l) : PairP R H (xs.set k (.ref t)) := fun y hy => (List.mem_or_eq_of_mem_set hy).elim (h y) (fun e => ⟨t, f, l, e, ht, r⟩)
theorem cut_mem {lo hi : Option Int} (hx : x ∈ cutV xs lo hi) : x ∈ xs := by
  unfold cutV at hx
  exact List.mem_of_mem_drop (List.mem_of_mem_take hx)
theorem cut_len {lo hi : Option Int} : (cutV xs lo hi).length ≤ xs.length := by
  unfold cutV
  rw [List.length_take, List.length_drop]; omega
theorem PairP.cut (h : PairP R H xs) {lo hi : Option Int} : PairP R H (cutV xs lo hi) := h.sub fun _ => cut_mem
theorem PairP.pairs : ∀ {xs : List V}, PairP R H xs → ∃ ts gs, xs = ts.map V.ref ∧ Pairs H ts gs
  | [], _ => ⟨[], [], rfl, rfl, fun j t f l h => by cases h⟩
  | x :: r, h => by
    obtain ⟨t, f, l, rfl, ht, _⟩ := h x List.mem_cons_self
    obtain ⟨ts, gs, rfl, P⟩ := PairP.pairs fun y hy => h y (List.mem_cons_of_mem _ hy)
    refine ⟨t :: ts, (f, l) :: gs, rfl, by rw [List.length_cons, List.length_cons, P.len], fun j q a b h1 h2 => ?_⟩
    cases j with
    | zero => cases h1; cases h2; exact ht
    | succ j => exact P.at_ j q a b h1 h2
/-- an item, whatever it is -/
theorem n_ixMem (hp : H p = some (.lst xs)) (h0 : 0 ≤ i) (h1 : i < xs.length) (h : ∀ v, v ∈ xs → Q v H) : rIx K (.ref p) (.int i) H Q := by
  have hx : xs[i.toNat]? = some (xs[i.toNat]'(by omega)) := List.getElem?_eq_getElem (by omega)
  exact w_ixL (SqL.of hp) (atI_of h0 hx) (h _ (List.mem_of_getElem? hx))
theorem n_ixPair (P : PairP R H xs) (hp : H p = some (.lst xs)) (h0 : 0 ≤ i) (h1 : i < xs.length) (h : ∀ (t : Addr) (f l : Int), xs[i.toNat]? = some (.ref t) → H t = some (.tup [.int f, .int l]) → R f l → Q (.ref t) H) : rIx K (.ref p) (.int i) H Q := by
  have hx : xs[i.toNat]? = some (xs[i.toNat]'(by omega)) := List.getElem?_eq_getElem (by omega)
  obtain ⟨t, f, l, e, ht, r⟩ := P _ (List.mem_of_getElem? hx)
  rw [e] at hx
  exact w_ixL (SqL.of hp) (atI_of h0 hx) (h t f l hx ht r)
theorem same_pair {a b : Addr} {f l f' l' : Int} {k : Nat} (h1 : xs[k]? = some (.ref a)) (h2 : xs[k]? = some (.ref b)) (h3 : H a = some (.tup [.int f, .int l])) (h4 : H b = some (.tup [.int f', .int l'])) : f = f' ∧ l = l' := by
  rw [h1] at h2
  cases h2
  rw [h3] at h4
  cases h4
  exact ⟨rfl, rfl⟩
theorem n_addA {q : Addr} (h1 : H p = some (.lst xs)) (h2 : H q = some (.lst ys)) (l1 : xs.length ≤ 500) (l2 : ys.length ≤ 500) (h : ∀ (l : Addr) (H' : Hp), H l = none → Same H H' → H' l = some (.lst (xs ++ ys)) → Q (.ref l) H') : uAdd (.ref p) (.ref q) H Q := n_addL h1 h2 (by rw [sizeLine_eq]; omega) h
theorem len_app {a b : Nat} (h1 : xs.length ≤ a) (h2 : ys.length ≤ b) : (xs ++ ys).length ≤ a + b := by rw [List.length_append]; omega
theorem len_cut {a : Nat} {lo hi : Option Int} (h1 : xs.length ≤ a) : (cutV xs lo hi).length ≤ a := Nat.le_trans cut_len h1
theorem len_set {a k : Nat} (h1 : xs.length ≤ a) : (xs.set k x).length ≤ a := by rw [List.length_set]; exact h1
theorem n_setAny (hp : H p = some (.lst xs)) (h0 : 0 ≤ i) (h1 : i < xs.length) (h : nx σ (upd H p (.lst (xs.set i.toNat x)))) : kSub2 rSetL (.ref p) x σ nx (.int i) H := w_ksubL hp (ixN_of h0 h1) h
end
theorem Pairs.keep {H H' : Hp} {ts : List Addr} {gs : List (Int × Int)} (h : Pairs H ts gs) (k : Same H H') : Pairs H' ts gs := ⟨h.len, fun j t f l h1 h2 => k _ _ (h.at_ j t f l h1 h2)⟩
theorem Pairs.drawn {H H' : Hp} {p : Addr} {ts : List Addr} {gs : List (Int × Int)} (h : Pairs H ts gs) (k : Drawn p H H') : Pairs H' ts gs := ⟨h.len, fun j t f l h1 h2 => k.tup (h.at_ j t f l h1 h2)⟩
theorem Pairs.put {H : Hp} {p : Addr} {xs ys : List V} {ts : List Addr} {gs : List (Int × Int)} (h : Pairs H ts gs) (hp : H p = some (.lst xs)) : Pairs (upd H p (.lst ys)) ts gs := ⟨h.len, fun j t f l h1 h2 => by
  have e := h.at_ j t f l h1 h2
  rw [upd_ne fun z => by rw [z, hp] at e; cases e]
  exact e⟩
theorem Pairs.snoc {H : Hp} {t : Addr} {f l : Int} {ts : List Addr} {gs : List (Int × Int)} (h : Pairs H ts gs) (ht : H t = some (.tup [.int f, .int l])) : Pairs H (ts ++ [t]) (gs ++ [(f, l)]) := by
  refine ⟨by rw [List.length_append, List.length_append, h.len]; rfl, fun j q a b hq hg => ?_⟩
  rcases Nat.lt_or_ge j ts.length with lt | ge
  · rw [List.getElem?_append_left lt] at hq
    rw [List.getElem?_append_left (by rw [← h.len]; exact lt)] at hg
    exact h.at_ j q a b hq hg
  · have hj := (List.getElem?_eq_some_iff.mp hq).1
    rw [List.length_append, List.length_singleton] at hj
    have ej : j = ts.length := by omega
    subst ej
    rw [List.getElem?_append_right (Nat.le_refl _), Nat.sub_self] at hq
    rw [h.len, List.getElem?_append_right (Nat.le_refl _), Nat.sub_self] at hg
    cases hq
    cases hg
    exact ht
theorem Pairs.rev {H : Hp} {ts : List Addr} {gs : List (Int × Int)} (h : Pairs H ts gs) : Pairs H ts.reverse gs.reverse := by
  refine ⟨by rw [List.length_reverse, List.length_reverse, h.len], fun j t f l h1 h2 => ?_⟩
  have hj := (List.getElem?_eq_some_iff.mp h1).1
  rw [List.length_reverse] at hj
  rw [List.getElem?_reverse hj] at h1
  rw [List.getElem?_reverse (by rw [← h.len]; exact hj), ← h.len] at h2
  exact h.at_ _ t f l h1 h2
theorem alike_pairs {H : Hp} {d : Nat} {a b : Addr} {ts ss : List Addr} {gs : List (Int × Int)} (ha : H a = some (.lst (ts.map V.ref))) (hb : H b = some (.lst (ss.map V.ref))) (A : Pairs H ts gs) (B : Pairs H ss gs) (h : gs.length ≤ 1000000) : Alike H (d + 3) (.ref a) (.ref b) := by
  refine alike_lst ha hb (by rw [List.length_map, List.length_map, A.len, B.len]) (by rw [List.length_map, A.len]; exact h) fun i x y hx hy => ?_
  obtain ⟨r, hr, rfl⟩ := ref_at hx
  obtain ⟨q, hq, rfl⟩ := ref_at hy
  have hi : i < gs.length := by rw [← A.len]; exact (List.getElem?_eq_some_iff.mp hr).1
  have hc : gs[i]? = some (gs[i].1, gs[i].2) := List.getElem?_eq_getElem hi
  exact alike_ptup (A.at_ i r _ _ hr hc) (B.at_ i q _ _ hq hc) (Nat.le_of_ble_eq_true rfl) (plain_ints [_, _])
end Rd
/-! Stat: C.m(..) of a staticmethod; a + b by an own method. -/
namespace Rd
open PySem PySem.Spec PyProof.Rows L2
/-- C.m is a staticmethod around the def at g -/
structure SMet (K : PySem.W.Frag) (C : Addr) (m : Str) (g : Addr) : Prop where
  rd : PySem.W.readsIn K C (.type "type") = true
  ga : PySem.W.specialIn K (.ref C) "__getattribute__" = some (some (.builtin "type.__getattribute__"))
  at_ : ∃ p rest, PySem.W.findCls K (.ref C) (.type "type") m = some (.get (.builtin "staticmethod.__get__") (.ref p) .none (.ref C)) ∧ PySem.W.recIn K p "staticmethod" = some (.ref g :: rest)
  kp : PySem.W.keepIn K (.ref g) = true
theorem Tx.stat {fa : List He.Fa} {fn : List He.DefD} {xa : List Xa} {fs : Fs} {P : Program} {w : World} {K : PySem.W.Frag} {mg : Str → Option Value} (T : Tx fa fn xa fs P w K mg) (i : Nat) {x m : Str} (h : xa[i]? = some (.stat x m) := by rfl) : SMet K (He.ga K x) m (wrapAt "staticmethod" x m K) := by
  obtain ⟨a, r⟩ := He.ba (T.all.own i h)
  obtain ⟨b, r⟩ := He.ba r
  obtain ⟨c, r⟩ := He.ba r
  have e : ∃ g rest, PySem.W.recIn K (He.ma K (He.ga K x) m) "staticmethod" = some (.ref g :: rest) ∧ PySem.W.keepIn K (.ref g) = true := by
    split at r
    · exact ⟨_, _, by assumption, r⟩
    · cases r
  obtain ⟨g, rest, e1, e2⟩ := e
  have w : wrapAt "staticmethod" x m K = g := by
    unfold wrapAt
    rw [e1]
  rw [w]
  exact ⟨a, He.eqO_ok b, ⟨_, rest, cf_ok c, e1⟩, e2⟩
theorem Tx.self1 {fa : List He.Fa} {fn : List He.DefD} {xa : List Xa} {fs : Fs} {P : Program} {w : World} {K : PySem.W.Frag} {mg : Str → Option Value} (T : Tx fa fn xa fs P w K mg) (i : Nat) {x : Str} (h : xa[i]? = some (.self1 x) := by rfl) : PySem.W.selfFirst K (He.ga K x) = true := T.all.own i h
structure StG (P : Program) (w : World) (K : PySem.W.Frag) (mg : Str → Option Value) (base : Heap) (CX : CXT) (k : Nat) (x m : Str) (ps : List Str) (sp : Sp) : Prop where
  ex : ∃ g fd, SMet K (He.ga K x) m g ∧ FnOk P w K mg base CX k g fd ps sp ∧ Binds K fd ps []
theorem Passes.at_ {CX : CXT} {X : Cx} {E : XK} (h : Passes CX X E) (σ : L2.St) : PassesAt CX X σ E := fun pins H s e s' I c => h pins σ H s e s' I c
/-- C.m(..) -/
def tStS (C : Addr) (sp : Sp) (E : L2.St → XK) (ta : TE) (t : TA) : TE := fun σ H Q => ta σ H fun x H1 => x = .ref C ∧ t σ H1 fun vs H2 => sp vs H2 Q (E σ)
/-- a + b, both of the class at C -/
def tBinS (C : Addr) (sp : Sp) (E : L2.St → XK) (ta tb : TE) : TE := fun σ H Q => ta σ H fun x H1 => tb σ H1 fun y H2 => ∃ a b dx fs dy gs, x = .ref a ∧ y = .ref b ∧ H2 a = some (.ins C dx fs) ∧ H2 b = some (.ins C dy gs) ∧ sp [x, y] H2 Q (E σ)
section
variable {X : Cx} {CX : CXT} {k : Nat} {C : Addr} {x m : Str} {ps : List Str} {sp : Sp} {E : L2.St → XK} {o e a b : Expr} {es : List Expr} {ta tb : TE} {t : TA} {p pos apos : Pos} {pl : Sem Bool}
theorem pe_stS (G : StG X.prog X.w X.K X.mg X.base CX k x m ps sp) (hr : Room k X.A) (hx : ∀ σ, PassesAt CX X σ (E σ)) (ho : PE X o ta) (ha : PA X (e :: es) t) (h1 : starEach (e :: es) X.env = (false, eval e X.env) :: starEach es X.env := by rfl) (h2 : (backTo pos (starEach es X.env)).any (·.1) = false := by rfl)
    (h3 : eval (.Call (.Attribute o m apos) (e :: es) [] pos) X.env = (eval o X.env >>= fun ov => standAt apos.atName >>= fun _ => holding [ov] (getMethod ov m pl) >>= fun fx => callWith pos fx.1 fx.2 (backTo pos (starEach (e :: es) X.env)) (backToKw pos (keywordEach [] X.env))) := by rfl) : PE X (.Call (.Attribute o m apos) (e :: es) [] pos) (tStS (He.ga X.K x) sp E ta t) where
  run := fun pins s σ H Q I h => by
    obtain ⟨g, fd, S, F, bd⟩ := G.ex
    obtain ⟨q, rest, f1, f2⟩ := S.at_
    refine PySem.W.methodCall_KW (pl := pl) (wpAny_mono (ho.run pins s σ H _ I h) (fun u s1 z => ?_) fun _ _ w => w) h3
    obtain ⟨y, H1, I1, ry, rfl, z⟩ := z
    cases (show u = Value.ref (He.ga X.K x) from ry)
    refine PySem.W.method_cls I1.kIn S.ga (PySem.W.cls_bind I1.kIn S.rd f1 (wpAny_call (PySem.W.sm_get (s := { s1 with toks := s1.toks + 1 }) I1.kIn f2 (PySem.W.handed_on rfl ?_))))
    have J := I1.tok (s1.toks + 1)
    refine PySem.W.callWith_K (first := []) (h₀ := X.base) I.ok.mod.kin S.kp (wpAny_mono (ha.run pos pins _ σ H1 _ J z) (fun us s2 y => ?_) fun _ _ w => w) h1 h2
    obtain ⟨vs, H2, I2, rv, q2⟩ := y
    exact ⟨I2.kIn, run_fnS (us := us) (vs := vs) F hr bd (hx σ) I2 rv q2⟩
theorem pe_stC (C : Addr) (hC : He.ga X.K x = C) (G : StG X.prog X.w X.K X.mg X.base CX k x m ps sp) (hr : Room k X.A) (hx : ∀ σ, PassesAt CX X σ (E σ)) (ho : PE X o ta) (ha : PA X (e :: es) t) (h1 : starEach (e :: es) X.env = (false, eval e X.env) :: starEach es X.env := by rfl) (h2 : (backTo pos (starEach es X.env)).any (·.1) = false := by rfl)
    (h3 : eval (.Call (.Attribute o m apos) (e :: es) [] pos) X.env = (eval o X.env >>= fun ov => standAt apos.atName >>= fun _ => holding [ov] (getMethod ov m pl) >>= fun fx => callWith pos fx.1 fx.2 (backTo pos (starEach (e :: es) X.env)) (backToKw pos (keywordEach [] X.env))) := by rfl) : PE X (.Call (.Attribute o m apos) (e :: es) [] pos) (tStS C sp E ta t) := hC ▸ pe_stS G hr hx ho ha h1 h2 h3
theorem pe_binS {op : Operator} (G : MtG X.prog X.w X.K X.mg X.base CX k C (PySem.dunder op.info.2) ps sp) (hs : PySem.W.selfFirst X.K C = true) (hr : Room k X.A) (hx : ∀ σ, PassesAt CX X σ (E σ)) (ha : PE X a ta) (hb : PE X b tb) : PE X (.BinOp a op b pos) (tBinS C sp E ta tb) where
  run := fun pins s σ H Q I h => wpAny_BinOp (binT ha hb I h fun v u s2 x y H2 I2 rx ry q => by
    obtain ⟨p1, p2, dx, fs, dy, gs, rfl, rfl, e1, e2, q⟩ := q
    obtain ⟨f, fd, mt, F, bd⟩ := G.ex
    obtain ⟨od, i1⟩ := inst_of I2 e1
    obtain ⟨od2, i2⟩ := inst_of I2 e2
    obtain ⟨_, fr⟩ := I2.fr
    cases rx
    cases ry
    refine PySem.W.binop_K fr I2.mod.kin i1 i2.type hs mt.at_ mt.fn (wpAny_mono (run_fnS (us := [.ref p1, .ref p2]) (vs := [.ref p1, .ref p2]) F hr bd (hx σ) I2 (.cons rfl (.cons rfl .nil)) q) (fun r s3 w => ?_) fun _ _ w => w)
    obtain ⟨z, H3, I3, rz, q3⟩ := w
    have ok : ∀ r', r' ≠ Value.notImplemented → PySem.W.CmpBack (EP X pins σ Q) r' s3 = EP X pins σ Q r' s3 := fun r' hn => by
      cases r' <;> first | rfl | exact absurd rfl hn
    rw [ok r (fun e => by subst e; cases z <;> first | (obtain ⟨_, e⟩ := rz; cases e) | cases rz)]
    exact ⟨z, H3, I3, rz, q3⟩)
end
def kSt (C : Addr) (sp : Sp) (E : XK) (t : TA) (σ : L2.St) (Q : VK) : VK := fun x H => x = .ref C ∧ t σ H fun vs H2 => sp vs H2 Q E
def kBin1 (C : Addr) (sp : Sp) (E : L2.St → XK) (tb : TE) (σ : L2.St) (Q : VK) : VK := fun x H => tBinS C sp E (tC x) tb σ H Q
def kBin2 (C : Addr) (sp : Sp) (E : XK) (x : V) (Q : VK) : VK := fun y H2 => ∃ a b dx fs dy gs, x = .ref a ∧ y = .ref b ∧ H2 a = some (.ins C dx fs) ∧ H2 b = some (.ins C dy gs) ∧ sp [x, y] H2 Q E
section
variable {C : Addr} {sp : Sp} {E : L2.St → XK} {E1 : XK} {ta tb : TE} {t : TA} {σ : L2.St} {H : Hp} {Q : VK} {x : V} {a b dx dy : Addr} {fs gs : List (Str × V)}
theorem w_stS (h : ta σ H (kSt C sp (E σ) t σ Q)) : tStS C sp E ta t σ H Q := h
theorem w_kst (h : t σ H (kCall sp [] E1 Q)) : kSt C sp E1 t σ Q (.ref C) H := ⟨rfl, by
  have e : kCall sp [] E1 Q = fun vs H1 => sp vs H1 Q E1 := funext fun vs => funext fun H1 => by
    show sp (vs ++ []) H1 Q E1 = _
    rw [List.append_nil]
  rw [e] at h; exact h⟩
theorem w_binS (h : ta σ H (kBin1 C sp E tb σ Q)) : tBinS C sp E ta tb σ H Q := h
theorem w_kbin1 (h : tb σ H (kBin2 C sp (E σ) x Q)) : kBin1 C sp E tb σ Q x H := h
theorem w_kbin2 (h1 : H a = some (.ins C dx fs)) (h2 : H b = some (.ins C dy gs)) (h : sp [.ref a, .ref b] H Q E1) : kBin2 C sp E1 (.ref a) Q (.ref b) H := ⟨a, b, dx, fs, dy, gs, rfl, rfl, h1, h2, h⟩
end
end Rd
/-! SeqA: slices, zip and for of a list or a tuple. -/
namespace Rd
open PySem PySem.Spec PyProof.Rows L2
def uSl (K : PySem.W.Frag) : V → Option Int → Option Int → Hp → VK → Prop := fun x lo hi H Q => rSlL K x lo hi H Q ∨ rSlA K x lo hi H Q
theorem oSl {X : Cx} : SlR X (uSl X.K) := SlR.or sl_list sl_tupA
theorem oSlK {X : Cx} (K : PySem.W.Frag) (e : X.K = K) : SlR X (uSl K) := e ▸ oSl
theorem cut_whole {xs : List V} {lo hi : Option Int} (h : HT.sIx xs.length 0 lo = 0 ∧ HT.sIx xs.length xs.length hi = xs.length) : cutV xs lo hi = xs := by
  unfold cutV
  rw [h.1, h.2, List.drop_zero, Nat.sub_zero, List.take_length]
def kZA (K : PySem.W.Frag) (g : TG) (tb : TS) (D : Ends) (σ : L2.St) : List V → Hp → Prop := fun vs H => tFor (RZ.iZipA K (tAc vs)) g tb D σ H
section
variable {K : PySem.W.Frag} {H : Hp} {Q : VK} {p : Addr} {xs : List V} {lo hi : Option Int} {g : TG} {tb : TS} {D : Ends} {σ : L2.St} {tl : TA}
theorem n_usL (hs : H p = some (.lst xs)) (h : ∀ (l : Addr) (H' : Hp), H l = none → Same H H' → H' l = some (.lst (cutV xs lo hi)) → Q (.ref l) H') : uSl K (.ref p) lo hi H Q := .inl ⟨p, xs, rfl, SqL.of hs, fun q hq => h q _ hq (same_new hq) upd_same⟩
theorem n_usT (hs : H p = some (.tup xs)) (h : ∀ (l : Addr) (H' : Hp), Same H H' → H' l = some (.tup (cutV xs lo hi)) → Q (.ref l) H') : uSl K (.ref p) lo hi H Q :=
  .inr ⟨p, xs, rfl, SqT.of hs, fun w => h p H (Same.refl H) (by rw [cut_whole w]; exact hs), fun _ q hq => h q _ (same_new hq) upd_same⟩
theorem w_forZA (h : tl σ H (kZA K g tb D σ)) : tFor (RZ.iZipA K tl) g tb D σ H := h
theorem w_lcA {a b : TI} {tt : TT} {te : TE} {vs : List Nat} (h : tLc a g tt te vs σ H Q) : tLc (iOr a b) g tt te vs σ H Q := .inl h
theorem w_lcB {a b : TI} {tt : TT} {te : TE} {vs : List Nat} (h : tLc b g tt te vs σ H Q) : tLc (iOr a b) g tt te vs σ H Q := .inr h
end
theorem walk_zipT {K : PySem.W.Frag} {a b : Addr} {xs ys : List V} {n : Nat} (hn : n = min xs.length ys.length) : Walk (RZ.ItzT K a b) n (fun H => SqT K H a xs ∧ SqT K H b ys) (YPair (fun i => xs[i]?) (fun i => ys[i]?)) where
  goes := fun i _ hi h => by
    have l1 : i < xs.length := by omega
    have l2 : i < ys.length := by omega
    exact ⟨xs, ys, _, _, h.1, h.2, List.getElem?_eq_getElem l1, List.getElem?_eq_getElem l2⟩
  stops := fun _ h => ⟨xs, ys, h.1, h.2, by omega⟩
  yields := fun i _ _ _ _ h y => let ⟨T, x, z, e1, e2, e3, e4, e5⟩ := y; ⟨T, x, z, e1, e2, e3, e4 xs h.1, e5 ys h.2⟩
/-! ### for x in reversed(range(n)) -/
def kRv1 (g : TG) (tb : TS) (D : Ends) (σ : L2.St) : VK := fun x H => tFor (iRevR (tRg1 (tC x))) g tb D σ H
section
variable {g : TG} {tb : TS} {D : Ends} {σ : L2.St} {H : Hp} {te : TE}
theorem w_forRv (h : te σ H (kRv1 g tb D σ)) : tFor (iRevR (tRg1 te)) g tb D σ H := h
theorem for_rev {n : Nat} (Pv : Nat → L2.St → Hp → Prop) (h62 : (n : Int) < 2 ^ 62) (h0 : Pv 0 σ H) (hs : ∀ i σ H, i < n → Pv i σ H → g (.int ((n : Int) - 1 - i)) σ H fun σ2 H2 => tb { D with nx := Pv (i + 1), ct := Pv (i + 1), bk := D.nx } σ2 H2) (hd : ∀ σ H, Pv n σ H → D.nx σ H) : kRv1 g tb D σ (.int n) H := by
  refine ⟨n, rfl, by omega, by omega, by omega, h62, ?_⟩
  have e : ((n : Int) - 0).toNat = n := by omega
  rw [e]
  refine for_rangeC (n := n) Pv h0 (fun i σ H hi p => ?_) hd
  rw [show (0 : Int) + (n : Int) - 1 + (i : Nat) * (-1) = (n : Int) - 1 - i by omega]
  exact hs i σ H hi p
end
end Rd
/-! OpI: an own operator beside an int. -/
namespace Rd
open PySem PySem.Spec PyProof.Rows PySem.W PySem.Calls
section
variable {prog : Program} {w : World} {A : Around} {E : Value → Shared → Prop} {s : Shared} {K : Frag} {x C L f : Addr} {h₀ : Heap} {m : Str → Option Value} {ox : Obj} {od : Option Obj}
/-- the class's slot goes by name -/
theorem inPython {M : Model} {h : Heap} {nm : String} {r : Option Value} (X : K.In h) (hs : findIn K (.ref C) (PySem.dunder nm) = some (some (.ref f))) (hr : findIn K (.ref C) (dunderR nm) = some r) (hb : ∀ id, r ≠ some (.builtin id)) : Looks M h (numberSlotInPython (.ref C) nm) true := by
  unfold numberSlotInPython
  refine (looks_findIn X hs).andThen ?_
  refine (Looks.of_pure rfl).andThen ?_
  refine (looks_findIn X hr).andThen ?_
  have e : ∃ b, calledByName (.ref C) (dunderR nm) r = pure b := by
    cases r with
    | none => exact ⟨false, rfl⟩
    | some v =>
      cases v with
      | builtin id => exact absurd rfl (hb id)
      | _ => exact ⟨true, rfl⟩
  obtain ⟨b, e⟩ := e
  refine (Looks.of_pure e).andThen ?_
  exact .now
theorem binop_KI {op : Operator} {j : Int} {t : Tok} {r rt : Option Value} {Q : Value → Shared → Prop} (F : Fr h₀ L s.heap m) (X₀ : K.In h₀) (I : InstAt s.heap x ox C od) (hc : selfFirst K C = true)
    (hs : findIn K (.ref C) (PySem.dunder op.info.2) = some (some (.ref f))) (hf : isFn K (.ref f) = true) (hr : findIn K (.ref C) (dunderR op.info.2) = some r) (hb : ∀ id, r ≠ some (.builtin id)) (fi : fillsNumberSlot (.type "int") op.info.2 = pure true) (ti : typeLookup (.type "int") (dunderR op.info.2) = pure rt)
    (h : wpAny (model prog w) A (call (.ref f) [.ref x, .int j t]) (PySem.W.CmpBack Q) E s) : wpAny (model prog w) A (binaryOp op (.ref x) (.int j t)) Q E s := by
  have X := X₀.keeps F.keep
  obtain ⟨cd, hcd, hm⟩ := any_some hc
  obtain ⟨rest, hm⟩ : ∃ rest, cd.mro = .ref C :: rest := by
    cases q : cd.mro with
    | nil => rw [q] at hm; cases hm
    | cons a r => rw [q] at hm; exact ⟨r, by rw [List.head?_cons] at hm; cases (beq_iff_eq.mp hm); rfl⟩
  have sub : Looks (model prog w) s.heap (isSubtype (.type "int") (.ref C)) false := looks_subIn X (by
    show (fastBuiltinMro "int").map (·.contains (.ref C)) = some false
    kernel_rfl)
  unfold binaryOp
  refine wpAny_holding (wpAny_bind ?_)
  show wpAny _ _ (binaryOp1 op.info.2 _ _) _ _ _
  generalize op.info.2 = nm at hs hr fi ti
  unfold binaryOp1
  refine wpAny_bind (I.type.here (wpAny_bind (wpAny_pure (wpAny_bind ((fills_K X hcd hm hs).here ?_)))))
  simp only [show (Value.ref C == Value.type "int") = false from rfl, Bool.false_eq_true, if_false]
  rw [fi]
  refine wpAny_bind (wpAny_pure ?_)
  simp only [Bool.and_self, if_true]
  refine wpAny_bind (sub.here ?_)
  simp only [Bool.false_eq_true, if_false]
  simp only [Bool.not_false, Bool.and_self, if_true]
  refine wpAny_bind ((inPython X hs hr hb).here ?_)
  simp only [if_true]
  refine wpAny_bind (wpAny_pure ?_)
  simp only [Bool.not_false, if_true]
  rw [ti]
  refine wpAny_bind (wpAny_pure ?_)
  refine wpAny_bind (m := tryMethod (.ref x) _ _) ?_
  unfold tryMethod
  refine wpAny_bind (special_fn X I hs (beq_iff_eq.mp hf) (wpAny_mono h (fun v s' hv => ?_) fun _ _ e => e))
  cases v <;> first | exact hv.elim | exact wpAny_pure (wpAny_pure (wpAny_pure hv))
theorem int_declines {nm id nn : String} {g : Int → Int → Sem Fin} {j : Int} {t : Tok} {Q : Option Value → Shared → Prop} (hx : s.heap.get? x = some ox) (hn : ∀ p, ox.data ≠ .prim p) (slot : Slot "int" (PySem.dunder nm) id) (entry : entryFor table id = some (PySem.Builtin.Int.intBinary nn g)) (ag : ∀ a b, argsOk id ⟨[a, b], []⟩)
    (hQ : Q none s) : wpAny (model prog w) A (tryMethod (.int j t) (PySem.dunder nm) (.ref x)) Q E s := by
  refine wpAny_tryMethod_declines (typeIs_int s j t) slot ?_
  refine wpAny_call (codeAny_call_builtin slot.plain entry (slot.check _ _ _ _ _ _ _ _ (typeIs_int s j t) (ag _ _) ?_))
  show wpAny _ _ (PySem.Builtin.Int.intBinary nn g false ⟨[.int j t, .ref x], []⟩) _ _ _
  unfold PySem.Builtin.Int.intBinary slotArgs PySem.Builtin.Int.intOfSelf asInt?
  refine wpAny_bind (wpAny_pure ?_)
  refine wpAny_bind (wpAny_bind (wpAny_pure (wpAny_pure ?_)))
  refine wpAny_bind (wpAny_bind (wpAny_load hx ?_))
  cases hd : ox.data with
  | prim p => exact absurd hd (hn p)
  | _ => exact wpAny_pure (wpAny_bind (wpAny_rule (wpAny_pure ⟨rfl, hQ⟩)))
theorem binop_IK {op : Operator} {id nn : String} {g : Int → Int → Sem Fin} {f0 : Addr} {j : Int} {t : Tok} {Q : Value → Shared → Prop} (F : Fr h₀ L s.heap m) (X₀ : K.In h₀) (I : InstAt s.heap x ox C od) (hn : ∀ p, ox.data ≠ .prim p) (hc : selfFirst K C = true)
    (hs : findIn K (.ref C) (PySem.dunder op.info.2) = some (some (.ref f0))) (hr : findIn K (.ref C) (dunderR op.info.2) = some (some (.ref f))) (hf : isFn K (.ref f) = true) (hi : subIn K (.ref C) (.type "int") = some false) (fi : fillsNumberSlot (.type "int") op.info.2 = pure true)
    (slot : Slot "int" (PySem.dunder op.info.2) id) (entry : entryFor table id = some (PySem.Builtin.Int.intBinary nn g)) (ag : ∀ a b, argsOk id ⟨[a, b], []⟩)
    (h : wpAny (model prog w) A (call (.ref f) [.ref x, .int j t]) (PySem.W.CmpBack Q) E s) : wpAny (model prog w) A (binaryOp op (.int j t) (.ref x)) Q E s := by
  have X := X₀.keeps F.keep
  obtain ⟨cd, hcd, hm⟩ := any_some hc
  obtain ⟨rest, hm⟩ : ∃ rest, cd.mro = .ref C :: rest := by
    cases q : cd.mro with
    | nil => rw [q] at hm; cases hm
    | cons a r => rw [q] at hm; exact ⟨r, by rw [List.head?_cons] at hm; cases (beq_iff_eq.mp hm); rfl⟩
  unfold binaryOp
  refine wpAny_holding (wpAny_bind ?_)
  show wpAny _ _ (binaryOp1 op.info.2 _ _) _ _ _
  generalize op.info.2 = nm at hs hr fi slot
  unfold binaryOp1
  refine wpAny_bind (wpAny_pure (wpAny_bind (I.type.here (wpAny_bind ?_))))
  rw [fi]
  refine wpAny_pure ?_
  simp only [show (Value.type "int" == Value.ref C) = false from rfl, Bool.false_eq_true, if_false]
  refine wpAny_bind ((fills_K X hcd hm hs).here ?_)
  simp only [Bool.and_self, if_true]
  refine wpAny_bind ((looks_subIn X hi).here ?_)
  simp only [Bool.false_eq_true, if_false, Bool.not_false, Bool.and_self, if_true]
  refine wpAny_bind (wpAny_pure ?_)
  simp only [Bool.false_eq_true, if_false]
  refine wpAny_bind (int_declines I.at_ hn slot entry ag ?_)
  dsimp only
  refine wpAny_bind (m := tryMethod (.ref x) _ _) ?_
  unfold tryMethod
  refine wpAny_bind (special_fn X I hr (beq_iff_eq.mp hf) (wpAny_mono h (fun v s' hv => ?_) fun _ _ e => e))
  cases v <;> first | exact hv.elim | exact wpAny_pure (wpAny_bind (wpAny_rule (wpAny_pure (wpAny_pure hv))))
end
end Rd
namespace Rd
open PySem PySem.Spec PyProof.Rows L2
/-- o + j: the own method of o -/
def tBinI (C : Addr) (sp : Sp) (E : L2.St → XK) (ta tb : TE) : TE := fun σ H Q => ta σ H fun x H1 => tb σ H1 fun y H2 => ∃ a dx fs j, x = .ref a ∧ y = .int j ∧ H2 a = some (.ins C dx fs) ∧ sp [x, y] H2 Q (E σ)
/-- j + o: the own reflected method of o -/
def tBinR (C : Addr) (sp : Sp) (E : L2.St → XK) (ta tb : TE) : TE := fun σ H Q => ta σ H fun x H1 => tb σ H1 fun y H2 => ∃ a dx fs j, x = .int j ∧ y = .ref a ∧ H2 a = some (.ins C dx fs) ∧ sp [y, x] H2 Q (E σ)
section
variable {X : Cx} {CX CX' : CXT} {k k' : Nat} {C : Addr} {ps ps' : List Str} {sp sp' : Sp} {E : L2.St → XK} {a b : Expr} {ta tb : TE} {pos : Pos}
theorem back_of {pins : List (Addr × Obj)} {σ : L2.St} {Q : VK} {r : Value} {s3 : Shared} (w : EP X pins σ Q r s3) : PySem.W.CmpBack (EP X pins σ Q) r s3 := by
  obtain ⟨z, H3, I3, rz, q3⟩ := id w
  cases r with
  | notImplemented => cases z <;> first | (obtain ⟨_, e⟩ := rz; cases e) | cases rz
  | _ => exact w
theorem pe_binI {op : Operator} {r rt : Option Value} (G : MtG X.prog X.w X.K X.mg X.base CX k C (PySem.dunder op.info.2) ps sp) (hs : PySem.W.selfFirst X.K C = true) (hR : PySem.W.findIn X.K (.ref C) (dunderR op.info.2) = some r) (hb' : ∀ id, r ≠ some (.builtin id)) (fi : fillsNumberSlot (.type "int") op.info.2 = pure true) (ti : typeLookup (.type "int") (dunderR op.info.2) = pure rt)
    (hr : Room k X.A) (hx : ∀ σ, PassesAt CX X σ (E σ)) (ha : PE X a ta) (hb : PE X b tb) : PE X (.BinOp a op b pos) (tBinI C sp E ta tb) where
  run := fun pins s σ H Q I h => wpAny_BinOp (binT ha hb I h fun v u s2 x y H2 I2 rx ry q => by
    obtain ⟨p1, dx, fs, j, rfl, rfl, e1, q⟩ := q
    obtain ⟨f, fd, mt, F, bd⟩ := G.ex
    obtain ⟨od, i1⟩ := inst_of I2 e1
    obtain ⟨_, fr⟩ := I2.fr
    cases rx
    obtain ⟨t, rfl⟩ := ry
    exact binop_KI fr I2.mod.kin i1 hs mt.at_ mt.fn hR hb' fi ti (wpAny_mono (run_fnS (us := [.ref p1, .int j t]) (vs := [.ref p1, .int j]) F hr bd (hx σ) I2 (.cons rfl (.cons ⟨t, rfl⟩ .nil)) q) (fun r s3 w => back_of w) fun _ _ w => w))
theorem pe_binR {op : Operator} {id nn : String} {g : Int → Int → Sem PySem.Fin} (G0 : MtG X.prog X.w X.K X.mg X.base CX' k' C (PySem.dunder op.info.2) ps' sp') (G : MtG X.prog X.w X.K X.mg X.base CX k C (dunderR op.info.2) ps sp) (hs : PySem.W.selfFirst X.K C = true) (hi : PySem.W.subIn X.K (.ref C) (.type "int") = some false) (fi : fillsNumberSlot (.type "int") op.info.2 = pure true)
    (slot : Slot "int" (PySem.dunder op.info.2) id) (entry : entryFor table id = some (PySem.Builtin.Int.intBinary nn g)) (ag : ∀ a b, argsOk id ⟨[a, b], []⟩)
    (hr : Room k X.A) (hx : ∀ σ, PassesAt CX X σ (E σ)) (ha : PE X a ta) (hb : PE X b tb) : PE X (.BinOp a op b pos) (tBinR C sp E ta tb) where
  run := fun pins s σ H Q I h => wpAny_BinOp (binT ha hb I h fun v u s2 x y H2 I2 rx ry q => by
    obtain ⟨p1, dx, fs, j, rfl, rfl, e1, q⟩ := q
    obtain ⟨f0, fd0, mt0, _, _⟩ := G0.ex
    obtain ⟨f, fd, mt, F, bd⟩ := G.ex
    obtain ⟨od, i1⟩ := inst_of I2 e1
    obtain ⟨_, fr⟩ := I2.fr
    cases ry
    obtain ⟨t, rfl⟩ := rx
    exact binop_IK fr I2.mod.kin i1 (fun p z => nomatch z) hs mt0.at_ mt.at_ mt.fn hi fi slot entry ag (wpAny_mono (run_fnS (us := [.ref p1, .int j t]) (vs := [.ref p1, .int j]) F hr bd (hx σ) I2 (.cons rfl (.cons ⟨t, rfl⟩ .nil)) q) (fun r s3 w => back_of w) fun _ _ w => w))
end
end Rd
/-! ClsF: C.m(self, ..) read off the class; C.f, an int. -/
namespace Rd
open PySem PySem.Spec PyProof.Rows L2
structure CFun (K : PySem.W.Frag) (C : Addr) (m : Str) (g : Addr) : Prop where
  rd : PySem.W.readsIn K C (.type "type") = true
  ga : PySem.W.specialIn K (.ref C) "__getattribute__" = some (some (.builtin "type.__getattribute__"))
  at_ : PySem.W.findCls K (.ref C) (.type "type") m = some (.val (.ref g))
  kp : PySem.W.keepIn K (.ref g) = true
section
variable {fa : List He.Fa} {fn : List He.DefD} {xa : List Xa} {fs : Fs} {P : Program} {w : World} {K : PySem.W.Frag} {mg : Str → Option Value}
theorem Tx.cfun (T : Tx fa fn xa fs P w K mg) (i : Nat) {x m : Str} (h : xa[i]? = some (.cfun x m) := by rfl) : CFun K (He.ga K x) m (He.ma K (He.ga K x) m) := by
  obtain ⟨a, r⟩ := He.ba (T.all.own i h)
  obtain ⟨b, r⟩ := He.ba r
  obtain ⟨c, d⟩ := He.ba r
  refine ⟨a, He.eqO_ok b, ?_, d⟩
  split at c
  · rename_i g e
    rw [e, of_decide_eq_true c]
  · cases c
theorem Tx.cint (T : Tx fa fn xa fs P w K mg) (i : Nat) {x f : Str} {n : Int} (h : xa[i]? = some (.cint x f n) := by rfl) : ClX.CRead K (He.ga K x) (.type "type") ∧ ∃ u, ClX.CVal K (He.ga K x) (.type "type") f (.int n) u := by
  obtain ⟨a, r⟩ := He.ba (T.all.own i h)
  obtain ⟨b, c⟩ := He.ba r
  refine ⟨⟨a, He.eqO_ok b⟩, ?_⟩
  split at c
  · rename_i j t e
    cases of_decide_eq_true c
    exact ⟨_, e, ⟨t, rfl⟩⟩
  · cases c
theorem Tx.noint (T : Tx fa fn xa fs P w K mg) (i : Nat) {x : Str} (h : xa[i]? = some (.noint x) := by rfl) : PySem.W.subIn K (.ref (He.ga K x)) (.type "int") = some false := of_decide_eq_true (T.all.own i h)
end
structure CfG (P : Program) (w : World) (K : PySem.W.Frag) (mg : Str → Option Value) (base : Heap) (CX : CXT) (k : Nat) (x m : Str) (ps : List Str) (sp : Sp) : Prop where
  ex : ∃ g fd, CFun K (He.ga K x) m g ∧ FnOk P w K mg base CX k g fd ps sp ∧ Binds K fd ps []
section
variable {X : Cx} {CX : CXT} {k : Nat} {x m f : Str} {ps : List Str} {sp : Sp} {E : L2.St → XK} {o e : Expr} {es : List Expr} {ta : TE} {t : TA} {pos apos : Pos} {pl : Sem Bool} {n : Int}
theorem pe_cfS (G : CfG X.prog X.w X.K X.mg X.base CX k x m ps sp) (hr : Room k X.A) (hx : ∀ σ, PassesAt CX X σ (E σ)) (ho : PE X o ta) (ha : PA X (e :: es) t) (h1 : starEach (e :: es) X.env = (false, eval e X.env) :: starEach es X.env := by rfl) (h2 : (backTo pos (starEach es X.env)).any (·.1) = false := by rfl)
    (h3 : eval (.Call (.Attribute o m apos) (e :: es) [] pos) X.env = (eval o X.env >>= fun ov => standAt apos.atName >>= fun _ => holding [ov] (getMethod ov m pl) >>= fun fx => callWith pos fx.1 fx.2 (backTo pos (starEach (e :: es) X.env)) (backToKw pos (keywordEach [] X.env))) := by rfl) : PE X (.Call (.Attribute o m apos) (e :: es) [] pos) (tStS (He.ga X.K x) sp E ta t) where
  run := fun pins s σ H Q I h => by
    obtain ⟨g, fd, S, F, bd⟩ := G.ex
    refine PySem.W.methodCall_KW (pl := pl) (wpAny_mono (ho.run pins s σ H _ I h) (fun u s1 z => ?_) fun _ _ w => w) h3
    obtain ⟨y, H1, I1, ry, rfl, z⟩ := z
    cases (show u = Value.ref (He.ga X.K x) from ry)
    refine PySem.W.method_cls I1.kIn S.ga (PySem.W.cls_value I1.kIn S.rd S.at_ rfl ?_)
    have J := I1.tok (s1.toks + 1)
    refine PySem.W.callWith_K (first := []) (h₀ := X.base) I.ok.mod.kin S.kp (wpAny_mono (ha.run pos pins _ σ H1 _ J z) (fun us s2 y => ?_) fun _ _ w => w) h1 h2
    obtain ⟨vs, H2, I2, rv, q2⟩ := y
    exact ⟨I2.kIn, run_fnS (us := us) (vs := vs) F hr bd (hx σ) I2 rv q2⟩
theorem pe_weak {t t' : TE} (p : PE X e t) (w : ∀ σ H Q, t' σ H Q → t σ H Q) : PE X e t' := ⟨fun pins s σ H Q I h => p.run pins s σ H Q I (w σ H Q h)⟩
theorem pe_cint (C : Addr) (c : ClX.CRead X.K C (.type "type") ∧ ∃ u, ClX.CVal X.K C (.type "type") f (.int n) u) (he : PE X e (tC (.ref C))) (hb : attributeBase e f X.env (eval e X.env) = eval e X.env := by rfl) : PE X (.Attribute e f pos) (tC (.int n)) :=
  pe_weak (ClX.pe_cval he hb) fun σ H Q h => let ⟨r, u, v⟩ := c; ⟨C, _, _, u, rfl, r, v, h⟩
end
end Rd
/-! StrR: texts: times, methods, loops over their signs, slices, numbers. -/
namespace Rd
open PySem PySem.Spec PyProof.Rows L2 SX
def rMulS : R2 := fun x y H Q => match x, y with
  | .str a, .int k => MulOk a k ∧ Q (.str (Txt.mul a k)) H
  | _, _ => False
def rFind : V → List V → Hp → VK → Prop := fun x xs H Q => match x, xs with
  | .str a, [.str b] => Q (.int (Txt.find a b)) H
  | _, _ => False
def rRemP : V → List V → Hp → VK → Prop := fun x xs H Q => match x, xs with
  | .str a, [.str b] => a.length ≤ sizeLine ∧ Q (.str (Txt.removeprefix a b)) H
  | _, _ => False
def rJoin (K : PySem.W.Frag) : V → List V → Hp → VK → Prop := fun x xs H Q => match x, xs with
  | .str a, [.ref p] => ∃ ys : List Str, SqL K H p (ys.map V.str) ∧ (ys.map (·.length)).sum + ys.length * a.length ≤ 16777216 ∧ Q (.str (Txt.join a ys)) H
  | _, _ => False
def rIntS : List V → Hp → VK → Prop := fun xs H Q => match xs with
  | [.str a] => ∃ n, PySem.intText? a = some n ∧ a.length ≤ 640 ∧ Q (.int n) H
  | _ => False
def rStrI : List V → Hp → VK → Prop := fun xs H Q => match xs with
  | [.int i] => i.natAbs.log2 < 1920 ∧ Q (.str (Str.ofString (toString i))) H
  | _ => False
section
variable {X : Cx}
theorem oMulS : OpR X (binaryOp .Mult) rMulS := by
  intro pins s σ H x y u v Q I rx ry h
  cases x <;> cases y <;> first | exact h.elim | skip
  obtain ⟨t, rfl⟩ := rx
  obtain ⟨t', rfl⟩ := ry
  exact PySem.SB.mul h.1 fun t' k => ⟨.str _, H, I.tok _, ⟨_, rfl⟩, h.2⟩
theorem mFind : MtR X "str.find" rFind := by
  intro pins s σ H x xs v us Q I rx rs h
  unfold rFind at h
  split at h
  · exact mt_find pins s σ H _ _ v us Q I rx rs ⟨_, _, rfl, rfl, h⟩
  · exact h.elim
theorem mRemP : MtR X "str.removeprefix" rRemP := by
  intro pins s σ H x xs v us Q I rx rs h
  unfold rRemP at h
  split at h
  · exact mt_removeprefix pins s σ H _ _ v us Q I rx rs ⟨_, _, rfl, rfl, h⟩
  · exact h.elim
theorem mJoin : MtR X "str.join" (rJoin X.K) := by
  intro pins s σ H x xs v us Q I rx rs h
  unfold rJoin at h
  split at h
  · obtain ⟨ys, h1, h2, h3⟩ := h
    exact mt_join pins s σ H _ _ v us Q I rx rs ⟨_, _, ys, rfl, rfl, .inl h1, h2, h3⟩
  · exact h.elim
theorem cIntS : CallR X (.type "int") rIntS := by
  intro pins s σ H xs us Q I r h
  unfold rIntS at h
  split at h
  · obtain ⟨n, h1, h2, h3⟩ := h
    exact call_int_str pins s σ H _ us Q I r ⟨_, n, rfl, h1, h2, h3⟩
  · exact h.elim
theorem cStr : CallR X (.type "str") rStrI := by
  intro pins s σ H xs us Q I r h
  unfold rStrI at h
  split at h
  · exact call_str_int pins s σ H _ us Q I r ⟨_, rfl, h.1, h.2⟩
  · exact h.elim
end
def kM1 (r : V → List V → Hp → VK → Prop) (te : TE) (σ : L2.St) (Q : VK) : VK := fun x H => tM1 r (tC x) te σ H Q
def kM2 (r : V → List V → Hp → VK → Prop) (x : V) (Q : VK) : VK := fun y H => r x [y] H Q
def kFS (g : TG) (tb : TS) (D : Ends) (σ : L2.St) : VK := fun x H => tFor (iStr (tC x)) g tb D σ H
def kCS (g : TG) (tt : TT) (ty : TE) (vs : List Nat) (σ : L2.St) (Q : VK) : VK := fun x H => tLc (iStr (tC x)) g tt ty vs σ H Q
section
variable {K : PySem.W.Frag} {σ : L2.St} {H : Hp} {Q : VK} {te to : TE} {x y : V} {z a b : Str} {i k : Int} {c : Nat} {r : V → List V → Hp → VK → Prop} {g : TG} {tb : TS} {D : Ends} {tt : TT} {vs : List Nat} {p : Addr}
theorem w_m1 (h : to σ H (kM1 r te σ Q)) : tM1 r to te σ H Q := h
theorem w_km1 (h : te σ H (kM2 r (.str a) Q)) : kM1 r te σ Q (.str a) H := ⟨⟨a, rfl⟩, h⟩
theorem w_km2 (h : r x [y] H Q) : kM2 r x Q y H := h
theorem w_forS (h : te σ H (kFS g tb D σ)) : tFor (iStr te) g tb D σ H := h
theorem w_lcS (h : te σ H (kCS g tt to vs σ Q)) : tLc (iStr te) g tt to vs σ H Q := h
theorem w_find (h : Q (.int (Txt.find a b)) H) : rFind (.str a) [.str b] H Q := h
theorem w_remP (hl : a.length ≤ sizeLine) (h : Q (.str (Txt.removeprefix a b)) H) : rRemP (.str a) [.str b] H Q := ⟨hl, h⟩
theorem w_join {ys : List Str} (hp : H p = some (.lst (ys.map V.str))) (hl : (ys.map (·.length)).sum + ys.length * a.length ≤ 16777216) (h : Q (.str (Txt.join a ys)) H) : rJoin K (.str a) [.ref p] H Q := ⟨ys, SqL.of hp, hl, h⟩
theorem w_mulS (hk : MulOk a k) (h : Q (.str (Txt.mul a k)) H) : rMulS (.str a) (.int k) H Q := ⟨hk, h⟩
theorem w_intS {n : Int} (h1 : PySem.intText? a = some n) (h2 : a.length ≤ 640) (h : Q (.int n) H) : rIntS [.str a] H Q := ⟨n, h1, h2, h⟩
theorem w_strI (h1 : i.natAbs.log2 < 1920) (h : Q (.str (Str.ofString (toString i))) H) : rStrI [.int i] H Q := ⟨h1, h⟩
theorem w_inS (h : Q (.bl (decide (c ∈ z.cps.toList))) H) : rInS (.str ⟨#[c]⟩) (.str z) H Q := ⟨c, z, rfl, rfl, h⟩
theorem w_notInS (h : Q (.bl (!decide (c ∈ z.cps.toList))) H) : rNotInS (.str ⟨#[c]⟩) (.str z) H Q := ⟨c, z, rfl, rfl, h⟩
theorem w_any {bs : List Bool} (hp : H p = some (.lst (bs.map V.bl))) (h : Q (.bl (bs.any id)) H) : rAny K [.ref p] H Q := ⟨p, bs, rfl, SqL.of hp, h⟩
theorem w_all {bs : List Bool} (hp : H p = some (.lst (bs.map V.bl))) (h : Q (.bl (bs.all id)) H) : rAll K [.ref p] H Q := ⟨p, bs, rfl, SqL.of hp, h⟩
theorem w_slS {lo hi : Option Int} (hl : z.length ≤ sizeLine) (h : Q (.str (Txt.slice z lo hi)) H) : C8.rSlX (.str z) lo hi H Q := ⟨z, rfl, hl, h⟩
theorem for_S (Pv : Nat → L2.St → Hp → Prop) (h0 : Pv 0 σ H)
    (step : ∀ i c σ H, z.cps.toList[i]? = some c → Pv i σ H → g (.str ⟨#[c]⟩) σ H fun σ2 H2 => tb { D with nx := Pv (i + 1), ct := Pv (i + 1), bk := D.nx } σ2 H2)
    (done : ∀ σ H, Pv z.length σ H → D.nx σ H) : kFS g tb D σ (.str z) H := by
  refine ⟨z, rfl, for_it walk_str Pv h0 (fun _ _ _ _ _ => trivial) ?_ done⟩
  rintro i x σ H H' _ p ⟨rfl, c, hc, rfl⟩
  exact step i c σ _ (by simpa using hc) p
theorem lc_S {G : Hp → Hp → Prop} (gs : GoesOn G H) (R : Nat → List V → Prop) (r0 : R 0 [])
    (step : ∀ (D : Addr) i c acc H1, H D = none → z.cps.toList[i]? = some c → R i acc → G H H1 → H1 D = some (.lst acc) → LcStep G H D R g tt to vs σ i (.str ⟨#[c]⟩) H1)
    (done : ∀ (l : Addr) (acc : List V) (H' : Hp), H l = none → G H H' → H' l = some (.lst acc) → R z.length acc → Q (.ref l) H') : kCS g tt to vs σ Q (.str z) H := by
  refine ⟨z, rfl, fun D hD => lc_it walk_str (LcP G H D R) ⟨[], upd_same, gs.put gs.refl hD, r0⟩ (fun _ _ _ _ => trivial) ?_ ?_⟩
  · rintro i x H0 H' _ ⟨acc, ha, s, r⟩ ⟨rfl, c, hc, rfl⟩
    exact step D i c acc _ hD (by simpa using hc) r s ha
  · rintro H' ⟨acc, ha, s, r⟩
    exact done D acc H' hD s ha r
/-! by length alone -/
theorem cat_len (a b : Str) : (a ++ b).length = a.length + b.length := by rw [TL.len_tl, TL.tl_append, List.length_append, ← TL.len_tl, ← TL.len_tl]
theorem n_addS {m n : Nat} (ha : a.length ≤ m) (hb : b.length ≤ n) (hl : (m + n).ble 1000000 = true) (h : ∀ s : Str, s.length = a.length + b.length → s.length ≤ m + n → Q (.str s) H) : uAdd (.str a) (.str b) H Q :=
  w_addS (by have := Nat.le_of_ble_eq_true hl; rw [sizeLine_eq]; omega) (h _ (cat_len a b) (by rw [cat_len]; omega))
theorem n_mulS {m : Nat} (ha : a.length ≤ 1) (h0 : -5 ≤ k) (hk : k ≤ (m : Int)) (hm : m.ble 1000000 = true) (h : ∀ s : Str, s.length ≤ m → Q (.str s) H) : rMulS (.str a) (.int k) H Q := by
  have := Nat.le_of_ble_eq_true hm
  refine w_mulS (mulOk_of 1 m ha hk (by omega) (by omega) (by omega)) (h _ ?_)
  have := len_mul_leN ha hk
  omega
theorem n_ixS {m : Int} {k : Nat} (hk : z.length = k) (h0 : 0 ≤ i) (h1 : i < m) (hm : m.toNat.ble k = true) (hz : k.ble 1000000 = true) (h : ∀ c, Q (.str ⟨#[c]⟩) H) : rIx K (.str z) (.int i) H Q := by
  have lt : i.toNat < z.cps.toList.length := by
    have := Nat.le_of_ble_eq_true hm
    rw [← (TL.len_tl z : z.length = z.cps.toList.length)]
    omega
  exact w_ixS (by have := Nat.le_of_ble_eq_true hz; rw [sizeLine_eq]; omega) (atI_of h0 (List.getElem?_eq_getElem lt)) (h _)
theorem n_ixSL (hz : z.length ≤ 1000000) (h0 : 0 ≤ i) (h1 : i < z.length) (h : ∀ c, Q (.str ⟨#[c]⟩) H) : rIx K (.str z) (.int i) H Q := by
  have lt : i.toNat < z.cps.toList.length := by
    rw [← (TL.len_tl z : z.length = z.cps.toList.length)]
    omega
  exact w_ixS (by rw [sizeLine_eq]; omega) (atI_of h0 (List.getElem?_eq_getElem lt)) (h _)
theorem slice_lenTo (h0 : 0 ≤ i) : (Txt.slice z none (some i)).length ≤ z.length := by
  rw [← S_tl z, slice_to h0, S_len, S_len, List.length_take]; omega
theorem slice_lenFrom (h0 : 0 ≤ i) : (Txt.slice z (some i) none).length ≤ z.length := by
  rw [← S_tl z, slice_from h0, S_len, S_len, List.length_drop]; omega
theorem n_slTo {m : Nat} (hz : z.length ≤ m) (hm : m.ble 1000000 = true) (h0 : 0 ≤ i) (h : ∀ s : Str, s.length ≤ m → Q (.str s) H) : C8.rSlX (.str z) none (some i) H Q :=
  w_slS (by have := Nat.le_of_ble_eq_true hm; rw [sizeLine_eq]; omega) (h _ (Nat.le_trans (slice_lenTo h0) hz))
theorem n_slFrom {m : Nat} (hz : z.length ≤ m) (hm : m.ble 1000000 = true) (h0 : 0 ≤ i) (h : ∀ s : Str, s.length ≤ m → Q (.str s) H) : C8.rSlX (.str z) (some i) none H Q :=
  w_slS (by have := Nat.le_of_ble_eq_true hm; rw [sizeLine_eq]; omega) (h _ (Nat.le_trans (slice_lenFrom h0) hz))
theorem n_lenS {m : Nat} (hz : z.length ≤ m) (hm : m.ble 1000000 = true) (h : Q (.int z.length) H) : rLen K [.str z] H Q := w_lenS (by have := Nat.le_of_ble_eq_true hm; rw [sizeLine_eq]; omega) h
theorem w_eqS_t (e : a = b) (h : Q (.bl true) H) : rEq (.str a) (.str b) H Q := w_eqS (by rw [decide_eq_true e]; exact h)
/-- none of the classes in a tuple -/
def NoneOfV (K : PySem.W.Frag) (D : Addr) : List V → Prop
  | [] => True
  | .ref C :: r => PySem.W.kitOne K (.ref D) (.ref C) = some false ∧ NoneOfV K D r
  | _ :: _ => False
theorem noneOfV {D : Addr} : ∀ {vs : List V}, NoneOfV K D vs → ∃ Cs : List Addr, vs = Cs.map V.ref ∧ NoneOf K D Cs
  | [], _ => ⟨[], rfl, trivial⟩
  | .ref C :: r, h => let ⟨Cs, e, n⟩ := noneOfV (vs := r) h.2; ⟨C :: Cs, by rw [e]; rfl, h.1, n⟩
theorem w_isxsV {a D tp : Addr} {fs : Option (List (Str × V))} {vs : List V} (hx : XcAt H a D fs) (c : ExcC K D) (ht : H tp = some (.tup vs)) (e : NoneOfV K D vs) (h : Q (.bl false) H) : uIsiT K [.ref a, .ref tp] H Q := by
  obtain ⟨Cs, rfl, n⟩ := noneOfV e
  exact w_isxs Cs hx c ht n h
/-- signs joined -/
theorem joinL_one : ∀ cs : List Nat, TL.joinL [] (cs.map fun c => [c]) = cs
  | [] => rfl
  | [_] => rfl
  | c :: d :: r => by
    show [c] ++ ([] ++ TL.joinL [] ((d :: r).map fun c => [c])) = _
    rw [joinL_one (d :: r)]; rfl
theorem join_one (cs : List Nat) : Txt.join (Str.ofString "") (cs.map fun c => (⟨#[c]⟩ : Str)) = S cs := by
  have e := join_S [] (cs.map fun c => [c])
  rw [joinL_one, List.map_map] at e
  exact e
theorem n_joinOne {cs : List Nat} (hp : H p = some (.lst (cs.map fun c => V.str ⟨#[c]⟩))) (hl : cs.length ≤ 1000000) (h : Q (.str (S cs)) H) : rJoin K (.str (Str.ofString "")) [.ref p] H Q := by
  refine w_join (ys := cs.map fun c => (⟨#[c]⟩ : Str)) (by rw [List.map_map]; exact hp) ?_ (by rw [join_one]; exact h)
  have e : ∀ cs : List Nat, ((cs.map fun c => (⟨#[c]⟩ : Str)).map (·.length)).sum = cs.length := fun cs => by
    induction cs with
    | nil => rfl
    | cons a r ih => rw [List.map_cons, List.map_cons, List.sum_cons, ih, List.length_cons]; show 1 + _ = _; omega
  rw [e]
  show cs.length + _ * 0 ≤ _
  omega
/-- texts of at most n signs -/
def AllS (n : Nat) (xs : List V) : Prop := ∀ v ∈ xs, ∃ s : Str, v = .str s ∧ s.length ≤ n
theorem AllS.nil {n : Nat} : AllS n [] := fun _ h => nomatch h
theorem AllS.cons {n m : Nat} {xs : List V} (ha : a.length ≤ m) (hm : m.ble n = true) (h : AllS n xs) : AllS n (.str a :: xs) := fun v hv => by
  rcases List.mem_cons.mp hv with rfl | hv
  · exact ⟨a, rfl, Nat.le_trans ha (Nat.le_of_ble_eq_true hm)⟩
  · exact h v hv
theorem AllS.app {n : Nat} {xs ys : List V} (h : AllS n xs) (h2 : AllS n ys) : AllS n (xs ++ ys) := fun v hv => (List.mem_append.mp hv).elim (h v) (h2 v)
theorem AllS.at_ {n : Nat} {xs : List V} (h : AllS n xs) {i : Nat} {x : V} (hx : xs[i]? = some x) : ∃ s : Str, x = .str s ∧ s.length ≤ n := h x (List.mem_of_getElem? hx)
theorem take_one {α : Type} {l : List α} {i : Nat} {x : α} (h : l[i]? = some x) : l.take (i + 1) = l.take i ++ [x] := by rw [List.take_succ, h]; rfl
theorem lenS_eq : z.length = z.cps.toList.length := TL.len_tl z
end
end Rd
/-! SupI: super().m(e, .., k = v, ..) at the head of a def of an own class; C(e, .., k = v, ..). -/
namespace Rd
open PySem PySem.Spec PyProof.Rows PySem.W PySem.Calls L2
structure SupF (K : PySem.W.Frag) (C : Addr) (m : Str) (g : Addr) : Prop where
  op : PySem.W.nsIn K cStatics "thirdparty.any" = some none
  ini : ks_superIn K C C m = some (some (.ref g))
  slf : PySem.W.mroIn K C (.ref C) = some true
  fn : typeIn K (.ref g) = some (.type "function")
  fi : PySem.W.fnIn K g = true
section
variable {fa : List He.Fa} {fn : List He.DefD} {xa : List Xa} {fs : Fs} {P : Program} {w : World} {K : PySem.W.Frag} {mg : Str → Option Value}
theorem Tx.sup (T : Tx fa fn xa fs P w K mg) (i : Nat) {x m y : Str} (h : xa[i]? = some (.sup x m y) := by rfl) : SupF K (He.ga K x) m (He.ma K (He.ga K y) m) := by
  obtain ⟨a, r⟩ := He.ba (T.all.own i h)
  obtain ⟨b, r⟩ := He.ba r
  obtain ⟨c, r⟩ := He.ba r
  obtain ⟨d, e⟩ := He.ba r
  exact ⟨He.eqO_ok a, He.eqO_ok b, of_decide_eq_true c, of_decide_eq_true d, e⟩
theorem Tx.heir (T : Tx fa fn xa fs P w K mg) (i : Nat) {x m y : Str} (h : xa[i]? = some (.heir x m y) := by rfl) : He.ma K (He.ga K x) m = He.ma K (He.ga K y) m := of_decide_eq_true (T.all.own i h)
end
abbrev supE (m : Str) (e : Expr) (es : List Expr) (kws : List Keyword) (p0 p1 apos pos : Pos) : Expr := .Call (.Attribute (.Call (.Name "super" p0) [] [] p1) m apos) (e :: es) kws pos
def GoesSupK (env : Env) (m : Str) (e : Expr) (es : List Expr) (kws : List Keyword) (p0 p1 apos pos : Pos) : Prop := ∃ pl : Sem Bool, eval (supE m e es kws p0 p1 apos pos) env = (do
  let ov ← attributeBase (.Call (.Name "super" p0) [] [] p1) m env (eval (.Call (.Name "super" p0) [] [] p1) env)
  standAt apos.atName
  let (fx, first) ← holding [ov] (getMethod ov m pl)
  callWith pos fx first (backTo pos (starEach (e :: es) env)) (backToKw pos (keywordEach kws env)))
/-- the statement's reading: the receiver is the first slot -/
def tSup (C g : Addr) (n m : Nat) (sp : Sp) (gV : List V → List V → List V) (E : XK) (t tk : TA) : TS := fun D σ H => ∃ a dx fs, σ[0]? = some (some (.ref a)) ∧ H a = some (.ins C dx fs) ∧
  ∀ q, H q = none → t σ (upd H q (.met g a)) fun vs H1 => tk σ H1 fun zs H2 => vs.length = n ∧ zs.length = m ∧ H2 q = some (.met g a) ∧ sp (gV (.ref a :: vs) zs) H2 (fun _ H3 => D.nx σ H3) E
section
variable {CX CX' : CXT} {P : Program} {w : World} {K : PySem.W.Frag} {mg : Str → Option Value} {base : Heap} {N ps ps' : List Str} {qual : Str} {sc sc0 : Scope} {f cc C cda g : Addr} {A : Around} {outer : List Env} {s0 s : Shared} {H0 H : Hp} {E E' : XK} {σ : L2.St}
  {cl : Value} {cld : Option Addr} {csl : Array (Option Value)} {body : List Stmt} {k n : Nat} {ks : List Str} {sp' : Sp} {fd' : FuncData} {gg : List Value → List Value → List Value} {gV : List V → List V → List V} {t tk : TA}
theorem sup_kw {x m : Str} {e : Expr} {es : List Expr} {kws : List Keyword} {p0 p1 apos pos pos' : Pos} {D : Ends} (I : L2.Inv (cxD CX P w K mg base N qual sc sc0 f (.ref cda) cc A outer s0 H0 E) [] σ H s) (S : ClsScope N ps sc sc0) (U : SupAt P K mg sc f cda x) (T2 : SupF K C m g)
    (h0 : N[0]? = some x) (hx : sc.names.lookup x = some .local) (lc : K.lookup cc = some ⟨cl, cld, .cell (some (.ref C)), csl⟩)
    (F : FnOk P w K mg base CX' k g fd' ps' sp') (hr : Room k (A.deeper (cenv qual sc s0.heap.objs.size f (.ref cda) cc))) (hb : KBn K fd' ps' (n + 1) ks gg gV) (hp : Passes CX' (cxD CX P w K mg base N qual sc sc0 f (.ref cda) cc A outer s0 H0 E) E')
    (ha : PA (cxD CX P w K mg base N qual sc sc0 f (.ref cda) cc A outer s0 H0 E) (e :: es) t) (hkw : PK (cxD CX P w K mg base N qual sc sc0 f (.ref cda) cc A outer s0 H0 E) kws tk)
    (go : GoesSupK (cenv qual sc s0.heap.objs.size f (.ref cda) cc) m e es kws p0 p1 apos pos) (hsw : swapsWith (supE m e es kws p0 p1 apos pos) none pos'.line (cenv qual sc s0.heap.objs.size f (.ref cda) cc) = pure false) (hat : (m == ("__class__" : Str)) = false)
    (hall : (backToKw pos (keywordEach kws (cenv qual sc s0.heap.objs.size f (.ref cda) cc))).all (·.1.isSome) = true) (hks : (backToKw pos (keywordEach kws (cenv qual sc s0.heap.objs.size f (.ref cda) cc))).filterMap (·.1) = ks)
    (he : starEach (e :: es) (cenv qual sc s0.heap.objs.size f (.ref cda) cc) = (false, eval e (cenv qual sc s0.heap.objs.size f (.ref cda) cc)) :: starEach es (cenv qual sc s0.heap.objs.size f (.ref cda) cc))
    (hpl : ((backTo pos (starEach (e :: es) (cenv qual sc s0.heap.objs.size f (.ref cda) cc))).any (·.1) || (backToKw pos (keywordEach kws (cenv qual sc s0.heap.objs.size f (.ref cda) cc))).any (·.1.isNone)) = false)
    (h : tSup C g n ks.length sp' gV E' t tk D σ H) :
    _root_.PySem.wpAt (model P w) (A.deeper (cenv qual sc s0.heap.objs.size f (.ref cda) cc)) (.func body (cenv qual sc s0.heap.objs.size f (.ref cda) cc)) (exec (.Expr (supE m e es kws p0 p1 apos pos) pos') (cenv qual sc s0.heap.objs.size f (.ref cda) cc))
      (fun fl s' => fl = .next ∧ ∃ H3, D.nx σ H3 ∧ L2.Inv (cxD CX P w K mg base N qual sc sc0 f (.ref cda) cc A outer s0 H0 E) [] σ H3 s') (cxD CX P w K mg base N qual sc sc0 f (.ref cda) cc A outer s0 H0 E).xe s := by
  obtain ⟨a, dx, fl, hσ, e1, h⟩ := h
  obtain ⟨pl, hev⟩ := go
  obtain ⟨od, inst⟩ := inst_of I e1
  obtain ⟨cdC, hcd, hal⟩ : ∃ cdC, clsIn K C = some cdC ∧ alongIn K m ((cdC.mro.dropWhile (· != .ref C)).drop 1) = some (some (.ref g)) := by
    have q := T2.ini
    unfold ks_superIn at q
    cases z : clsIn K C with
    | none => rw [z] at q; cases q
    | some c => rw [z] at q; exact ⟨c, rfl, q⟩
  refine ks_wpAt_Expr_any ?_ I.quiet hsw
  rw [hev]
  have last : ∀ (ov : Value) (s1 : Shared), wpAny (model P w) (A.deeper (cenv qual sc s0.heap.objs.size f (.ref cda) cc)) (getMethod ov m pl) (fun fx s2 => wpAny (model P w) (A.deeper (cenv qual sc s0.heap.objs.size f (.ref cda) cc)) (callWith pos fx.1 fx.2 (backTo pos (starEach (e :: es) (cenv qual sc s0.heap.objs.size f (.ref cda) cc))) (backToKw pos (keywordEach kws (cenv qual sc s0.heap.objs.size f (.ref cda) cc))))
      (fun _ s' => Flow.next = .next ∧ ∃ H3, D.nx σ H3 ∧ L2.Inv (cxD CX P w K mg base N qual sc sc0 f (.ref cda) cc A outer s0 H0 E) [] σ H3 s') (cxD CX P w K mg base N qual sc sc0 f (.ref cda) cc A outer s0 H0 E).xe s2) (cxD CX P w K mg base N qual sc sc0 f (.ref cda) cc A outer s0 H0 E).xe s1 →
      wpAny (model P w) (A.deeper (cenv qual sc s0.heap.objs.size f (.ref cda) cc)) (do
        standAt apos.atName
        let (fx, first) ← holding [ov] (getMethod ov m pl)
        callWith pos fx first (backTo pos (starEach (e :: es) (cenv qual sc s0.heap.objs.size f (.ref cda) cc))) (backToKw pos (keywordEach kws (cenv qual sc s0.heap.objs.size f (.ref cda) cc))))
        (fun _ s' => Flow.next = .next ∧ ∃ H3, D.nx σ H3 ∧ L2.Inv (cxD CX P w K mg base N qual sc sc0 f (.ref cda) cc A outer s0 H0 E) [] σ H3 s') (cxD CX P w K mg base N qual sc sc0 f (.ref cda) cc A outer s0 H0 E).xe s1 := by
    intro ov s1 got
    apply wpAny_bind
    apply wpAny_standAt
    apply wpAny_bind
    apply wpAny_holding
    exact wpAny_mono got (fun _ _ z => z) fun _ _ z => z
  refine _root_.PySem.wpAt_bind (ks_wpAt_mono (sup_here I S U h0 hx hσ lc hcd inst.at_ inst.cls (fun c z => by cases z) T2.slf hat (Q := fun ov s1 => _) fun so h1 gso k1 => ?_) (fun ov s1 h1 => wpAt_of_wpAny (last ov s1 h1)) fun _ _ z => z)
  have I1 := I.kept (t' := s.toks) k1
  have kin : K.In h1 := I1.kIn
  obtain ⟨od1, inst1⟩ := inst_of I1 e1
  have mro : Looks (model P w) h1 (mroOf (.ref C)) cdC.mro := (looks_clsIn kin hcd).andThen .now
  obtain ⟨og, hog, hoc⟩ : ∃ og, h1.get? g = some og ∧ og.cls = .type "function" := by
    have q : (K.lookup g).map (·.cls) = some (.type "function") := T2.fn
    cases z : K.lookup g with
    | none => rw [z] at q; cases q
    | some og => rw [z] at q; exact ⟨og, kin _ _ z, Option.some.inj q⟩
  obtain ⟨hs, gs, d, tok, os⟩ := s
  refine ks_wpAny_getMethod_super gso (looks_opaque kin T2.op) mro rfl kin hal hog hoc (ks_ne kin inst1 hcd) hat ?_
  have I2 := I1.laid (t' := tok + 1) (h' := h1.push (PySem.W.methodObj (.ref g) (.ref a))) (a := h1.objs.size) (o := .met g a) (fun b u z => Heap.get?_push_of_some _ z) (Nat.le_refl _)
    (show (h1.push (PySem.W.methodObj (.ref g) (.ref a))).get? h1.objs.size = some (PySem.W.methodObj (.ref g) (.ref a)) from Heap.get?_push_size _ rfl)
  refine callwith_met (X := cxD CX P w K mg base N qual sc sc0 f (.ref cda) cc A outer s0 H0 E) (g := g) (a := a) hpl T2.fi (evalArgs_kw2 hall (wpAny_mono (ha.run pos [] _ σ _ _ I2 (h h1.objs.size (I1.hok.fresh (Nat.le_refl _)))) (fun us s2 z => ?_) fun _ _ z => z) he)
  obtain ⟨vs, H1, J1, r1, q1⟩ := z
  refine wpAny_mono (hkw.run pos [] s2 σ H1 _ J1 q1) (fun ws s3 z => ?_) fun _ _ z => z
  obtain ⟨zs, H2, J2, r2, l1, l2, hm, hq⟩ := z
  refine ⟨met_P J2 hm, ?_⟩
  dsimp only
  rw [hks]
  have rr : Vals (V.ref a :: vs) (Value.ref a :: us) := .cons rfl r1
  have ln : (Value.ref a :: us).length = n + 1 := by rw [List.length_cons, ← r1.length, l1]
  refine wpAny_call (call_met J2 hm (codeAny_mono (F.run _ _ s3 H2 ⟨Value.ref a :: us, ks.zip ws⟩ (gg (Value.ref a :: us) ws) (gV (.ref a :: vs) zs) _ E' hr J2.env0 (hb.to s3 (Value.ref a :: us) ws J2.kIn ln (r2.length.symm.trans l2)) (hb.rel rr r2) hq) fun r s' hq' => ?_))
  cases r with
  | error er => exact hp [] σ _ _ er s' J2 hq'
  | ok fw =>
    cases fw with
    | ret u =>
      obtain ⟨v, H3, J3, _, q3⟩ := J2.after hq'
      exact ⟨rfl, H3, q3, J3⟩
    | next => exact False.elim hq'
    | brk => exact False.elim hq'
    | cont => exact False.elim hq'
end
section
variable {fa : List He.Fa} {fn : List He.DefD} {xa : List Xa} {fs : Fs} {CX CX' : CXT} {P : Program} {w : World} {K : PySem.W.Frag} {mg : Str → Option Value} {base : Heap}
/-- a def whose first row is super().m(e, .., k = v, ..) -/
theorem fn_sup {N ps ps' ks : List Str} {name qual x m self : Str} {st : Stmt} {rest : List Stmt} {dvs : List V} {kwv : List (Str × V)} {f g : Addr} {fd fd' : FuncData} {k k' n : Nat} {sp sp' : Sp} {gg : List Value → List Value → List Value} {gV : List V → List V → List V} {ar : Arg}
    {e : Expr} {es : List Expr} {kws : List Keyword} {p0 p1 apos pos pos' : Pos} (T : Tx fa fn xa fs P w K mg) (hs : mg "super" = none) (F : FunS K name qual st dvs kwv (He.ga K x) f fd) (T2 : SupF K (He.ga K x) m g) (G : FnOk P w K mg base CX' k' g fd' ps' sp') (hb : KBn K fd' ps' (n + 1) ks gg gV)
    (hbd : defBody st = .Expr (supE m e es kws p0 p1 apos pos) pos' :: rest) (ha : ((defArgs st).posonlyargs ++ (defArgs st).args).head? = some ar) (har : ar.arg = self) (h0 : N[0]? = some self)
    (S : ClsScope N ps (defScope st) (noCls (defScope st))) (hl : ∀ v ∈ ps, (defScope st).names.lookup v = some .local) (hnc : ∀ v ∈ ps, v ≠ "__class__") (hself : self ∈ ps) (hh : (defScope st).names.lookup ("super" : Str) = some NameKind.globalImplicit) (hat : (m == ("__class__" : Str)) = false)
    (go : ∀ L ff cda cc, GoesSupK (cenv qual (defScope st) L ff (.ref cda) cc) m e es kws p0 p1 apos pos) (hsw : ∀ L ff cda cc, swapsWith (supE m e es kws p0 p1 apos pos) none pos'.line (cenv qual (defScope st) L ff (.ref cda) cc) = pure false)
    (hall : ∀ L ff cda cc, (backToKw pos (keywordEach kws (cenv qual (defScope st) L ff (.ref cda) cc))).all (·.1.isSome) = true) (hks : ∀ L ff cda cc, (backToKw pos (keywordEach kws (cenv qual (defScope st) L ff (.ref cda) cc))).filterMap (·.1) = ks)
    (he : ∀ L ff cda cc, starEach (e :: es) (cenv qual (defScope st) L ff (.ref cda) cc) = (false, eval e (cenv qual (defScope st) L ff (.ref cda) cc)) :: starEach es (cenv qual (defScope st) L ff (.ref cda) cc))
    (hpl : ∀ L ff cda cc, ((backTo pos (starEach (e :: es) (cenv qual (defScope st) L ff (.ref cda) cc))).any (·.1) || (backToKw pos (keywordEach kws (cenv qual (defScope st) L ff (.ref cda) cc))).any (·.1.isNone)) = false)
    (hk : k' ≤ k) (len : ∀ vs H Q E, sp vs H Q E → vs.length = ps.length)
    (rd : ∀ (cda cc : Addr) (A : Around) (outer : List Env) (s : Shared) (H : Hp) (vs : List V) (Q : VK) (E : XK), Room k (A.deeper (cenv qual (defScope st) s.heap.objs.size f (.ref cda) cc)) → sp vs H Q E →
      ∃ t tk E' t2, PA (cxD CX P w K mg base N qual (defScope st) (noCls (defScope st)) f (.ref cda) cc A outer s H E) (e :: es) t ∧ PK (cxD CX P w K mg base N qual (defScope st) (noCls (defScope st)) f (.ref cda) cc A outer s H E) kws tk ∧
        Passes CX' (cxD CX P w K mg base N qual (defScope st) (noCls (defScope st)) f (.ref cda) cc A outer s H E) E' ∧ PSs (cxD CX P w K mg base N qual (defScope st) (noCls (defScope st)) f (.ref cda) cc A outer s H E) rest t2 ∧
        tSeq (tSup (He.ga K x) g n ks.length sp' gV E' t tk) t2 { nx := fun _ H' => Q .non H', rt := Q } (start N vs) H) :
    FnOk P w K mg base CX (k + 1) f fd ps sp := by
  obtain ⟨oc, od, dV, kV, doc, pm, an, cda, ct, osl, cc, cl, cld, csl, rfl, lk, hcd, hd, _, lc, ccl, cdd, vs0, sl, tf, e2, e3⟩ := F.ex
  have U : SupAt P K mg (defScope st) f cda ar.arg := sup_at T hs lk ha e2 e3 hh
  rw [har] at U
  have hl0 : ∀ v ∈ ps, (noCls (defScope st)).names.lookup v = some .local := fun v hv => (S.same v (hnc v hv)).symm.trans (hl v hv)
  rw [hbd] at lk ⊢
  refine fn_cell lk hcd lc S len (fun v hv => ⟨hl v hv, hl0 v hv⟩) fun A outer s H vs Q E s1 hr hsp I => ?_
  obtain ⟨t, tk, E', t2, a1, a2, a3, a4, q⟩ := rd cda cc A outer s H vs Q E hr hsp
  refine ks_wpAt_execs_cons (ks_wpAt_mono (sup_kw (D := ⟨t2 { nx := fun _ H' => Q .non H', rt := Q }, Q, fun _ _ => False, fun _ _ => False⟩) I S U T2 h0 (hl self hself) lc G (hr.mono hk) hb a3 a1 a2 (go _ _ _ _) (hsw _ _ _ _) hat (hall _ _ _ _) (hks _ _ _ _) (he _ _ _ _) (hpl _ _ _ _) q) (fun fl s2 z => ?_) fun _ _ z => z)
  obtain ⟨rfl, H3, q3, J⟩ := z
  exact wpAt_of_wpAny (a4.run [] s2 _ H3 _ J q3)
end
def kSup2 (g a q : Addr) (n m : Nat) (sp : Sp) (gV : List V → List V → List V) (E : XK) (tk : TA) (σ : L2.St) (nx : L2.St → Hp → Prop) : List V → Hp → Prop := fun vs H1 => tk σ H1 fun zs H2 => vs.length = n ∧ zs.length = m ∧ H2 q = some (.met g a) ∧ sp (gV (.ref a :: vs) zs) H2 (fun _ H3 => nx σ H3) E
theorem w_sup {C g : Addr} {n m : Nat} {sp : Sp} {gV : List V → List V → List V} {E : XK} {t tk : TA} {σ : L2.St} {H : Hp} {nx bk ct : L2.St → Hp → Prop} {rt : VK} {a dx : Addr} {fs : List (Str × V)} (hσ : σ[0]? = some (some (.ref a))) (ha : H a = some (.ins C dx fs))
    (h : ∀ (q : Addr) (H' : Hp), H q = none → Same H H' → H' q = some (.met g a) → t σ H' (kSup2 g a q n m sp gV E tk σ nx)) : tSup C g n m sp gV E t tk ⟨nx, rt, bk, ct⟩ σ H := ⟨a, dx, fs, hσ, ha, fun q hq => h q _ hq (same_new hq) upd_same⟩
def kSup3 (g a q : Addr) (n m : Nat) (sp : Sp) (gV : List V → List V → List V) (E : XK) (vs : List V) (σ : L2.St) (nx : L2.St → Hp → Prop) : List V → Hp → Prop := fun zs H2 => vs.length = n ∧ zs.length = m ∧ H2 q = some (.met g a) ∧ sp (gV (.ref a :: vs) zs) H2 (fun _ H3 => nx σ H3) E
section
variable {g a q : Addr} {n m : Nat} {sp : Sp} {gV : List V → List V → List V} {E : XK} {tk : TA} {σ : L2.St} {nx : L2.St → Hp → Prop} {vs zs : List V} {H : Hp}
theorem w_ksup2 (h : tk σ H (kSup3 g a q n m sp gV E vs σ nx)) : kSup2 g a q n m sp gV E tk σ nx vs H := h
theorem w_ksup3 (l1 : vs.length = n) (l2 : zs.length = m) (hq : H q = some (.met g a)) (h : sp (gV (.ref a :: vs) zs) H (fun _ H3 => nx σ H3) E) : kSup3 g a q n m sp gV E vs σ nx zs H := ⟨l1, l2, hq, h⟩
end
end Rd
/-! MkK: C(e, .., k = v, ..) of an own class whose __init__ has keyword-only parameters; written tuples as defaults. -/
namespace Rd
open PySem PySem.Spec PyProof.Rows PySem.W L2
theorem wtup_ok {K : PySem.W.Frag} {a : Addr} {is : List Int} (hl : is.length ≤ 100) (h : wtupB K a is = true) (H : Hp) : SqT K H a (is.map V.int) := by
  unfold wtupB at h
  split at h
  · rename_i c d its n sl q
    obtain ⟨e, r⟩ := He.ba h
    have e := of_decide_eq_true e
    subst e
    have v := He.relAll_ok r
    refine .inr ⟨_, its, n, q, rfl, rfl, ?_, v⟩
    have l := v.length
    simp only [List.length_map, Array.length_toList] at l
    rw [sizeLine_eq]; omega
  · cases h
section
variable {fa : List He.Fa} {fn : List He.DefD} {xa : List Xa} {fs : Fs} {P : Program} {w : World} {K : PySem.W.Frag} {mg : Str → Option Value}
theorem Tx.tupD (T : Tx fa fn xa fs P w K mg) (j : Nat) {x : Str} {i : Nat} {is : List Int} (h : xa[j]? = some (.tupD x i is) := by rfl) (H : Hp) : SqT K H (He.dflAt (x, some "__init__") i K) (is.map V.int) :=
  let ⟨a, b⟩ := He.ba (T.all.own j h); wtup_ok (of_decide_eq_true a) b H
theorem Tx.tupK (T : Tx fa fn xa fs P w K mg) (j : Nat) {x k : Str} {is : List Int} (h : xa[j]? = some (.tupK x k is) := by rfl) (H : Hp) : SqT K H (kwAt (x, some "__init__") k K) (is.map V.int) :=
  let ⟨a, b⟩ := He.ba (T.all.own j h); wtup_ok (of_decide_eq_true a) b H
end
theorem Same.tup {K : PySem.W.Frag} {H H' : Hp} {a : Addr} {xs : List V} (e : Same H H') (h : SqT K H a xs) : SqT K H' a xs := by
  rcases h with (h | ⟨o, h⟩) | h
  · exact .inl (.inl (e _ _ h))
  · exact .inl (.inr ⟨o, e _ _ h⟩)
  · exact .inr h
/-- a class that is made by its __init__ with n values and the keywords ks -/
structure MkK (P : Program) (w : World) (K : PySem.W.Frag) (mg : Str → Option Value) (base : Heap) (CX : CXT) (k : Nat) (x : Str) (ps : List Str) (n : Nat) (ks : List Str) (gV : List V → List V → List V) (sp : Sp) : Prop where
  ex : ∃ f fd g, mg x = some (.ref (He.ga K x)) ∧ Mk K (He.ga K x) f ∧ FnOk P w K mg base CX k f fd ps sp ∧ KBn K fd ps (n + 1) ks g gV
section
variable {X : Cx} {CX : CXT} {k n : Nat} {ps ks : List Str} {sp : Sp} {E : XK} {x : Str} {p pos : Pos} {e : Expr} {es : List Expr} {kws : List Keyword} {t tk : TA} {gV : List V → List V → List V}
theorem pe_mkK (G : MkK X.prog X.w X.K X.mg X.base CX k x ps n ks gV sp) (hr : Room (k + 1) X.A) (hg : Gl X x) (hx : Passes CX X E) (ha : PA X (e :: es) t) (hkw : PK X kws tk)
    (hall : (backToKw pos (keywordEach kws X.env)).all (·.1.isSome) = true := by rfl) (hks : (backToKw pos (keywordEach kws X.env)).filterMap (·.1) = ks := by rfl) (hdb : (x == ("__debug__" : Str)) = false := by decide)
    (he : starEach (e :: es) X.env = (false, eval e X.env) :: starEach es X.env := by rfl) (hpl : ((backTo pos (starEach (e :: es) X.env)).any (·.1) || (backToKw pos (keywordEach kws X.env)).any (·.1.isNone)) = false := by rfl) :
    PE X (.Call (.Name x p) (e :: es) kws pos) (tMakeK (He.ga X.K x) n ks.length sp gV E t tk) := by
  obtain ⟨f, fd, g, hm, M, F, hb⟩ := G.ex
  exact pe_makeK M F hr hg hm hb hx ha hkw hall hks hdb he hpl
end
def kMk1 (C : Addr) (n m : Nat) (sp : Sp) (gV : List V → List V → List V) (E : XK) (tk : TA) (σ : L2.St) (Q : VK) : List V → Hp → Prop := fun vs H1 => tk σ H1 fun zs H2 => vs.length = n ∧ zs.length = m ∧
  ∀ x dx, H2 x = none → H2 dx = none → dx ≠ x → sp (gV (.ref x :: vs) zs) (upd (upd H2 dx (.own x)) x (.ins C dx [])) (fun v H3 => v = .non ∧ Q (.ref x) H3) E
def kMk2 (C : Addr) (n m : Nat) (sp : Sp) (gV : List V → List V → List V) (E : XK) (vs : List V) (Q : VK) : List V → Hp → Prop := fun zs H2 => vs.length = n ∧ zs.length = m ∧
  ∀ x dx, H2 x = none → H2 dx = none → dx ≠ x → sp (gV (.ref x :: vs) zs) (upd (upd H2 dx (.own x)) x (.ins C dx [])) (fun v H3 => v = .non ∧ Q (.ref x) H3) E
section
variable {C : Addr} {n m : Nat} {sp : Sp} {gV : List V → List V → List V} {E : XK} {t tk : TA} {σ : L2.St} {H : Hp} {Q : VK} {vs zs : List V}
theorem w_mkK (h : t σ H (kMk1 C n m sp gV E tk σ Q)) : tMakeK C n m sp gV E t tk σ H Q := h
theorem w_kmk1 (h : tk σ H (kMk2 C n m sp gV E vs Q)) : kMk1 C n m sp gV E tk σ Q vs H := h
theorem w_kmk2 (l1 : vs.length = n) (l2 : zs.length = m) (h : ∀ x dx, H x = none → H dx = none → dx ≠ x → sp (gV (.ref x :: vs) zs) (upd (upd H dx (.own x)) x (.ins C dx [])) (fun v H3 => v = .non ∧ Q (.ref x) H3) E) : kMk2 C n m sp gV E vs Q zs H := ⟨l1, l2, h⟩
end
/-! ### keywords bound, over any def -/
section
variable {K : PySem.W.Frag} {name qual : Str} {st : Stmt} {kws ms : List (Str × V)} {C f D : Addr} {fd : FuncData} {ps ks : List Str} {n : Nat}
/-- the keyword-only defaults stand in the dict at D; a chain of looks binds them -/
theorem kbn_chain (there : ∀ q ∈ ms, ∃ u, PySem.W.nsIn K D q.1 = some (some u) ∧ RelV q.2 u) (g : {α : Type} → List α → List α → List α → List α)
    (grel : ∀ {as bs cs : List V} {au bu cu : List Value}, Vals as au → Vals bs bu → Vals cs cu → Vals (g as bs cs) (g au bu cu))
    (chain : ∀ au bu cu : List Value, au.length = n → bu.length = ms.length → cu.length = ks.length → KwChain D ((ms.map (·.1)).zip bu) (bindArgs fd ⟨au, ks.zip cu⟩) (ps.zip (g au bu cu))) :
    ∃ bu : List Value, KBn K fd ps n ks (fun au cu => g au bu cu) (fun as cs => g as (ms.map (·.2)) cs) := by
  rcases kwd_vals there with ⟨bu, len, rel, looks⟩
  refine ⟨bu, { to := ?_, rel := fun a b => grel a rel b }⟩
  intro s au cu inH la lc
  apply BindsTo.of_looks
  intro M
  exact KwChain.looks inH looks (chain au bu cu la len lc)
/-- .. behind a look at the positional defaults -/
theorem kbn_chainD {T : Addr} {o : Obj} {its : List Value} {m : Nat} {dvs : List V} (lT : K.lookup T = some o) (oT : o.data = .seq its.toArray m) (rT : Vals dvs its) (there : ∀ q ∈ ms, ∃ u, PySem.W.nsIn K D q.1 = some (some u) ∧ RelV q.2 u) (g : {α : Type} → List α → List α → List α → List α → List α)
    (grel : ∀ {as ds bs cs : List V} {au du bu cu : List Value}, Vals as au → Vals ds du → Vals bs bu → Vals cs cu → Vals (g as ds bs cs) (g au du bu cu))
    (chain : ∀ au bu cu : List Value, au.length = n → bu.length = ms.length → cu.length = ks.length → ∃ k, bindArgs fd ⟨au, ks.zip cu⟩ = seqItems? (.ref T) >>= k ∧ KwChain D ((ms.map (·.1)).zip bu) (k (some its.toArray)) (ps.zip (g au its bu cu))) :
    ∃ bu : List Value, KBn K fd ps n ks (fun au cu => g au its bu cu) (fun as cs => g as dvs (ms.map (·.2)) cs) := by
  rcases kwd_vals there with ⟨bu, len, rel, looks⟩
  refine ⟨bu, { to := ?_, rel := fun a b => grel a rT rel b }⟩
  intro s au cu inH la lc
  rcases chain au bu cu la len lc with ⟨k, e, c⟩
  apply BindsTo.of_looks
  intro M
  rw [e]
  exact looks_items inH lT oT (KwChain.looks inH looks c)
/-- a def with the cell, no positional defaults -/
theorem FunS.kb (F : FunS K name qual st [] kws C f fd) (hk : kws ≠ []) (sub : ∀ q ∈ ms, q ∈ kws) (g : {α : Type} → List α → List α → List α → List α)
    (grel : ∀ {as bs cs : List V} {au bu cu : List Value}, Vals as au → Vals bs bu → Vals cs cu → Vals (g as bs cs) (g au bu cu))
    (chain : ∀ (D : Addr) (doc pm : Value) (an : Option Addr) (cda : Addr) (ct : Value) (cc : Addr) (au bu cu : List Value), au.length = n → bu.length = ms.length → cu.length = ks.length →
      KwChain D ((ms.map (·.1)).zip bu) (bindArgs (ksFn name qual (defArgs st) (defBody st) (defScope st) .none (.ref D) doc pm an (.ref cda) ct cc) ⟨au, ks.zip cu⟩) (ps.zip (g au bu cu))) :
    ∃ bu : List Value, KBn K fd ps n ks (fun au cu => g au bu cu) (fun as cs => g as (ms.map (·.2)) cs) := by
  rcases F.ex with ⟨_, _, dV, kV, doc, pm, an, cda, ct, _, cc, _, _, _, e, _, _, d, k, _⟩
  subst e
  rcases k with k | ⟨D, rfl, there⟩
  · exact (hk k).elim
  · rcases d with ⟨_, rfl⟩ | ⟨z, _⟩
    · exact kbn_chain (fun q hq => there q (sub q hq)) g grel (chain D doc pm an cda ct cc)
    · exact (z rfl).elim
/-- a def without the cell, no positional defaults -/
theorem FunD.kb {params : Arguments} {body : List Stmt} {scope : Scope} (F : FunD K name qual params body scope [] kws f fd) (hk : kws ≠ []) (sub : ∀ q ∈ ms, q ∈ kws) (g : {α : Type} → List α → List α → List α → List α)
    (grel : ∀ {as bs cs : List V} {au bu cu : List Value}, Vals as au → Vals bs bu → Vals cs cu → Vals (g as bs cs) (g au bu cu))
    (chain : ∀ (D : Addr) (doc pm : Value) (an : Option Addr) (cdv ct : Value) (au bu cu : List Value), au.length = n → bu.length = ms.length → cu.length = ks.length →
      KwChain D ((ms.map (·.1)).zip bu) (bindArgs (PySem.W.fnOf name qual params body scope .none (.ref D) doc pm an cdv ct) ⟨au, ks.zip cu⟩) (ps.zip (g au bu cu))) :
    ∃ bu : List Value, KBn K fd ps n ks (fun au cu => g au bu cu) (fun as cs => g as (ms.map (·.2)) cs) := FunD.kbinds0 F n ks ms g hk sub grel chain
end
end Rd
/-! ChainN: comparisons in a row, of any length. -/
namespace Rd
open PySem PySem.Spec PyProof.Rows L2
/-- the rest of a row, from the value on its left: as a value, as a test -/
structure PLs (X : Cx) (pos : Pos) (ops : List CmpOp) (es : List Expr) (t : V → TE) : Prop where
  val : ∀ (pins : List (Addr × Obj)) (s : Shared) (σ : L2.St) (H : Hp) (Q : VK) (x : V) (v : Value), L2.Inv X pins σ H s → RelV x v → t x σ H Q → wpAny (model X.prog X.w) X.A (compareChain pos v ops (evalEach es X.env)) (EP X pins σ Q) X.xe s
  tst : ∀ (pins : List (Addr × Obj)) (s : Shared) (σ : L2.St) (H : Hp) (Q : Bool → Hp → Prop) (x : V) (v : Value), L2.Inv X pins σ H s → RelV x v → t x σ H (fun z H' => ∃ k, z = .bl k ∧ Q k H') → wpAny (model X.prog X.w) X.A (testChain pos v ops (evalEach es X.env)) (TP X pins σ Q) X.xe s
def tLk (r : R2) (tb : TE) (rest : V → TE) : V → TE := fun x σ H Q => tb σ H fun y H1 => r x y H1 fun z H2 => ∃ k, z = .bl k ∧ if k = true then rest y σ H2 Q else Q (.bl false) H2
def tLs (r : R2) (tb : TE) : V → TE := fun x σ H Q => tb σ H fun y H1 => r x y H1 Q
def tChN (ta : TE) (t : V → TE) : TE := fun σ H Q => ta σ H fun x H1 => t x σ H1 Q
section
variable {X : Cx} {pos : Pos} {op op' : CmpOp} {ops : List CmpOp} {a b b' : Expr} {es : List Expr} {r : R2} {ta tb : TE} {t : V → TE}
theorem ls_one (ho : OpR X (compareOp op) r) (hb : PE X b tb) : PLs X pos [op] [b] (tLs r tb) where
  val := fun pins s σ H Q x v I rx q => chain_last (thn (hb.run pins s σ H _ I q) fun u s1 w => by
    obtain ⟨y, H1, I1, ry, q1⟩ := w
    exact ho pins s1 σ H1 x y v u Q I1 rx ry q1)
  tst := fun pins s σ H Q x v I rx q => test_last (thn (hb.run pins s σ H _ I q) fun u s1 w => by
    obtain ⟨y, H1, I1, ry, q1⟩ := w
    refine thn (ho pins s1 σ H1 x y v u _ I1 rx ry q1) fun d s2 w2 => ?_
    obtain ⟨z, H2, I2, rz, k, e, q2⟩ := w2
    subst e
    cases rz
    exact wpAny_truthy_bool ⟨H2, I2, q2⟩)
theorem ls_cons (ho : OpR X (compareOp op) r) (hb : PE X b tb) (h : PLs X pos (op' :: ops) (b' :: es) t) : PLs X pos (op :: op' :: ops) (b :: b' :: es) (tLk r tb t) where
  val := fun pins s σ H Q x v I rx q => chain_link (thn (hb.run pins s σ H _ I q) fun u s1 w => by
    obtain ⟨y, H1, I1, ry, q1⟩ := w
    refine thn (ho pins s1 σ H1 x y v u _ I1 rx ry q1) fun d s2 w2 => ?_
    obtain ⟨z, H2, I2, rz, k, e, q2⟩ := w2
    subst e
    cases rz
    refine wpAny_truthy_bool ?_
    cases k with
    | true => rw [if_pos rfl] at q2; exact ite_tt (h.val pins s2 σ H2 Q y u I2 ry q2)
    | false => rw [if_neg (by decide)] at q2; exact ite_ff ⟨.bl false, H2, I2, rfl, q2⟩)
  tst := fun pins s σ H Q x v I rx q => test_link (thn (hb.run pins s σ H _ I q) fun u s1 w => by
    obtain ⟨y, H1, I1, ry, q1⟩ := w
    refine thn (ho pins s1 σ H1 x y v u _ I1 rx ry q1) fun d s2 w2 => ?_
    obtain ⟨z, H2, I2, rz, k, e, q2⟩ := w2
    subst e
    cases rz
    refine wpAny_truthy_bool ?_
    cases k with
    | true => rw [if_pos rfl] at q2; exact ite_tt (h.tst pins s2 σ H2 Q y u I2 ry q2)
    | false =>
      rw [if_neg (by decide)] at q2
      obtain ⟨k2, e2, q3⟩ := q2
      cases e2
      exact ite_ff ⟨H2, I2, q3⟩)
theorem pe_chN (ha : PE X a ta) (h : PLs X pos (op :: op' :: ops) (b :: b' :: es) t) (hm : lastMarks (op :: op' :: ops) (b :: b' :: es) = false := by with_unfolding_all rfl) : PE X (.Compare a (op :: op' :: ops) (b :: b' :: es) pos) (tChN ta t) where
  run := fun pins s σ H Q I q => Compare_chain (thn (ha.run pins s σ H _ I q) fun v s1 w => let ⟨x, H1, I1, rx, q1⟩ := w; h.val pins s1 σ H1 Q x v I1 rx q1) hm
theorem pt_chN (ha : PE X a ta) (h : PLs X pos (op :: op' :: ops) (b :: b' :: es) t) (hm : lastMarks (op :: op' :: ops) (b :: b' :: es) = false := by with_unfolding_all rfl) : PT X (.Compare a (op :: op' :: ops) (b :: b' :: es) pos) (tTest (tChN ta t)) where
  run := fun pins s σ H Q I q => isTrue_chain (thn (ha.run pins s σ H _ I q) fun v s1 w => let ⟨x, H1, I1, rx, q1⟩ := w; h.tst pins s1 σ H1 Q x v I1 rx q1) hm
end
def kChN (t : V → TE) (σ : L2.St) (Q : VK) : VK := fun x H => t x σ H Q
def kLk1 (r : R2) (x : V) (rest : V → TE) (σ : L2.St) (Q : VK) : VK := fun y H1 => r x y H1 fun z H2 => ∃ k, z = .bl k ∧ if k = true then rest y σ H2 Q else Q (.bl false) H2
def kLk2 (y : V) (rest : V → TE) (σ : L2.St) (Q : VK) : VK := fun z H2 => ∃ k, z = .bl k ∧ if k = true then rest y σ H2 Q else Q (.bl false) H2
section
variable {r : R2} {ta tb : TE} {t : V → TE} {σ : L2.St} {H : Hp} {Q : VK} {x y : V} {c : Prop} {dc : Decidable c}
theorem w_chN (h : ta σ H (kChN t σ Q)) : tChN ta t σ H Q := h
theorem w_kchk (h : tb σ H (kLk1 r x t σ Q)) : kChN (tLk r tb t) σ Q x H := h
theorem w_kchs (h : tb σ H (kOp2 r x Q)) : kChN (tLs r tb) σ Q x H := h
theorem w_klk1 (h : r x y H (kLk2 y t σ Q)) : kLk1 r x t σ Q y H := h
theorem w_klk2 (h1 : c → kChN t σ Q y H) (h2 : ¬ c → Q (.bl false) H) : kLk2 y t σ Q (.bl (decide c)) H := ⟨_, rfl, by
  by_cases h : c
  · rw [if_pos (decide_eq_true h)]; exact h1 h
  · rw [if_neg (fun z => h (of_decide_eq_true z))]; exact h2 h⟩
end
end Rd
/-! DatR: data in the heap: None, bools, ints, texts, and lists and tuples of such; X: the lists that may still change. -/
namespace Rd
open PySem PySem.Spec PyProof.Rows L2
/-- all stands but the lists in X -/
def Keeps (X : List Addr) (H H' : Hp) : Prop := ∀ b o, H b = some o → (b ∉ X ∨ ∀ xs, o ≠ .lst xs) → H' b = some o
section
variable {X Y : List Addr} {H H1 H2 H' : Hp} {p l : Addr} {xs : List V} {o : HO}
theorem Keeps.refl : Keeps X H H := fun _ _ h _ => h
theorem Keeps.trans (a : Keeps X H H1) (b : Keeps X H1 H2) : Keeps X H H2 := fun c o h n => b c o (a c o h n) n
theorem Keeps.same (s : Same H H') : Keeps X H H' := fun b o h _ => s b o h
theorem Keeps.drawn (hp : p ∈ X) (d : Drawn p H H') : Keeps X H H' := fun b o h n => by
  refine d.grow b o (fun e => ?_) h
  subst e
  obtain ⟨k, w⟩ := d.was
  rw [h] at w
  rcases n with n | n
  · exact n hp
  · cases w; exact n k rfl
theorem Keeps.put (hl : l ∈ X) (h : H l = some (.lst xs)) : Keeps X H (upd H l o) := fun b u hb n => by
  by_cases e : b = l
  · subst e
    rw [h] at hb
    cases hb
    exact n.elim (fun z => absurd hl z) fun z => absurd rfl (z xs)
  · rw [upd_ne e]; exact hb
theorem Keeps.new {x : Addr} (s : Keeps X H H1) (hx : H x = none) : Keeps X H (upd H1 x o) := fun b u hb n => by
  rw [upd_ne (ne_of_none hb hx)]; exact s b u hb n
theorem Keeps.weak (h : Keeps X H H') (w : ∀ b ∈ X, b ∈ Y) : Keeps Y H H' := fun b o hb n => h b o hb (n.elim (fun z => .inl fun m => z (w b m)) .inr)
theorem goes_keeps (X : List Addr) (H : Hp) : GoesOn (Keeps X) H := ⟨.refl, .trans, .new⟩
end
inductive Dat (K : PySem.W.Frag) (X : List Addr) (H : Hp) : V → PyData → Prop
  | non : Dat K X H .non .none
  | bl (b : Bool) : Dat K X H (.bl b) (.bool b)
  | int (i : Int) : Dat K X H (.int i) (.int i)
  | str (z : Str) : Dat K X H (.str z) (.str z)
  | lst {a : Addr} {xs : List V} {ds : List PyData} (n : a ∉ X) (h : H a = some (.lst xs)) (len : xs.length = ds.length) (all : ∀ (i : Nat) (x : V) (d : PyData), xs[i]? = some x → ds[i]? = some d → Dat K X H x d) : Dat K X H (.ref a) (.list ds)
  | tup {a : Addr} {xs : List V} {ds : List PyData} (h : SqT K H a xs) (len : xs.length = ds.length) (all : ∀ (i : Nat) (x : V) (d : PyData), xs[i]? = some x → ds[i]? = some d → Dat K X H x d) : Dat K X H (.ref a) (.tuple ds)
structure DatA (K : PySem.W.Frag) (X : List Addr) (H : Hp) (xs : List V) (ds : List PyData) : Prop where
  len : xs.length = ds.length
  all : ∀ (i : Nat) (x : V) (d : PyData), xs[i]? = some x → ds[i]? = some d → Dat K X H x d
section
variable {K : PySem.W.Frag} {X Y : List Addr} {H H' : Hp} {v : V} {d : PyData} {xs ys : List V} {ds es : List PyData} {a l : Addr} {Q : VK} {i : Int}
theorem Keeps.sqL (k : Keeps X H H') (n : a ∉ X) (h : SqL K H a xs) : SqL K H' a xs := by
  rcases h with (h | ⟨o, h⟩) | h
  · exact .inl (.inl (k _ _ h (.inl n)))
  · exact .inl (.inr ⟨o, k _ _ h (.inl n)⟩)
  · exact .inr h
theorem Keeps.sqT (k : Keeps X H H') (h : SqT K H a xs) : SqT K H' a xs := by
  rcases h with (h | ⟨o, h⟩) | h
  · exact .inl (.inl (k _ _ h (.inr fun _ z => nomatch z)))
  · exact .inl (.inr ⟨o, k _ _ h (.inr fun _ z => nomatch z)⟩)
  · exact .inr h
theorem Keeps.ins {C dx : Addr} {fs : List (Str × V)} (k : Keeps X H H') (h : H a = some (.ins C dx fs)) : H' a = some (.ins C dx fs) := k _ _ h (.inr fun _ z => nomatch z)
theorem Keeps.tup (k : Keeps X H H') (h : H a = some (.tup xs)) : H' a = some (.tup xs) := k _ _ h (.inr fun _ z => nomatch z)
theorem Keeps.lst (k : Keeps X H H') (n : a ∉ X) (h : H a = some (.lst xs)) : H' a = some (.lst xs) := k _ _ h (.inl n)
theorem Dat.keep (k : Keeps X H H') (h : Dat K X H v d) : Dat K X H' v d := by
  induction h with
  | non => exact .non
  | bl b => exact .bl b
  | int i => exact .int i
  | str z => exact .str z
  | lst n h len _ ih => exact .lst n (k.lst n h) len ih
  | tup h len _ ih => exact .tup (k.sqT h) len ih
theorem Dat.weak (w : ∀ b ∈ Y, b ∈ X) (h : Dat K X H v d) : Dat K Y H v d := by
  induction h with
  | non => exact .non
  | bl b => exact .bl b
  | int i => exact .int i
  | str z => exact .str z
  | lst n h len _ ih => exact .lst (fun m => n (w _ m)) h len ih
  | tup h len _ ih => exact .tup h len ih
theorem DatA.keep (k : Keeps X H H') (h : DatA K X H xs ds) : DatA K X H' xs ds := ⟨h.len, fun i x d a b => (h.all i x d a b).keep k⟩
theorem DatA.weak (w : ∀ b ∈ Y, b ∈ X) (h : DatA K X H xs ds) : DatA K Y H xs ds := ⟨h.len, fun i x d a b => (h.all i x d a b).weak w⟩
theorem DatA.nil : DatA K X H [] [] := ⟨rfl, fun _ _ _ h => nomatch h⟩
theorem DatA.cons (h : Dat K X H v d) (t : DatA K X H xs ds) : DatA K X H (v :: xs) (d :: ds) := ⟨congrArg Nat.succ t.len, fun i x e a b => match i with
  | 0 => by cases a; cases b; exact h
  | i + 1 => t.all i x e a b⟩
theorem DatA.snoc (t : DatA K X H xs ds) (h : Dat K X H v d) : DatA K X H (xs ++ [v]) (ds ++ [d]) := by
  refine ⟨by simp [t.len], fun i x e a b => ?_⟩
  rcases Nat.lt_trichotomy i xs.length with c | c | c
  · rw [List.getElem?_append_left c] at a
    rw [List.getElem?_append_left (t.len ▸ c)] at b
    exact t.all i x e a b
  · subst c
    rw [List.getElem?_append_right (Nat.le_refl _), Nat.sub_self] at a
    rw [List.getElem?_append_right (Nat.le_of_eq t.len.symm), t.len, Nat.sub_self] at b
    cases a; cases b; exact h
  · rw [List.getElem?_eq_none (by rw [List.length_append]; show xs.length + 1 ≤ i; omega)] at a
    cases a
theorem DatA.app (t : DatA K X H xs ds) (u : DatA K X H ys es) : DatA K X H (xs ++ ys) (ds ++ es) := by
  refine ⟨by simp [t.len, u.len], fun i x e a b => ?_⟩
  by_cases c : i < xs.length
  · rw [List.getElem?_append_left c] at a
    rw [List.getElem?_append_left (t.len ▸ c)] at b
    exact t.all i x e a b
  · rw [List.getElem?_append_right (by omega)] at a
    rw [List.getElem?_append_right (by have := t.len; omega), ← t.len] at b
    exact u.all _ x e a b
theorem DatA.at_ (t : DatA K X H xs ds) {j : Nat} (hd : ds[j]? = some d) : ∃ v, xs[j]? = some v ∧ Dat K X H v d := by
  have hj : j < xs.length := by rw [t.len]; exact (List.getElem?_eq_some_iff.mp hd).1
  exact ⟨xs[j], List.getElem?_eq_getElem hj, t.all j _ _ (List.getElem?_eq_getElem hj) hd⟩
theorem DatA.set {j : Nat} (t : DatA K X H xs ds) (h : Dat K X H v d) : DatA K X H (xs.set j v) (ds.set j d) := by
  refine ⟨by simp [t.len], fun i x e a b => ?_⟩
  by_cases c : i = j
  · subst c
    have l1 : i < xs.length := by have := (List.getElem?_eq_some_iff.mp a).1; simpa using this
    rw [List.getElem?_set_self l1] at a
    rw [List.getElem?_set_self (t.len ▸ l1)] at b
    cases a; cases b; exact h
  · rw [List.getElem?_set_ne (Ne.symm c)] at a b
    exact t.all i x e a b
theorem DatA.ints (ns : List Int) : DatA K X H (ns.map V.int) (ns.map PyData.int) := ⟨by simp, fun i x d a b => by
  rw [List.getElem?_map] at a b
  cases e : ns[i]? with
  | none => rw [e] at a; cases a
  | some n => rw [e] at a b; cases a; cases b; exact .int n⟩
theorem DatA.strs (ss : List Str) : DatA K X H (ss.map V.str) (ss.map PyData.str) := ⟨by simp, fun i x d a b => by
  rw [List.getElem?_map] at a b
  cases e : ss[i]? with
  | none => rw [e] at a; cases a
  | some n => rw [e] at a b; cases a; cases b; exact .str n⟩
theorem DatA.newL (t : DatA K X H xs ds) (n : l ∉ X) (h : H l = some (.lst xs)) : Dat K X H (.ref l) (.list ds) := .lst n h t.len t.all
theorem DatA.newT (t : DatA K X H xs ds) (h : H l = some (.tup xs)) : Dat K X H (.ref l) (.tuple ds) := .tup (SqT.of h) t.len t.all
theorem Dat.list (h : Dat K X H v (.list ds)) : ∃ a xs, v = .ref a ∧ a ∉ X ∧ H a = some (.lst xs) ∧ DatA K X H xs ds := by
  cases h with
  | lst n h len all => exact ⟨_, _, rfl, n, h, len, all⟩
theorem Dat.tuple (h : Dat K X H v (.tuple ds)) : ∃ a xs, v = .ref a ∧ SqT K H a xs ∧ DatA K X H xs ds := by
  cases h with
  | tup h len all => exact ⟨_, _, rfl, h, len, all⟩
theorem Dat.int_ (h : Dat K X H v (.int i)) : v = .int i := by cases h; rfl
theorem Dat.str_ {z : Str} (h : Dat K X H v (.str z)) : v = .str z := by cases h; rfl
theorem Dat.none_ (h : Dat K X H v .none) : v = .non := by cases h; rfl
theorem dp_all : ∀ {xs : List V} {ds : List PyData}, xs.length = ds.length → (∀ (i : Nat) (x : V) (d : PyData), xs[i]? = some x → ds[i]? = some d → Dp K H x d) → DpAll K H xs ds
  | [], [], _, _ => .nil
  | [], _ :: _, l, _ => by cases l
  | _ :: _, [], l, _ => by cases l
  | x :: xs, d :: ds, l, h => .cons (h 0 x d rfl rfl) (dp_all (Nat.succ.inj l) fun i y e a b => h (i + 1) y e a b)
theorem Dat.dp (h : Dat K X H v d) : Dp K H v d := by
  induction h with
  | non => exact .non
  | bl b => exact .bl b
  | int i => exact .int i
  | str z => exact .str z
  | lst n h len _ ih => exact .lst (SqL.of h) (dp_all len ih)
  | tup h len _ ih => exact .tup h (dp_all len ih)
/-! ### reading it -/
theorem ix_D {j : Nat} (h : Dat K X H v (.list ds) ∨ Dat K X H v (.tuple ds)) (hd : ds[j]? = some d) (h0 : 0 ≤ i) (hi : i.toNat = j) (k : ∀ u, Dat K X H u d → Q u H) : rIx K v (.int i) H Q := by
  subst hi
  rcases h with h | h
  · obtain ⟨a, xs, rfl, n, hs, t⟩ := h.list
    obtain ⟨u, hu, hd⟩ := t.at_ hd
    exact w_ixL (SqL.of hs) (atI_of h0 hu) (k u hd)
  · obtain ⟨a, xs, rfl, hs, t⟩ := h.tuple
    obtain ⟨u, hu, hd⟩ := t.at_ hd
    exact w_ixT hs (atI_of h0 hu) (k u hd)
theorem ix_I {ns : List Int} {j : Nat} (h : Dat K X H v (.list (ns.map PyData.int))) (h0 : 0 ≤ i) (hi : i.toNat = j) (hj : j < ns.length) (k : Q (.int (ns.getD j 0)) H) : rIx K v (.int i) H Q :=
  ix_D (.inl h) (d := .int (ns.getD j 0)) (by rw [List.getElem?_map, List.getElem?_eq_getElem hj, List.getD_eq_getElem?_getD, List.getElem?_eq_getElem hj]; rfl) h0 hi fun u hu => by rw [hu.int_]; exact k
theorem ix_St {ss : List Str} {z : Str} {j : Nat} (h : Dat K X H v (.list (ss.map PyData.str))) (h0 : 0 ≤ i) (hi : i.toNat = j) (hj : ss[j]? = some z) (k : Q (.str z) H) : rIx K v (.int i) H Q :=
  ix_D (.inl h) (d := .str z) (by rw [List.getElem?_map, hj]; rfl) h0 hi fun u hu => by rw [hu.str_]; exact k
theorem len_D (h : Dat K X H v (.list ds) ∨ Dat K X H v (.tuple ds)) (k : Q (.int ds.length) H) : rLen K [v] H Q := by
  rcases h with h | h
  · obtain ⟨a, xs, rfl, n, hs, t⟩ := h.list
    exact w_lenL (SqL.of hs) (by rw [t.len]; exact k)
  · obtain ⟨a, xs, rfl, hs, t⟩ := h.tuple
    exact w_lenT hs (by rw [t.len]; exact k)
theorem eq_D {u : V} {e : PyData} (h1 : Dat K X H v d) (h2 : Dat K Y H u e) (s1 : SeqAt.shaped d = true) (s2 : SeqAt.shaped e = true) (k : Q (.bl (PyData.eqv d e)) H) : uEq K v u H Q := .inr ⟨d, e, h1.dp, h2.dp, s1, s2, k⟩
theorem ne_D {u : V} {e : PyData} (h1 : Dat K X H v d) (h2 : Dat K Y H u e) (s1 : SeqAt.shaped d = true) (s2 : SeqAt.shaped e = true) (k : Q (.bl (!PyData.eqv d e)) H) : uNe K v u H Q := .inr ⟨d, e, h1.dp, h2.dp, s1, s2, k⟩
theorem gt_D2 {σ : L2.St} {j k : Nat} {d1 d2 : PyData} {Qn : L2.St → Hp → Prop} (h : Dat K X H v (.tuple [d1, d2])) (q : ∀ v1 v2, Dat K X H v1 d1 → Dat K X H v2 d2 → Qn ((σ.set j (some v1)).set k (some v2)) H) : gTup K 2 (gCons (gName j) (gCons (gName k) gNil)) v σ H Qn := by
  obtain ⟨a, xs, rfl, hs, t⟩ := h.tuple
  obtain ⟨v1, v2, rfl⟩ := len2 t.len
  exact w_gt2 hs (q v1 v2 (t.all 0 _ _ rfl rfl) (t.all 1 _ _ rfl rfl))
theorem gt_D3 {σ : L2.St} {j k m : Nat} {d1 d2 d3 : PyData} {Qn : L2.St → Hp → Prop} (h : Dat K X H v (.tuple [d1, d2, d3])) (q : ∀ v1 v2 v3, Dat K X H v1 d1 → Dat K X H v2 d2 → Dat K X H v3 d3 → Qn (((σ.set j (some v1)).set k (some v2)).set m (some v3)) H) : gTup K 3 (gCons (gName j) (gCons (gName k) (gCons (gName m) gNil))) v σ H Qn := by
  obtain ⟨a, xs, rfl, hs, t⟩ := h.tuple
  obtain ⟨v1, v2, v3, rfl⟩ := len3 t.len
  exact w_gt3 hs (q v1 v2 v3 (t.all 0 _ _ rfl rfl) (t.all 1 _ _ rfl rfl) (t.all 2 _ _ rfl rfl))
theorem list_D (h : Dat K X H v (.list ds) ∨ Dat K X H v (.tuple ds)) (k : ∀ (l : Addr) (xs : List V) (H' : Hp), H l = none → Same H H' → H' l = some (.lst xs) → DatA K X H' xs ds → Q (.ref l) H') : rList K [v] H Q := by
  rcases h with h | h
  · obtain ⟨a, xs, rfl, n, hs, t⟩ := h.list
    exact w_listL (SqL.of hs) fun l hl => k l xs _ hl (same_new hl) upd_same (t.keep (.same (same_new hl)))
  · obtain ⟨a, xs, rfl, hs, t⟩ := h.tuple
    exact w_listT hs fun l hl => k l xs _ hl (same_new hl) upd_same (t.keep (.same (same_new hl)))
/-- what was free is in no data -/
theorem Dat.off (hl : H l = none) (h : Dat K X H v d) : Dat K (l :: X) H v d := by
  induction h with
  | non => exact .non
  | bl b => exact .bl b
  | int i => exact .int i
  | str z => exact .str z
  | lst n h len _ ih => exact .lst (fun m => (List.mem_cons.mp m).elim (fun e => by rw [e, hl] at h; cases h) n) h len ih
  | tup h len _ ih => exact .tup h len ih
theorem DatA.off (hl : H l = none) (h : DatA K X H xs ds) : DatA K (l :: X) H xs ds := ⟨h.len, fun i x d a b => (h.all i x d a b).off hl⟩
/-- for x in a list that stands since H0 -/
theorem for_D {H0 : Hp} {g : TG} {tb : TS} {D : Ends} {σ : L2.St} (h : Dat K X H0 v (.list ds)) (Pv : Nat → L2.St → Hp → Prop) (h0 : Pv 0 σ H) (hk : ∀ i σ H', Pv i σ H' → Keeps X H0 H')
    (hs : ∀ (i : Nat) (x : V) (d : PyData) (σ : L2.St) (H1 : Hp), ds[i]? = some d → Dat K X H1 x d → Pv i σ H1 → g x σ H1 fun σ2 H2 => tb { D with nx := Pv (i + 1), ct := Pv (i + 1), bk := D.nx } σ2 H2)
    (hd : ∀ σ H', Pv ds.length σ H' → D.nx σ H') : kFL K g tb D σ v H := by
  obtain ⟨a, xs, rfl, n, hsq, t⟩ := h.list
  refine ⟨a, rfl, ⟨_, SqL.of ((hk 0 σ H h0).lst n hsq)⟩, for_list (xs := xs) Pv h0 (fun i σ H' _ p => SqL.of ((hk i σ H' p).lst n hsq)) (fun i x σ H' hx p => ?_) (t.len ▸ hd)⟩
  obtain ⟨d, e⟩ : ∃ d, ds[i]? = some d := ⟨ds[i]'(by rw [← t.len]; exact (List.getElem?_eq_some_iff.mp hx).1), List.getElem?_eq_getElem _⟩
  exact hs i x d σ H' e ((t.all i x d hx e).keep (hk i σ H' p)) p
/-- [e for x in a list that stands since H0] -/
theorem lc_D {H0 : Hp} {G : Hp → Hp → Prop} {g : TG} {tt : TT} {te : TE} {vs : List Nat} {σ : L2.St} (gs : GoesOn G H) (h : Dat K X H0 v (.list ds)) (gk : ∀ H', G H H' → Keeps X H0 H') (R : Nat → List V → Prop) (r0 : R 0 [])
    (step : ∀ (D : Addr) (i : Nat) (x : V) (d : PyData) (acc : List V) (H1 : Hp), H D = none → ds[i]? = some d → Dat K X H1 x d → R i acc → G H H1 → H1 D = some (.lst acc) → LcStep G H D R g tt te vs σ i x H1)
    (done : ∀ (l : Addr) (acc : List V) (H' : Hp), H l = none → G H H' → H' l = some (.lst acc) → R ds.length acc → Q (.ref l) H') : kCL K g tt te vs σ Q v H := by
  obtain ⟨a, xs, rfl, n, hsq, t⟩ := h.list
  refine ⟨a, rfl, ⟨_, SqL.of ((gk H gs.refl).lst n hsq)⟩, fun D hD => lc_list (xs := xs) (LcP G H D R) ⟨[], upd_same, gs.put gs.refl hD, r0⟩ ?_ ?_ ?_⟩
  · rintro i H' _ ⟨acc, _, s, _⟩
    exact SqL.of ((gk H' s).lst n hsq)
  · rintro i x H' hxi ⟨acc, ha, s, r⟩
    obtain ⟨d, e⟩ : ∃ d, ds[i]? = some d := ⟨ds[i]'(by rw [← t.len]; exact (List.getElem?_eq_some_iff.mp hxi).1), List.getElem?_eq_getElem _⟩
    exact step D i x d acc H' hD e ((t.all i x d hxi e).keep (gk H' s)) r s ha
  · rintro H' ⟨acc, ha, s, r⟩
    exact done D acc H' hD s ha (t.len ▸ r)
/-- sorted of two ints -/
theorem sort2 {a b : Int} {ns : List Int} (p : ns.Perm [a, b]) (r : ns.Pairwise (· ≤ ·)) : ns = [min a b, max a b] := by
  have l := p.length_eq
  obtain ⟨x, y, rfl⟩ := len2 l
  have hxy : x ≤ y := by
    have := List.pairwise_cons.mp r
    exact this.1 y (List.mem_singleton.mpr rfl)
  have m1 : x = a ∨ x = b := by simpa using p.subset (List.mem_cons_self (a := x))
  have m2 : y = a ∨ y = b := by simpa using p.subset (List.mem_cons_of_mem x (List.mem_singleton.mpr (rfl : y = y)))
  have m3 : a = x ∨ a = y := by simpa using p.symm.subset (List.mem_cons_self (a := a))
  have m4 : b = x ∨ b = y := by simpa using p.symm.subset (List.mem_cons_of_mem a (List.mem_singleton.mpr (rfl : b = b)))
  have e1 : x = min a b := by omega
  have e2 : y = max a b := by omega
  rw [e1, e2]
/-- lists of ints of one length -/
def AllR (K : PySem.W.Frag) (X : List Addr) (H : Hp) (n : Nat) (xs : List V) : Prop := ∀ x ∈ xs, ∃ ns : List Int, Dat K X H x (.list (ns.map PyData.int)) ∧ ns.length = n
theorem AllR.keep {n : Nat} (h : AllR K X H n xs) (k : Keeps X H H') : AllR K X H' n xs := fun x hx => let ⟨ns, d, l⟩ := h x hx; ⟨ns, d.keep k, l⟩
theorem AllR.weak {n : Nat} (w : ∀ b ∈ Y, b ∈ X) (h : AllR K X H n xs) : AllR K Y H n xs := fun x hx => let ⟨ns, d, l⟩ := h x hx; ⟨ns, d.weak w, l⟩
theorem AllR.off {n : Nat} (hl : H l = none) (h : AllR K X H n xs) : AllR K (l :: X) H n xs := fun x hx => let ⟨ns, d, e⟩ := h x hx; ⟨ns, d.off hl, e⟩
theorem AllR.nil {n : Nat} : AllR K X H n [] := fun _ h => nomatch h
theorem AllR.cons {n : Nat} {ns : List Int} (a : Dat K X H v (.list (ns.map PyData.int))) (e : ns.length = n) (h : AllR K X H n xs) : AllR K X H n (v :: xs) := fun x hx => (List.mem_cons.mp hx).elim (fun z => ⟨ns, z ▸ a, e⟩) (h x)
theorem AllR.app {n : Nat} (h : AllR K X H n xs) (k : AllR K X H n ys) : AllR K X H n (xs ++ ys) := fun x hx => (List.mem_append.mp hx).elim (h x) (k x)
theorem Dat.ints {ns : List Int} (n : l ∉ X) (h : H l = some (.lst (ns.map V.int))) : Dat K X H (.ref l) (.list (ns.map PyData.int)) := (DatA.ints ns).newL n h
theorem Dat.strs {ss : List Str} (n : l ∉ X) (h : H l = some (.lst (ss.map V.str))) : Dat K X H (.ref l) (.list (ss.map PyData.str)) := (DatA.strs ss).newL n h
/-- data of texts are equal to themselves -/
theorem lay_strs : ∀ {ss : List Str}, (∀ z ∈ ss, PyData.strOk z = true) → PyData.canLayAll0 (ss.map PyData.str) = true ∧ PyData.depthAll (ss.map PyData.str) = 0
  | [], _ => by simp [PyData.canLayAll0, PyData.depthAll]
  | z :: r, h => by
    have ih := lay_strs fun y hy => h y (List.mem_cons_of_mem _ hy)
    have hz := h z List.mem_cons_self
    simp [PyData.canLayAll0, PyData.depthAll, PyData.canLay0, PyData.depth, ih, hz]
theorem shaped_strs {ss : List Str} (h : ∀ z ∈ ss, PyData.strOk z = true) : SeqAt.shaped (.list (ss.map PyData.str)) = true := by
  unfold SeqAt.shaped
  simp [PyData.canLay0, PyData.depth, lay_strs h]
theorem eqv_strs : ∀ ss : List Str, PyData.eqvAll (ss.map PyData.str) (ss.map PyData.str) = true
  | [] => by simp [PyData.eqvAll]
  | z :: r => by simp [PyData.eqvAll, PyData.eqv, eqv_strs r]
end
end Rd
/-! MethA: o.m(..), o.f of a property, where o is of one of several own classes; C() and f() by keyword .. -/
namespace Rd
open PySem PySem.Spec PyProof.Rows L2
/-- the class is one of these names' -/
def OneOf (K : PySem.W.Frag) (xs : List Str) (C : Addr) : Prop := ∃ x ∈ xs, C = He.ga K x
/-- o.m(..), o of a class that G names -/
def tMethA (G : Addr → Prop) (m : Str) (sp : Sp) (E : L2.St → XK) (ta : TE) (t : TA) : TE := fun σ H Q => ta σ H fun x H1 => ∃ a C dx fs, x = .ref a ∧ H1 a = some (.ins C dx fs) ∧ G C ∧ fs.lookup m = none ∧ t σ H1 fun vs H2 => sp (x :: vs) H2 Q (E σ)
section
variable {X : Cx} {CX : CXT} {k : Nat} {G : Addr → Prop} {m : Str} {ps : List Str} {sp : Sp} {E : L2.St → XK} {o e : Expr} {es : List Expr} {ta : TE} {t : TA} {pos apos : Pos} {pl : Sem Bool}
theorem pe_mgA (hG : ∀ C, G C → MtG X.prog X.w X.K X.mg X.base CX k C m ps sp) (hr : Room k X.A) (hx : ∀ σ, PassesAt CX X σ (E σ)) (ho : PE X o ta) (ha : PA X (e :: es) t) (h1 : starEach (e :: es) X.env = (false, eval e X.env) :: starEach es X.env := by rfl) (h2 : (backTo pos (starEach es X.env)).any (·.1) = false := by rfl)
    (h3 : eval (.Call (.Attribute o m apos) (e :: es) [] pos) X.env = (eval o X.env >>= fun ov => standAt apos.atName >>= fun _ => holding [ov] (getMethod ov m pl) >>= fun fx => callWith pos fx.1 fx.2 (backTo pos (starEach (e :: es) X.env)) (backToKw pos (keywordEach [] X.env))) := by rfl) : PE X (.Call (.Attribute o m apos) (e :: es) [] pos) (tMethA G m sp E ta t) where
  run := fun pins s σ H Q I h => by
    refine PySem.W.methodCall_KW (pl := pl) (wpAny_mono (ho.run pins s σ H _ I h) (fun u s1 z => ?_) fun _ _ w => w) h3
    obtain ⟨y, H1, I1, ry, a, C, dx, fs, rfl, ea, g, nl, q⟩ := z
    obtain ⟨f, fd, mt, F, b⟩ := (hG C g).ex
    cases (show u = Value.ref a from ry)
    have arg : wpAny (model X.prog X.w) X.A (spliced (backTo pos (starEach (e :: es) X.env))) (AP X pins σ _) X.xe s1 := ha.run pos pins s1 σ H1 _ I1 q
    refine getmeth_ok I1 ea (hG C g).cls mt nl (PySem.W.callWith_K (first := [.ref a]) (h₀ := X.base) I.ok.mod.kin mt.kp (wpAny_mono arg (fun us s2 z => ?_) fun _ _ w => w) h1 h2)
    obtain ⟨vs, H2, I2, rv, q2⟩ := z
    exact ⟨I2.kIn, run_fnS (us := .ref a :: us) (vs := .ref a :: vs) F hr b (hx σ) I2 (.cons ry rv) q2⟩
theorem pe_mgA1 (hG : ∀ C, G C → MtG X.prog X.w X.K X.mg X.base CX0 k C m ps sp) (hr : Room k X.A) (ho : PE X o ta) (ha : PA X (e :: es) t) (h1 : starEach (e :: es) X.env = (false, eval e X.env) :: starEach es X.env := by rfl) (h2 : (backTo pos (starEach es X.env)).any (·.1) = false := by rfl)
    (h3 : eval (.Call (.Attribute o m apos) (e :: es) [] pos) X.env = (eval o X.env >>= fun ov => standAt apos.atName >>= fun _ => holding [ov] (getMethod ov m pl) >>= fun fx => callWith pos fx.1 fx.2 (backTo pos (starEach (e :: es) X.env)) (backToKw pos (keywordEach [] X.env))) := by rfl) : PE X (.Call (.Attribute o m apos) (e :: es) [] pos) (tMethA G m sp (fun _ => E0) ta t) :=
  pe_mgA hG hr (fun σ => Passes.at_ pass0 σ) ho ha h1 h2 h3
end
def kMa (G : Addr → Prop) (m : Str) (sp : Sp) (E : XK) (t : TA) (σ : L2.St) (Q : VK) : VK := fun x H1 => ∃ a C dx fs, x = .ref a ∧ H1 a = some (.ins C dx fs) ∧ G C ∧ fs.lookup m = none ∧ t σ H1 fun vs H2 => sp (x :: vs) H2 Q E
def kMa2 (sp : Sp) (E : XK) (x : V) (Q : VK) : List V → Hp → Prop := fun vs H => sp (x :: vs) H Q E
section
variable {G : Addr → Prop} {m : Str} {sp : Sp} {E : L2.St → XK} {E1 : XK} {ta : TE} {t : TA} {σ : L2.St} {H : Hp} {Q : VK} {x : V} {a C dx : Addr} {fs : List (Str × V)} {vs : List V}
theorem w_methA (h : ta σ H (kMa G m sp (E σ) t σ Q)) : tMethA G m sp E ta t σ H Q := h
theorem w_kma (ha : H a = some (.ins C dx fs)) (g : G C) (l : fs.lookup m = none) (h : t σ H (kMa2 sp E1 (.ref a) Q)) : kMa G m sp E1 t σ Q (.ref a) H := ⟨a, C, dx, fs, rfl, ha, g, l, h⟩
theorem w_kma2 (h : sp (x :: vs) H Q E1) : kMa2 sp E1 x Q vs H := h
end
end Rd
/-! PropA: a property of an own class, by facts. -/
namespace Rd
open PySem PySem.Spec PyProof.Rows L2
theorem Tx.prop {fa : List He.Fa} {fn : List He.DefD} {xa : List Xa} {fs : Fs} {P : Program} {w : World} {K : PySem.W.Frag} {mg : Str → Option Value} (T : Tx fa fn xa fs P w K mg) (i : Nat) {x m : Str} (h : xa[i]? = some (.prop x m) := by rfl) : PropOf K (He.ga K x) m (He.ma K (He.ga K x) m) (wrapAt "property" x m K) := by
  obtain ⟨a, r⟩ := He.ba (T.all.own i h)
  obtain ⟨b, r⟩ := He.ba r
  obtain ⟨c, r⟩ := He.ba r
  refine ⟨He.eqO_ok a, He.eqO_ok b, of_decide_eq_true c, ?_⟩
  split at r
  · rename_i g rest e
    refine ⟨rest, ?_⟩
    have w : wrapAt "property" x m K = g := by unfold wrapAt; rw [e]
    rw [w]; exact e
  · cases r
/-- a property by its getter -/
structure PrG (P : Program) (w : World) (K : PySem.W.Frag) (mg : Str → Option Value) (base : Heap) (k : Nat) (x m : Str) (sp : Sp) : Prop where
  ex : ∃ p g fd, PropOf K (He.ga K x) m p g ∧ FnOk P w K mg base CX0 k g fd ["self"] sp ∧ Binds K fd ["self"] []
  cls : Cls K (He.ga K x)
theorem pe_prG {X : Cx} {k : Nat} {x m : Str} {sp : Sp} {e : Expr} {pos : Pos} {ta : TE} (G : PrG X.prog X.w X.K X.mg X.base k x m sp) (hr : Room (k + 1) X.A) (he : PE X e ta) (hab : attributeBase e m X.env (eval e X.env) = eval e X.env := by rfl) : PE X (.Attribute e m pos) (tProp (He.ga X.K x) sp [] E0 ta) := by
  obtain ⟨p, g, fd, hp, F, b⟩ := G.ex
  exact pe_prop he G.cls hp F hr b .nil pass0 hab
def kPr (C : Addr) (sp : Sp) (Q : VK) : VK := fun x H1 => ∃ a dx fs, x = .ref a ∧ H1 a = some (.ins C dx fs) ∧ sp [.ref a] H1 Q E0
section
variable {C a dx : Addr} {sp : Sp} {ta : TE} {σ : L2.St} {H : Hp} {Q : VK} {fs : List (Str × V)}
theorem w_prop (h : ta σ H (kPr C sp Q)) : tProp C sp [] E0 ta σ H Q := h
theorem w_kpr (ha : H a = some (.ins C dx fs)) (h : sp [.ref a] H Q E0) : kPr C sp Q (.ref a) H := ⟨a, dx, fs, rfl, ha, h⟩
end
end Rd
/-! MkKS: C(e, .., k = v, ..) inside a try. -/
namespace Rd
open PySem PySem.Spec PyProof.Rows PySem.W L2
def tMkKS (C : Addr) (n m : Nat) (sp : Sp) (gV : List V → List V → List V) (E : L2.St → XK) (t tk : TA) : TE := fun σ H Q => tMakeK C n m sp gV (E σ) t tk σ H Q
section
variable {X : Cx} {CX : CXT} {k n : Nat} {x : Str} {ps ks : List Str} {sp : Sp} {gV : List V → List V → List V} {E : L2.St → XK} {e : Expr} {es : List Expr} {kws : List Keyword} {t tk : TA} {p pos : Pos}
theorem pe_mkKS (G : MkK X.prog X.w X.K X.mg X.base CX k x ps n ks gV sp) (hr : Room (k + 1) X.A) (hg : Gl X x) (hx : ∀ σ, PassesAt CX X σ (E σ)) (ha : PA X (e :: es) t) (hkw : PK X kws tk)
    (hall : (backToKw pos (keywordEach kws X.env)).all (·.1.isSome) = true := by rfl) (hks : (backToKw pos (keywordEach kws X.env)).filterMap (·.1) = ks := by rfl) (hdb : (x == ("__debug__" : Str)) = false := by decide)
    (he : starEach (e :: es) X.env = (false, eval e X.env) :: starEach es X.env := by rfl) (hpl : ((backTo pos (starEach (e :: es) X.env)).any (·.1) || (backToKw pos (keywordEach kws X.env)).any (·.1.isNone)) = false := by rfl) :
    PE X (.Call (.Name x p) (e :: es) kws pos) (tMkKS (He.ga X.K x) n ks.length sp gV E t tk) where
  run := fun pins s σ H Q I h => by
    obtain ⟨f, fd, g, hm, M, F, hb⟩ := G.ex
    refine wpAny_Call_Name_kw (ld_glob I hg hm ?_ hdb)
    refine PySem.W.callWith_KW (h₀ := X.base) I.ok.mod.kin M.kp hall (thn (ha.run pos pins s σ H _ I h) fun us s1 w1 => ?_) hpl he
    obtain ⟨vs, H1, I1, r1, w1⟩ := w1
    refine thn (hkw.run pos pins s1 σ H1 _ I1 w1) fun ws s2 w2 => ?_
    obtain ⟨zs, H2, I2, r2, l1, l2, say⟩ := w2
    refine ⟨I2.kIn, ?_⟩
    rw [hks]
    have new := Inv.made (C := He.ga X.K x) I2
    have wish := say (s2.heap.objs.size + 1) s2.heap.objs.size (I2.hok.fresh (Nat.le_succ _)) (I2.hok.fresh (Nat.le_refl _)) (Nat.ne_of_lt (Nat.lt_succ_self _))
    have rr : Vals (V.ref (s2.heap.objs.size + 1) :: vs) (Value.ref (s2.heap.objs.size + 1) :: us) := .cons rfl r1
    have ln : (Value.ref (s2.heap.objs.size + 1) :: us).length = n + 1 := by rw [List.length_cons, ← r1.length, l1]
    have lw : ws.length = ks.length := r2.length.symm.trans l2
    refine wpAny_call (make_map (f := f) I2.kIn M.makes M.init (beq_iff_eq.mp M.fn) (codeAny_mono (F.run _ X.stack _ _ ⟨Value.ref (s2.heap.objs.size + 1) :: us, ks.zip ws⟩ (g (Value.ref (s2.heap.objs.size + 1) :: us) ws) _ _ (E σ) (hr.make _ us (ks.zip ws)) (new.env0.make _ us (ks.zip ws)) (hb.to _ _ ws new.kIn ln lw) (hb.rel rr r2) wish) fun r s3 c => ?_))
    have z := came_of new (hx σ) c
    cases r with
    | error e2 => exact z
    | ok fl => cases fl with
      | ret u =>
        obtain ⟨v, H3, I3, ru, ev, q⟩ := z
        cases ev
        exact ⟨ru, V.ref (s2.heap.objs.size + 1), H3, I3, rfl, q⟩
      | _ => exact (show False from z).elim
theorem pe_mkKC (C : Addr) (hC : He.ga X.K x = C) (G : MkK X.prog X.w X.K X.mg X.base CX k x ps n ks gV sp) (hr : Room (k + 1) X.A) (hg : Gl X x) (hx : ∀ σ, PassesAt CX X σ (E σ)) (ha : PA X (e :: es) t) (hkw : PK X kws tk)
    (hall : (backToKw pos (keywordEach kws X.env)).all (·.1.isSome) = true := by rfl) (hks : (backToKw pos (keywordEach kws X.env)).filterMap (·.1) = ks := by rfl) (hdb : (x == ("__debug__" : Str)) = false := by decide)
    (he : starEach (e :: es) X.env = (false, eval e X.env) :: starEach es X.env := by rfl) (hpl : ((backTo pos (starEach (e :: es) X.env)).any (·.1) || (backToKw pos (keywordEach kws X.env)).any (·.1.isNone)) = false := by rfl) :
    PE X (.Call (.Name x p) (e :: es) kws pos) (tMkKS C n ks.length sp gV E t tk) := hC ▸ pe_mkKS G hr hg hx ha hkw hall hks hdb he hpl
end
theorem w_mkKS {C : Addr} {n m : Nat} {sp : Sp} {gV : List V → List V → List V} {E : L2.St → XK} {t tk : TA} {σ : L2.St} {H : Hp} {Q : VK} (h : t σ H (kMk1 C n m sp gV (E σ) tk σ Q)) : tMkKS C n m sp gV E t tk σ H Q := h
end Rd
/-! FlatS: the slots stay one flat list, whatever is assigned (nested sets cost their reader a lot). -/
namespace Rd
open PySem PySem.Spec PyProof.Rows L2
theorem set_z {x y : Option V} {l : List (Option V)} : List.set (x :: l) 0 y = y :: l := rfl
theorem set_s {x y : Option V} {l l' : List (Option V)} {n : Nat} (h : List.set l n y = l') : List.set (x :: l) (n + 1) y = x :: l' := congrArg (x :: ·) h
theorem set_n {l l1 l2 : List (Option V)} {m n : Nat} {x y : Option V} (h1 : List.set l m x = l1) (h2 : List.set l1 n y = l2) : List.set (List.set l m x) n y = l2 := by subst h1; exact h2
theorem w_knameF {σ σ' : L2.St} {n : Nat} {v : V} {H : Hp} {nx : L2.St → Hp → Prop} (e : List.set σ n (some v) = σ') (h : nx σ' H) : kAsg (gName n) σ nx v H := by subst e; exact h
theorem w_gnameF {σ σ' : L2.St} {n : Nat} {v : V} {H : Hp} {nx : L2.St → Hp → Prop} (e : List.set σ n (some v) = σ') (h : nx σ' H) : gName n v σ H nx := by subst e; exact h
end Rd
/-! LitS: comparisons of written texts. -/
namespace Rd
open PySem PySem.Spec PyProof.Rows L2
section
variable {K : PySem.W.Frag} {H : Hp} {s s' : Str} {Q : VK}
theorem w_eqSy (e : s = s') (h : Q (.bl true) H) : rEq (.str s) (.str s') H Q := w_eqS (by rw [decide_eq_true e]; exact h)
theorem w_eqSn (e : s ≠ s') (h : Q (.bl false) H) : rEq (.str s) (.str s') H Q := w_eqS (by rw [decide_eq_false e]; exact h)
theorem w_neSy (e : s = s') (h : Q (.bl false) H) : rNe (.str s) (.str s') H Q := w_neS (by rw [decide_eq_true e]; exact h)
theorem w_neSn (e : s ≠ s') (h : Q (.bl true) H) : rNe (.str s) (.str s') H Q := w_neS (by rw [decide_eq_false e]; exact h)
end
end Rd
/-! GridM: bars, in plain numbers. -/
namespace GridM
theorem div_uniq {s q r x : Int} (hs : 0 < s) (h : x = s * q + r) (h0 : 0 ≤ r) (h1 : r < s) : x / s = q ∧ x % s = r := by
  have h2 : r / s = 0 := Int.ediv_eq_zero_of_lt h0 h1
  have h3 : r % s = r := Int.emod_eq_of_lt h0 h1
  subst h
  constructor
  · rw [Int.add_comm, Int.add_mul_ediv_left r q (by omega), h2]; omega
  · rw [Int.add_comm, Int.add_mul_emod_self_left, h3]
theorem split (s x : Int) : x = s * (x / s) + x % s := (Int.mul_ediv_add_emod x s).symm
def fb (s o t : Int) : Int := t + (o - t) % s
def lb (s o t : Int) : Int := t - (t - o) % s
theorem fb_eq {s o t : Int} : fb s o t = o - s * ((o - t) / s) := by
  have h := split s (o - t)
  unfold fb; omega
theorem lb_eq {s o t : Int} : lb s o t = o + s * ((t - o) / s) := by
  have h := split s (t - o)
  unfold lb; omega
/-- o and its rest differ by a multiple -/
theorem rest_eq (s o : Int) : o % s = o - s * (o / s) := by have h := split s o; omega
theorem fb_bar {s o t : Int} : (fb s (o % s) t - o) % s = 0 := by
  rw [fb_eq, rest_eq s o]
  have e : o - s * (o / s) - s * ((o - s * (o / s) - t) / s) - o = s * (-(o / s) - (o - s * (o / s) - t) / s) := by
    rw [Int.mul_sub, Int.mul_neg]; omega
  rw [e, Int.mul_emod_right]
theorem lb_bar {s o t : Int} : (lb s (o % s) t - o) % s = 0 := by
  rw [lb_eq, rest_eq s o]
  have e : o - s * (o / s) + s * ((t - (o - s * (o / s))) / s) - o = s * (-(o / s) + (t - (o - s * (o / s))) / s) := by
    rw [Int.mul_add, Int.mul_neg]; omega
  rw [e, Int.mul_emod_right]
theorem in_iff {s o t : Int} : (t - o % s) % s = (t - o) % s := by
  rw [rest_eq s o]
  have e : t - (o - s * (o / s)) = t - o + s * (o / s) := by omega
  rw [e, Int.add_mul_emod_self_left]
theorem fb_ge {s o t : Int} (hs : 0 < s) : 0 ≤ fb s o t - t ∧ fb s o t - t < s := by
  have h1 := Int.emod_nonneg (o - t) (show s ≠ 0 by omega)
  have h2 := Int.emod_lt_of_pos (o - t) hs
  unfold fb; omega
theorem lb_le {s o t : Int} (hs : 0 < s) : 0 ≤ t - lb s o t ∧ t - lb s o t < s := by
  have h1 := Int.emod_nonneg (t - o) (show s ≠ 0 by omega)
  have h2 := Int.emod_lt_of_pos (t - o) hs
  unfold lb; omega
/-- how many bars from low on, before high, by two floors -/
def cnt (s o lo hi : Int) : Int := (hi - 1 - o) / s - (lo - 1 - o) / s
theorem neg_div {s x : Int} (hs : 0 < s) : (-x) / s = -((x - 1) / s) - 1 := by
  have h := split s (x - 1)
  have h1 := Int.emod_nonneg (x - 1) (show s ≠ 0 by omega)
  have h2 := Int.emod_lt_of_pos (x - 1) hs
  refine (div_uniq (r := s - 1 - (x - 1) % s) hs ?_ (by omega) (by omega)).1
  have e : s * (-((x - 1) / s) - 1) = -(s * ((x - 1) / s)) - s := by rw [Int.mul_sub, Int.mul_neg, Int.mul_one]
  rw [e]; omega
theorem fb_cnt {s o lo hi : Int} (hs : 0 < s) : (fb s (o % s) hi - fb s (o % s) lo) / s = cnt s o lo hi := by
  have sh : ∀ t, (o % s - t) / s = (o - t) / s - o / s := fun t => by
    rw [rest_eq s o]
    have e : o - s * (o / s) - t = (o - t) + s * (-(o / s)) := by rw [Int.mul_neg]; omega
    rw [e, Int.add_mul_ediv_left _ _ (by omega)]; omega
  rw [fb_eq, fb_eq, sh, sh]
  have e : o % s - s * ((o - hi) / s - o / s) - (o % s - s * ((o - lo) / s - o / s)) = s * ((o - lo) / s - (o - hi) / s) := by
    rw [Int.mul_sub, Int.mul_sub, Int.mul_sub]; omega
  rw [e, Int.mul_ediv_cancel_left _ (by omega)]
  have h1 := neg_div (x := hi - o) hs
  have h2 := neg_div (x := lo - o) hs
  have e1 : -(hi - o) = o - hi := by omega
  have e2 : -(lo - o) = o - lo := by omega
  have e3 : hi - o - 1 = hi - 1 - o := by omega
  have e4 : lo - o - 1 = lo - 1 - o := by omega
  rw [e1, e3] at h1
  rw [e2, e4] at h2
  unfold cnt; omega
theorem step_div {s x : Int} (hs : 0 < s) : x / s - (x - 1) / s = if x % s = 0 then 1 else 0 := by
  have h := split s x
  have h1 := Int.emod_nonneg x (show s ≠ 0 by omega)
  have h2 := Int.emod_lt_of_pos x hs
  split
  · rename_i e
    have q := (div_uniq (s := s) (x := x - 1) (q := x / s - 1) (r := s - 1) hs (by rw [Int.mul_sub, Int.mul_one]; omega) (by omega) (by omega)).1
    omega
  · rename_i e
    have q := (div_uniq (s := s) (x := x - 1) (q := x / s) (r := x % s - 1) hs (by omega) (by omega) (by omega)).1
    omega
/-- the same, counted one by one -/
theorem cnt_count {s o lo : Int} (hs : 0 < s) : ∀ n : Nat, (((List.range n).filter fun i : Nat => decide ((lo + (i : Int) - o) % s = 0)).length : Int) = cnt s o lo (lo + n)
  | 0 => by unfold cnt; simp
  | n + 1 => by
    rw [List.range_succ, List.filter_append, List.length_append, Int.natCast_add, cnt_count hs n]
    have h := step_div (x := lo + (n : Int) - o) hs
    have e1 : lo + ((n + 1 : Nat) : Int) - 1 - o = lo + (n : Int) - o := by omega
    have e2 : lo + (n : Int) - 1 - o = lo + (n : Int) - o - 1 := by omega
    unfold cnt
    rw [e1, e2]
    by_cases z : (lo + (n : Int) - o) % s = 0
    · rw [if_pos z] at h
      simp [z]; omega
    · rw [if_neg z] at h
      simp [z]; omega
theorem fb_mono {s o t u : Int} (hs : 0 < s) (h : t ≤ u) : fb s o t ≤ fb s o u := by
  rw [fb_eq, fb_eq]
  have := Int.mul_le_mul_of_nonneg_left (Int.ediv_le_ediv hs (show o - u ≤ o - t by omega)) (Int.le_of_lt hs)
  omega
end GridM
/-! NumM: written numbers, plainly. -/
namespace NumM
open PySem PySem.NumText PyProof.Rows L2 SX
/-- without the minus -/
def dg (l : List Nat) : List Nat := if l.head? = some 45 then l.tail else l
def Good (l : List Nat) : Prop := (1 ≤ (dg l).length ∧ (dg l).length ≤ 40) ∧ AllDigits (dg l) ∧ ¬ ((dg l).head? = some 48 ∧ l ≠ [48])
def val (l : List Nat) : Int := if l.head? = some 45 then -((digitsVal (dg l) : Nat) : Int) else ((digitsVal (dg l) : Nat) : Int)
theorem dv_snoc (e : List Nat) (c : Nat) : digitsVal (e ++ [c]) = digitsVal e * 10 + (c - 48) := by unfold digitsVal; rw [List.foldl_append]; rfl
theorem rev_ind {P : List Nat → Prop} (h0 : P []) (hs : ∀ e c, P e → P (e ++ [c])) (l : List Nat) : P l := by
  have key : ∀ m : List Nat, P m.reverse := fun m => by
    induction m with
    | nil => exact h0
    | cons a r ih => rw [List.reverse_cons]; exact hs _ _ ih
  have := key l.reverse
  rw [List.reverse_reverse] at this
  exact this
theorem dv_lt : ∀ {d : List Nat}, AllDigits d → digitsVal d < 10 ^ d.length := by
  intro d
  induction d using rev_ind with
  | h0 => intro _; decide
  | hs e c ih =>
    intro h
    have h1 := ih fun x hx => h x (List.mem_append_left _ hx)
    have h2 := h c (List.mem_append_right _ (List.mem_singleton.mpr rfl))
    rw [dv_snoc, List.length_append, List.length_singleton, Nat.pow_succ]
    omega
theorem dv_pos : ∀ {d : List Nat}, AllDigits d → d ≠ [] → d.head? ≠ some 48 → 1 ≤ digitsVal d := by
  intro d
  induction d using rev_ind with
  | h0 => intro _ h; exact absurd rfl h
  | hs e c ih =>
    intro h _ h0
    have hc := h c (List.mem_append_right _ (List.mem_singleton.mpr rfl))
    rw [dv_snoc]
    by_cases he : e = []
    · subst he
      have : c ≠ 48 := fun z => h0 (by rw [z]; rfl)
      omega
    · have h1 := ih (fun x hx => h x (List.mem_append_left _ hx)) he (fun z => h0 (by rw [List.head?_append, z]; rfl))
      omega
/-- written back -/
theorem num_back : ∀ {d : List Nat}, AllDigits d → d ≠ [] → (d.head? = some 48 → d = [48]) → TL.numL (digitsVal d) = d := by
  intro d
  induction d using rev_ind with
  | h0 => intro _ h; exact absurd rfl h
  | hs e c ih =>
    intro h _ h0
    have hc := h c (List.mem_append_right _ (List.mem_singleton.mpr rfl))
    by_cases he : e = []
    · subst he
      have e1 : digitsVal ([] ++ [c]) = c - 48 := by rw [dv_snoc]; show 0 * 10 + _ = _; omega
      rw [e1, TL.numL_lt (by omega), List.nil_append]
      congr 1; omega
    · have ha : AllDigits e := fun x hx => h x (List.mem_append_left _ hx)
      have hh : e.head? ≠ some 48 := fun z => by
        have e2 := h0 (by rw [List.head?_append, z]; rfl)
        have := congrArg List.length e2
        rw [List.length_append, List.length_singleton, List.length_singleton] at this
        exact he (List.eq_nil_of_length_eq_zero (by omega))
      have h1 := dv_pos ha he hh
      rw [dv_snoc, TL.numL_step (by omega), show (digitsVal e * 10 + (c - 48)) / 10 = digitsVal e by omega, show (digitsVal e * 10 + (c - 48)) % 10 = c - 48 by omega, ih ha he (fun z => absurd z hh)]
      congr 2; omega
theorem cons_of {l : List Nat} (h : l.head? = some 45) : l = 45 :: dg l := by
  unfold dg
  rw [if_pos h]
  cases l with
  | nil => cases h
  | cons a r => cases h; rfl
theorem same_of {l : List Nat} (h : ¬ l.head? = some 45) : dg l = l := if_neg h
theorem Good.ne {l : List Nat} (h : Good l) : dg l ≠ [] := fun z => by have := h.1.1; rw [z] at this; exact absurd this (by decide)
theorem int_good {z : Str} (h : Good z.cps.toList) (hl : z.length ≤ 640) : intText? z = some (val z.cps.toList) := by
  unfold val
  by_cases c : z.cps.toList.head? = some 45
  · rw [if_pos c]
    exact intText_neg (cons_of c) h.2.1 h.ne (by omega)
  · rw [if_neg c, same_of c]
    have ha := h.2.1
    have hn := h.ne
    rw [same_of c] at ha hn
    exact intText_digits ha hn (by omega)
theorem neg_text (m : Nat) : TL.tl (Str.ofString (toString (-((m + 1 : Nat) : Int)))) = 45 :: TL.numL (m + 1) := by
  have e : toString (-((m + 1 : Nat) : Int)) = "-" ++ toString ((m + 1 : Nat) : Int) := rfl
  have f := TL.tl_num (m + 1)
  rw [TL.tl_ofString] at f
  rw [e, TL.tl_ofString, String.toList_append, List.map_append, f]
  rfl
theorem write_good {z : Str} (h : Good z.cps.toList) : Str.ofString (toString (val z.cps.toList)) = z := by
  refine TL.ext_tl ?_
  obtain ⟨⟨l1, l2⟩, ha, hz⟩ := id h
  unfold val
  by_cases c : z.cps.toList.head? = some 45
  · rw [if_pos c]
    have ez := cons_of c
    have hh : (dg z.cps.toList).head? ≠ some 48 := fun q => hz ⟨q, fun w => by rw [w] at c; cases c⟩
    have pos := dv_pos ha h.ne hh
    obtain ⟨m, hm⟩ : ∃ m, digitsVal (dg z.cps.toList) = m + 1 := ⟨digitsVal (dg z.cps.toList) - 1, by omega⟩
    rw [hm, neg_text, ← hm, num_back ha h.ne (fun q => absurd q hh)]
    exact ez.symm
  · rw [if_neg c, TL.tl_num, same_of c]
    rw [same_of c] at ha hz
    have hn := h.ne
    rw [same_of c] at hn
    exact num_back ha hn fun q => Classical.byContradiction fun w => hz ⟨q, w⟩
theorem val_small {l : List Nat} (h : Good l) : (val l).natAbs.log2 < 1920 := by
  have lt := dv_lt h.2.1
  have l2 : 10 ^ (dg l).length ≤ 10 ^ 40 := Nat.pow_le_pow_right (by decide) h.1.2
  have e : (val l).natAbs = digitsVal (dg l) := by unfold val; split <;> omega
  rw [e]
  by_cases z : digitsVal (dg l) = 0
  · rw [z]; decide
  · rw [Nat.log2_lt z]
    have : (10 : Nat) ^ 40 < 2 ^ 1920 := by decide +kernel
    omega
/-- the law's own words for a written number -/
theorem good_iff {l : List Nat} (h1 : 1 ≤ (dg l).length ∧ (dg l).length ≤ 40) (ha : AllDigits (dg l)) : Good l ↔ ¬ ((dg l).head? = some 48 ∧ (l.head? = some 45 ∨ 1 < (dg l).length)) := by
  refine ⟨fun g z => g.2.2 ⟨z.1, fun w => ?_⟩, fun z => ⟨h1, ha, fun w => z ⟨w.1, ?_⟩⟩⟩
  · rcases z.2 with c | c
    · rw [w] at c; cases c
    · rw [w] at c; exact absurd c (by decide)
  · by_cases c : l.head? = some 45
    · exact .inl c
    · refine .inr (Classical.byContradiction fun q => w.2 ?_)
      rw [same_of c] at w h1 q
      have len : l.length = 1 := by omega
      obtain ⟨a, rfl⟩ := List.length_eq_one_iff.mp len
      have := w.1
      cases this
      rfl
theorem pre1 (l : List Nat) (c : Nat) : TL.pre [c] l = true ↔ l.head? = some c := by
  unfold TL.pre
  cases l with
  | nil => simp
  | cons a r =>
    show (([a] : List Nat) == [c]) = true ↔ some a = some c
    rw [beq_iff_eq]
    exact ⟨fun h => by cases h; rfl, fun h => by cases h; rfl⟩
theorem at1 {z : Str} {c i : Nat} : StrLaws.At z ⟨#[c]⟩ z.length i ↔ z.cps.toList[i]? = some c := by
  rw [TL.at_iff (by show [c] ≠ []; simp)]
  show TL.pre [c] (z.cps.toList.drop i) = true ↔ _
  rw [pre1, List.head?_drop]
theorem remP (z : Str) : Txt.removeprefix z "-" = S (dg z.cps.toList) := by
  rw [StrLaws.removeprefix_eq]
  have e : StrLaws.At z ⟨#[45]⟩ z.length 0 ↔ z.cps.toList[0]? = some 45 := at1
  have e2 : (decide (0 + ("-" : Str).length ≤ z.length) && Builtin.Str.subAt z "-" 0) = true ↔ z.cps.toList.head? = some 45 := by
    rw [List.head?_eq_getElem?, ← e, Bool.and_eq_true, decide_eq_true_eq]
    exact Iff.rfl
  by_cases c : z.cps.toList.head? = some 45
  · rw [if_pos (e2.mpr c)]
    have ez := cons_of c
    refine congrArg (fun l : List Nat => (⟨l.toArray⟩ : Str)) ?_
    show (z.cps.toList.drop 1).take (z.length - 1) = _
    rw [TL.len_tl]
    show (z.cps.toList.drop 1).take (z.cps.toList.length - 1) = _
    generalize z.cps.toList = l at ez
    generalize dg l = r at ez
    subst ez
    show r.take (r.length + 1 - 1) = r
    exact List.take_of_length_le (by omega)
  · rw [if_neg (fun q => c (e2.mp q)), same_of c, S_tl]
abbrev DIG : Str := "0123456789"
theorem dig_at : ∀ i : Nat, i < 10 → DIG.cps.toList[i]? = some (48 + i) := by decide +kernel
theorem dig_len : DIG.cps.toList.length = 10 := by decide +kernel
theorem dig_mem {c : Nat} : c ∈ DIG.cps.toList ↔ 48 ≤ c ∧ c ≤ 57 := by
  have e : DIG.cps.toList = [48, 49, 50, 51, 52, 53, 54, 55, 56, 57] := by decide +kernel
  rw [e]
  simp only [List.mem_cons, List.not_mem_nil, or_false]
  omega
theorem find_dig {c : Nat} : Txt.find DIG ⟨#[c]⟩ = if 48 ≤ c ∧ c ≤ 57 then ((c - 48 : Nat) : Int) else -1 := by
  rcases find_whole DIG ⟨#[c]⟩ with ⟨e, hn⟩ | ⟨i, e, hi, _⟩
  · rw [e, if_neg]
    intro hc
    exact hn (c - 48) (at1.mpr (by rw [dig_at _ (by omega)]; congr 1; omega))
  · have h := at1.mp hi
    have hl : i < 10 := by
      have := (List.getElem?_eq_some_iff.mp h).1
      rw [dig_len] at this; exact this
    rw [dig_at i hl] at h
    cases h
    rw [e, if_pos (by omega)]
    congr 1; omega
/-- the law's loop -/
theorem fold_dig (l : List Nat) (h : AllDigits l) (k : Nat) : ((digitsVal (l.take k) : Nat) : Int) = (l.take k).foldl (fun (t : Int) (c : Nat) => t * 10 + ((c : Int) - 48)) 0 := by
  have := TL.fold_digits (l.take k) 0 (fun c hc => h c (List.mem_of_mem_take hc))
  exact this.symm
end NumM
/-! NameM: names, plainly. -/
namespace NameM
open PySem PyProof.Rows L2 SX NumM
abbrev LET : Str := "abcdefghijklmnopqrstuvwxyz"
/-- the first of a text's signs is a letter -/
def Fst (l : List Nat) : Prop := ∃ c, l.head? = some c ∧ c ∈ LET.cps.toList
def Sgn (c : Nat) : Prop := c ∈ LET.cps.toList ∨ c ∈ DIG.cps.toList
def IsName (l : List Nat) : Prop := (1 ≤ l.length ∧ l.length ≤ 12) ∧ Fst l ∧ ∀ c ∈ l, Sgn c
instance (l : List Nat) : Decidable (Fst l) := match l with
  | [] => .isFalse fun ⟨_, h, _⟩ => nomatch h
  | a :: _ => if h : a ∈ LET.cps.toList then .isTrue ⟨a, rfl, h⟩ else .isFalse fun ⟨_, e, m⟩ => h (by cases e; exact m)
instance (c : Nat) : Decidable (Sgn c) := inferInstanceAs (Decidable (_ ∨ _))
instance (l : List Nat) : Decidable (IsName l) := inferInstanceAs (Decidable (_ ∧ _ ∧ _))
theorem fst_cons {l : List Nat} {c : Nat} (h : l.head? = some c) : Fst l ↔ c ∈ LET.cps.toList := ⟨fun ⟨d, e, m⟩ => by rw [h] at e; cases e; exact m, fun m => ⟨c, h, m⟩⟩
theorem find_lt {z : Str} {c : Nat} : Txt.find z ⟨#[c]⟩ < 0 ↔ c ∉ z.cps.toList := by
  rcases find_whole z ⟨#[c]⟩ with ⟨e, hn⟩ | ⟨i, e, hi, _⟩
  · rw [e]
    refine ⟨fun _ m => ?_, fun _ => by decide⟩
    obtain ⟨i, hi⟩ := List.getElem?_of_mem m
    exact hn i (at1.mpr hi)
  · rw [e]
    exact ⟨fun h => absurd h (by omega), fun h => absurd (List.mem_of_getElem? (at1.mp hi)) h⟩
theorem all_ok {l : List Nat} : (l.map fun c => decide (Sgn c)).all id = decide (∀ c ∈ l, Sgn c) := by
  rw [Bool.eq_iff_iff, List.all_eq_true, decide_eq_true_eq]
  refine ⟨fun h c hc => of_decide_eq_true (h _ (List.mem_map.mpr ⟨c, hc, rfl⟩)), fun h x hx => ?_⟩
  obtain ⟨c, hc, rfl⟩ := List.mem_map.mp hx
  exact decide_eq_true (h c hc)
theorem IsName.short {z : Str} (h : IsName z.cps.toList) : z.length ≤ 12 := by rw [(TL.len_tl z : z.length = z.cps.toList.length)]; exact h.1.2
theorem let_lt : ∀ c ∈ LET.cps.toList, c < 128 := by decide +kernel
theorem dig_lt : ∀ c ∈ DIG.cps.toList, c < 128 := by decide +kernel
theorem IsName.ok {z : Str} (h : IsName z.cps.toList) : PyData.strOk z = true := by
  unfold PyData.strOk
  rw [← Array.all_toList, List.all_eq_true]
  intro c hc
  have : c < 128 := (h.2.2 c hc).elim (let_lt c) (dig_lt c)
  exact decide_eq_true (by omega)
theorem let_at : ∀ k : Nat, k < 26 → LET.cps.toList[k]? = some (97 + k) := by decide +kernel
theorem let_mem {k : Nat} (h : k < 26) : 97 + k ∈ LET.cps.toList := List.mem_of_getElem? (let_at k h)
abbrev SIG : Str := LET ++ DIG
theorem sig_sgn {c : Nat} (h : c ∈ SIG.cps.toList) : Sgn c := by
  have e : SIG.cps.toList = LET.cps.toList ++ DIG.cps.toList := TL.tl_append LET DIG
  rw [e] at h
  exact List.mem_append.mp h
theorem name_lets {cs : List Nat} (h1 : 1 ≤ cs.length) (h2 : cs.length ≤ 12) (h : ∀ c ∈ cs, c ∈ LET.cps.toList) : IsName cs := by
  refine ⟨⟨h1, h2⟩, ?_, fun c hc => .inl (h c hc)⟩
  cases cs with
  | nil => exact absurd h1 (by decide)
  | cons a r => exact ⟨a, rfl, h a List.mem_cons_self⟩
theorem name_cons {c : Nat} {ds : List Nat} (hc : c ∈ LET.cps.toList) (h : ∀ d ∈ ds, Sgn d) (hl : ds.length ≤ 11) : IsName (c :: ds) :=
  ⟨⟨by simp, by rw [List.length_cons]; omega⟩, ⟨c, rfl, hc⟩, fun d hd => (List.mem_cons.mp hd).elim (fun e => .inl (e ▸ hc)) (h d)⟩
theorem IsName.head {cs : List Nat} {c : Nat} (n : IsName cs) (hc : c ∈ LET.cps.toList) : IsName (c :: cs.tail) :=
  name_cons hc (fun d hd => n.2.2 d (List.mem_of_mem_tail hd)) (by have := n.1.2; rw [List.length_tail]; omega)
theorem nodup_len {α : Type} [DecidableEq α] : ∀ {l m : List α}, l.Nodup → (∀ x ∈ l, x ∈ m) → l.length ≤ m.length
  | [], _, _, _ => Nat.zero_le _
  | a :: r, m, h, s => by
    have hn := List.nodup_cons.mp h
    have ha := s a List.mem_cons_self
    have := nodup_len (l := r) (m := m.erase a) hn.2 fun x hx => (List.mem_erase_of_ne (fun (e : x = a) => hn.1 (e ▸ hx))).mpr (s x (List.mem_cons_of_mem _ hx))
    rw [List.length_erase_of_mem ha] at this
    have pos := List.length_pos_of_mem ha
    rw [List.length_cons]; omega
/-- the letter that stands for the turn -/
def ltr (turn t : Int) : Nat := 97 + ((turn + t) % 26).toNat
theorem ltr_mem (turn t : Int) : ltr turn t ∈ LET.cps.toList := let_mem (by have := Int.emod_lt_of_pos (turn + t) (show (0 : Int) < 26 by decide); omega)
/-- the names so far; the text now, behind i turns -/
structure Tries (ss : List Str) (turn : Int) (i : Nat) (z : Str) : Prop where
  name : IsName z.cps.toList
  done : z ∉ ss ∨ ∃ tl : List Nat, z.cps.toList.tail = tl ∧ (0 < i → z = S (ltr turn ((i : Int) - 1) :: tl)) ∧ ∀ j : Nat, j + 1 < i → S (ltr turn (j : Int) :: tl) ∈ ss
theorem Tries.start {ss : List Str} {turn : Int} {z : Str} (n : IsName z.cps.toList) : Tries ss turn 0 z := ⟨n, .inr ⟨_, rfl, fun h => absurd h (by decide), fun j h => by omega⟩⟩
theorem Tries.stay {ss : List Str} {turn : Int} {i : Nat} {z : Str} (h : Tries ss turn i z) (n : z ∉ ss) : Tries ss turn (i + 1) z := ⟨h.name, .inl n⟩
theorem Tries.next {ss : List Str} {turn : Int} {i : Nat} {z : Str} (h : Tries ss turn i z) (m : z ∈ ss) : Tries ss turn (i + 1) (S (ltr turn (i : Int) :: z.cps.toList.tail)) := by
  refine ⟨h.name.head (ltr_mem _ _), .inr ⟨z.cps.toList.tail, rfl, fun _ => by rw [show ((i + 1 : Nat) : Int) - 1 = (i : Int) by omega], fun j hj => ?_⟩⟩
  rcases h.done with d | ⟨tl, e, d1, d2⟩
  · exact absurd m d
  · subst e
    by_cases c : j + 1 < i
    · exact d2 j c
    · have e : i = j + 1 := by omega
      subst e
      have := d1 (by omega)
      rw [show ((j + 1 : Nat) : Int) - 1 = (j : Int) by omega] at this
      rw [← this]; exact m
theorem Tries.end_ {ss : List Str} {turn : Int} {z : Str} (h : Tries ss turn 26 z) (hl : ss.length ≤ 20) : z ∉ ss := by
  rcases h.done with d | ⟨tl, e, d1, d2⟩
  · exact d
  · exfalso
    have := nodup_len (l := (List.range 25).map fun j : Nat => S (ltr turn (j : Int) :: tl)) (m := ss) ?_ ?_
    · rw [List.length_map, List.length_range] at this
      omega
    · refine List.pairwise_map.mpr ?_
      refine List.Pairwise.imp_of_mem ?_ List.nodup_range
      intro a b ha hb ne q
      have ha := List.mem_range.mp ha
      have hb := List.mem_range.mp hb
      have q := S_inj q
      have q := (List.cons.inj q).1
      unfold ltr at q
      omega
    · intro x hx
      obtain ⟨j, hj, rfl⟩ := List.mem_map.mp hx
      exact d2 j (by have := List.mem_range.mp hj; omega)
end NameM
/-! ErrM: what a def may raise, by a value. -/
namespace Rd
open PySem PySem.Spec PyProof.Rows L2
/-- an own error with its fields, as its dict has them -/
structure Er where
  cls : Str
  fds : List (Str × V)
abbrev eNum (i : Int) : Er := ⟨"BadNumber", [("number", .int i)]⟩
abbrev eName (z : Str) : Er := ⟨"BadName", [("name", .str z)]⟩
abbrev eTwice (z : Str) : Er := ⟨"Twice", [("name", .str z)]⟩
abbrev eUnk (z : Str) : Er := ⟨"Unknown", [("name", .str z)]⟩
abbrev eText (z : Str) : Er := ⟨"BadText", [("text", .str z)]⟩
abbrev eSpan (i j : Int) : Er := ⟨"BadSpan", [("high", .int j), ("low", .int i)]⟩
abbrev eMany (z : Str) (i : Int) : Er := ⟨"TooMany", [("most", .int i), ("what", .str z)]⟩
/-- the end of a def: none: it goes on; some e: it raises e -/
def Outs (K : PySem.W.Frag) (er : Option Er) (H : Hp) (ok : Hp → Prop) (E : XK) : Prop := match er with
  | none => ∀ H', Same H H' → ok H'
  | some e => ∀ (d : Addr) (H' : Hp), Same H H' → H' d = none → E (.ref (He.ga K e.cls)) (some d) (upd H' d (.xd e.fds))
section
variable {K : PySem.W.Frag} {er er' : Option Er} {e : Er} {H H' : Hp} {ok : Hp → Prop} {E : XK} {c : Prop} {d : Addr}
theorem Outs.go (h : Outs K er H ok E) (n : er = none) (s : Same H H') : ok H' := by subst n; exact h H' s
theorem Outs.bad (h : Outs K er H ok E) (n : er = some e) (s : Same H H') (hd : H' d = none) : E (.ref (He.ga K e.cls)) (some d) (upd H' d (.xd e.fds)) := by subst n; exact h d H' s hd
theorem Outs.mk (h1 : er = none → ∀ H', Same H H' → ok H') (h2 : ∀ e, er = some e → ∀ (d : Addr) (H' : Hp), Same H H' → H' d = none → E (.ref (He.ga K e.cls)) (some d) (upd H' d (.xd e.fds))) : Outs K er H ok E := by
  cases er with
  | none => exact h1 rfl
  | some e => exact h2 e rfl
theorem Outs.keep (s : Same H H') (h : Outs K er H ok E) : Outs K er H' ok E := Outs.mk (fun n H2 s2 => h.go n (s.trans s2)) fun e n d H2 s2 hd => h.bad n (s.trans s2) hd
end
/-- the first that is due -/
def due {α : Type} (e : Option α) (r : Option α) : Option α := match e with
  | some x => some x
  | none => r
theorem due_n {α : Type} {e r : Option α} (h : e = none) : due e r = r := by subst h; rfl
theorem due_s {α : Type} {e r : Option α} {x : α} (h : e = some x) : due e r = some x := by subst h; rfl
def bad {α : Type} (c : Prop) [Decidable c] (e : α) : Option α := if c then some e else none
theorem bad_t {α : Type} {c : Prop} [Decidable c] {e : α} (h : c) : bad c e = some e := if_pos h
theorem bad_f {α : Type} {c : Prop} [Decidable c] {e : α} (h : ¬ c) : bad c e = none := if_neg h
/-! ### an instance that is being made -/
/-- all but x stands -/
def But (x : Addr) (H H' : Hp) : Prop := ∀ b o, b ≠ x → H b = some o → H' b = some o
section
variable {H H1 H2 H' : Hp} {x dx b : Addr} {o o1 o2 : HO}
theorem But.refl : But x H H := fun _ _ _ h => h
theorem But.trans (a : But x H H1) (c : But x H1 H2) : But x H H2 := fun b o n h => c b o n (a b o n h)
theorem But.same (s : Same H H1) : But x H H1 := fun b o _ h => s b o h
theorem But.put (a : But x H H1) : But x H (upd H1 x o) := fun b u n h => by rw [upd_ne n]; exact a b u n h
theorem But.made (hx : H x = none) (hd : H dx = none) (a : But x (upd (upd H dx o1) x o2) H') : Same H H' := fun b u h => by
  have n1 : b ≠ x := ne_of_none h hx
  have n2 : b ≠ dx := ne_of_none h hd
  exact a b u n1 (by rw [upd_ne n1, upd_ne n2]; exact h)
end
def Inits (K : PySem.W.Frag) (er : Option Er) (x C dx : Addr) (F : List (Str × V)) (H : Hp) (Q : VK) (E : XK) : Prop := match er with
  | none => ∀ H', But x H H' → H' x = some (.ins C dx F) → Q .non H'
  | some e => ∀ (d : Addr) (H' : Hp), But x H H' → H' d = none → E (.ref (He.ga K e.cls)) (some d) (upd H' d (.xd e.fds))
section
variable {K : PySem.W.Frag} {er : Option Er} {e : Er} {x C dx d : Addr} {F : List (Str × V)} {H H' : Hp} {Q : VK} {E : XK}
theorem Inits.go (h : Inits K er x C dx F H Q E) (n : er = none) (s : But x H H') (hx : H' x = some (.ins C dx F)) : Q .non H' := by subst n; exact h H' s hx
theorem Inits.bad (h : Inits K er x C dx F H Q E) (n : er = some e) (s : But x H H') (hd : H' d = none) : E (.ref (He.ga K e.cls)) (some d) (upd H' d (.xd e.fds)) := by subst n; exact h d H' s hd
theorem Inits.mk (h1 : er = none → ∀ H', But x H H' → H' x = some (.ins C dx F) → Q .non H') (h2 : ∀ e, er = some e → ∀ (d : Addr) (H' : Hp), But x H H' → H' d = none → E (.ref (He.ga K e.cls)) (some d) (upd H' d (.xd e.fds))) : Inits K er x C dx F H Q E := by
  cases er with
  | none => exact h1 rfl
  | some e => exact h2 e rfl
end
end Rd
/-! DayR: grids, spans, items and houses: how they stand, and what their classes promise. -/
namespace Rd
open PySem PySem.Spec PyProof.Rows L2
def gridF (s o : Int) : List (Str × V) := putF "offset" (.int o) (putF "step" (.int s) [])
def IsGrid (K : PySem.W.Frag) (H : Hp) (a : Addr) (s o : Int) : Prop := ∃ dx, H a = some (.ins (He.ga K "Grid") dx (gridF s o))
def spanF (l h : Int) : List (Str × V) := putF "high" (.int h) (putF "low" (.int l) [])
def IsSpan (K : PySem.W.Frag) (H : Hp) (a : Addr) (l h : Int) : Prop := ∃ dx, H a = some (.ins (He.ga K "Span") dx (spanF l h))
theorem IsGrid.keep {K : PySem.W.Frag} {H H' : Hp} {a : Addr} {s o : Int} (h : IsGrid K H a s o) (k : Same H H') : IsGrid K H' a s o := let ⟨dx, e⟩ := h; ⟨dx, k _ _ e⟩
theorem IsSpan.keep {K : PySem.W.Frag} {H H' : Hp} {a : Addr} {s o : Int} (h : IsSpan K H a s o) (k : Same H H') : IsSpan K H' a s o := let ⟨dx, e⟩ := h; ⟨dx, k _ _ e⟩
theorem IsGrid.drawn {K : PySem.W.Frag} {H H' : Hp} {p a : Addr} {s o : Int} (h : IsGrid K H a s o) (k : Drawn p H H') : IsGrid K H' a s o := let ⟨dx, e⟩ := h; ⟨dx, k.ins e⟩
theorem IsSpan.drawn {K : PySem.W.Frag} {H H' : Hp} {p a : Addr} {s o : Int} (h : IsSpan K H a s o) (k : Drawn p H H') : IsSpan K H' a s o := let ⟨dx, e⟩ := h; ⟨dx, k.ins e⟩
/-- a minute or none -/
def optV : Option Int → V
  | none => .non
  | some i => .int i
def namedF (z : Str) : List (Str × V) := putF "name" (.str z) []
def timedF (g : Addr) (m : Option Int) (d : Int) (fs : List (Str × V)) : List (Str × V) := putF "delay" (.int d) (putF "minute" (optV m) (putF "grid" (.ref g) fs))
def itemF (z : Str) (g : Addr) (m : Option Int) (d : Int) : List (Str × V) := timedF g m d (namedF z)
def pieceF (z : Str) (g : Addr) (m : Option Int) (d lo hi : Int) : List (Str × V) := putF "most" (.int hi) (putF "least" (.int lo) (itemF z g m d))
def breakF (z : Str) (g : Addr) (m d pl un pa : Int) : List (Str × V) := putF "patience" (.int pa) (putF "unit" (.int un) (putF "places" (.int pl) (itemF z g (some m) d)))
def houseF (st cr : Int) (ks w p : Addr) (ah ap : Int) : List (Str × V) := putF "apart" (.int ap) (putF "ahead" (.int ah) (putF "pack" (.ref p) (putF "walk" (.ref w) (putF "kinds" (.ref ks) (putF "crews" (.int cr) (putF "studios" (.int st) []))))))
/-! what is refused -/
def nameEr (z : Str) : Option Er := bad (¬ NameM.IsName z.cps.toList) (eName z)
def delayEr (d : Int) : Option Er := bad (¬ (0 ≤ d ∧ d ≤ 8)) (eNum d)
def itemEr (z : Str) (d : Int) : Option Er := due (nameEr z) (delayEr d)
def pieceEr (z : Str) (d lo hi : Int) : Option Er := due (itemEr z d) (due (bad (lo < 1) (eNum lo)) (bad (¬ (lo ≤ hi ∧ hi ≤ lo + 8)) (eNum hi)))
def breakEr (z : Str) (d pl un pa : Int) : Option Er := due (itemEr z d) (due (bad (¬ (1 ≤ pl ∧ pl ≤ 12)) (eNum pl)) (due (bad (un < 1) (eNum un)) (bad (¬ (1 ≤ pa ∧ pa ≤ 64)) (eNum pa))))
/-! what the __init__ promise -/
def NoAts (K : PySem.W.Frag) (C : Addr) (fs : List Str) : Prop := ∀ f ∈ fs, NoAttr K C f
def spGridI (K : PySem.W.Frag) : Sp := fun vs H Q E => ∃ (x dx : Addr) (s o : Int), vs = [.ref x, .int s, .int o] ∧ H x = some (.ins (He.ga K "Grid") dx []) ∧ Inits K (bad (s < 1) (eNum s)) x (He.ga K "Grid") dx (gridF s (o % s)) H Q E
def spSpanI (K : PySem.W.Frag) : Sp := fun vs H Q E => ∃ (x dx : Addr) (l h : Int), vs = [.ref x, .int l, .int h] ∧ H x = some (.ins (He.ga K "Span") dx []) ∧ Inits K (bad (l > h) (eSpan l h)) x (He.ga K "Span") dx (spanF l h) H Q E
def spNamedI (K : PySem.W.Frag) : Sp := fun vs H Q E => ∃ (x C dx : Addr) (z : Str), vs = [.ref x, .str z] ∧ z.length ≤ 1000 ∧ Cls K C ∧ NoAttr K C "name" ∧ H x = some (.ins C dx []) ∧ Inits K (nameEr z) x C dx (namedF z) H Q E
def spTimedI (K : PySem.W.Frag) : Sp := fun vs H Q E => ∃ (x C dx g : Addr) (m : Option Int) (d : Int) (fs : List (Str × V)), vs = [.ref x, .ref g, optV m, .int d] ∧ Cls K C ∧ NoAttr K C "grid" ∧ NoAttr K C "minute" ∧ NoAttr K C "delay" ∧ (fs = [] ∨ ∃ z, fs = namedF z) ∧ H x = some (.ins C dx fs) ∧ Inits K (delayEr d) x C dx (timedF g m d fs) H Q E
def spItemI (K : PySem.W.Frag) : Sp := fun vs H Q E => ∃ (x C dx g : Addr) (z : Str) (m : Option Int) (d : Int), vs = [.ref x, .str z, .ref g, optV m, .int d] ∧ z.length ≤ 1000 ∧ Cls K C ∧ NoAttr K C "name" ∧ NoAttr K C "grid" ∧ NoAttr K C "minute" ∧ NoAttr K C "delay" ∧ H x = some (.ins C dx []) ∧ Inits K (itemEr z d) x C dx (itemF z g m d) H Q E
def spPieceI (K : PySem.W.Frag) : Sp := fun vs H Q E => ∃ (x dx g : Addr) (z : Str) (m : Option Int) (d lo hi : Int), vs = [.ref x, .str z, .ref g, .int lo, .int hi, optV m, .int d] ∧ z.length ≤ 1000 ∧ H x = some (.ins (He.ga K "Piece") dx []) ∧ Inits K (pieceEr z d lo hi) x (He.ga K "Piece") dx (pieceF z g m d lo hi) H Q E
def spBreakI (K : PySem.W.Frag) : Sp := fun vs H Q E => ∃ (x dx g : Addr) (z : Str) (m d pl un pa : Int), vs = [.ref x, .str z, .ref g, .int m, .int pl, .int un, .int d, .int pa] ∧ z.length ≤ 1000 ∧ H x = some (.ins (He.ga K "Break") dx []) ∧ Inits K (breakEr z d pl un pa) x (He.ga K "Break") dx (breakF z g m d pl un pa) H Q E
/-! making them -/
section
variable {K : PySem.W.Frag} {H H' : Hp} {Q : VK} {E : XK}
/-- what is made, or what is raised, over the heap ahead of the call -/
def Makes (K : PySem.W.Frag) (er : Option Er) (C : Addr) (F : List (Str × V)) (H : Hp) (Q : VK) (E : XK) : Prop := match er with
  | none => ∀ (x dx : Addr) (H' : Hp), H x = none → Same H H' → H' x = some (.ins C dx F) → Q (.ref x) H'
  | some e => ∀ (d : Addr) (H' : Hp), Same H H' → H' d = none → E (.ref (He.ga K e.cls)) (some d) (upd H' d (.xd e.fds))
theorem Makes.init {er : Option Er} {C x dx : Addr} {F : List (Str × V)} (h : Makes K er C F H Q E) (hx : H x = none) (hd : H dx = none) : Inits K er x C dx F (upd (upd H dx (.own x)) x (.ins C dx [])) (fun v H3 => v = .non ∧ Q (.ref x) H3) E := by
  cases er with
  | none => exact fun H' b e => ⟨rfl, h x dx H' hx (b.made hx hd) e⟩
  | some e => exact fun d H' b hn => h d H' (b.made hx hd) hn
theorem use_grid {s o : Int} (h : Makes K (bad (s < 1) (eNum s)) (He.ga K "Grid") (gridF s (o % s)) H Q E) : kMake (He.ga K "Grid") (spGridI K) [] E Q [.int s, .int o] H :=
  w_kmake fun x dx hx hdx _ => ⟨x, dx, s, o, rfl, upd_same, h.init hx hdx⟩
theorem use_grid0 {s : Int} (h : Makes K (bad (s < 1) (eNum s)) (He.ga K "Grid") (gridF s (0 % s)) H Q E) : kMake (He.ga K "Grid") (spGridI K) [.int 0] E Q [.int s] H :=
  w_kmake fun x dx hx hdx _ => ⟨x, dx, s, 0, rfl, upd_same, h.init hx hdx⟩
theorem use_span {l u : Int} (h : Makes K (bad (l > u) (eSpan l u)) (He.ga K "Span") (spanF l u) H Q E) : kMake (He.ga K "Span") (spSpanI K) [] E Q [.int l, .int u] H :=
  w_kmake fun x dx hx hdx _ => ⟨x, dx, l, u, rfl, upd_same, h.init hx hdx⟩
end
/-! ### kinds, bounds, houses -/
def kindsGo : List Str → List Str → Option Er
  | _, [] => none
  | pre, z :: r => due (nameEr z) (due (bad (z ∈ pre) (eTwice z)) (kindsGo (pre ++ [z]) r))
def kindsEr (ks : List Str) : Option Er := due (bad (5 < ks.length) (eMany "kinds" 5)) (kindsGo [] ks)
def boundsEr (l h : Int) : Option Er := bad (¬ (0 ≤ l ∧ l ≤ h ∧ h ≤ l + 8)) (eSpan l h)
def houseEr (st cr : Int) (ks : List Str) (w p : Int × Int) (ah ap : Int) : Option Er :=
  due (bad (¬ (1 ≤ st ∧ st ≤ 6)) (eNum st)) (due (bad (¬ (1 ≤ cr ∧ cr ≤ 6)) (eNum cr)) (due (kindsEr ks) (due (boundsEr w.1 w.2) (due (boundsEr p.1 p.2) (due (bad (¬ (1 ≤ ah ∧ ah ≤ 3)) (eNum ah)) (bad (ap < 1) (eNum ap)))))))
/-- a list or a tuple of texts stands at a -/
def SqS (K : PySem.W.Frag) (H : Hp) (a : Addr) (ss : List Str) : Prop := SqA K H a (ss.map V.str)
theorem SqS.keep {K : PySem.W.Frag} {H H' : Hp} {a : Addr} {ss : List Str} (h : SqS K H a ss) (s : Same H H') : SqS K H' a ss := h.elim (fun h => .inl (s.seq h)) fun h => .inr (Same.tup s h)
def spKinds (K : PySem.W.Frag) : Sp := fun vs H Q E => ∃ (k : Addr) (ks : List Str), vs = [.ref k] ∧ SqS K H k ks ∧ ks.length ≤ 1000 ∧ (∀ z ∈ ks, z.length ≤ 1000) ∧ Outs K (kindsEr ks) H (fun H' => Q .non H') E
def spBounds (K : PySem.W.Frag) : Sp := fun vs H Q E => ∃ (b : Addr) (l h : Int), vs = [.ref b] ∧ SqT K H b [.int l, .int h] ∧ match boundsEr l h with
  | none => ∀ (x : Addr) (H' : Hp), H x = none → Same H H' → IsSpan K H' x l h → Q (.ref x) H'
  | some e => ∀ (d : Addr) (H' : Hp), Same H H' → H' d = none → E (.ref (He.ga K e.cls)) (some d) (upd H' d (.xd e.fds))
structure IsHouse (K : PySem.W.Frag) (H : Hp) (a : Addr) (st cr : Int) (ks : List Str) (w p : Int × Int) (ah ap : Int) : Prop where
  ex : ∃ dx t sw sp, H a = some (.ins (He.ga K "House") dx (houseF st cr t sw sp ah ap)) ∧ SqT K H t (ks.map V.str) ∧ IsSpan K H sw w.1 w.2 ∧ IsSpan K H sp p.1 p.2
theorem IsHouse.keep {K : PySem.W.Frag} {H H' : Hp} {a : Addr} {st cr : Int} {ks : List Str} {w p : Int × Int} {ah ap : Int} (h : IsHouse K H a st cr ks w p ah ap) (s : Same H H') : IsHouse K H' a st cr ks w p ah ap :=
  let ⟨dx, t, sw, sp, e, f, g, i⟩ := h.ex; ⟨dx, t, sw, sp, s _ _ e, Same.tup s f, g.keep s, i.keep s⟩
def spHouseI (K : PySem.W.Frag) : Sp := fun vs H Q E => ∃ (x dx k wa pa : Addr) (st cr ah ap : Int) (ks : List Str) (w p : Int × Int), vs = [.ref x, .int st, .int cr, .ref k, .ref wa, .ref pa, .int ah, .int ap] ∧ SqS K H k ks ∧ ks.length ≤ 1000 ∧ (∀ z ∈ ks, z.length ≤ 1000) ∧
  SqT K H wa [.int w.1, .int w.2] ∧ SqT K H pa [.int p.1, .int p.2] ∧ H x = some (.ins (He.ga K "House") dx []) ∧ match houseEr st cr ks w p ah ap with
  | none => ∀ (t sw sp : Addr) (H' : Hp), But x H H' → H' x = some (.ins (He.ga K "House") dx (houseF st cr t sw sp ah ap)) → SqT K H' t (ks.map V.str) → IsSpan K H' sw w.1 w.2 → IsSpan K H' sp p.1 p.2 → Q .non H'
  | some e => ∀ (d : Addr) (H' : Hp), But x H H' → H' d = none → E (.ref (He.ga K e.cls)) (some d) (upd H' d (.xd e.fds))
section
variable {K : PySem.W.Frag} {H H' : Hp} {Q : VK} {E : XK} {a : Addr} {ss : List Str} {xs : List V}
/-- an instance changes: what is no instance stands -/
theorem SqT.putI {x C dx : Addr} {fs : List (Str × V)} {o : HO} (h : SqT K H a xs) (hx : H x = some (.ins C dx fs)) : SqT K (upd H x o) a xs := by
  rcases h with (h | ⟨u, h⟩) | h
  · exact .inl (.inl (by rw [upd_ne (fun z => by rw [z, hx] at h; cases h)]; exact h))
  · exact .inl (.inr ⟨u, by rw [upd_ne (fun z => by rw [z, hx] at h; cases h)]; exact h⟩)
  · exact .inr h
theorem SqL.putI {x C dx : Addr} {fs : List (Str × V)} {o : HO} (h : SqL K H a xs) (hx : H x = some (.ins C dx fs)) : SqL K (upd H x o) a xs := by
  rcases h with (h | ⟨u, h⟩) | h
  · exact .inl (.inl (by rw [upd_ne (fun z => by rw [z, hx] at h; cases h)]; exact h))
  · exact .inl (.inr ⟨u, by rw [upd_ne (fun z => by rw [z, hx] at h; cases h)]; exact h⟩)
  · exact .inr h
theorem SqS.putI {x C dx : Addr} {fs : List (Str × V)} {o : HO} (h : SqS K H a ss) (hx : H x = some (.ins C dx fs)) : SqS K (upd H x o) a ss := h.elim (fun h => .inl (SqL.putI h hx)) fun h => .inr (SqT.putI h hx)
theorem len_S (hs : SqS K H a ss) (h : Q (.int ss.length) H) : rLen K [.ref a] H Q := hs.elim (fun hs => w_lenL hs (by rw [List.length_map]; exact h)) fun hs => w_lenT hs (by rw [List.length_map]; exact h)
theorem tup_A (hs : SqA K H a xs) (h : ∀ (t : Addr) (H' : Hp), Same H H' → SqT K H' t xs → Q (.ref t) H') : rTuple K [.ref a] H Q := hs.elim (fun hs => w_tupL hs fun t ht => h t _ (same_new ht) (SqT.of upd_same)) fun hs => w_tupT hs (h a H (Same.refl H) hs)
theorem in_strs {z : Str} : inV (.str z) (ss.map V.str) = decide (z ∈ ss) := by
  rw [Bool.eq_iff_iff]
  have e : ∀ b : Str, eqV (.str b) (.str z) = (b == z) := fun b => rfl
  simp [inV, e]
theorem flat_strs (ss : List Str) : (ss.map V.str).all flatV = true := by simp [flatV]
theorem in_S {z : Str} (hs : SqS K H a ss) (h : Q (.bl (decide (z ∈ ss))) H) : rIn K false (.str z) (.ref a) H Q :=
  ⟨a, _, rfl, hs, rfl, flat_strs ss, by rw [if_neg (by decide), in_strs]; exact h⟩
theorem slice_S {n : Nat} (hs : SqS K H a ss) (h : ∀ (l : Addr) (H' : Hp), Same H H' → SqS K H' l (ss.take n) → Q (.ref l) H') : uSl K (.ref a) none (some (n : Int)) H Q := by
  have e : cutV (ss.map V.str) none (some (n : Int)) = (ss.take n).map V.str := by rw [cut_take (by omega), List.map_take]; rfl
  rcases hs with hs | hs
  · exact .inl ⟨a, _, rfl, hs, fun q hq => h q _ (same_new hq) (.inl (SqL.of (by rw [upd_same, e])))⟩
  · exact .inr ⟨a, _, rfl, hs, fun w => h a H (Same.refl H) (.inr (by rw [← e, cut_whole w]; exact hs)), fun _ q hq => h q _ (same_new hq) (.inr (SqT.of (by rw [upd_same, e])))⟩
end
section
variable {K : PySem.W.Frag} {H H' : Hp} {Q : VK} {E : XK} {a : Addr} {ss : List Str} {xs : List V} {er : Option Er} {C : Addr} {F : List (Str × V)}
theorem Makes.mk (h1 : er = none → ∀ (x dx : Addr) (H' : Hp), H x = none → Same H H' → H' x = some (.ins C dx F) → Q (.ref x) H') (h2 : ∀ e, er = some e → ∀ (d : Addr) (H' : Hp), Same H H' → H' d = none → E (.ref (He.ga K e.cls)) (some d) (upd H' d (.xd e.fds))) : Makes K er C F H Q E := by
  cases er with
  | none => exact h1 rfl
  | some e => exact h2 e rfl
theorem Makes.ok (n : er = none) (h1 : ∀ (x dx : Addr) (H' : Hp), H x = none → Same H H' → H' x = some (.ins C dx F) → Q (.ref x) H') : Makes K er C F H Q E := by
  subst n; exact h1
theorem use_named {z : Str} (hz : z.length ≤ 1000) (hc : Cls K (He.ga K "Named")) (hn : NoAttr K (He.ga K "Named") "name") (h : Makes K (nameEr z) (He.ga K "Named") (namedF z) H Q E) : kMake (He.ga K "Named") (spNamedI K) [] E Q [.str z] H :=
  w_kmake fun x dx hx hdx _ => ⟨x, _, dx, z, rfl, hz, hc, hn, upd_same, h.init hx hdx⟩
theorem use_item1 {z : Str} {g : Addr} (hz : z.length ≤ 1000) (hc : Cls K (He.ga K "Item")) (h1 : NoAttr K (He.ga K "Item") "name") (h2 : NoAttr K (He.ga K "Item") "grid") (h3 : NoAttr K (He.ga K "Item") "minute") (h4 : NoAttr K (He.ga K "Item") "delay")
    (h : Makes K (itemEr z 0) (He.ga K "Item") (itemF z g none 0) H Q E) : kMk2 (He.ga K "Item") 1 1 (spItemI K) (fun vs zs => vs ++ zs ++ [.non, .int 0]) E [.str z] Q [.ref g] H :=
  w_kmk2 rfl rfl fun x dx hx hdx _ => ⟨x, _, dx, g, z, none, 0, rfl, hz, hc, h1, h2, h3, h4, upd_same, h.init hx hdx⟩
theorem use_piece3 {z : Str} {g : Addr} {lo hi : Int} (hz : z.length ≤ 1000) (h : Makes K (pieceEr z 0 lo hi) (He.ga K "Piece") (pieceF z g none 0 lo hi) H Q E) : kMk2 (He.ga K "Piece") 1 3 (spPieceI K) (fun vs zs => vs ++ zs ++ [.non, .int 0]) E [.str z] Q [.ref g, .int lo, .int hi] H :=
  w_kmk2 rfl rfl fun x dx hx hdx _ => ⟨x, dx, g, z, none, 0, lo, hi, rfl, hz, upd_same, h.init hx hdx⟩
theorem use_piece5 {z : Str} {g : Addr} {m : Option Int} {d lo hi : Int} (hz : z.length ≤ 1000) (h : Makes K (pieceEr z d lo hi) (He.ga K "Piece") (pieceF z g m d lo hi) H Q E) : kMk2 (He.ga K "Piece") 1 5 (spPieceI K) (fun vs zs => vs ++ zs) E [.str z] Q [.ref g, .int lo, .int hi, optV m, .int d] H :=
  w_kmk2 rfl rfl fun x dx hx hdx _ => ⟨x, dx, g, z, m, d, lo, hi, rfl, hz, upd_same, h.init hx hdx⟩
theorem use_break4 {z : Str} {g : Addr} {m pl un : Int} (hz : z.length ≤ 1000) (h : Makes K (breakEr z 0 pl un 1) (He.ga K "Break") (breakF z g m 0 pl un 1) H Q E) : kMk2 (He.ga K "Break") 1 4 (spBreakI K) (fun vs zs => vs ++ zs ++ [.int 0, .int 1]) E [.str z] Q [.ref g, .int m, .int pl, .int un] H :=
  w_kmk2 rfl rfl fun x dx hx hdx _ => ⟨x, dx, g, z, m, 0, pl, un, 1, rfl, hz, upd_same, h.init hx hdx⟩
theorem use_break6 {z : Str} {g : Addr} {m d pl un pa : Int} (hz : z.length ≤ 1000) (h : Makes K (breakEr z d pl un pa) (He.ga K "Break") (breakF z g m d pl un pa) H Q E) : kMk2 (He.ga K "Break") 1 6 (spBreakI K) (fun vs zs => vs ++ zs) E [.str z] Q [.ref g, .int m, .int pl, .int un, .int d, .int pa] H :=
  w_kmk2 rfl rfl fun x dx hx hdx _ => ⟨x, dx, g, z, m, d, pl, un, pa, rfl, hz, upd_same, h.init hx hdx⟩
theorem use_timed3 {g : Addr} {m : Option Int} {d : Int} (hc : Cls K (He.ga K "Timed")) (h1 : NoAttr K (He.ga K "Timed") "grid") (h2 : NoAttr K (He.ga K "Timed") "minute") (h3 : NoAttr K (He.ga K "Timed") "delay") (h : Makes K (delayEr d) (He.ga K "Timed") (timedF g m d []) H Q E) : kMake (He.ga K "Timed") (spTimedI K) [] E Q [.ref g, optV m, .int d] H :=
  w_kmake fun x dx hx hdx _ => ⟨x, _, dx, g, m, d, [], rfl, hc, h1, h2, h3, .inl rfl, upd_same, h.init hx hdx⟩
theorem use_item3 {z : Str} {g : Addr} {m : Option Int} {d : Int} (hz : z.length ≤ 1000) (hc : Cls K (He.ga K "Item")) (h1 : NoAttr K (He.ga K "Item") "name") (h2 : NoAttr K (He.ga K "Item") "grid") (h3 : NoAttr K (He.ga K "Item") "minute") (h4 : NoAttr K (He.ga K "Item") "delay")
    (h : Makes K (itemEr z d) (He.ga K "Item") (itemF z g m d) H Q E) : kMk2 (He.ga K "Item") 1 3 (spItemI K) (fun vs zs => vs ++ zs) E [.str z] Q [.ref g, optV m, .int d] H :=
  w_kmk2 rfl rfl fun x dx hx hdx _ => ⟨x, _, dx, g, z, m, d, rfl, hz, hc, h1, h2, h3, h4, upd_same, h.init hx hdx⟩
/-- a house that is made, over the heap ahead of the call -/
def MakesH (K : PySem.W.Frag) (st cr : Int) (ks : List Str) (w p : Int × Int) (ah ap : Int) (H : Hp) (Q : VK) (E : XK) : Prop := match houseEr st cr ks w p ah ap with
  | none => ∀ (x : Addr) (H' : Hp), H x = none → Same H H' → IsHouse K H' x st cr ks w p ah ap → Q (.ref x) H'
  | some e => ∀ (d : Addr) (H' : Hp), Same H H' → H' d = none → E (.ref (He.ga K e.cls)) (some d) (upd H' d (.xd e.fds))
theorem MakesH.mk {st cr : Int} {ks : List Str} {w p : Int × Int} {ah ap : Int} (h1 : houseEr st cr ks w p ah ap = none → ∀ (x : Addr) (H' : Hp), H x = none → Same H H' → IsHouse K H' x st cr ks w p ah ap → Q (.ref x) H')
    (h2 : ∀ e, houseEr st cr ks w p ah ap = some e → ∀ (d : Addr) (H' : Hp), Same H H' → H' d = none → E (.ref (He.ga K e.cls)) (some d) (upd H' d (.xd e.fds))) : MakesH K st cr ks w p ah ap H Q E := by
  unfold MakesH
  split
  · exact h1 (by assumption)
  · exact h2 _ (by assumption)
theorem same_made1 {x dx : Addr} {o1 o2 : HO} (hx : H x = none) (hd : H dx = none) : Same H (upd (upd H dx o1) x o2) := fun b o hb => by
  rw [upd_ne (ne_of_none hb hx), upd_ne (ne_of_none hb hd)]; exact hb
theorem house_made {x dx k wa pa : Addr} {st cr ah ap : Int} {ks : List Str} {w p : Int × Int} (hx : H x = none) (hdx : H dx = none) (hk : SqS K H k ks) (hl : ks.length ≤ 1000) (hz : ∀ z ∈ ks, z.length ≤ 1000) (hw : SqT K H wa [.int w.1, .int w.2]) (hp : SqT K H pa [.int p.1, .int p.2]) (h : MakesH K st cr ks w p ah ap H Q E) :
    spHouseI K [.ref x, .int st, .int cr, .ref k, .ref wa, .ref pa, .int ah, .int ap] (upd (upd H dx (.own x)) x (.ins (He.ga K "House") dx [])) (fun v H3 => v = .non ∧ Q (.ref x) H3) E := by
  have s := same_made1 (o1 := .own x) (o2 := .ins (He.ga K "House") dx []) hx hdx
  refine ⟨x, dx, k, wa, pa, st, cr, ah, ap, ks, w, p, rfl, hk.keep s, hl, hz, Same.tup s hw, Same.tup s hp, upd_same, ?_⟩
  unfold MakesH at h
  split
  · rename_i n
    rw [n] at h
    exact fun t sw sp H' b e ht h1 h2 => ⟨rfl, h x H' hx (b.made hx hdx) ⟨dx, t, sw, sp, e, ht, h1, h2⟩⟩
  · rename_i e n
    rw [n] at h
    exact fun d H' b hd => h d H' (b.made hx hdx) hd
theorem use_house3 {k wa pa : Addr} {st cr : Int} {ks : List Str} {w p : Int × Int} (hk : SqS K H k ks) (hl : ks.length ≤ 1000) (hz : ∀ z ∈ ks, z.length ≤ 1000) (hw : SqT K H wa [.int w.1, .int w.2]) (hp : SqT K H pa [.int p.1, .int p.2]) (h : MakesH K st cr ks w p 1 1 H Q E) :
    kMake (He.ga K "House") (spHouseI K) [.ref wa, .ref pa, .int 1, .int 1] E Q [.int st, .int cr, .ref k] H := w_kmake fun _ _ hx hdx _ => house_made hx hdx hk hl hz hw hp h
theorem use_house2 {k wa pa : Addr} {st cr ah ap : Int} {ks : List Str} {w p : Int × Int} (hk : SqS K H k ks) (hl : ks.length ≤ 1000) (hz : ∀ z ∈ ks, z.length ≤ 1000) (hw : SqT K H wa [.int w.1, .int w.2]) (hp : SqT K H pa [.int p.1, .int p.2]) (h : MakesH K st cr ks w p ah ap H Q E) :
    kMk2 (He.ga K "House") 3 2 (spHouseI K) (fun vs zs => vs ++ [.ref wa, .ref pa] ++ zs) E [.int st, .int cr, .ref k] Q [.int ah, .int ap] H := w_kmk2 rfl rfl fun _ _ hx hdx _ => house_made hx hdx hk hl hz hw hp h
theorem use_house4 {k wa pa : Addr} {st cr ah ap : Int} {ks : List Str} {w p : Int × Int} (hk : SqS K H k ks) (hl : ks.length ≤ 1000) (hz : ∀ z ∈ ks, z.length ≤ 1000) (hw : SqT K H wa [.int w.1, .int w.2]) (hp : SqT K H pa [.int p.1, .int p.2]) (h : MakesH K st cr ks w p ah ap H Q E) :
    kMk2 (He.ga K "House") 3 4 (spHouseI K) (fun vs zs => vs ++ zs) E [.int st, .int cr, .ref k] Q [.ref wa, .ref pa, .int ah, .int ap] H := w_kmk2 rfl rfl fun _ _ hx hdx _ => house_made hx hdx hk hl hz hw hp h
/-- isinstance of a tuple -/
theorem ty_tup (h : SqT K H a xs) : TyX K H (.ref a) (.type "tuple") := by
  rcases h with (h | ⟨o, h⟩) | ⟨o, its, n, h, c, _⟩
  · exact .base (.tup h)
  · exact .fTuple h
  · exact .kTuple h c
theorem w_isi_T {t : String} {b : Bool} (ht : SqT K H a xs) (e : PySem.W.kitOne K (.type "tuple") (.type t) = some b) (h : Q (.bl b) H) : uIsi K [.ref a, .ty t] H Q := .inl ⟨_, _, _, _, b, rfl, .ty _, ty_tup ht, e, h⟩
theorem w_isi_str {z : Str} {t : String} {b : Bool} (e : PySem.W.kitOne K (.type "str") (.type t) = some b) (h : Q (.bl b) H) : uIsi K [.str z, .ty t] H Q := .inl ⟨_, _, _, _, b, rfl, .ty _, .base (.str z), e, h⟩
/-- == of a tuple with one text -/
theorem w_eqT1 {a b : Addr} {z : Str} (ok : PyData.strOk z = true) (ha : SqT K H a [.str z]) (hb : SqT K H b [.str z]) (h : Q (.bl true) H) : uEq K (.ref a) (.ref b) H Q := by
  refine .inr ⟨_, _, .tup ha (.cons (.str z) .nil), .tup hb (.cons (.str z) .nil), ?_, ?_, ?_⟩
  · unfold SeqAt.shaped; simp [PyData.canLay0, PyData.depth, PyData.canLayAll0, PyData.depthAll, ok]
  · unfold SeqAt.shaped; simp [PyData.canLay0, PyData.depth, PyData.canLayAll0, PyData.depthAll, ok]
  · have e : PyData.eqv (.tuple [.str z]) (.tuple [.str z]) = true := by simp [PyData.eqv, PyData.eqvAll]
    rw [e]; exact h
def rUpper : V → List V → Hp → VK → Prop := fun x xs H Q => match x, xs with
  | .str a, [] => a.length ≤ 5592405 ∧ Q (.str (Txt.upper a)) H
  | _, _ => False
theorem mUpper {X : Cx} : MtR X "str.upper" rUpper := by
  intro pins s σ H x xs v us Q I rx rs h
  unfold rUpper at h
  split at h
  · exact mt_upper pins s σ H _ _ v us Q I rx rs ⟨_, rfl, rfl, h.1, h.2⟩
  · exact h.elim
def kM0 (r : V → List V → Hp → VK → Prop) (Q : VK) : VK := fun x H => (∃ a, x = .str a) ∧ r x [] H Q
theorem w_m0 {r : V → List V → Hp → VK → Prop} {to : TE} {σ : L2.St} (h : to σ H (kM0 r Q)) : tM0 r to σ H Q := h
theorem w_km0 {r : V → List V → Hp → VK → Prop} {z : Str} (h : r (.str z) [] H Q) : kM0 r Q (.str z) H := ⟨⟨z, rfl⟩, h⟩
theorem w_neB {b b' : Bool} (h : Q (.bl (!decide (b = b'))) H) : rNe (.bl b) (.bl b') H Q := by
  refine ⟨rfl, ?_⟩
  cases b <;> cases b' <;> exact h
theorem n_mulS2 {a : Str} {k : Int} {m : Nat} (ha : a.length ≤ 2) (h0 : -5 ≤ k) (hk : k ≤ (m : Int)) (hm : (2 * m).ble 1000000 = true) (h : ∀ s : Str, s.length ≤ 2 * m → Q (.str s) H) : rMulS (.str a) (.int k) H Q := by
  have := Nat.le_of_ble_eq_true hm
  refine w_mulS (mulOk_of 2 m ha hk (by omega) (by omega) (by omega)) (h _ ?_)
  have := len_mul_leN ha hk
  omega
theorem n_upper {z : Str} {m : Nat} (hz : z.length ≤ m) (hm : m.ble 1000000 = true) (h : ∀ s : Str, s.length ≤ 3 * m → Q (.str s) H) : rUpper (.str z) [] H Q :=
  ⟨by have := Nat.le_of_ble_eq_true hm; omega, h _ (by have := PyProof.Rows.len_upper z; omega)⟩
end
/-! ### what is timed -/
def startAt (m : Option Int) (mo : Int) : Int := match m with
  | none => mo
  | some c => max mo c
def beginAt (s o : Int) (m : Option Int) (mo de : Int) : Int := GridM.fb s o (startAt m mo + de)
/-- an instance with a grid and a minute -/
structure TimedAt (K : PySem.W.Frag) (H : Hp) (a C g : Addr) (m : Option Int) : Prop where
  ex : ∃ dx fs, H a = some (.ins C dx fs) ∧ fs.lookup ("grid" : Str) = some (V.ref g) ∧ fs.lookup ("minute" : Str) = some (optV m) ∧ fs.lookup ("begin_at" : Str) = none
  cls : Cls K C
  ng : NoAttr K C "grid"
  nm : NoAttr K C "minute"
theorem TimedAt.keep {K : PySem.W.Frag} {X : List Addr} {H H' : Hp} {a C g : Addr} {m : Option Int} (h : TimedAt K H a C g m) (k : Keeps X H H') : TimedAt K H' a C g m :=
  let ⟨dx, fs, e, r⟩ := h.ex; ⟨⟨dx, fs, k.ins e, r⟩, h.cls, h.ng, h.nm⟩
theorem IsGrid.keeps {K : PySem.W.Frag} {X : List Addr} {H H' : Hp} {a : Addr} {s o : Int} (h : IsGrid K H a s o) (k : Keeps X H H') : IsGrid K H' a s o := let ⟨dx, e⟩ := h; ⟨dx, k.ins e⟩
theorem IsSpan.keeps {K : PySem.W.Frag} {X : List Addr} {H H' : Hp} {a : Addr} {s o : Int} (h : IsSpan K H a s o) (k : Keeps X H H') : IsSpan K H' a s o := let ⟨dx, e⟩ := h; ⟨dx, k.ins e⟩
theorem startAt_mono {m : Option Int} {a b : Int} (h : a ≤ b) : startAt m a ≤ startAt m b := by
  cases m with
  | none => exact h
  | some c => show max a c ≤ max b c; omega
theorem beginAt_mono {s o : Int} {m : Option Int} {a b x y : Int} (hs : 0 < s) (h : a ≤ b) (k : x ≤ y) : beginAt s o m a x ≤ beginAt s o m b y := GridM.fb_mono hs (by have := startAt_mono (m := m) h; omega)
def spFirst (K : PySem.W.Frag) : Sp := fun vs H Q _ => ∃ (a : Addr) (s o t : Int), vs = [.ref a, .int t] ∧ IsGrid K H a s o ∧ 1 ≤ s ∧ Q (.int (GridM.fb s o t)) H
def spBegin (K : PySem.W.Frag) : Sp := fun vs H Q _ => ∃ (a C g : Addr) (m : Option Int) (mo de s o : Int), vs = [.ref a, .int mo, .int de] ∧ TimedAt K H a C g m ∧ IsGrid K H g s o ∧ 1 ≤ s ∧ Q (.int (beginAt s o m mo de)) H
/-! ### a break's length and limit -/
def spLength (K : PySem.W.Frag) : Sp := fun vs H Q _ => ∃ (a dx g : Addr) (z : Str) (m d pl un pa : Int), vs = [.ref a] ∧ H a = some (.ins (He.ga K "Break") dx (breakF z g m d pl un pa)) ∧ 0 ≤ pl ∧ pl ≤ 12 ∧ Q (.int (pl * un)) H
def spLimit (K : PySem.W.Frag) : Sp := fun vs H Q _ => ∃ (a dx g : Addr) (z : Str) (m d pl un pa s o : Int), vs = [.ref a] ∧ H a = some (.ins (He.ga K "Break") dx (breakF z g m d pl un pa)) ∧ IsGrid K H g s o ∧ 1 ≤ s ∧ 1 ≤ pa ∧ pa ≤ 64 ∧ Q (.int (GridM.fb s o m + (pa - 1) * s)) H
end Rd
/-! ExV: own exceptions as values; own exceptions without arguments and without fields. -/
namespace Rd
open PySem PySem.Spec PyProof.Rows PySem.W L2
section
variable {X : Cx} {e : Expr} {t : L2.St → Hp → XK → Prop}
/-- what makes an exception gives it as a value -/
theorem pe_of_pmk (he : PMk X e t) : PE X e (fun σ H Q => t σ H fun cls d H1 => ∀ a, H1 a = none → Q (.ref a) (upd H1 a (XcO cls d a))) where
  run := fun pins s σ H Q I h => wpAny_mono (he pins s σ H _ I h) (fun u s' hu => by
    obtain ⟨a, oe, vs, sI, H', cls, d, rfl, J, k, hne, ha, hz, hd, _, na, os, ag, _, q⟩ := hu
    exact ⟨.ref a, _, J.call' (s' := s') (ch := []) os (Un.laidN k hne na) (HOk.laidN J.hok k na (xcO_is ha hz hd)) ag (fun b z => absurd z (by simp)), rfl, q a na⟩) fun _ _ x => x
end
/-! ### no arguments, no fields -/
section
variable {H : Hp} {a C : Addr} {hp h2 : Heap} {fs : List Addr} {o : HO}
/-- a thing made and let go: what stands without it -/
theorem un_gone {hp2 G : Heap} (ha : hp.objs.size ≤ a) (n : H a = none) (k : ∀ b o, hp.get? b = some o → hp2.get? b = some o) (gk : ∀ b, b ≠ a → G.get? b = h2.get? b) (un : Un fs [] (upd H a o) (upd H a o) hp2 h2) : Un fs [] H H hp G :=
  have old : ∀ {b : Addr} {u : Obj}, hp.get? b = some u → b ≠ a := fun {b u} z e => Nat.lt_irrefl _ (Nat.lt_of_lt_of_le (Heap.lt_size z) (e ▸ ha))
  have off : ∀ {b : Addr}, b ≠ a → upd H a o b = H b := fun {b} e => upd_ne e
  ⟨fun b u z m f x => (gk b (old z)).trans (un.keep b u (k b u z) ((off (old z)).trans m) f x),
   fun b u z m f x => let ⟨sl, q⟩ := un.slot b u (k b u z) ((off (old z)).trans m) f x; ⟨sl, (gk b (old z)).trans q⟩,
   fun _ _ _ m _ => m,
   fun b u z x => let ⟨u', q⟩ := un.there b u (k b u z) x; ⟨u', (gk b (old z)).trans q⟩,
   fun _ _ z => z, fun _ _ _ z => z, fun _ ps z => ⟨#[], by simpa using z⟩⟩
theorem hok_gone {P : Program} {w : World} {G : Heap} (n : H a = none) (no : ∀ x, o ≠ .own x) (nt : ∀ xs, o ≠ .tup xs) (gk : ∀ b, b ≠ a → G.get? b = h2.get? b) (hok : HOk P w (upd H a o) h2) : HOk P w H G := fun b u z => by
  have ba : b ≠ a := ne_of_none z n
  refine (hok b u ((upd_ne ba).trans z)).stay (fun c v hc q => ?_) (fun c hc => ?_) fun c xs hc => ?_
  · refine (gk c ?_).trans q
    rcases hc with rfl | hc
    · exact ba
    · intro e
      rw [e, upd_same] at hc
      cases hc
      exact no _ rfl
  · by_cases e : c = a
    · rw [e, upd_same] at hc
      cases hc
      exact absurd rfl (no b)
    · rwa [upd_ne e] at hc
  · by_cases e : c = a
    · rw [e, upd_same] at hc
      cases hc
      exact absurd rfl (nt xs)
    · rwa [upd_ne e] at hc
end
section
variable {X : Cx} {CX : CXT} {x : Str} {p pos : Pos} {k : Nat} {ps : List Str}
/-- raise X(), X's own __init__ setting no field -/
theorem pmk_g0 (G : ExcG X.prog X.w X.K X.mg X.base k x ps (spX0 (He.ga X.K x))) (hr : Room (k + 1) X.A) (hg : Gl X x) (hdb : (x == ("__debug__" : Str)) = false := by decide) : PMk X (.Call (.Name x p) [] [] pos) (fun _ H Q => Q (.ref (He.ga X.K x)) none H) := by
  obtain ⟨fd, hm, T, Fi, hb⟩ := G.ex
  intro pins s σ H Q I q
  obtain ⟨nm, qn, N, bs, bm, sn, sub, ab, col, dd, k0, k1, k2, k3, k5, hC, hbm⟩ := T.oex.cls
  refine wpAny_Call_Name_kw (ld_glob I hg hm (PySem.W.callWith_K0 I.kIn T.oex.kC ?_) hdb)
  obtain ⟨hp, g, dr, tk, os⟩ := s
  have n : H (hp.objs.size + 1) = none := I.hok.fresh (Nat.le_succ _)
  have kk : ∀ b o, hp.get? b = some o → ((hp.push (PySem.W.kdv_tup [])).push (PySem.HandSPX.excO (He.ga X.K x) hp.objs.size)).get? b = some o := fun b o e => Heap.get?_push_of_some _ (Heap.get?_push_of_some _ e)
  have there : ((hp.push (PySem.W.kdv_tup [])).push (PySem.HandSPX.excO (He.ga X.K x) hp.objs.size)).get? (hp.objs.size + 1) = some (PySem.HandSPX.excO (He.ga X.K x) hp.objs.size) := by heap_get
  have J := I.laid (t' := tk) (o := exo (hp.objs.size + 1) (He.ga X.K x) none) kk (Nat.le_succ hp.objs.size) (exo_ok there)
  have prem : spX0 (He.ga X.K x) [.ref (hp.objs.size + 1)] (upd H (hp.objs.size + 1) (exo (hp.objs.size + 1) (He.ga X.K x) none)) (fun v H2 => v = .non ∧ H2 = upd H (hp.objs.size + 1) (exo (hp.objs.size + 1) (He.ga X.K x) none)) (fun _ _ _ => False) := ⟨_, rfl, upd_same, rfl, rfl⟩
  have one : 1 = ps.length := Fi.len _ _ _ _ prem
  refine wpAny_call (PySem.HandSPX.call_own F.excBase_ValueError (fun Y => PySem.HandSPX.refsVE_contains Y bm hbm) (I.kIn _ _ hC) (PySem.W.looks_findIn I.kIn T.ini) (fun self => PySem.W.bind_fn I.kIn self T.fn) (Nat.zero_le _)
    (codeAny_mono (Fi.run _ X.stack _ _ ⟨[Value.ref (hp.objs.size + 1)], []⟩ [Value.ref (hp.objs.size + 1)] [V.ref (hp.objs.size + 1)] (fun v H2 => v = .non ∧ H2 = upd H (hp.objs.size + 1) (exo (hp.objs.size + 1) (He.ga X.K x) none)) (fun _ _ _ => False) (hr.make (He.ga X.K x) [] []) (J.env0.make (He.ga X.K x) [] []) (hb _ [Value.ref (hp.objs.size + 1)] J.kIn one) (.cons rfl .nil) prem) fun r s' hq => ?_))
  cases r with
  | error er => exact (show False from hq).elim
  | ok fl =>
    cases fl with
    | ret u =>
      obtain ⟨v, H2, os2, ag, un, hok, rv, rfl, rfl⟩ := hq
      obtain ⟨t0, ho⟩ := exo_at hok upd_same
      obtain ⟨G, g1, g2⟩ := restrict s'.heap fun b => decide (b ≠ hp.objs.size + 1)
      have gk : ∀ b, b ≠ hp.objs.size + 1 → G.get? b = s'.heap.get? b := fun b e => g1 b (decide_eq_true e)
      have ge : G.get? (hp.objs.size + 1) = none := g2 _ (by simp)
      have Z : Inv X pins σ H { s' with heap := G } := I.call' (ch := []) os2 (un_gone (Nat.le_succ _) n kk gk un) (hok_gone n (fun _ => exo_own) (fun _ => exo_tup) gk hok) ag (fun b z => absurd z (by simp))
      exact ⟨rv, _, _, _, _, _, .ref (He.ga X.K x), none, rfl, Z, fun b o z => (gk b (fun e => by rw [e, ge] at z; cases z)).symm.trans z, ge, ho, ⟨rfl, rfl⟩, rfl, rfl, n, rfl, ag, raises_own T.oex.exC T.oex.tyC, q⟩
    | next => exact (show False from hq)
    | brk => exact (show False from hq)
    | cont => exact (show False from hq)
end
/-! ### the __init__ without fields -/
section
variable {fa : List He.Fa} {fn : List He.DefD} {xa : List Xa} {fs : Fs} {P : Program} {w : World} {K : PySem.W.Frag} {mg : Str → Option Value} {base : Heap} {x qual self : Str} {st : Stmt} {fd : FuncData} {txt : Str} {j : Nat} {p0 p1 p2 p3 p4 p5 : Pos}
theorem exc_zero {ar : Arg} (T : Tx fa fn xa fs P w K mg) (hs : mg "super" = none) (hm : mg x = some (.ref (He.ga K x))) (X : ExcT K x) (F : FunS K "__init__" qual st [] [] (He.ga K x) (iAd K x) fd)
    (hb : defBody st = [.Expr (supCall txt j p0 p1 p2 p3 p4) p5]) (ha : ((defArgs st).posonlyargs ++ (defArgs st).args).head? = some ar) (har : ar.arg = self)
    (S : ClsScope [self] [self] (defScope st) (noCls (defScope st))) (hl : ∀ v ∈ [self], (defScope st).names.lookup v = some .local) (hh : (defScope st).names.lookup ("super" : Str) = some NameKind.globalImplicit) (nc : self ≠ "__class__")
    (go : ∀ L ff cda cc, GoesSup (cenv qual (defScope st) L ff (.ref cda) cc) txt j p0 p1 p2 p3 p4) (hsw : ∀ L ff cda cc, swapsWith (supCall txt j p0 p1 p2 p3 p4) none p5.line (cenv qual (defScope st) L ff (.ref cda) cc) = pure false)
    (hbind : ∀ (kV doc pm : Value) (an : Option Addr) (cda : Addr) (ct : Value) (cc : Addr) (us : List Value), us.length = 1 → bindArgs (PySem.W.ksFn "__init__" qual (defArgs st) (defBody st) (defScope st) .none kV doc pm an (.ref cda) ct cc) ⟨us, []⟩ = pure ([self].zip us)) :
    ExcG P w K mg base 1 x [self] (spX0 (He.ga K x)) := by
  obtain ⟨oc, od, dV, kV, doc, pm, an, cda, ct, osl, cc, cl, cld, csl, rfl, lk, hcd, hd, _, lc, ccl, cdd, vs, sl, tf, e2, e3⟩ := F.ex
  have U : SupAt P K mg (defScope st) (iAd K x) cda ar.arg := sup_at T hs lk ha e2 e3 hh
  rw [har] at U
  have edV : dV = .none := by rcases hd with ⟨_, e⟩ | ⟨e, _⟩; exact e; exact absurd rfl e
  subst edV
  have B := Binds.all (K := K) (fun us hu => hbind kV doc pm an cda ct cc us hu)
  have s0 := hl self List.mem_cons_self
  refine ⟨_, hm, X, ?_, B⟩
  rw [hb] at lk ⊢
  refine fn_exc (k := 0) lk hcd lc S (fun vs H Q E h => ?_) (fun v hv => ?_) U X.sup rfl s0 (fun L => go L _ _ _) (fun L => hsw L _ _ _) (fun vs H Q E h => ?_) (fun A outer s H vs Q E hr h => ?_)
  · obtain ⟨a, rfl, _⟩ := h; rfl
  · cases List.mem_singleton.mp hv
    exact ⟨s0, (S.same _ nc).symm.trans s0⟩
  · obtain ⟨a, rfl, e, _⟩ := h; exact ⟨a, _, rfl, e⟩
  · obtain ⟨a, rfl, e, hQ⟩ := h
    exact ⟨_, pss_nil, hQ⟩
end
/-! ### such values, by their heads -/
def kXv (Q : VK) : XK := fun cls d H1 => ∀ a, H1 a = none → Q (.ref a) (upd H1 a (XcO cls d a))
def tXv (t : L2.St → Hp → XK → Prop) : TE := fun σ H Q => t σ H (kXv Q)
def tX0 (C : Addr) : L2.St → Hp → XK → Prop := fun _ H Q => Q (.ref C) none H
theorem pe_xv {X : Cx} {e : Expr} {t : L2.St → Hp → XK → Prop} (he : PMk X e t) : PE X e (tXv t) := pe_of_pmk he
theorem pe_xv0 {X : Cx} {C : Addr} {e : Expr} (he : PMk X e (fun _ H Q => Q (.ref C) none H)) : PE X e (tXv (tX0 C)) := pe_of_pmk he
section
variable {K : PySem.W.Frag} {H : Hp} {σ : L2.St} {C T : Addr} {Q : VK} {y z v w1 v1 v2 v3 v4 : V} {f g : Str} {t : L2.St → Hp → XK → Prop}
theorem w_xv (h : t σ H (kXv Q)) : tXv t σ H Q := h
theorem n_xv0 (h : ∀ (a : Addr) (H' : Hp), H a = none → Same H H' → XcAt H' a C none → Q (.ref a) H') : tX0 C σ H (kXv Q) := fun a n => h a _ n (same_new n) upd_same
theorem n_xvd {d : Addr} {l : List (Str × V)} (hd : H d = none) (h : ∀ (a : Addr) (H' : Hp), H a = none → Same H H' → XcAt H' a C (some l) → Q (.ref a) H') : kXv Q (.ref C) (some d) (upd H d (.xd l)) := fun a na => by
  obtain ⟨s, x⟩ := xmade hd na
  refine h a _ ?_ s x
  have ad : a ≠ d := fun e => by rw [e, upd_same] at na; cases na
  rwa [upd_ne ad] at na
theorem n_xv1 (h : ∀ (a : Addr) (H' : Hp), H a = none → Same H H' → XcAt H' a C (some [(f, y)]) → Q (.ref a) H') : kMkO C (spX1 C f) [] (kXv Q) [y] H := use_raise1 fun _ hd => n_xvd hd h
theorem n_xv2 (h : ∀ (a : Addr) (H' : Hp), H a = none → Same H H' → XcAt H' a C (some [(g, z), (f, y)]) → Q (.ref a) H') : kMkO C (spX2 C f g) [] (kXv Q) [y, z] H := use_raise2 fun _ hd => n_xvd hd h
theorem w_gl4 {i j k m : Nat} {Qn : L2.St → Hp → Prop} (h : SqL K H T [v1, v2, v3, v4]) (q : Qn ((((σ.set i (some v1)).set j (some v2)).set k (some v3)).set m (some v4)) H) : gUnl K 4 (gCons (gName i) (gCons (gName j) (gCons (gName k) (gCons (gName m) gNil)))) (.ref T) σ H Qn := ⟨T, _, rfl, h, rfl, _, _, rfl, _, _, rfl, _, _, rfl, _, _, rfl, rfl, q⟩
/-- a field read, of any expression -/
def kXk (K : PySem.W.Frag) (f : Str) (Q : VK) : VK := fun x H1 => match x with
  | .ref a => ∃ C l v, XcAt H1 a C (some l) ∧ XfC K C ∧ PySem.W.findIn K (.ref C) f = some none ∧ l.lookup f = some v ∧ Q v H1
  | _ => False
theorem w_xkE {te : TE} (h : te σ H (kXk K f Q)) : tXk K f te σ H Q := h
theorem w_kxk {a : Addr} {l : List (Str × V)} (hx : XcAt H a C (some l)) (hc : XfC K C) (hn : PySem.W.findIn K (.ref C) f = some none) (hl : l.lookup f = some v) (h : Q v H) : kXk K f Q (.ref a) H := ⟨C, l, v, hx, hc, hn, hl, h⟩
end
end Rd
/-! IxG: o[k] by an own __getitem__, x not in o by an own __contains__. -/
namespace Rd
open PySem PySem.Spec PyProof.Rows PySem.W L2
/-- an own __getitem__ -/
structure GetG (P : Program) (w : World) (K : PySem.W.Frag) (mg : Str → Option Value) (base : Heap) (CX : CXT) (k : Nat) (C : Addr) (ps : List Str) (sp : Sp) : Prop where
  ex : ∃ f fd, Meth K C "__getitem__" f ∧ PySem.W.fnIn K f = true ∧ FnOk P w K mg base CX k f fd ps sp ∧ Binds K fd ps []
theorem fnIn_of {K : PySem.W.Frag} {x qual : Str} {params : Arguments} {body : List Stmt} {scope : Scope} {dvs : List V} {kws : List (Str × V)} {f : Addr} {fd : FuncData} (F : FunD K x qual params body scope dvs kws f fd) : PySem.W.fnIn K f = true := by
  obtain ⟨oc, od, dV, kV, doc, pm, an, cdv, ct, osl, _, lk, _⟩ := F.ex
  unfold PySem.W.fnIn
  rw [lk]
def rIxG (C : Addr) (sp : Sp) (E : XK) : R2 := fun x y H Q => ∃ a dx fs, x = .ref a ∧ H a = some (.ins C dx fs) ∧ sp [.ref a, y] H Q E
section
variable {X : Cx} {k : Nat} {C : Addr} {ps : List Str} {sp : Sp} {CX : CXT} {E : XK}
theorem run_fn1 {f : Addr} {fd : FuncData} {pins : List (Addr × Obj)} {σ : L2.St} {H : Hp} {s : Shared} {Q : VK} {us : List Value} {vs : List V} (F : FnOk X.prog X.w X.K X.mg X.base CX k f fd ps sp) (hr : Room k X.A.in1) (hb : Binds X.K fd ps []) (hx : Passes CX X E)
    (I : L2.Inv X pins σ H s) (r : Vals vs us) (h : sp vs H Q E) : wpAny (model X.prog X.w) X.A.in1 (call (.ref f) us) (EP X pins σ Q) X.xe s := by
  have hl : us.length = ps.length := by rw [← r.length]; exact F.len _ _ _ _ h
  have b := hb s us I.kIn (by rw [List.append_nil]; exact hl)
  rw [List.append_nil] at b
  refine wpAny_call (codeAny_mono (F.run X.A.in1 X.stack s H ⟨us, []⟩ us vs Q E hr I.env0.in1 b r h) fun r s' hq => ?_)
  cases r with
  | error e => exact hx pins σ H s e s' I hq
  | ok fl =>
    cases fl with
    | ret u => exact I.after hq
    | next => exact False.elim hq
    | brk => exact False.elim hq
    | cont => exact False.elim hq
theorem pe_ixG {a b : Expr} {ta tb : TE} {pos : Pos} (G : GetG X.prog X.w X.K X.mg X.base CX k C ps sp) (hr : Room (k + 1) X.A) (hx : Passes CX X E) (ha : PE X a ta) (hb : PE X b tb)
    (hs : ∀ o i, subscripted b true o i = runValue (.builtin "lifetime.subscript" ⟨[o, i], []⟩)) : PE X (.Subscript a b pos) (tOp (rIxG C sp E) ta tb) := by
  obtain ⟨f, fd, m, fi, F, bn⟩ := G.ex
  refine ⟨fun pins s σ H Q I h => ?_⟩
  refine Subscript_ (binT ha hb I h fun v u s2 x y H2 I2 rx ry q => ?_)
  obtain ⟨o, dx, fs, rfl, e, q⟩ := q
  obtain ⟨od, i⟩ := inst_of I2 e
  obtain ⟨_, fr⟩ := I2.fr
  cases rx
  exact PySem.W.sub_K fr I2.mod.kin i m.at_ fi m.fn (run_fn1 F hr.in1 bn hx I2 (.cons (show RelV (V.ref o) (Value.ref o) from rfl) (.cons ry .nil)) q) (hs _ _)
def rNotInG (C : Addr) (sp : Sp) : R2 := fun x y H Q => match y with
  | .ref a => ∃ dx fs, H a = some (.ins C dx fs) ∧ sp [.ref a, x] H (fun v H2 => ∃ b, v = .bl b ∧ Q (.bl (!b)) H2) E0
  | _ => False
theorem oNotInG (G : MtG X.prog X.w X.K X.mg X.base CX0 k C "__contains__" ps sp) (hr : Room k X.A) : OpR X (compareOp .NotIn) (rNotInG C sp) := by
  intro pins s σ H x y u v Q I rx ry h
  unfold rNotInG at h
  split at h
  · rename_i a
    obtain ⟨dx, fs, e, h⟩ := h
    obtain ⟨f, fd, m, F, b⟩ := G.ex
    obtain ⟨od, i⟩ := inst_of I e
    obtain ⟨_, fr⟩ := I.fr
    cases ry
    refine PySem.W.notIn_K fr I.mod.kin i m.at_ m.fn (thn (run_fn (vs := [V.ref a, x]) (dvs := []) F hr b .nil pass0 I (.cons (show RelV (V.ref a) (Value.ref a) from rfl) (.cons rx .nil)) h) fun r s1 w => ?_)
    obtain ⟨z, H1, I1, rz, c, rfl, q⟩ := w
    cases rz
    exact thn (tru_ok pins s1 σ H1 (.bl c) _ (fun b H' => Q (.bl (!b)) H') I1 rfl ⟨c, rfl, q⟩) fun b2 s2 w2 => let ⟨H2, I2, q2⟩ := w2; ⟨.bl (!b2), H2, I2, rfl, q2⟩
  · exact h.elim
end
section
variable {K : PySem.W.Frag} {H : Hp} {Q : VK} {C a dx : Addr} {fs : List (Str × V)} {sp : Sp} {x : V} {E : XK}
theorem w_notInG (e : H a = some (.ins C dx fs)) (h : sp [.ref a, x] H (fun v H2 => ∃ b, v = .bl b ∧ Q (.bl (!b)) H2) E0) : rNotInG C sp x (.ref a) H Q := ⟨dx, fs, e, h⟩
theorem w_ixG (e : H a = some (.ins C dx fs)) (h : sp [.ref a, x] H Q E) : rIxG C sp E (.ref a) x H Q := ⟨a, dx, fs, rfl, e, h⟩
end
end Rd
/-! BinT: a + i by an own method of a, i an int. -/
namespace Rd
open PySem PySem.Spec PyProof.Rows L2
/-- the class at C may stand ahead of a thing of the built-in type T -/
structure BiT (K : PySem.W.Frag) (C : Addr) (nm T : String) : Prop where
  self : PySem.W.selfFirst K C = true
  rr : ∃ rc, PySem.W.findIn K (.ref C) (dunderR nm) = some rc ∧ (rc = none ∨ ∃ g : Addr, rc = some (.ref g))
  t1 : ∃ fo, PySem.W.findIn K (.type T) (PySem.dunder nm) = some fo
  t2 : ∃ ro, PySem.W.findIn K (.type T) (dunderR nm) = some ro
  sub : PySem.W.subIn K (.type T) (.ref C) = some false
theorem Tx.binT {fa : List He.Fa} {fn : List He.DefD} {xa : List Xa} {fs : Fs} {P : Program} {w : World} {K : PySem.W.Frag} {mg : Str → Option Value} (T : Tx fa fn xa fs P w K mg) (i : Nat) {x : Str} {nm t : String} (h : xa[i]? = some (.binT x nm t) := by rfl) : BiT K (He.ga K x) nm t := by
  obtain ⟨a, r⟩ := He.ba (T.all.own i h)
  obtain ⟨b, r⟩ := He.ba r
  obtain ⟨c, r⟩ := He.ba r
  obtain ⟨d, e⟩ := He.ba r
  refine ⟨a, ?_, Option.isSome_iff_exists.mp c, Option.isSome_iff_exists.mp d, of_decide_eq_true e⟩
  split at b
  · exact ⟨_, by assumption, .inl rfl⟩
  · exact ⟨_, by assumption, .inr ⟨_, rfl⟩⟩
  · cases b
/-- a + i, a of the class at C -/
def tBinT (C : Addr) (sp : Sp) (E : L2.St → XK) (ta tb : TE) : TE := fun σ H Q => ta σ H fun x H1 => tb σ H1 fun y H2 => ∃ a dx fs i, x = .ref a ∧ y = .int i ∧ H2 a = some (.ins C dx fs) ∧ sp [x, y] H2 Q (E σ)
theorem pe_binT {X : Cx} {CX : CXT} {k : Nat} {C : Addr} {ps : List Str} {sp : Sp} {E : L2.St → XK} {a b : Expr} {ta tb : TE} {pos : Pos} {op : Operator} (G : MtG X.prog X.w X.K X.mg X.base CX k C (PySem.dunder op.info.2) ps sp) (hs : BiT X.K C op.info.2 "int") (hr : Room k X.A) (hx : ∀ σ, PassesAt CX X σ (E σ)) (ha : PE X a ta) (hb : PE X b tb) : PE X (.BinOp a op b pos) (tBinT C sp E ta tb) where
  run := fun pins s σ H Q I h => wpAny_BinOp (binT ha hb I h fun v u s2 x y H2 I2 rx ry q => by
    obtain ⟨p1, dx, fs, i, rfl, rfl, e1, q⟩ := q
    obtain ⟨f, fd, mt, F, bd⟩ := G.ex
    obtain ⟨od, i1⟩ := inst_of I2 e1
    obtain ⟨_, fr⟩ := I2.fr
    obtain ⟨rc, r1, r2⟩ := hs.rr
    obtain ⟨fo, t1⟩ := hs.t1
    obtain ⟨ro, t2⟩ := hs.t2
    cases rx
    obtain ⟨tk, rfl⟩ := ry
    refine PySem.W.ksp_binT (T := "int") fr I2.mod.kin i1 rfl hs.self mt.at_ mt.fn r1 r2 t1 t2 hs.sub (wpAny_mono (run_fnS (us := [.ref p1, .int i tk]) (vs := [.ref p1, .int i]) F hr bd (hx σ) I2 (.cons rfl (.cons ⟨tk, rfl⟩ .nil)) q) (fun r s3 w => ?_) fun _ _ w => w)
    obtain ⟨z, H3, I3, rz, q3⟩ := w
    have ok : ∀ r', r' ≠ Value.notImplemented → PySem.W.CmpBack (EP X pins σ Q) r' s3 = EP X pins σ Q r' s3 := fun r' hn => by
      cases r' <;> first | rfl | exact absurd rfl hn
    rw [ok r (fun e => by subst e; cases z <;> first | (obtain ⟨_, e⟩ := rz; cases e) | cases rz)]
    exact ⟨z, H3, I3, rz, q3⟩)
def kBinT1 (C : Addr) (sp : Sp) (E : L2.St → XK) (tb : TE) (σ : L2.St) (Q : VK) : VK := fun x H => tBinT C sp E (tC x) tb σ H Q
def kBinT2 (C : Addr) (sp : Sp) (E : XK) (x : V) (Q : VK) : VK := fun y H2 => ∃ a dx fs i, x = .ref a ∧ y = .int i ∧ H2 a = some (.ins C dx fs) ∧ sp [x, y] H2 Q E
section
variable {C : Addr} {sp : Sp} {E : L2.St → XK} {E1 : XK} {ta tb : TE} {σ : L2.St} {H : Hp} {Q : VK} {x : V} {a dx : Addr} {i : Int} {fs : List (Str × V)}
theorem w_binT (h : ta σ H (kBinT1 C sp E tb σ Q)) : tBinT C sp E ta tb σ H Q := h
theorem w_kbinT1 (h : tb σ H (kBinT2 C sp (E σ) x Q)) : kBinT1 C sp E tb σ Q x H := h
theorem w_kbinT2 (h1 : H a = some (.ins C dx fs)) (h : sp [.ref a, .int i] H Q E1) : kBinT2 C sp E1 (.ref a) Q (.int i) H := ⟨a, dx, fs, i, rfl, rfl, h1, h⟩
end
end Rd
/-! EqG: own == and !=, own unary minus. -/
namespace Rd
open PySem PySem.Spec PyProof.Rows PySem.W PySem.Calls
section
variable {prog : Program} {w : World} {A : Around} {E : Value → Shared → Prop} {s : Shared} {K : Frag} {x C f : Addr} {ox : Obj} {od : Option Obj}
/-- instances of C are told apart by their own == alone: != is the one of object -/
structure NeD (K : Frag) (C : Addr) : Prop where
  ne : findIn K (.ref C) "__ne__" = some (some (.builtin "object.__ne__"))
  sub : subIn K (.ref C) (.type "object") = some true
theorem ne_check {M : Model} {b : Value} {Q : Unit → Shared → Prop} (X : K.In s.heap) (I : InstAt s.heap x ox C od) (D : NeD K C) (h : Q () s) : wpAny M A (checkBuiltinCall "object.__ne__" ⟨[.ref x, b], []⟩) Q E s := by
  have ha := F.cmpArgs_ne (.ref x) b
  simp only [checkBuiltinCall, F.cmpKind_ne, F.cmpSplit_ne]
  refine wpAny_bind ?_
  unfold isInstance
  refine wpAny_bind (I.type.here ((looks_subIn X D.sub).here ?_))
  simp only [Bool.not_true, Bool.false_eq_true, if_false]
  try refine wpAny_pure ?_
  exact h
theorem ne_body {b : Value} {Q : PySem.Fin → Shared → Prop} (X : K.In s.heap) (I : InstAt s.heap x ox C od) (hs : findIn K (.ref C) "__eq__" = some (some (.ref f))) (hf : isFn K (.ref f) = true) (hu : A.units < cLine)
    (h : wpAny (model prog w) A (call (.ref f) [.ref x, b]) (fun v s' => ∃ c, v = .bool c ∧ Q (.done (.ret (.bool (!c)))) s') E s) : wpAny (model prog w) A (Builtin.«object.__ne__» ⟨[.ref x, b], []⟩) Q E s := by
  unfold Builtin.«object.__ne__» slotArgs
  refine wpAny_bind (wpAny_pure ?_)
  refine wpAny_bind (wpAny_cRoomFor hu ?_)
  refine wpAny_bind (ifBound_K X I hs hf (wpAny_mono h (fun v s' hv => ?_) fun _ _ e => e))
  obtain ⟨c, rfl, hq⟩ := hv
  refine wpAny_bind (wpAny_truthy_bool ?_)
  exact wpAny_pure hq
theorem ne_try {b : Value} {Q : Value → Shared → Prop} (X : K.In s.heap) (I : InstAt s.heap x ox C od) (D : NeD K C) (hs : findIn K (.ref C) "__eq__" = some (some (.ref f))) (hf : isFn K (.ref f) = true) (hu : A.units + 1 < cLine)
    (h : wpAny (model prog w) A.in1 (call (.ref f) [.ref x, b]) (fun v s' => ∃ c, v = .bool c ∧ Q (.bool (!c)) s') E s) : wpAny (model prog w) A (tryCompare (.ref x) "__ne__" b) (fun r s' => ∃ v, r = some v ∧ Q v s') E s := by
  unfold tryCompare
  simp only [callSpecialIfBound?, bindSpecialIfBound?]
  have S := F.slot_object_ne
  have call1 : wpAny (model prog w) A (call (.builtin "object.__ne__") ([.ref x] ++ [b])) (fun v s' => ∃ c, v = .bool c ∧ Q (.bool c) s') E s :=
    wpAny_call (codeAny_call_builtin S.plain F.cmpEntry_ne (ne_check X I D (ne_body (A := A.in1) X I hs hf hu (wpAny_mono h (fun v s' hv => by
      obtain ⟨c, rfl, q⟩ := hv
      exact ⟨c, rfl, ⟨_, rfl, q⟩⟩) fun _ _ e => e))))
  refine wpAny_bind (wpAny_holding (wpAny_bind (wpAny_bind (wpAny_bind (I.type.here ((looks_findIn X D.ne).here ?_))))))
  simp only [S.bind]
  refine wpAny_bind (wpAny_askSetting (wpAny_ite ?_))
  have fin : wpAny (model prog w) A (call (.builtin "object.__ne__") ([.ref x] ++ [b]) >>= fun v => pure (some v)) (fun a s' => wpAny (model prog w) A (match a with
      | some .notImplemented | none => pure none
      | some v => pure (some v)) (fun r s' => ∃ v, r = some v ∧ Q v s') E s') E s :=
    wpAny_bind (wpAny_mono call1 (fun v s' h' => by obtain ⟨c, rfl, q⟩ := h'; exact wpAny_pure (wpAny_pure ⟨_, rfl, q⟩)) fun _ _ h' => h')
  split
  · exact wpAny_bind (wpAny_pure (wpAny_pure fin))
  · exact wpAny_tryCatch (wpAny_bind (wpAny_pure (wpAny_pure fin)))
/-- x != b by the own == -/
theorem ne_K {b tb : Value} {h₀ : Heap} {L : Addr} {m : Str → Option Value} {Q : Value → Shared → Prop} (hu : A.units + 1 < cLine) (F : Fr h₀ L s.heap m) (X₀ : K.In h₀) (I : InstAt s.heap x ox C od) (D : NeD K C) (hb : Looks (model prog w) s.heap (typeOf b) tb) (hn : notFirst K C tb = true)
    (hs : findIn K (.ref C) "__eq__" = some (some (.ref f))) (hf : isFn K (.ref f) = true)
    (h : wpAny (model prog w) A.in1 (call (.ref f) [.ref x, b]) (fun v s' => ∃ c, v = .bool c ∧ Q (.bool (!c)) s') E s) : wpAny (model prog w) A (richCompare .NotEq (.ref x) b) Q E s := by
  have X := X₀.keeps F.keep
  have one := ne_try X I D hs hf hu h
  unfold richCompare
  simp only [oneThing_ref]
  refine wpAny_holding (wpAny_bind (wpAny_cRoomFor (Nat.lt_of_succ_lt hu) ?_))
  refine wpAny_bind (I.type.here (wpAny_bind (hb.here ?_)))
  split
  · rename_i q
    have e : subIn K tb (.ref C) = some false := by
      rcases Bool.or_eq_true_iff.mp hn with e | e
      · rw [beq_iff_eq.mp e] at q; simp at q
      · exact beq_iff_eq.mp e
    refine wpAny_bind ((looks_subIn X e).here ?_)
    simp only [Bool.false_eq_true, if_false]
    refine wpAny_bind (wpAny_mono one (fun r s' z => ?_) fun _ _ e => e)
    obtain ⟨v, rfl, hq⟩ := z
    exact wpAny_pure hq
  · refine wpAny_bind (wpAny_pure ?_)
    simp only [Bool.false_eq_true, if_false]
    refine wpAny_bind (wpAny_mono one (fun r s' z => ?_) fun _ _ e => e)
    obtain ⟨v, rfl, hq⟩ := z
    exact wpAny_pure hq
end
end Rd
namespace Rd
open PySem PySem.Spec PyProof.Rows L2
theorem Tx.neD {fa : List He.Fa} {fn : List He.DefD} {xa : List Xa} {fs : Fs} {P : Program} {w : World} {K : PySem.W.Frag} {mg : Str → Option Value} (T : Tx fa fn xa fs P w K mg) (i : Nat) {x : Str} (h : xa[i]? = some (.neD x) := by rfl) : NeD K (He.ga K x) := by
  obtain ⟨a, b⟩ := He.ba (T.all.own i h)
  exact ⟨He.eqO_ok a, of_decide_eq_true b⟩
/-- what may stand behind an own ==: an int, a tuple, an instance of the same class -/
def EqY (H : Hp) (C : Addr) (y : V) : Prop := (∃ j, y = .int j) ∨ (∃ b xs, y = .ref b ∧ H b = some (.tup xs)) ∨ (∃ b dx fs, y = .ref b ∧ H b = some (.ins C dx fs))
def rEqG (C : Addr) (sp : Sp) : R2 := fun x y H Q => ∃ a dx fs, x = .ref a ∧ H a = some (.ins C dx fs) ∧ EqY H C y ∧ sp [x, y] H Q E0
def rNeG (C : Addr) (sp : Sp) : R2 := fun x y H Q => ∃ a dx fs, x = .ref a ∧ H a = some (.ins C dx fs) ∧ EqY H C y ∧ sp [x, y] H (fun v H2 => ∃ b, v = .bl b ∧ Q (.bl (!b)) H2) E0
def uNegG (C : Addr) (sp : Sp) : V → Hp → VK → Prop := fun x H Q => ∃ a dx fs, x = .ref a ∧ H a = some (.ins C dx fs) ∧ sp [x] H Q E0
section
variable {X : Cx} {k : Nat} {C : Addr} {ps : List Str} {sp : Sp}
theorem eqY_type {pins : List (Addr × Obj)} {σ : L2.St} {H : Hp} {s : Shared} {y : V} {v : Value} (I : L2.Inv X pins σ H s) (rv : RelV y v) (h : EqY H C y) : ∃ tb, PySem.W.Looks (model X.prog X.w) s.heap (typeOf v) tb ∧ PySem.W.notFirst X.K C tb = true := by
  rcases h with ⟨j, rfl⟩ | ⟨b, xs, rfl, e⟩ | ⟨b, dx, fs, rfl, e⟩
  · obtain ⟨t, rfl⟩ := rv
    refine ⟨_, PySem.W.Looks.of_pure rfl, ?_⟩
    refine Bool.or_eq_true_iff.mpr (.inr (beq_iff_eq.mpr ?_))
    show (fastBuiltinMro "int").map (·.contains (.ref C)) = some false
    kernel_rfl
  · cases rv
    obtain ⟨_, _, _, o, h1, h2, _⟩ := (show ObjOk X.prog X.w H s.heap b (.tup xs) from I.hok b _ e)
    refine ⟨_, PySem.W.kitx_tuple.ty (K := X.K) (model X.prog X.w) s.heap (let ⟨_, fr⟩ := I.fr; I.mod.kin.keeps fr.keep) ⟨o, h1, h2⟩, ?_⟩
    refine Bool.or_eq_true_iff.mpr (.inr (beq_iff_eq.mpr ?_))
    show (fastBuiltinMro "tuple").map (·.contains (.ref C)) = some false
    kernel_rfl
  · cases rv
    obtain ⟨od, i⟩ := inst_of I e
    exact ⟨_, i.type, Bool.or_eq_true_iff.mpr (.inl (beq_iff_eq.mpr rfl))⟩
theorem oEqG (G : MtG X.prog X.w X.K X.mg X.base CX0 k C "__eq__" ps sp) (hr : Room k X.A) : OpR X (compareOp .Eq) (rEqG C sp) := by
  rintro pins s σ H x y u v Q I rx ry ⟨a, dx, fs, rfl, e, hy, h⟩
  obtain ⟨f, fd, m, F, b⟩ := G.ex
  obtain ⟨od, i⟩ := inst_of I e
  obtain ⟨_, fr⟩ := I.fr
  obtain ⟨tb, lb, nf⟩ := eqY_type I ry hy
  cases rx
  unfold compareOp
  exact PySem.W.cmp_K (op := .Eq) hr.units0 fr I.mod.kin i lb nf m.at_ m.fn (wpAny_mono (run_fn (vs := [V.ref a, y]) (dvs := []) F hr b .nil pass0 I (.cons (show RelV (V.ref a) (Value.ref a) from rfl) (.cons ry .nil)) h) (fun r s1 w => back_of w) fun _ _ w => w)
theorem oNeG (G : MtG X.prog X.w X.K X.mg X.base CX0 k C "__eq__" ps sp) (D : NeD X.K C) (hr : Room (k + 1) X.A) : OpR X (compareOp .NotEq) (rNeG C sp) := by
  rintro pins s σ H x y u v Q I rx ry ⟨a, dx, fs, rfl, e, hy, h⟩
  obtain ⟨f, fd, m, F, b⟩ := G.ex
  obtain ⟨od, i⟩ := inst_of I e
  obtain ⟨_, fr⟩ := I.fr
  obtain ⟨tb, lb, nf⟩ := eqY_type I ry hy
  cases rx
  unfold compareOp
  have hl : [Value.ref a, v].length = ps.length := F.len _ _ _ _ h
  exact ne_K (by have := hr.units; omega) fr I.mod.kin i D lb nf m.at_ m.fn (wpAny_mono (run_fn1 F hr.in1 b pass0 I (.cons (show RelV (V.ref a) (Value.ref a) from rfl) (.cons ry .nil)) h) (fun r s1 w => by
    obtain ⟨z, H1, I1, rz, c, rfl, q⟩ := w
    cases rz
    exact ⟨c, rfl, .bl (!c), H1, I1, rfl, q⟩) fun _ _ w => w)
theorem oNegG (G : MtG X.prog X.w X.K X.mg X.base CX0 k C "__neg__" ps sp) (hr : Room k X.A) : UnR X (unaryOp .USub) (uNegG C sp) := by
  rintro pins s σ H x u Q I rx ⟨a, dx, fs, rfl, e, h⟩
  obtain ⟨f, fd, m, F, b⟩ := G.ex
  obtain ⟨od, i⟩ := inst_of I e
  obtain ⟨_, fr⟩ := I.fr
  cases rx
  exact PySem.W.ksp_neg fr I.mod.kin i m.at_ m.fn (run_fn (vs := [V.ref a]) (dvs := []) F hr b .nil pass0 I (.cons (show RelV (V.ref a) (Value.ref a) from rfl) .nil) h)
end
section
variable {C a dx b dy : Addr} {fs gs : List (Str × V)} {sp : Sp} {H : Hp} {Q : VK} {x y : V} {j : Int} {xs : List V}
theorem w_eqGI (e : H a = some (.ins C dx fs)) (h : sp [.ref a, .int j] H Q E0) : rEqG C sp (.ref a) (.int j) H Q := ⟨a, dx, fs, rfl, e, .inl ⟨j, rfl⟩, h⟩
theorem w_eqGT (e : H a = some (.ins C dx fs)) (e2 : H b = some (.tup xs)) (h : sp [.ref a, .ref b] H Q E0) : rEqG C sp (.ref a) (.ref b) H Q := ⟨a, dx, fs, rfl, e, .inr (.inl ⟨b, xs, rfl, e2⟩), h⟩
theorem w_eqGO (e : H a = some (.ins C dx fs)) (e2 : H b = some (.ins C dy gs)) (h : sp [.ref a, .ref b] H Q E0) : rEqG C sp (.ref a) (.ref b) H Q := ⟨a, dx, fs, rfl, e, .inr (.inr ⟨b, dy, gs, rfl, e2⟩), h⟩
def kNeG (Q : VK) : VK := fun v H2 => ∃ b, v = .bl b ∧ Q (.bl (!b)) H2
theorem w_kneG {c : Bool} (h : Q (.bl (!c)) H) : kNeG Q (.bl c) H := ⟨c, rfl, h⟩
theorem w_neGI (e : H a = some (.ins C dx fs)) (h : sp [.ref a, .int j] H (kNeG Q) E0) : rNeG C sp (.ref a) (.int j) H Q := ⟨a, dx, fs, rfl, e, .inl ⟨j, rfl⟩, h⟩
theorem w_neGT (e : H a = some (.ins C dx fs)) (e2 : H b = some (.tup xs)) (h : sp [.ref a, .ref b] H (kNeG Q) E0) : rNeG C sp (.ref a) (.ref b) H Q := ⟨a, dx, fs, rfl, e, .inr (.inl ⟨b, xs, rfl, e2⟩), h⟩
theorem w_neGO (e : H a = some (.ins C dx fs)) (e2 : H b = some (.ins C dy gs)) (h : sp [.ref a, .ref b] H (kNeG Q) E0) : rNeG C sp (.ref a) (.ref b) H Q := ⟨a, dx, fs, rfl, e, .inr (.inr ⟨b, dy, gs, rfl, e2⟩), h⟩
theorem w_negG (e : H a = some (.ins C dx fs)) (h : sp [.ref a] H Q E0) : uNegG C sp (.ref a) H Q := ⟨a, dx, fs, rfl, e, h⟩
theorem w_isiO {K : PySem.W.Frag} {H : Hp} {x : V} {t : Value} {D : Addr} {b : Bool} {Q : VK} (ty : TyX K H x t) (e : PySem.W.kitOne K t (.ref D) = some b) (h : Q (.bl b) H) : uIsi K [x, .ref D] H Q := .inl ⟨_, _, _, _, b, rfl, .own _, ty, e, h⟩
end
def kBinR1 (C : Addr) (sp : Sp) (E : L2.St → XK) (tb : TE) (σ : L2.St) (Q : VK) : VK := fun x H => tBinR C sp E (tC x) tb σ H Q
def kBinR2 (C : Addr) (sp : Sp) (E : XK) (x : V) (Q : VK) : VK := fun y H2 => ∃ a dx fs j, x = .int j ∧ y = .ref a ∧ H2 a = some (.ins C dx fs) ∧ sp [y, x] H2 Q E
section
variable {C : Addr} {sp : Sp} {E : L2.St → XK} {E1 : XK} {ta tb : TE} {σ : L2.St} {H : Hp} {Q : VK} {x : V} {a dx : Addr} {j : Int} {fs : List (Str × V)}
theorem w_binR (h : ta σ H (kBinR1 C sp E tb σ Q)) : tBinR C sp E ta tb σ H Q := h
theorem w_kbinR1 (h : tb σ H (kBinR2 C sp (E σ) x Q)) : kBinR1 C sp E tb σ Q x H := h
theorem w_kbinR2 (h1 : H a = some (.ins C dx fs)) (h : sp [.ref a, .int j] H Q E1) : kBinR2 C sp E1 (.int j) Q (.ref a) H := ⟨a, dx, fs, j, rfl, rfl, h1, h⟩
end
theorem n_caught0 {K : PySem.W.Frag} {u : Clause} {r : List Clause} {D : Ends} {σ : L2.St} {C : Addr} {H : Hp} (hm : PySem.W.exmOne K (.ref C) u.c = some true) (h : ∀ (a : Addr) (H' : Hp), H a = none → Same H H' → XcAt H' a C none → u.ts (unbound D u.i) (σ.set u.i (some (.ref a))) H') : wCatches K (u :: r) D (.ref C) none σ H := w_c1 hm fun a n => h a _ n (same_new n) upd_same
end Rd
/-! StarF: def f(*xs) by its name; calls of it. -/
namespace Rd
open PySem PySem.Spec PyProof.Rows L2
/-- what def f(*xs) promises, sp told over the tuple -/
def spStar (sp : Sp) : Sp := fun vs H Q E => vs.length ≤ sizeLine ∧ ∀ p, H p = none → sp [.ref p] (upd H p (.tup vs)) Q E
/-- def x(*xs) of the module by its name -/
structure StarG (P : Program) (w : World) (K : PySem.W.Frag) (mg : Str → Option Value) (base : Heap) (CX : CXT) (k : Nat) (x : Str) (sp : Sp) : Prop where
  ex : ∃ f, mg x = some (.ref f) ∧ PySem.W.keepIn K (.ref f) = true ∧ FnR P w K mg base CX k f (spStar sp)
section
variable {P : Program} {w : World} {K : PySem.W.Frag} {mg : Str → Option Value} {base : Heap} {x qual : Str} {params : Arguments} {body : List Stmt} {scope : Scope} {dvs : List V} {kws : List (Str × V)} {f : Addr} {fd : FuncData}
theorem FunD.star {CX : CXT} {N : List Str} {pv : Str} {k : Nat} {sp : Sp} (F : FunD K x qual params body scope [] kws f fd) (S : FnScope N [pv] scope) (hCX : StX.CXUp CX)
    (hb : ∀ (kV doc pm cdv ct : Value) (an : Option Addr) (rest : List Value), bindArgs (PySem.W.fnOf x qual params body scope .none kV doc pm an cdv ct) ⟨rest, []⟩ = (newTuple rest >>= fun t => pure [(pv, t)]))
    (hbody : ∀ (cdv : Value) (A : Around) (outer : List Env) (s : Shared) (H : Hp) (vs : List V) (Q : VK) (E : XK), Room k (A.deeper (envOfC qual scope s.heap.objs.size f cdv)) → sp vs H Q E →
      ∃ t, PSs (cxOf CX P w K mg base N qual scope f cdv A outer s H E) body t ∧ t { nx := fun _ H' => Q .non H', rt := Q } (start N vs) H) : FnR P w K mg base CX (k + 1) f (spStar sp) := by
  obtain ⟨oc, od, dV, kV, doc, pm, an, cdv, ct, osl, rfl, lk, hcd, hD, _⟩ := F.ex
  obtain rfl : dV = .none := by
    rcases hD with ⟨_, e⟩ | ⟨e, _⟩
    · exact e
    · exact absurd rfl e
  refine FnR.imp (StX.fn_star (ps := []) (pv := pv) (sp := sp) lk hcd S hCX (fun us rest hl => ?_) fun A outer s H vs Q E hr hsp => hbody cdv A outer s H vs Q E hr hsp) fun vs H Q E h => ⟨[], vs, rfl, rfl, h.1, h.2⟩
  obtain rfl := List.eq_nil_of_length_eq_zero hl
  exact hb kV doc pm cdv ct an rest
end
def tStarC (sp : Sp) (E : L2.St → XK) (t : TA) : TE := fun σ H Q => t σ H fun vs H1 => spStar sp vs H1 Q (E σ)
section
variable {X : Cx} {CX : CXT} {k : Nat} {x : Str} {sp : Sp} {E : L2.St → XK} {e : Expr} {es : List Expr} {t : TA} {p pos : Pos}
theorem run_star {pins : List (Addr × Obj)} {σ : L2.St} {H : Hp} {s : Shared} {Q : VK} {us : List Value} {vs : List V} {f : Addr} (F : FnR X.prog X.w X.K X.mg X.base CX k f (spStar sp)) (hr : Room k X.A) (hx : PassesAt CX X σ (E σ)) (I : L2.Inv X pins σ H s) (r : Vals vs us) (h : spStar sp vs H Q (E σ)) :
    wpAny (model X.prog X.w) X.A (call (.ref f) us) (EP X pins σ Q) X.xe s := by
  refine wpAny_call (codeAny_mono (F X.A X.stack s H us vs Q (E σ) hr I.env0 r h) fun r s' hq => ?_)
  cases r with
  | error e => exact hx pins H s e s' I hq
  | ok fl =>
    cases fl with
    | ret u => exact I.after hq
    | next => exact False.elim hq
    | brk => exact False.elim hq
    | cont => exact False.elim hq
/-- f(e, ..) -/
theorem pe_starC (G : StarG X.prog X.w X.K X.mg X.base CX k x sp) (hr : Room k X.A) (hg : Gl X x) (hx : ∀ σ, PassesAt CX X σ (E σ)) (ha : PA X (e :: es) t) (hdb : (x == ("__debug__" : Str)) = false := by decide) (he : starEach (e :: es) X.env = (false, eval e X.env) :: starEach es X.env := by rfl) (hpl : (backTo pos (starEach es X.env)).any (·.1) = false := by rfl) :
    PE X (.Call (.Name x p) (e :: es) [] pos) (tStarC sp E t) := by
  refine ⟨fun pins s σ H Q I h => ?_⟩
  obtain ⟨f, hm, hk, F⟩ := G.ex
  refine wpAny_Call_Name_kw (ld_glob I hg hm ?_ hdb)
  refine PySem.W.callWith_K (h₀ := X.base) I.ok.mod.kin hk (thn (ha.run pos pins s σ H _ I h) fun us s1 ⟨vs, H1, I1, r, q⟩ => ⟨I1.kIn, ?_⟩) he hpl
  exact run_star F hr (hx σ) I1 r q
/-- f() -/
theorem pe_starC0 (G : StarG X.prog X.w X.K X.mg X.base CX k x sp) (hr : Room k X.A) (hg : Gl X x) (hx : ∀ σ, PassesAt CX X σ (E σ)) (hdb : (x == ("__debug__" : Str)) = false := by decide) : PE X (.Call (.Name x p) [] [] pos) (tStarC sp E tNil) := by
  refine ⟨fun pins s σ H Q I h => ?_⟩
  obtain ⟨f, hm, hk, F⟩ := G.ex
  refine wpAny_Call_Name_kw (ld_glob I hg hm ?_ hdb)
  exact PySem.W.callWith_K0 I.kIn hk (run_star (us := []) F hr (hx σ) I .nil h)
end
/-! ### the walk -/
def kStarC (sp : Sp) (E : XK) (Q : VK) : List V → Hp → Prop := fun vs H1 => spStar sp vs H1 Q E
section
variable {sp : Sp} {E : L2.St → XK} {E1 : XK} {t : TA} {σ : L2.St} {H : Hp} {Q : VK} {vs : List V}
theorem w_starC (h : t σ H (kStarC sp (E σ) Q)) : tStarC sp E t σ H Q := h
theorem w_kstarC (l : vs.length ≤ 100) (h : ∀ p H', H p = none → Same H H' → H' p = some (.tup vs) → sp [.ref p] H' Q E1) : kStarC sp E1 Q vs H := ⟨by rw [sizeLine_eq]; omega, fun p hp => h p _ hp (same_new hp) upd_same⟩
end
end Rd
/-! GcdM: divisors, lags of grids, common ticks. Plain. -/
namespace GcdM
def g (a b : Int) : Int := (Int.gcd a b : Nat)
theorem g_step {a b : Int} : g b (a % b) = g a b := by
  unfold g
  rw [Int.emod_def, Int.gcd_sub_mul_left_right, Int.gcd_comm]
theorem g_zero {a : Int} (h : 0 ≤ a) : g a 0 = a := by
  unfold g
  rw [Int.gcd_zero_right]; omega
theorem g_pos {a b : Int} (h : 0 < a) : 0 < g a b := by
  unfold g
  have : 0 < Int.gcd a b := Int.gcd_pos_of_ne_zero_left b (by omega)
  omega
theorem g_dvd1 {a b : Int} : g a b ∣ a := Int.gcd_dvd_left ..
theorem g_dvd2 {a b : Int} : g a b ∣ b := Int.gcd_dvd_right ..
theorem dvd_g {d a b : Int} (h1 : d ∣ a) (h2 : d ∣ b) : d ∣ g a b := Int.dvd_coe_gcd h1 h2
/-- a and b behind k steps of Euclid's -/
def Eu (k : Nat) (a b : Int) : Prop := 0 ≤ a ∧ 0 ≤ b ∧ ((k % 2 = 0 ∧ b < 2 ^ (100 - k / 2)) ∨ (k % 2 = 1 ∧ a < 2 ^ (100 - k / 2) ∧ b < a))
theorem eu_zero {a b : Int} (ha : 0 ≤ a) (hb : 0 ≤ b) (h : b < 2 ^ 100) : Eu 0 a b := ⟨ha, hb, .inl ⟨rfl, h⟩⟩
theorem eu_next {k : Nat} {a b : Int} (h : Eu k a b) (b0 : b ≠ 0) : Eu (k + 1) b (a % b) := by
  obtain ⟨ha, hb, h⟩ := h
  have m0 := Int.emod_nonneg a b0
  have m1 := Int.emod_lt_of_pos a (show 0 < b by omega)
  refine ⟨hb, m0, ?_⟩
  rcases h with ⟨hk, h⟩ | ⟨hk, h1, h2⟩
  · refine .inr ⟨by omega, ?_, m1⟩
    rw [show (k + 1) / 2 = k / 2 by omega]; exact h
  · refine .inl ⟨by omega, ?_⟩
    have d := Int.emod_add_mul_ediv a b
    have q1 : 1 ≤ a / b := (Int.le_ediv_iff_mul_le (show 0 < b by omega)).mpr (by omega)
    have q2 : b * 1 ≤ b * (a / b) := Int.mul_le_mul_of_nonneg_left q1 hb
    have e : (2 : Int) ^ (100 - k / 2) ≤ 2 * 2 ^ (100 - (k + 1) / 2) := by
      rw [show (k + 1) / 2 = k / 2 + 1 by omega]
      rcases Nat.lt_or_ge (k / 2) 100 with c | c
      · rw [show 100 - k / 2 = (100 - (k / 2 + 1)) + 1 by omega, Int.pow_succ]; omega
      · rw [show 100 - k / 2 = 0 by omega, show 100 - (k / 2 + 1) = 0 by omega]; decide
    omega
theorem eu_end {a b : Int} (h : Eu 400 a b) : b = 0 := by
  obtain ⟨ha, hb, h⟩ := h
  rcases h with ⟨_, h⟩ | ⟨hk, _⟩
  · have : b < 1 := h
    omega
  · omega
/-- the state of the extended one -/
structure Ex (s t d r f n : Int) : Prop where
  d1 : 1 ≤ d
  r0 : 0 ≤ r
  gd : g d r = g s t
  df : t ∣ f * s - d
  dn : t ∣ n * s - r
  ft : (f.natAbs : Int) ≤ t
  nt : (n.natAbs : Int) ≤ t
  sum : (f.natAbs : Int) * r + n.natAbs * d ≤ t
theorem ex_start {s t : Int} (hs : 1 ≤ s) (ht : 1 ≤ t) : Ex s t s t 1 0 := ⟨hs, by omega, rfl, by rw [Int.one_mul, Int.sub_self]; exact Int.dvd_zero _, by rw [Int.zero_mul, Int.zero_sub]; exact Int.dvd_neg.mpr (Int.dvd_refl _), by simpa using ht, by simp; omega, by simp⟩
theorem ex_step {s t d r f n : Int} (h : Ex s t d r f n) (r0 : 0 < r) : Ex s t r (d - d / r * r) n (f - d / r * n) := by
  have em : d - d / r * r = d % r := by rw [Int.emod_def, Int.mul_comm]
  have m0 := Int.emod_nonneg d (show r ≠ 0 by omega)
  have q0 : 0 ≤ d / r := Int.ediv_nonneg (by have := h.d1; omega) h.r0
  have tri : ((f - d / r * n).natAbs : Int) ≤ f.natAbs + d / r * n.natAbs := by
    have h1 : ((f - d / r * n).natAbs : Int) ≤ f.natAbs + (d / r * n).natAbs := by omega
    rw [Int.natAbs_mul] at h1
    have h2 : ((d / r).natAbs : Int) = d / r := by omega
    rw [Int.natCast_mul, h2] at h1
    exact h1
  have sum' : (n.natAbs : Int) * (d - d / r * r) + ((f - d / r * n).natAbs : Int) * r ≤ t := by
    have h1 := Int.mul_le_mul_of_nonneg_right tri h.r0
    have h2 := h.sum
    have e1 : (n.natAbs : Int) * (d - d / r * r) + (f.natAbs + d / r * n.natAbs) * r = f.natAbs * r + n.natAbs * d := by grind
    omega
  refine ⟨by omega, by rw [em]; exact m0, by rw [em, g_step]; exact h.gd, h.dn, ?_, h.nt, ?_, sum'⟩
  · have : (f - d / r * n) * s - (d - d / r * r) = (f * s - d) - d / r * (n * s - r) := by grind
    rw [this]
    exact Int.dvd_sub h.df (Int.dvd_mul_of_dvd_right h.dn)
  · have h3 : 0 ≤ (n.natAbs : Int) * (d - d / r * r) := Int.mul_nonneg (by omega) (by rw [em]; exact m0)
    have h4 : ((f - d / r * n).natAbs : Int) * 1 ≤ ((f - d / r * n).natAbs : Int) * r := Int.mul_le_mul_of_nonneg_left (by omega) (by omega)
    omega
theorem ex_end {s t d f n : Int} (h : Ex s t d 0 f n) : d = g s t ∧ t ∣ f * s - g s t ∧ (f.natAbs : Int) ≤ t := by
  have e : d = g s t := by rw [← h.gd, g_zero (by have := h.d1; omega)]
  exact ⟨e, by rw [← e]; exact h.df, h.ft⟩
/-! ### common ticks -/
theorem lcm_co {a b : Nat} (h : Nat.Coprime a b) : Nat.lcm a b = a * b := by rw [Nat.lcm, Nat.Coprime.gcd_eq_one h, Nat.div_one]
theorem nat_dvd {n : Nat} {x : Int} : (n : Int) ∣ x ↔ n ∣ x.natAbs := ⟨fun h => Int.natCast_dvd_natCast.mp (Int.dvd_natAbs.mpr h), fun h => Int.dvd_natAbs.mp (Int.natCast_dvd_natCast.mpr h)⟩
theorem gcd_lcm {a b s : Nat} (ha : 0 < a) : Nat.gcd (Nat.lcm a b) s ∣ Nat.lcm (Nat.gcd a s) (Nat.gcd b s) := by
  have d0 : 0 < Nat.gcd a b := Nat.gcd_pos_of_pos_left b ha
  obtain ⟨a', ea⟩ := Nat.gcd_dvd_left a b
  obtain ⟨b', eb⟩ := Nat.gcd_dvd_right a b
  have co : Nat.Coprime a' b' := by
    have h : Nat.gcd (Nat.gcd a b * a') (Nat.gcd a b * b') = Nat.gcd a b := by rw [← ea, ← eb]
    rw [Nat.gcd_mul_left] at h
    exact Nat.eq_of_mul_eq_mul_left d0 (by rw [h, Nat.mul_one])
  generalize Nat.gcd a b = d at *
  have e0 : 0 < Nat.gcd d s := Nat.gcd_pos_of_pos_left s d0
  obtain ⟨d1, ed⟩ := Nat.gcd_dvd_left d s
  obtain ⟨s1, es⟩ := Nat.gcd_dvd_right d s
  have co2 : Nat.Coprime d1 s1 := by
    have h : Nat.gcd (Nat.gcd d s * d1) (Nat.gcd d s * s1) = Nat.gcd d s := by rw [← ed, ← es]
    rw [Nat.gcd_mul_left] at h
    exact Nat.eq_of_mul_eq_mul_left e0 (by rw [h, Nat.mul_one])
  generalize Nat.gcd d s = e at *
  subst ea eb ed es
  rw [Nat.lcm_mul_left, lcm_co co]
  rw [show e * d1 * (a' * b') = e * (d1 * (a' * b')) by rw [Nat.mul_assoc], show e * d1 * a' = e * (d1 * a') by rw [Nat.mul_assoc], show e * d1 * b' = e * (d1 * b') by rw [Nat.mul_assoc]]
  rw [Nat.gcd_mul_left, Nat.gcd_mul_left, Nat.gcd_mul_left, Nat.lcm_mul_left]
  rw [Nat.Coprime.gcd_mul_left_cancel _ co2, Nat.Coprime.gcd_mul_left_cancel _ co2, Nat.Coprime.gcd_mul_left_cancel _ co2]
  refine Nat.mul_dvd_mul_left e ?_
  rw [Nat.gcd_comm, Nat.Coprime.gcd_mul s1 co, Nat.gcd_comm s1, Nat.gcd_comm s1]
  rw [lcm_co]
  · exact Nat.dvd_refl _
  · exact Nat.Coprime.coprime_dvd_left (Nat.gcd_dvd_left ..) (Nat.Coprime.coprime_dvd_right (Nat.gcd_dvd_left ..) co)
/-- the step of the common grid -/
def lc2 (l s : Int) : Int := l / g l s * s
theorem lc2_eq {l s : Int} (hl : 1 ≤ l) (hs : 1 ≤ s) : lc2 l s = (Nat.lcm l.natAbs s.natAbs : Nat) := by
  unfold lc2 g
  obtain ⟨a, rfl⟩ : ∃ a : Nat, l = a := ⟨l.toNat, by omega⟩
  obtain ⟨b, rfl⟩ : ∃ b : Nat, s = b := ⟨s.toNat, by omega⟩
  rw [Int.gcd_natCast_natCast, Int.natAbs_natCast, Int.natAbs_natCast, Nat.lcm]
  rw [← Int.natCast_ediv, ← Int.natCast_mul]
  congr 1
  rw [Nat.div_mul_right_comm (Nat.gcd_dvd_left a b)]
theorem g_nat {l s : Int} (hl : 1 ≤ l) (hs : 1 ≤ s) : g l s = (Nat.gcd l.natAbs s.natAbs : Nat) := by
  unfold g; rw [Int.gcd_eq_natAbs_gcd_natAbs]
theorem lc2_pos {l s : Int} (hl : 1 ≤ l) (hs : 1 ≤ s) : 1 ≤ lc2 l s := by
  rw [lc2_eq hl hs]
  have : 0 < Nat.lcm l.natAbs s.natAbs := Nat.lcm_pos (by omega) (by omega)
  omega
theorem lc2_dvd1 {l s : Int} (hl : 1 ≤ l) (hs : 1 ≤ s) : l ∣ lc2 l s := by
  rw [lc2_eq hl hs]
  exact Int.natAbs_dvd.mp (Int.natCast_dvd_natCast.mpr (Nat.dvd_lcm_left ..))
theorem lc2_dvd2 {l s : Int} (hl : 1 ≤ l) (hs : 1 ≤ s) : s ∣ lc2 l s := by
  rw [lc2_eq hl hs]
  exact Int.natAbs_dvd.mp (Int.natCast_dvd_natCast.mpr (Nat.dvd_lcm_right ..))
theorem lc2_alt {l s : Int} (hl : 1 ≤ l) (hs : 1 ≤ s) : l * (s / g l s) = lc2 l s := by
  unfold lc2
  obtain ⟨k, e⟩ := g_dvd1 (a := l) (b := s)
  obtain ⟨m, e2⟩ := g_dvd2 (a := l) (b := s)
  have p := g_pos (b := s) (show 0 < l by omega)
  generalize g l s = d at *
  rw [e, e2, Int.mul_ediv_cancel_left _ (by omega), Int.mul_ediv_cancel_left _ (by omega)]
  grind
theorem lc2_le {l s : Int} (hl : 1 ≤ l) (hs : 1 ≤ s) : lc2 l s ≤ l * s := by
  rw [← lc2_alt hl hs]
  refine Int.mul_le_mul_of_nonneg_left ?_ (by omega)
  exact Int.ediv_le_self _ (by omega)
theorem g_lc2 {l s t x : Int} (hl : 1 ≤ l) (hs : 1 ≤ s) (ht : 1 ≤ t) (h1 : g l t ∣ x) (h2 : g s t ∣ x) : g (lc2 l s) t ∣ x := by
  have p := lc2_pos hl hs
  rw [g_nat p ht]
  rw [g_nat hl ht] at h1
  rw [g_nat hs ht] at h2
  rw [lc2_eq hl hs, Int.natAbs_natCast]
  have a1 := nat_dvd.mp h1
  have a2 := nat_dvd.mp h2
  exact nat_dvd.mpr (Nat.dvd_trans (gcd_lcm (by omega)) (Nat.lcm_dvd a1 a2))
/-- rows: steps and ticks -/
def lc (rs : List (Int × Int)) : Int := rs.foldl (fun l z => lc2 l z.1) 1
theorem lc_snoc {rs : List (Int × Int)} {z : Int × Int} : lc (rs ++ [z]) = lc2 (lc rs) z.1 := by
  unfold lc
  rw [List.foldl_append]; rfl
def Stp (rs : List (Int × Int)) : Prop := ∀ z ∈ rs, 1 ≤ z.1
/-- two by two they share ticks -/
def Comp (rs : List (Int × Int)) : Prop := ∀ (i j : Nat) (z w : Int × Int), rs[i]? = some z → rs[j]? = some w → j < i → g z.1 w.1 ∣ z.2 - w.2
def Bar (o : Int) (rs : List (Int × Int)) : Prop := ∀ z ∈ rs, z.1 ∣ o - z.2
theorem snocInd {P : List (Int × Int) → Prop} (h0 : P []) (hs : ∀ rs z, P rs → P (rs ++ [z])) (rs : List (Int × Int)) : P rs := by
  have : ∀ n, ∀ rs : List (Int × Int), rs.length = n → P rs := by
    intro n
    induction n with
    | zero => intro rs h; rw [List.eq_nil_of_length_eq_zero h]; exact h0
    | succ n ih =>
      intro rs h
      have e := List.dropLast_concat_getLast (show rs ≠ [] by intro q; rw [q] at h; cases h)
      rw [← e]
      exact hs _ _ (ih _ (by rw [List.length_dropLast, h]; rfl))
  exact this _ rs rfl
theorem lc_pos {rs : List (Int × Int)} : Stp rs → 1 ≤ lc rs := snocInd (P := fun rs => Stp rs → 1 ≤ lc rs) (fun _ => by decide) (fun rs z ih h => by
  rw [lc_snoc]
  exact lc2_pos (ih fun w m => h w (List.mem_append_left _ m)) (h z (List.mem_append_right _ (List.mem_singleton.mpr rfl)))) rs
theorem lc_dvd {rs : List (Int × Int)} : Stp rs → ∀ z ∈ rs, z.1 ∣ lc rs := snocInd (P := fun rs => Stp rs → ∀ z ∈ rs, z.1 ∣ lc rs) (fun _ z m => nomatch m) (fun rs z ih h w m => by
  have h1 : Stp rs := fun w m => h w (List.mem_append_left _ m)
  have h2 := h z (List.mem_append_right _ (List.mem_singleton.mpr rfl))
  rw [lc_snoc]
  rcases List.mem_append.mp m with m | m
  · exact Int.dvd_trans (ih h1 w m) (lc2_dvd1 (lc_pos h1) h2)
  · rw [List.mem_singleton.mp m]
    exact lc2_dvd2 (lc_pos h1) h2) rs
theorem g_lc {rs : List (Int × Int)} {t x : Int} (ht : 1 ≤ t) : Stp rs → (∀ z ∈ rs, g z.1 t ∣ x) → g (lc rs) t ∣ x := snocInd (P := fun rs => Stp rs → (∀ z ∈ rs, g z.1 t ∣ x) → g (lc rs) t ∣ x) (fun _ _ => by
    show g 1 t ∣ x
    unfold g
    rw [Int.gcd_one_left]
    exact Int.one_dvd _) (fun rs z ih h k => by
  have h1 : Stp rs := fun w m => h w (List.mem_append_left _ m)
  have h2 := h z (List.mem_append_right _ (List.mem_singleton.mpr rfl))
  rw [lc_snoc]
  exact g_lc2 (lc_pos h1) h2 ht (ih h1 fun w m => k w (List.mem_append_left _ m)) (k z (List.mem_append_right _ (List.mem_singleton.mpr rfl)))) rs
/-- a common tick: two by two they share ticks -/
theorem comp_of {o : Int} {rs : List (Int × Int)} (h : Bar o rs) : Comp rs := fun i j z w e1 e2 _ => by
  have h1 := h z (List.mem_of_getElem? e1)
  have h2 := h w (List.mem_of_getElem? e2)
  have h3 := Int.dvd_sub (Int.dvd_trans g_dvd2 h2) (Int.dvd_trans (g_dvd1 (a := z.1) (b := w.1)) h1)
  rwa [show o - w.2 - (o - z.2) = z.2 - w.2 by omega] at h3
/-- the next one can be met if and only if all share ticks two by two -/
theorem next_iff {o : Int} {rs : List (Int × Int)} {z : Int × Int} (hs : Stp (rs ++ [z])) (h : Bar o rs) : g (lc rs) z.1 ∣ z.2 - o ↔ Comp (rs ++ [z]) := by
  have h1 : Stp rs := fun w m => hs w (List.mem_append_left _ m)
  have h2 := hs z (List.mem_append_right _ (List.mem_singleton.mpr rfl))
  constructor
  · intro q i j u w e1 e2 ji
    have hj : j < rs.length := by
      have := (List.getElem?_eq_some_iff.mp e1).1
      rw [List.length_append] at this
      simp only [List.length_singleton] at this
      omega
    rw [List.getElem?_append_left hj] at e2
    rcases Nat.lt_or_ge i rs.length with c | c
    · rw [List.getElem?_append_left c] at e1
      exact comp_of h i j u w e1 e2 ji
    · rw [List.getElem?_append_right c] at e1
      have : u = z := by
        have := List.mem_of_getElem? e1
        exact List.mem_singleton.mp this
      subst this
      have m := List.mem_of_getElem? e2
      have d1 : g u.1 w.1 ∣ g (lc rs) u.1 := dvd_g (Int.dvd_trans g_dvd2 (lc_dvd h1 w m)) g_dvd1
      have h3 := Int.dvd_add (Int.dvd_trans d1 q) (Int.dvd_trans (g_dvd2 (a := u.1) (b := w.1)) (h w m))
      rwa [show u.2 - o + (o - w.2) = u.2 - w.2 by omega] at h3
  · intro q
    refine g_lc h2 h1 fun w m => ?_
    obtain ⟨j, hj⟩ := List.getElem?_of_mem m
    have jl := (List.getElem?_eq_some_iff.mp hj).1
    have d1 := q rs.length j z w (by rw [List.getElem?_append_right (Nat.le_refl _), Nat.sub_self]; rfl) (by rw [List.getElem?_append_left jl]; exact hj) jl
    have d2 : g w.1 z.1 ∣ g z.1 w.1 := dvd_g g_dvd2 g_dvd1
    have h3 := Int.dvd_sub (Int.dvd_trans d2 d1) (Int.dvd_trans (g_dvd1 (a := w.1) (b := z.1)) (h w m))
    rwa [show z.2 - w.2 - (o - w.2) = z.2 - o by omega] at h3
/-- where the next one is met -/
theorem meets {l o s t f : Int} (hl : 1 ≤ l) (hs : 1 ≤ s) (hf : s ∣ f * l - g l s) (hd : g l s ∣ t - o) : l ∣ o + l * ((t - o) / g l s * f % (s / g l s)) - o ∧ s ∣ o + l * ((t - o) / g l s * f % (s / g l s)) - t := by
  refine ⟨⟨(t - o) / g l s * f % (s / g l s), by omega⟩, ?_⟩
  have p := g_pos (b := s) (show 0 < l by omega)
  have em := Int.emod_def ((t - o) / g l s * f) (s / g l s)
  have alt := lc2_alt hl hs
  have dv := lc2_dvd2 hl hs
  rw [← alt] at dv
  have hq := Int.mul_ediv_cancel' hd
  generalize (t - o) / g l s = q at *
  generalize s / g l s = m at *
  generalize (q * f) / m = r at *
  generalize q * f % m = e at *
  generalize g l s = d at *
  have : o + l * e - t = (f * l - d) * q - l * m * r := by rw [em]; grind
  rw [this]
  exact Int.dvd_sub (Int.dvd_mul_of_dvd_left hf) (Int.dvd_mul_of_dvd_left dv)
theorem comp_take {rs : List (Int × Int)} (h : Comp rs) (n : Nat) : Comp (rs.take n) := fun i j z w e1 e2 ji => by
  rw [List.getElem?_take] at e1 e2
  split at e1
  · split at e2
    · exact h i j z w e1 e2 ji
    · cases e2
  · cases e1
theorem stp_take {rs : List (Int × Int)} (h : Stp rs) (n : Nat) : Stp (rs.take n) := fun z m => h z (List.mem_of_mem_take m)
/-- the steps are below 2 ^ 100 -/
def Sml (rs : List (Int × Int)) : Prop := ∀ z ∈ rs, z.1 < 2 ^ 100
theorem lc_lt {rs : List (Int × Int)} : Stp rs → Sml rs → lc rs < 2 ^ (100 * rs.length + 1) := snocInd (P := fun rs => Stp rs → Sml rs → lc rs < 2 ^ (100 * rs.length + 1)) (fun _ _ => by decide) (fun rs z ih h k => by
  have h1 : Stp rs := fun w m => h w (List.mem_append_left _ m)
  have h2 := h z (List.mem_append_right _ (List.mem_singleton.mpr rfl))
  have k2 := k z (List.mem_append_right _ (List.mem_singleton.mpr rfl))
  have l0 := lc_pos h1
  have l1 := ih h1 fun w m => k w (List.mem_append_left _ m)
  rw [lc_snoc, List.length_append, List.length_singleton, show 100 * (rs.length + 1) + 1 = (100 * rs.length + 1) + 100 by omega, Int.pow_add]
  refine Int.lt_of_le_of_lt (lc2_le l0 h2) ?_
  have a := Int.mul_lt_mul_of_pos_right l1 (show 0 < z.1 by omega)
  have b : (2 : Int) ^ (100 * rs.length + 1) * z.1 < 2 ^ (100 * rs.length + 1) * 2 ^ 100 := Int.mul_lt_mul_of_pos_left k2 (Int.pow_pos (by decide))
  omega) rs
theorem lc_lt6 {rs : List (Int × Int)} (h : Stp rs) (k : Sml rs) (l : rs.length ≤ 6) : lc rs < 2 ^ 700 := by
  have := lc_lt h k
  have e : (2 : Int) ^ (100 * rs.length + 1) ≤ 2 ^ 700 := by
    have := Nat.pow_le_pow_right (show 0 < 2 by decide) (show 100 * rs.length + 1 ≤ 700 by omega)
    exact_mod_cast this
  omega
theorem mod_dvd {d m x o : Int} (h : d ∣ m) (k : d ∣ x - o) : d ∣ x % m - o := by
  rw [Int.emod_def, show x - m * (x / m) - o = (x - o) - m * (x / m) by omega]
  exact Int.dvd_sub k (Int.dvd_mul_of_dvd_left h)
theorem div_abs {d x : Int} (h : d ∣ x) (d0 : 0 < d) : (x / d).natAbs ≤ x.natAbs := by
  obtain ⟨k, rfl⟩ := h
  rw [Int.mul_ediv_cancel_left _ (by omega), Int.natAbs_mul]
  exact Nat.le_mul_of_pos_left _ (by omega)
end GcdM
local macro_rules | `(tactic| walk_at "len") => `(tactic| (simp only [List.length_append, List.length_cons, List.length_nil]; decide))
local macro_rules | `(tactic| walk_at "pool") => `(tactic| first | assumption | (refine' Rd.pool_drawn ?hd; (case hd => assumption)) | (refine' Rd.PoolAt.same ?hs ?hh; (case hs => assumption); (case hh => walk_at "pool")))
local macro_rules | `(tactic| walk_at "xat") => `(tactic| first | assumption | (refine' Rd.XcAt.same ?hs ?hh; (case hs => assumption); (case hh => walk_at "xat")))
local macro_rules | `(tactic| walk_at "same") => `(tactic| first | assumption | exact L2.Same.refl _ | (refine' L2.Same.trans ?ha ?hb; (case hb => assumption); (case ha => walk_at "same")))
local macro_rules | `(tactic| walk_at "drawn") => `(tactic| first | assumption | (refine' Rd.Drawn.refl ?hp; (case hp => walk_at "pool")) | (refine' Rd.Drawn.trans ?ha ?hb; (case hb => assumption); (case ha => walk_at "drawn")) | (refine' Rd.Drawn.same ?ha ?hb; (case hb => assumption); (case ha => walk_at "drawn")))
local macro_rules | `(tactic| walk_at "ne") => `(tactic| first | assumption | exact Ne.symm (by assumption) | omega | (refine' Rd.ne_pool ?hp ?hl; (case hl => assumption); (case hp => walk_at "pool")) | (refine' L2.ne_of_none ?hh ?hl; (case hl => assumption); (case hh => walk_at "hp")))
local macro_rules | `(tactic| walk_at "cls") => `(tactic| assumption)
local macro_rules | `(tactic| walk_at "hp") => `(tactic| first | assumption | exact L2.upd_same | (refine' (L2.upd_ne ?hn).trans ?hh; (case hn => walk_at "ne"); (case hh => walk_at "hp")) | (refine' Rd.sameAt ?hs ?hh; (case hs => assumption); (case hh => walk_at "hp")) | (refine' Rd.Drawn.tup ?hs ?hh; (case hs => assumption); (case hh => walk_at "hp")) | (refine' Rd.Drawn.ins ?hs ?hh; (case hs => assumption); (case hh => walk_at "hp")) | (refine' Rd.Drawn.lst ?hs ?hn ?hh; (case hs => assumption); (case hh => walk_at "hp"); (case hn => walk_at "ne")))
local macro_rules | `(tactic| walk_at "side") => `(tactic| first | assumption | (with_reducible rfl) | omega | exact rfl | decide)
local macro_rules | `(tactic| walk_at "mulside") => `(tactic| first | (left; left; constructor <;> omega) | (left; right; constructor <;> omega) | skip)
local macro_rules | `(tactic| walk_at "isb") => `(tactic| fail)
local macro_rules | `(tactic| walk_at "isb") => `(tactic| first
  | (with_reducible refine' Rd.w_neB_tf ?_)
  | (with_reducible refine' Rd.w_neB_ft ?_))
local macro_rules | `(tactic| walk_at "isb") => `(tactic| first
  | ((with_reducible refine' Rd.w_isT_tuple ?wa ?_); (case wa => assumption))
  | (with_reducible refine' Rd.w_neB_tt ?_)
  | (with_reducible refine' Rd.w_neB_ff ?_))
local macro_rules | `(tactic| walk_at "isb") => `(tactic| first
  | ((with_reducible refine' Rd.w_isT_str ?wa ?_); (case wa => assumption))
  | ((with_reducible refine' Rd.w_isT_dict ?wa ?_); (case wa => assumption))
  | ((with_reducible refine' Rd.w_isT_list ?wa ?_); (case wa => assumption)))
local macro_rules | `(tactic| walk_at "isb") => `(tactic| first
  | ((with_reducible refine' Rd.w_isb_tuple_tuple ?wa ?_); (case wa => walk_at "hp"))
  | ((with_reducible refine' Rd.w_isT_bool ?wa ?_); (case wa => assumption))
  | ((with_reducible refine' Rd.w_isT_int ?wa ?_); (case wa => assumption)))
local macro_rules | `(tactic| walk_at "isb") => `(tactic| first
  | ((with_reducible refine' Rd.w_isb_tuple_str ?wa ?_); (case wa => walk_at "hp"))
  | ((with_reducible refine' Rd.w_isb_tuple_dict ?wa ?_); (case wa => walk_at "hp"))
  | ((with_reducible refine' Rd.w_isb_tuple_list ?wa ?_); (case wa => walk_at "hp")))
local macro_rules | `(tactic| walk_at "isb") => `(tactic| first
  | ((with_reducible refine' Rd.w_isb_list_tuple ?wa ?_); (case wa => walk_at "hp"))
  | ((with_reducible refine' Rd.w_isb_tuple_bool ?wa ?_); (case wa => walk_at "hp"))
  | ((with_reducible refine' Rd.w_isb_tuple_int ?wa ?_); (case wa => walk_at "hp")))
local macro_rules | `(tactic| walk_at "isb") => `(tactic| first
  | ((with_reducible refine' Rd.w_isb_list_str ?wa ?_); (case wa => walk_at "hp"))
  | ((with_reducible refine' Rd.w_isb_list_dict ?wa ?_); (case wa => walk_at "hp"))
  | ((with_reducible refine' Rd.w_isb_list_list ?wa ?_); (case wa => walk_at "hp")))
local macro_rules | `(tactic| walk_at "isb") => `(tactic| first
  | (with_reducible refine' Rd.w_isb_str_tuple ?_)
  | ((with_reducible refine' Rd.w_isb_list_bool ?wa ?_); (case wa => walk_at "hp"))
  | ((with_reducible refine' Rd.w_isb_list_int ?wa ?_); (case wa => walk_at "hp")))
local macro_rules | `(tactic| walk_at "isb") => `(tactic| first
  | (with_reducible refine' Rd.w_isb_str_str ?_)
  | (with_reducible refine' Rd.w_isb_str_dict ?_)
  | (with_reducible refine' Rd.w_isb_str_list ?_))
local macro_rules | `(tactic| walk_at "isb") => `(tactic| first
  | (with_reducible refine' Rd.w_isb_int_tuple ?_)
  | (with_reducible refine' Rd.w_isb_str_bool ?_)
  | (with_reducible refine' Rd.w_isb_str_int ?_))
local macro_rules | `(tactic| walk_at "isb") => `(tactic| first
  | (with_reducible refine' Rd.w_isb_int_str ?_)
  | (with_reducible refine' Rd.w_isb_int_dict ?_)
  | (with_reducible refine' Rd.w_isb_int_list ?_))
local macro_rules | `(tactic| walk_at "isb") => `(tactic| first
  | (with_reducible refine' Rd.w_isb_bool_dict ?_)
  | (with_reducible refine' Rd.w_isb_bool_list ?_)
  | (with_reducible refine' Rd.w_isb_bool_tuple ?_))
local macro_rules | `(tactic| walk_at "isb") => `(tactic| first
  | (with_reducible refine' Rd.w_isb_bool_bool ?_)
  | (with_reducible refine' Rd.w_isb_bool_int ?_)
  | (with_reducible refine' Rd.w_isb_bool_str ?_))
local macro_rules | `(tactic| walk_at "isb") => `(tactic| first
  | (with_reducible refine' Rd.w_isb_NoneType_dict ?_)
  | (with_reducible refine' Rd.w_isb_NoneType_list ?_)
  | (with_reducible refine' Rd.w_isb_NoneType_tuple ?_))
local macro_rules | `(tactic| walk_at "isb") => `(tactic| first
  | (with_reducible refine' Rd.w_isb_NoneType_bool ?_)
  | (with_reducible refine' Rd.w_isb_NoneType_int ?_)
  | (with_reducible refine' Rd.w_isb_NoneType_str ?_))
local macro_rules | `(tactic| walk_at "set") => `(tactic| first | (with_reducible exact Rd.set_z) | ((with_reducible refine' Rd.set_s ?ha); (case ha => walk_at "set")) | ((with_reducible refine' Rd.set_n ?hb ?hc); (case hb => walk_at "set"); (case hc => walk_at "set")))
local macro_rules | `(tactic| walk_at "rd1") => `(tactic| fail)
local macro_rules | `(tactic| walk_at "rd1") => `(tactic| first
  | (with_reducible refine' Rd.w_dcI ?_)
  | (with_reducible refine' Rd.w_kdck ?_)
  | walk_at "isb")
local macro_rules | `(tactic| walk_at "rd1") => `(tactic| first
  | (with_reducible refine' Rd.w_dcT ?_)
  | (with_reducible refine' Rd.w_callO ?_)
  | (with_reducible refine' Rd.w_kco ?_))
local macro_rules | `(tactic| walk_at "rd1") => `(tactic| first
  | (with_reducible refine' Rd.w_lvals ?_)
  | (with_reducible refine' Rd.w_kds0 ?_)
  | (with_reducible refine' Rd.w_bm0 ?_))
local macro_rules | `(tactic| walk_at "rd1") => `(tactic| first
  | (with_reducible refine' Rd.w_forZ2 ?_)
  | (with_reducible refine' Rd.w_forZ3 ?_)
  | (with_reducible refine' Rd.w_lcZ2 ?_))
local macro_rules | `(tactic| walk_at "rd1") => `(tactic| first
  | (with_reducible refine' Rd.w_kdp1 ?_)
  | (with_reducible refine' Rd.w_kdp2 ?_)
  | (with_reducible refine' Rd.w_xkE ?_))
local macro_rules | `(tactic| walk_at "rd1") => `(tactic| first
  | (with_reducible refine' Rd.w_dix ?_)
  | (with_reducible refine' Rd.w_kdx1 ?_)
  | (with_reducible refine' Rd.w_dput ?_))
local macro_rules | `(tactic| walk_at "rd1") => `(tactic| first
  | (with_reducible refine' Rd.w_ksup2 ?_)
  | (with_reducible refine' Rd.w_notInS ?_)
  | (with_reducible refine' Rd.w_xv ?_))
local macro_rules | `(tactic| walk_at "rd1") => `(tactic| first
  | (with_reducible refine' Rd.w_kchs ?_)
  | (with_reducible refine' Rd.w_klk1 ?_)
  | (with_reducible refine' Rd.w_kmk1 ?_))
local macro_rules | `(tactic| walk_at "rd1") => `(tactic| first
  | (with_reducible refine' Rd.w_km0 ?_)
  | (with_reducible refine' Rd.w_chN ?_)
  | (with_reducible refine' Rd.w_kchk ?_))
local macro_rules | `(tactic| walk_at "rd1") => `(tactic| first
  | (with_reducible refine' Rd.w_methA ?_)
  | (with_reducible refine' Rd.w_kma2 ?_)
  | (with_reducible refine' Rd.w_m0 ?_))
local macro_rules | `(tactic| walk_at "rd1") => `(tactic| first
  | (with_reducible refine' Rd.w_mkKS ?_)
  | (with_reducible refine' Rd.w_prop ?_)
  | ((with_reducible refine' Rd.w_kpr ?wa ?_); (case wa => walk_at "hp")))
local macro_rules | `(tactic| walk_at "rd1") => `(tactic| first
  | (with_reducible refine' Rd.w_find ?_)
  | (with_reducible refine' Rd.w_inS ?_)
  | (with_reducible refine' Rd.w_mkK ?_))
local macro_rules | `(tactic| walk_at "rd1") => `(tactic| first
  | (with_reducible refine' Rd.w_km2 ?_)
  | (with_reducible refine' Rd.w_forS ?_)
  | (with_reducible refine' Rd.w_lcS ?_))
local macro_rules | `(tactic| walk_at "rd1") => `(tactic| first
  | ((with_reducible refine' Rd.w_kbmL ?wa ?_); (case wa => walk_at "hp"))
  | (with_reducible refine' Rd.w_m1 ?_)
  | (with_reducible refine' Rd.w_km1 ?_))
local macro_rules | `(tactic| walk_at "rd1") => `(tactic| first
  | ((with_reducible refine' Rd.w_lenT2 (L2.SqT.of ?wa) ?_); (case wa => walk_at "hp"))
  | ((with_reducible refine' Rd.w_lenT (L2.SqT.of ?wa) ?_); (case wa => walk_at "hp"))
  | ((with_reducible refine' Rd.w_ixT (L2.SqT.of ?wa) ?wb ?_); (case wa => walk_at "hp"); (case wb => exact rfl)))
local macro_rules | `(tactic| walk_at "rd1") => `(tactic| first
  | (with_reducible refine' Rd.w_lcE ?_)
  | ((with_reducible refine' Rd.w_lenMT (L2.SqT.of ?wa) ?_); (case wa => walk_at "hp"))
  | ((with_reducible refine' Rd.w_ixMT (L2.SqT.of ?wa) ?wb ?wc ?_); (case wa => walk_at "hp"); (case wb => omega); (case wc => omega)))
local macro_rules | `(tactic| walk_at "rd1") => `(tactic| first
  | (with_reducible refine' Rd.w_lcR2 ?_)
  | (with_reducible refine' Rd.w_lcL ?_)
  | (with_reducible refine' Rd.w_lcT ?_))
local macro_rules | `(tactic| walk_at "rd1") => `(tactic| first
  | (with_reducible refine' Rd.w_forT ?_)
  | (with_reducible refine' Rd.w_forE ?_)
  | (with_reducible refine' Rd.w_lcR1 ?_))
local macro_rules | `(tactic| walk_at "rd1") => `(tactic| first
  | (with_reducible refine' Rd.w_forR1 ?_)
  | (with_reducible refine' Rd.w_forR2 ?_)
  | (with_reducible refine' Rd.w_forL ?_))
local macro_rules | `(tactic| walk_at "rd1") => `(tactic| first
  | (with_reducible refine' Rd.w_kkw1 ?_)
  | (with_reducible refine' Rd.w_kkw2 ?_)
  | (with_reducible refine' Rd.w_lcEA ?_))
local macro_rules | `(tactic| walk_at "rd1") => `(tactic| first
  | (with_reducible refine' Rd.w_retN ?_)
  | (with_reducible refine' Rd.w_forEA ?_)
  | (with_reducible refine' Rd.w_ckw ?_))
local macro_rules | `(tactic| walk_at "rd1") => `(tactic| first
  | (with_reducible refine' Rd.w_next ?_)
  | (with_reducible refine' Rd.w_brk ?_)
  | (with_reducible refine' Rd.w_cont ?_))
local macro_rules | `(tactic| walk_at "rd1") => `(tactic| first
  | (with_reducible refine' Rd.w_kwh_t ?_)
  | (with_reducible refine' Rd.w_kwh_f ?_)
  | (with_reducible refine' Rd.w_revL ?_))
local macro_rules | `(tactic| walk_at "rd1") => `(tactic| first
  | (with_reducible refine' Rd.w_kasgT ?_)
  | (with_reducible refine' Rd.w_augAdd ?_)
  | (with_reducible refine' Rd.w_augSub ?_))
local macro_rules | `(tactic| walk_at "rd1") => `(tactic| first
  | (with_reducible refine' Rd.w_kor_nf ?_)
  | (with_reducible refine' Rd.w_kand_nt ?_)
  | (with_reducible refine' Rd.w_kand_nf ?_))
local macro_rules | `(tactic| walk_at "rd1") => `(tactic| first
  | (with_reducible refine' Rd.w_kbin1 ?_)
  | ((with_reducible refine' Rd.w_kbin2 ?wa ?wb ?_); (case wa => walk_at "hp"); (case wb => walk_at "hp"))
  | (with_reducible refine' Rd.w_kor_nt ?_))
local macro_rules | `(tactic| walk_at "rd1") => `(tactic| first
  | (with_reducible refine' Rd.w_stS ?_)
  | (with_reducible refine' Rd.w_kst ?_)
  | (with_reducible refine' Rd.w_binS ?_))
local macro_rules | `(tactic| walk_at "rd1") => `(tactic| first
  | (with_reducible refine' Rd.w_kasgU ?_)
  | (with_reducible refine' Rd.w_forZA ?_)
  | (with_reducible refine' Rd.w_forRv ?_))
local macro_rules | `(tactic| walk_at "rd1") => `(tactic| first
  | ((with_reducible refine' Rd.w_pow (k := 1000000000) ?wa ?wb ?_); (case wa => exact ⟨by decide, by decide, by decide⟩); (case wb => exact (by decide : (10 : Int) ^ (9 : Int).toNat = 1000000000)))
  | (with_reducible refine' Rd.w_ifE ?_)
  | ((with_reducible refine' Rd.w_aug ?wv ?_); (case wv => exact rfl)))
local macro_rules | `(tactic| walk_at "rd1") => `(tactic| first
  | ((with_reducible refine' Rd.w_kmeth ?wa ?wb ?_); (case wa => walk_at "hp"); (case wb => exact rfl))
  | ((with_reducible refine' Rd.w_div ?wa ?_); (case wa => first | exact Rd.Small.div (by assumption) (by omega) | exact L2.wide_div (b := 64) (by omega) (by omega) (by decide) (by decide)))
  | ((with_reducible refine' Rd.w_pow (k := 1000000000000000000) ?wa ?wb ?_); (case wa => exact ⟨by decide, by decide, by decide⟩); (case wb => exact (by decide : (10 : Int) ^ (18 : Int).toNat = 1000000000000000000))))
local macro_rules | `(tactic| walk_at "rd1") => `(tactic| first
  | ((with_reducible refine' Rd.w_lenL (L2.SqL.of ?wa) ?_); (case wa => walk_at "hp"))
  | ((with_reducible refine' Rd.w_kfld ?wa ?wb ?wc ?wd ?_); (case wa => walk_at "hp"); (case wb => walk_at "cls"); (case wc => walk_at "cls"); (case wd => first | exact rfl | assumption))
  | ((with_reducible refine' Rd.w_ksf2 ?wa ?wb ?wc ?wd ?_); (case wa => walk_at "hp"); (case wb => walk_at "cls"); (case wc => walk_at "cls"); (case wd => exact Nat.le_of_ble_eq_true rfl)))
local macro_rules | `(tactic| walk_at "rd1") => `(tactic| first
  | ((with_reducible refine' Rd.w_ksubL ?wa ?wb ?_); (case wa => walk_at "hp"); (case wb => exact rfl))
  | ((with_reducible refine' Rd.w_lenM (L2.SqL.of ?wa) ?_); (case wa => walk_at "hp"))
  | ((with_reducible refine' Rd.w_ixM (L2.SqL.of ?wa) ?wb ?wc ?_); (case wa => walk_at "hp"); (case wb => omega); (case wc => omega)))
local macro_rules | `(tactic| walk_at "rd1") => `(tactic| first
  | (with_reducible refine' Rd.w_two ?_)
  | (with_reducible refine' Rd.w_one ?_)
  | ((with_reducible refine' Rd.w_ixL (L2.SqL.of ?wa) ?wb ?_); (case wa => walk_at "hp"); (case wb => exact rfl)))
local macro_rules | `(tactic| walk_at "rd1") => `(tactic| first
  | (with_reducible refine' Rd.w_int ?_)
  | (with_reducible refine' Rd.w_isi_int ?_)
  | (with_reducible refine' Rd.w_isi_bool ?_))
local macro_rules | `(tactic| walk_at "rd1") => `(tactic| first
  | (with_reducible refine' Rd.w_kbm2 ?_)
  | (with_reducible refine' Rd.w_par ?_)
  | (with_reducible refine' Rd.w_kpar ?_))
local macro_rules | `(tactic| walk_at "rd1") => `(tactic| first
  | (with_reducible refine' Rd.w_tru ?_)
  | (with_reducible refine' Rd.w_ktru_b ?_)
  | (with_reducible refine' Rd.w_bm ?_))
local macro_rules | `(tactic| walk_at "rd1") => `(tactic| first
  | (with_reducible refine' Rd.w_ch ?_)
  | (with_reducible refine' Rd.w_ch1 ?_)
  | (with_reducible refine' Rd.w_ch2 ?_))
local macro_rules | `(tactic| walk_at "rd1") => `(tactic| first
  | (with_reducible refine' Rd.w_ksub1 ?_)
  | (with_reducible refine' Rd.w_un ?_)
  | (with_reducible refine' Rd.w_kun ?_))
local macro_rules | `(tactic| walk_at "rd1") => `(tactic| first
  | (with_reducible refine' Rd.w_mko ?_)
  | (with_reducible refine' Rd.w_mkS ?_)
  | (with_reducible refine' Rd.w_ksub ?_))
local macro_rules | `(tactic| walk_at "rd1") => `(tactic| first
  | (with_reducible refine' Rd.w_meth ?_)
  | (with_reducible refine' Rd.w_kmeth2 ?_)
  | (with_reducible refine' Rd.w_make ?_))
local macro_rules | `(tactic| walk_at "rd1") => `(tactic| first
  | (with_reducible refine' Rd.w_fld ?_)
  | (with_reducible refine' Rd.w_sfld ?_)
  | (with_reducible refine' Rd.w_ksf1 ?_))
local macro_rules | `(tactic| walk_at "rd1") => `(tactic| first
  | (with_reducible refine' Rd.w_kcall ?_)
  | (with_reducible refine' Rd.w_lst ?_)
  | (with_reducible refine' Rd.w_tup ?_))
local macro_rules | `(tactic| walk_at "rd1") => `(tactic| first
  | (with_reducible refine' Rd.w_cb ?_)
  | (with_reducible refine' Rd.w_kcb ?_)
  | (with_reducible refine' Rd.w_call ?_))
local macro_rules | `(tactic| walk_at "rd1") => `(tactic| first
  | (with_reducible refine' Rd.w_cons ?_)
  | (with_reducible refine' Rd.w_kcons1 ?_)
  | (with_reducible refine' Rd.w_kcons2 ?_))
local macro_rules | `(tactic| walk_at "rd1") => `(tactic| first
  | (with_reducible refine' Rd.w_notN_i ?_)
  | (with_reducible refine' Rd.w_notN_r ?_)
  | (with_reducible refine' Rd.w_nil ?_))
local macro_rules | `(tactic| walk_at "rd1") => `(tactic| first
  | (with_reducible refine' Rd.w_isN_b ?_)
  | (with_reducible refine' Rd.w_isN_s ?_)
  | (with_reducible refine' Rd.w_notN_n ?_))
local macro_rules | `(tactic| walk_at "rd1") => `(tactic| first
  | (with_reducible refine' Rd.w_isN_n ?_)
  | (with_reducible refine' Rd.w_isN_i ?_)
  | (with_reducible refine' Rd.w_isN_r ?_))
local macro_rules | `(tactic| walk_at "rd1") => `(tactic| first
  | (with_reducible refine' Rd.w_neI ?_)
  | (with_reducible refine' Rd.w_eqS ?_)
  | (with_reducible refine' Rd.w_neS ?_))
local macro_rules | `(tactic| walk_at "rd1") => `(tactic| first
  | (with_reducible refine' Rd.w_ge ?_)
  | (with_reducible refine' Rd.w_neg ?_)
  | (with_reducible refine' Rd.w_eqI ?_))
local macro_rules | `(tactic| walk_at "rd1") => `(tactic| first
  | (with_reducible refine' Rd.w_lt ?_)
  | (with_reducible refine' Rd.w_le ?_)
  | (with_reducible refine' Rd.w_gt ?_))
local macro_rules | `(tactic| walk_at "rd1") => `(tactic| first
  | (with_reducible refine' Rd.w_sub ?_)
  | ((with_reducible refine' Rd.w_mul ?wm ?_); (case wm => walk_at "mulside"))
  | ((with_reducible refine' Rd.w_mod ?wm ?_); (case wm => first | omega | assumption)))
local macro_rules | `(tactic| walk_at "rd1") => `(tactic| first
  | (with_reducible refine' Rd.w_korV_t ?_)
  | (with_reducible refine' Rd.w_korV_f ?_)
  | (with_reducible refine' Rd.w_addI ?_))
local macro_rules | `(tactic| walk_at "rd1") => `(tactic| first
  | (with_reducible refine' Rd.w_knotV ?_)
  | (with_reducible refine' Rd.w_kandV_t ?_)
  | (with_reducible refine' Rd.w_kandV_f ?_))
local macro_rules | `(tactic| walk_at "rd1") => `(tactic| first
  | (with_reducible refine' Rd.w_notV ?_)
  | (with_reducible refine' Rd.w_knotV_t ?_)
  | (with_reducible refine' Rd.w_knotV_f ?_))
local macro_rules | `(tactic| walk_at "rd1") => `(tactic| first
  | (with_reducible refine' Rd.w_kor_f ?_)
  | (with_reducible refine' Rd.w_andV ?_)
  | (with_reducible refine' Rd.w_orV ?_))
local macro_rules | `(tactic| walk_at "rd1") => `(tactic| first
  | (with_reducible refine' Rd.w_kand_t ?_)
  | (with_reducible refine' Rd.w_kand_f ?_)
  | (with_reducible refine' Rd.w_kor_t ?_))
local macro_rules | `(tactic| walk_at "rd1") => `(tactic| first
  | (with_reducible refine' Rd.w_kif_n ?_)
  | (with_reducible refine' Rd.w_kif_t ?_)
  | (with_reducible refine' Rd.w_kif_f ?_))
local macro_rules | `(tactic| walk_at "rd1") => `(tactic| first
  | (with_reducible refine' Rd.w_knot_t ?_)
  | (with_reducible refine' Rd.w_knot_f ?_)
  | (with_reducible refine' Rd.w_knot ?_))
local macro_rules | `(tactic| walk_at "rd1") => `(tactic| first
  | (with_reducible refine' Rd.w_and ?_)
  | (with_reducible refine' Rd.w_or ?_)
  | (with_reducible refine' Rd.w_not ?_))
local macro_rules | `(tactic| walk_at "rd1") => `(tactic| first
  | (with_reducible refine' Rd.w_test ?_)
  | (with_reducible refine' Rd.w_tB ?_)
  | (with_reducible refine' Rd.w_ktest ?_))
local macro_rules | `(tactic| walk_at "rd1") => `(tactic| first
  | (with_reducible refine' Rd.w_drop ?_)
  | (with_reducible refine' Rd.w_kdrop ?_)
  | (with_reducible refine' Rd.w_ifS ?_))
local macro_rules | `(tactic| walk_at "rd1") => `(tactic| first
  | (with_reducible refine' Rd.w_kname ?_)
  | (with_reducible refine' Rd.w_gname ?_)
  | (with_reducible refine' Rd.w_ret ?_))
local macro_rules | `(tactic| walk_at "rd1") => `(tactic| first
  | (with_reducible refine' Rd.w_asg ?_)
  | ((with_reducible refine' Rd.w_knameF ?we ?_); (case we => walk_at "set"))
  | ((with_reducible refine' Rd.w_gnameF ?we ?_); (case we => walk_at "set")))
local macro_rules | `(tactic| walk_at "rd1") => `(tactic| first
  | (with_reducible refine' Rd.w_op ?_)
  | (with_reducible refine' Rd.w_op1 ?_)
  | (with_reducible refine' Rd.w_op2 ?_))
local macro_rules | `(tactic| walk_at "rd1") => `(tactic| first
  | (with_reducible refine' Rd.w_seq ?_)
  | ((with_reducible refine' Rd.w_var ?wv ?_); (case wv => exact rfl))
  | (with_reducible refine' Rd.w_c ?_))
local macro_rules | `(tactic| walk_at "rd") => `(tactic| (walk_at "rd1"; repeat (walk_at "rd1")))
local macro_rules | `(tactic| walk_at "rs1") => `(tactic| fail)
local macro_rules | `(tactic| walk_at "rs1") => `(tactic| first
  | ((with_reducible refine' Rd.w_kwh (fun hc => ?_) (fun hc => ?_)) <;> try (exfalso; omega))
  | ((with_reducible refine' Rd.w_ch3 (fun hc => ?_) (fun hc => ?_)) <;> try (exfalso; omega)))
local macro_rules | `(tactic| walk_at "rs1") => `(tactic| first
  | ((with_reducible refine' Rd.w_kandV (fun hc => ?_) (fun hc => ?_)) <;> try (exfalso; omega))
  | ((with_reducible refine' Rd.w_korV (fun hc => ?_) (fun hc => ?_)) <;> try (exfalso; omega))
  | ((with_reducible refine' Rd.w_kifE (fun hc => ?_) (fun hc => ?_)) <;> try (exfalso; omega)))
local macro_rules | `(tactic| walk_at "rs1") => `(tactic| first
  | ((with_reducible refine' Rd.w_kor (fun hc => ?_) (fun hc => ?_)) <;> try (exfalso; omega))
  | ((with_reducible refine' Rd.w_kor_n (fun hc => ?_) (fun hc => ?_)) <;> try (exfalso; omega))
  | ((with_reducible refine' Rd.w_kand_n (fun hc => ?_) (fun hc => ?_)) <;> try (exfalso; omega)))
local macro_rules | `(tactic| walk_at "rs1") => `(tactic| first
  | ((with_reducible refine' Rd.w_klk2 (fun hc => ?_) (fun hc => ?_)) <;> try (exfalso; omega))
  | ((with_reducible refine' Rd.w_kif (fun hc => ?_) (fun hc => ?_)) <;> try (exfalso; omega))
  | ((with_reducible refine' Rd.w_kand (fun hc => ?_) (fun hc => ?_)) <;> try (exfalso; omega)))
local macro_rules | `(tactic| walk_at "ra") => `(tactic| repeat' (first | walk_at "rd1" | walk_at "rs1"))
local macro_rules | `(tactic| walk_at "rn1") => `(tactic| fail)
local macro_rules | `(tactic| walk_at "rn1") => `(tactic| first
  | (with_reducible refine' Rd.use_isint ?_)
  | ((with_reducible refine' Rd.use_take ?wp ?w0 ?ws (fun d H2 h0 h1 hd => ?_)); (case wp => walk_at "pool"); (case w0 => omega); (case ws => exact Rd.small_of (by omega))))
local macro_rules | `(tactic| walk_at "rn1") => `(tactic| first
  | ((with_reducible refine' Rd.w_gl3 (L2.SqL.of ?wa) ?_); (case wa => walk_at "hp"))
  | (with_reducible refine' Rd.w_methS ?_)
  | (with_reducible refine' Rd.w_unb ?_))
local macro_rules | `(tactic| walk_at "rn1") => `(tactic| first
  | ((with_reducible refine' Rd.w_gl2 (L2.SqL.of ?wa) ?_); (case wa => walk_at "hp"))
  | ((with_reducible refine' Rd.w_gt2 (L2.SqT.of ?wa) ?_); (case wa => walk_at "hp"))
  | ((with_reducible refine' Rd.w_gt3 (L2.SqT.of ?wa) ?_); (case wa => walk_at "hp")))
local macro_rules | `(tactic| walk_at "rn1") => `(tactic| first
  | ((with_reducible refine' Rd.n_usT ?wa (fun l H2 hs he => ?_)); (case wa => walk_at "hp"))
  | ((with_reducible refine' Rd.n_slL ?wa (fun l H2 hl hs he => ?_)); (case wa => walk_at "hp"))
  | ((with_reducible refine' Rd.n_ksubM ?wa ?wb ?wc ?_); (case wa => walk_at "hp"); (case wb => omega); (case wc => omega)))
local macro_rules | `(tactic| walk_at "rn1") => `(tactic| first
  | (with_reducible refine' Rd.w_sl3 ?_)
  | ((with_reducible refine' Rd.n_revL ?wa (fun l H2 hl hs he => ?_)); (case wa => walk_at "hp"))
  | ((with_reducible refine' Rd.n_usL ?wa (fun l H2 hl hs he => ?_)); (case wa => walk_at "hp")))
local macro_rules | `(tactic| walk_at "rn1") => `(tactic| first
  | (with_reducible refine' Rd.w_sl_l ?_)
  | (with_reducible refine' Rd.w_sl_ln ?_)
  | (with_reducible refine' Rd.w_sl_lu ?_))
local macro_rules | `(tactic| walk_at "rn1") => `(tactic| first
  | ((with_reducible refine' Rd.n_krg0 ?wo (fun l H2 hl hs he => ?_)); (case wo => exact ⟨by omega, by omega, by omega, by omega, by omega⟩))
  | (with_reducible refine' Rd.w_sl ?_)
  | (with_reducible refine' Rd.w_sl_u ?_))
local macro_rules | `(tactic| walk_at "rn1") => `(tactic| first
  | (with_reducible refine' Rd.w_lrg0 ?_)
  | (with_reducible refine' Rd.w_krg1 ?_)
  | ((with_reducible refine' Rd.n_krg2 ?wo (fun l H2 hl hs he => ?_)); (case wo => exact ⟨by omega, by omega, by omega, by omega, by omega⟩)))
local macro_rules | `(tactic| walk_at "rn1") => `(tactic| first
  | ((with_reducible refine' Rd.w_gl4 (L2.SqL.of ?wa) ?_); (case wa => walk_at "hp"))
  | (with_reducible refine' Rd.w_callS ?_)
  | (with_reducible refine' Rd.w_lrg ?_))
local macro_rules | `(tactic| walk_at "rn1") => `(tactic| first
  | (with_reducible refine' Rd.n_xv1 (fun l H2 hl hs he => ?_))
  | (with_reducible refine' Rd.n_xv2 (fun l H2 hl hs he => ?_))
  | ((with_reducible refine' Rd.w_kxk ?wx ?wc ?wn ?wl ?_); (case wx => walk_at "xat"); (case wc => assumption); (case wn => assumption); (case wl => exact rfl)))
local macro_rules | `(tactic| walk_at "rn1") => `(tactic| first
  | (with_reducible refine' Rd.w_disp1 (fun l H2 hl hs he => ?_))
  | ((with_reducible refine' Rd.w_klv ?wa (fun l H2 hl hs he => ?_)); (case wa => walk_at "hp"))
  | (with_reducible refine' Rd.n_xv0 (fun l H2 hl hs he => ?_)))
local macro_rules | `(tactic| walk_at "rn1") => `(tactic| first
  | ((with_reducible refine' Rd.w_xk ?wv ?wx ?wc ?wn ?wl ?_); (case wv => exact rfl); (case wx => walk_at "xat"); (case wc => assumption); (case wn => assumption); (case wl => exact rfl))
  | ((with_reducible refine' Rd.w_isxsV ?wx ?wc ?wt ?wn ?_); (case wx => walk_at "xat"); (case wc => assumption); (case wt => walk_at "hp"); (case wn => repeat' (first | exact True.intro | assumption | refine' And.intro ?_ ?_)))
  | (with_reducible refine' Rd.w_dnew (fun l H2 hl hs he => ?_)))
local macro_rules | `(tactic| walk_at "rn1") => `(tactic| first
  | ((with_reducible refine' Rd.n_tupT ?wa ?_); (case wa => walk_at "hp"))
  | ((with_reducible refine' Rd.w_isx ?wx ?wc ?wk ?_); (case wx => walk_at "xat"); (case wc => assumption); (case wk => assumption))
  | ((with_reducible refine' Rd.w_isxT ?wx ?wc ?wk ?_); (case wx => walk_at "xat"); (case wc => assumption); (case wk => assumption)))
local macro_rules | `(tactic| walk_at "rn1") => `(tactic| first
  | ((with_reducible refine' Rd.n_listL ?wa (fun l H2 hl hs he => ?_)); (case wa => walk_at "hp"))
  | ((with_reducible refine' Rd.n_listT ?wa (fun l H2 hl hs he => ?_)); (case wa => walk_at "hp"))
  | ((with_reducible refine' Rd.n_tupL ?wa (fun l H2 hl hs he => ?_)); (case wa => walk_at "hp")))
local macro_rules | `(tactic| walk_at "rn1") => `(tactic| first
  | ((with_reducible refine' Rd.n_klst ?wl (fun l H2 hl hs he => ?_)); (case wl => walk_at "len"))
  | ((with_reducible refine' Rd.n_ktup ?wl (fun l H2 hl hs he => ?_)); (case wl => walk_at "len"))
  | ((with_reducible refine' Rd.n_addL ?wa ?wb ?wl (fun l H2 hl hs he => ?_)); (case wa => walk_at "hp"); (case wb => walk_at "hp"); (case wl => walk_at "len")))
local macro_rules | `(tactic| walk_at "rw") => `(tactic| repeat' (first | walk_at "rd1" | walk_at "rn1" | walk_at "rs1"))
local macro_rules | `(tactic| walk_at "pp") => `(tactic| fail)
local macro_rules | `(tactic| walk_at "pp") => `(tactic| first
  | (refine' Rd.PairP.put ?pa ?pb; (case pb => walk_at "hp"); (case pa => walk_at "pp"))
  | (refine' Rd.PairP.keep ?pa ?pb; (case pb => assumption); (case pa => walk_at "pp"))
  | (refine' Rd.PairP.drawn ?pa ?pb; (case pb => assumption); (case pa => walk_at "pp")))
local macro_rules | `(tactic| walk_at "pp") => `(tactic| first
  | (refine' Rd.PairP.cut ?pa; (case pa => walk_at "pp"))
  | (refine' Rd.PairP.set ?pa ?pb trivial; (case pb => walk_at "hp"); (case pa => walk_at "pp"))
  | (refine' Rd.PairP.cons ?pa trivial ?pb; (case pa => walk_at "hp"); (case pb => walk_at "pp")))
local macro_rules | `(tactic| walk_at "pp") => `(tactic| first
  | assumption
  | exact Rd.PairP.nil
  | (refine' Rd.PairP.app ?pa ?pb; (case pa => walk_at "pp"); (case pb => walk_at "pp")))
local macro_rules | `(tactic| walk_at "free") => `(tactic| (refine' Rd.Drawn.free ?fa ?fb; (case fb => assumption); (case fa => walk_at "drawn")))
local macro_rules | `(tactic| walk_at "lb") => `(tactic| fail)
local macro_rules | `(tactic| walk_at "lb") => `(tactic| first
  | (refine' Rd.len_set ?la; (case la => walk_at "lb"))
  | exact Nat.le_refl _)
local macro_rules | `(tactic| walk_at "lb") => `(tactic| first
  | assumption
  | (refine' Rd.len_app ?la ?lb; (case la => walk_at "lb"); (case lb => walk_at "lb"))
  | (refine' Rd.len_cut ?la; (case la => walk_at "lb")))
local macro_rules | `(tactic| walk_at "lenb") => `(tactic| (refine' Nat.le_trans ?l1 ?l2; (case l1 => walk_at "lb"); (case l2 => exact Nat.le_of_ble_eq_true rfl)))
local macro_rules | `(tactic| walk_at "rx1") => `(tactic| fail)
local macro_rules | `(tactic| walk_at "rx1") => `(tactic| first
  | ((with_reducible refine' Rd.n_addA ?wa ?wb ?wl ?wm (fun l H2 hl hs he => ?_)); (case wa => walk_at "hp"); (case wb => walk_at "hp"); (case wl => walk_at "lenb"); (case wm => walk_at "lenb"))
  | ((with_reducible refine' Rd.use_draw0 ?wp ?wq (fun d H2 hq hd => ?_)); (case wp => walk_at "pool"); (case wq => exact trivial)))
local macro_rules | `(tactic| walk_at "rx1") => `(tactic| first
  | ((with_reducible refine' Rd.n_ixPair ?wp ?wa ?wb ?wc (fun t f l hv ht hr => ?_)); (case wa => walk_at "hp"); (case wp => walk_at "pp"); (case wb => omega); (case wc => omega))
  | ((with_reducible refine' Rd.n_ixMem ?wa ?wb ?wc (fun v hv => ?_)); (case wa => walk_at "hp"); (case wb => omega); (case wc => omega))
  | ((with_reducible refine' Rd.n_setAny ?wa ?wb ?wc ?_); (case wa => walk_at "hp"); (case wb => omega); (case wc => omega)))
local macro_rules | `(tactic| walk_at "rx") => `(tactic| repeat' (first | walk_at "rd1" | walk_at "rn1" | walk_at "rs1" | walk_at "rx1"))
local macro_rules | `(tactic| walk_at "sl") => `(tactic| first | assumption | exact Nat.le_refl _)
local macro_rules | `(tactic| walk_at "ble") => `(tactic| exact rfl)
local macro_rules | `(tactic| walk_at "rt1") => `(tactic| fail)
local macro_rules | `(tactic| walk_at "rt1") => `(tactic| first
  | ((with_reducible refine' Rd.n_lenS ?wa ?wl ?_); (case wa => walk_at "sl"); (case wl => walk_at "ble"))
  | ((with_reducible refine' Rd.n_slTo ?wa ?wl ?wb (fun s hs => ?_)); (case wa => walk_at "sl"); (case wl => walk_at "ble"); (case wb => omega))
  | ((with_reducible refine' Rd.n_slFrom ?wa ?wl ?wb (fun s hs => ?_)); (case wa => walk_at "sl"); (case wl => walk_at "ble"); (case wb => omega)))
local macro_rules | `(tactic| walk_at "rt1") => `(tactic| first
  | ((with_reducible refine' Rd.n_mulS (m := 200) ?wa ?wl ?wb ?wc (fun s hs => ?_)); (case wa => exact Nat.le_refl _); (case wl => omega); (case wb => omega); (case wc => walk_at "ble"))
  | ((with_reducible refine' Rd.n_mulS2 (m := 50) ?wa ?wl ?wb ?wc (fun s hs => ?_)); (case wa => exact Nat.le_refl _); (case wl => omega); (case wb => omega); (case wc => walk_at "ble"))
  | ((with_reducible refine' Rd.n_ixS ?wa ?wb ?wc ?wd ?we (fun c => ?_)); (case wa => first | assumption | exact rfl); (case wc => assumption); (case wb => omega); (case wd => walk_at "ble"); (case we => walk_at "ble")))
local macro_rules | `(tactic| walk_at "rt1") => `(tactic| first
  | ((with_reducible refine' Rd.n_upper ?wa ?wb (fun s hs => ?_)); (case wa => walk_at "sl"); (case wb => walk_at "ble"))
  | ((with_reducible refine' Rd.n_addS ?wa ?wb ?wl (fun s hq hs => ?_)); (case wa => walk_at "sl"); (case wb => walk_at "sl"); (case wl => walk_at "ble"))
  | ((with_reducible refine' Rd.n_mulS (m := 50) ?wa ?wl ?wb ?wc (fun s hs => ?_)); (case wa => exact Nat.le_refl _); (case wl => omega); (case wb => omega); (case wc => walk_at "ble")))
local macro_rules | `(tactic| walk_at "rt") => `(tactic| repeat' (first | walk_at "rd1" | walk_at "rn1" | walk_at "rs1" | walk_at "rt1"))
local macro_rules | `(tactic| walk_at "alls") => `(tactic| fail)
local macro_rules | `(tactic| walk_at "alls") => `(tactic| first
  | (refine' Rd.AllS.cons ?pa ?pb ?pc; (case pa => walk_at "sl"); (case pb => walk_at "ble"); (case pc => walk_at "alls")))
local macro_rules | `(tactic| walk_at "alls") => `(tactic| first
  | assumption
  | exact Rd.AllS.nil
  | (refine' Rd.AllS.app ?pa ?pb; (case pa => walk_at "alls"); (case pb => walk_at "alls")))
local macro_rules | `(tactic| walk_at "slen") => `(tactic| first | omega | exact Nat.le_of_ble_eq_true rfl | (refine' Nat.le_trans ?la ?lb; (case la => assumption); (case lb => exact Nat.le_of_ble_eq_true rfl)))
local macro_rules | `(tactic| walk_at "offX") => `(tactic| first | exact List.not_mem_nil | (simp only [List.mem_cons, List.not_mem_nil, or_false, not_or, not_false_eq_true]; repeat' (first | assumption | apply And.intro | exact Ne.symm (by assumption))))
local macro_rules | `(tactic| walk_at "dat") => `(tactic| fail)
local macro_rules | `(tactic| walk_at "dat") => `(tactic| first
  | (refine' Rd.DatA.newL ?dx ?dn ?dh; (case dh => walk_at "hp"); (case dn => walk_at "offX"); (case dx => walk_at "data")))
local macro_rules | `(tactic| walk_at "dat") => `(tactic| first
  | exact Rd.Dat.non
  | exact Rd.Dat.bl _
  | (refine' Rd.DatA.newT ?dx ?dh; (case dh => walk_at "hp"); (case dx => walk_at "data")))
local macro_rules | `(tactic| walk_at "dat") => `(tactic| first
  | assumption
  | exact Rd.Dat.int _
  | exact Rd.Dat.str _)
local macro_rules | `(tactic| walk_at "data") => `(tactic| first | assumption | exact Rd.DatA.nil | (refine' Rd.DatA.cons ?da ?db; (case da => walk_at "dat"); (case db => walk_at "data")))
local macro_rules | `(tactic| walk_at "rq1") => `(tactic| fail)
local macro_rules | `(tactic| walk_at "rq1") => `(tactic| first
  | ((with_reducible refine' Rd.w_lenT ?wa ?_); (case wa => assumption))
  | ((with_reducible refine' Rd.w_ixT ?wa ?wb ?_); (case wa => assumption); (case wb => exact rfl))
  | fail)
local macro_rules | `(tactic| walk_at "rq") => `(tactic| repeat' (first | walk_at "rd1" | walk_at "rn1" | walk_at "rs1" | walk_at "rq1"))
local macro_rules | `(tactic| walk_at "sqt") => `(tactic| first | assumption | (refine' Rd.Same.tup ?hs ?hh; (case hs => assumption); (case hh => walk_at "sqt")) | (refine' Rd.SqT.go ?hh ?hs; (case hs => assumption); (case hh => walk_at "sqt")))
local macro_rules | `(tactic| walk_at "rl1") => `(tactic| fail)
local macro_rules | `(tactic| walk_at "rl1") => `(tactic| first
  | fail)
local macro_rules | `(tactic| walk_at "rl1") => `(tactic| first
  | (with_reducible refine' Rd.w_kdg2 ?_)
  | (with_reducible refine' Rd.w_truV ?_)
  | ((with_reducible refine' Rd.w_ktruv ?wa ?_); (case wa => walk_at "hp")))
local macro_rules | `(tactic| walk_at "rl1") => `(tactic| first
  | (with_reducible refine' Rd.w_forK ?_)
  | (with_reducible refine' Rd.w_notN_s ?_)
  | (with_reducible refine' Rd.w_dget ?_))
local macro_rules | `(tactic| walk_at "rl1") => `(tactic| first
  | ((with_reducible refine' Rd.w_neSn ?wy ?_); (case wy => decide))
  | ((with_reducible refine' Rd.w_lenT ?wa ?_); (case wa => walk_at "sqt"))
  | ((with_reducible refine' Rd.w_ixT ?wa ?wb ?_); (case wa => walk_at "sqt"); (case wb => exact rfl)))
local macro_rules | `(tactic| walk_at "rl1") => `(tactic| first
  | ((with_reducible refine' Rd.w_eqSy ?wy ?_); (case wy => with_reducible rfl))
  | ((with_reducible refine' Rd.w_eqSn ?wy ?_); (case wy => decide))
  | ((with_reducible refine' Rd.w_neSy ?wy ?_); (case wy => with_reducible rfl)))
local macro_rules | `(tactic| walk_at "rl") => `(tactic| repeat' (first | walk_at "rl1" | walk_at "rd1" | walk_at "rn1" | walk_at "rs1"))
local macro_rules | `(tactic| walk_at "rlx") => `(tactic| repeat' (first | walk_at "rl1" | walk_at "rd1" | walk_at "rn1" | walk_at "rs1" | walk_at "rx1"))
namespace My
open PySem PySem.Spec PyProof.Rows L2 Rd
section
variable {P : Program} {w : World} {K : PySem.W.Frag} {mg : Str → Option Value} {base : Heap}

theorem sc__law_is_int : FnScope ["_law_x"] ["_law_x"] (defScope (top 18)) := ⟨rfl, rfl, rfl, by decide +kernel, rfl, by decide +kernel, by decide +kernel⟩
theorem g__law_is_int (T : Tx fa fn xa fs P w K mg) : FnG P w K mg base CX0 1 "_law_is_int" ["_law_x"] spIsInt := by
  obtain ⟨fd, F⟩ := T.says.def_ 0 (d := d__law_is_int) rfl
  have sc := sc__law_is_int
  refine ⟨_, fd, T.glo 3, F.kp, F.ok sc (fun vs H Q E h => ?len) (fun cdv A outer s H vs Q E hr h => ⟨_, PSs.nox (pss_one (ps_ret (pe_and (pe_callB cIsi (by rfl) (T.free 0) (by decide +kernel) (pa_cons (pv 0) (pa_cons (pe_bltn (v := .ty "int") (u := .type "int") rfl (T.free 2) (by decide +kernel) rfl) pa_nil))) (pe_one (pe_not (pe_callB cIsi (by rfl) (T.free 0) (by decide +kernel) (pa_cons (pv 0) (pa_cons (pe_bltn (v := .ty "bool") (u := .type "bool") rfl (T.free 1) (by decide +kernel) rfl) pa_nil)))))))), ?rd⟩), F.bindsN fun _ _ _ _ _ _ us hl => match us, hl with | [_], _ => rfl⟩
  case len =>
    obtain ⟨i, rfl, _⟩ := h
    rfl
  case rd =>
    obtain ⟨i, rfl, hQ⟩ := h
    show tRet _ ⟨_, _, _, _⟩ [some (.int i)] H
    try dsimp only [cxOf]
    walk_at "ra"
    exact hQ

end
end My
namespace My
open PySem PySem.Spec PyProof.Rows L2 Rd
section
variable {P : Program} {w : World} {K : PySem.W.Frag} {mg : Str → Option Value} {base : Heap}

theorem sc__law_pool : FnScope ["_law_script", "_law_seed", "_law_cell"] ["_law_script"] (defScope (top 19)) := ⟨rfl, rfl, rfl, by decide +kernel, rfl, by decide +kernel, by decide +kernel⟩
theorem g__law_pool (T : Tx fa fn xa fs P w K mg) : FnG P w K mg base CX0 1 "_law_pool" ["_law_script"] (spPool K) := by
  obtain ⟨fd, F⟩ := T.says.def_ 1 (d := d__law_pool) rfl
  have sc := sc__law_pool
  refine ⟨_, fd, T.glo 5, F.kp, F.ok sc (fun vs H Q E h => ?len) (fun cdv A outer s H vs Q E hr h => ⟨_, PSs.nox (pss_cons (ps_set (i := 1) sc.nd rfl (by first | exact Or.inl rfl | exact Or.inr rfl) pe_int)
    (pss_cons (ps_for PassesOwn.never rfl (pi_list (pv 0)) (pg_name (i := 2) sc.nd rfl (by first | exact Or.inl rfl | exact Or.inr rfl)) (pss_one (ps_set (i := 1) sc.nd rfl (by first | exact Or.inl rfl | exact Or.inr rfl) (pe_op oMod (pe_callTy cInt (by rfl) (T.free 2) (by decide +kernel) (pa_cons (pe_op oAdd (pe_op oAdd (pe_op oMul (pv 1) pe_int) (pe_op oMul (pe_callTy cInt (by rfl) (T.free 2) (by decide +kernel) (pa_cons (pv 2) pa_nil)) pe_int)) pe_int) pa_nil)) pe_int))))
    (pss_one (ps_ret (pe_lst (pa_cons pe_int (pa_cons pe_int (pa_cons pe_int (pa_cons (pv 1) (pa_cons (pe_callTy cList (by rfl) (T.free 4) (by decide +kernel) (pa_cons (pv 0) pa_nil)) pa_nil)))))))))), ?rd⟩), F.bindsN fun _ _ _ _ _ _ us hl => match us, hl with | [_], _ => rfl⟩
  case len =>
    obtain ⟨a, ns, rfl, _⟩ := h
    rfl
  case rd =>
    obtain ⟨a, ns, rfl, hs, hQ⟩ := h
    show tSeq _ _ ⟨_, _, _, _⟩ [some (.ref a), none, none] H
    try dsimp only [cxOf]
    walk_at "rd"
    refine ⟨a, rfl, ⟨_, hs⟩, for_list (xs := ns.map V.int) (fun i σ H' => H' = H ∧ ∃ sd v, 0 ≤ sd ∧ sd < 2147483647 ∧ σ = [some (.ref a), some (.int sd), v]) ⟨rfl, 7, none, by decide, by decide, rfl⟩ ?_ ?_ ?_⟩
    · rintro i σ H' _ ⟨rfl, _⟩
      exact hs
    · rintro i x σ H' hx ⟨rfl, sd, v, h0, h1, rfl⟩
      obtain ⟨c, rfl⟩ : ∃ c : Int, x = .int c := by
        obtain ⟨c, _, e⟩ := List.mem_map.mp (List.mem_of_getElem? hx)
        exact ⟨c, e.symm⟩
      walk_at "ra"
      exact ⟨rfl, _, _, Int.emod_nonneg _ (by decide), Int.emod_lt_of_pos _ (by decide), rfl⟩
    · rintro σ H' ⟨rfl, sd, v, h0, h1, rfl⟩
      walk_at "ra"
      refine w_listL hs fun l hl => ?_
      walk_at "ra"
      refine w_klst (by walk_at "len") fun p hp => ?_
      have hpl : l ≠ p := fun e => by rw [e, upd_same] at hp; cases hp
      refine hQ p _ ?_ ?_ ?_
      · rw [upd_ne (Ne.symm hpl)] at hp; exact hp
      · intro b o hb
        have h1 : b ≠ l := ne_of_none hb hl
        have h2 : b ≠ p := fun e => by rw [e] at hb; rw [upd_ne (Ne.symm hpl), hb] at hp; cases hp
        rw [upd_ne h2, upd_ne h1]; exact hb
      · exact ⟨l, _, ns, upd_same, ⟨0, 0, 0, sd, rfl, by decide, by decide, h0, h1⟩, by rw [upd_ne hpl, upd_same], hpl⟩

end
end My
namespace My
open PySem PySem.Spec PyProof.Rows L2 Rd
section
variable {P : Program} {w : World} {K : PySem.W.Frag} {mg : Str → Option Value} {base : Heap}

theorem sc__law_take : FnScope ["_law_pool_here", "_law_size", "_law_cells", "_law_mixed", "_law_cell", "_law_digit"] ["_law_pool_here", "_law_size"] (defScope (top 20)) := ⟨rfl, rfl, rfl, by decide +kernel, rfl, by decide +kernel, by decide +kernel⟩
theorem g__law_take (T : Tx fa fn xa fs P w K mg) : FnG P w K mg base CX0 1 "_law_take" ["_law_pool_here", "_law_size"] spTake := by
  obtain ⟨fd, F⟩ := T.says.def_ 2 (d := d__law_take) rfl
  have sc := sc__law_take
  refine ⟨_, fd, T.glo 7, F.kp, F.ok sc (fun vs H Q E h => ?len) (fun cdv A outer s H vs Q E hr h => ⟨_, PSs.nox (pss_cons (ps_set (i := 2) sc.nd rfl (by first | exact Or.inl rfl | exact Or.inr rfl) (pe_ix ix_seq (pv 0) pe_int (fun _ _ => rfl)))
    (pss_cons (ps_asg (pe_op oAdd (pe_ix ix_seq (pv 0) pe_int (fun _ _ => rfl)) pe_int) (pg_sub (pv 0) pe_int set_list))
    (pss_cons (ps_set (i := 3) sc.nd rfl (by first | exact Or.inl rfl | exact Or.inr rfl) (pe_op oMod (pe_callTy cInt (by rfl) (T.free 2) (by decide +kernel) (pa_cons (pe_op oAdd (pe_op oAdd (pe_op oMul (pe_ix ix_seq (pv 0) pe_int (fun _ _ => rfl)) pe_int) (pe_op oMul (pe_ix ix_seq (pv 0) pe_int (fun _ _ => rfl)) pe_int)) pe_int) pa_nil)) pe_int))
    (pss_cons (ps_if (PW.pt (pw_and (pt_cmpR op_eq (pe_ix ix_seq (pv 0) pe_int (fun _ _ => rfl)) pe_int (nomark _)) (pw_and1 (pt_cmpR oLt (pe_ix ix_seq (pv 0) pe_int (fun _ _ => rfl)) (pe_callB cLen (by rfl) (T.free 6) (by decide +kernel) (pa_cons (pv 2) pa_nil)) (nomark _))))) (pss_cons (ps_set (i := 4) sc.nd rfl (by first | exact Or.inl rfl | exact Or.inr rfl) (pe_callTy cInt (by rfl) (T.free 2) (by decide +kernel) (pa_cons (pe_ix ix_seq (pv 2) (pe_ix ix_seq (pv 0) pe_int (fun _ _ => rfl)) (fun _ _ => rfl)) pa_nil)))
    (pss_cons (ps_asg (pe_op oAdd (pe_ix ix_seq (pv 0) pe_int (fun _ _ => rfl)) pe_int) (pg_sub (pv 0) pe_int set_list))
    (pss_cons (ps_set (i := 3) sc.nd rfl (by first | exact Or.inl rfl | exact Or.inr rfl) (pe_op oMod (pe_callTy cInt (by rfl) (T.free 2) (by decide +kernel) (pa_cons (pe_op oAdd (pe_op oAdd (pe_op oMul (pv 4) pe_int) (pe_ix ix_seq (pv 0) pe_int (fun _ _ => rfl))) (pe_op oMul (pe_ix ix_seq (pv 0) pe_int (fun _ _ => rfl)) pe_int)) pa_nil)) pe_int))
    (pss_one (ps_if (pt_cmpR oGe (pv 4) (pe_op oPow pe_int pe_int) (nomark _)) (pss_one (ps_asg (pv 4) (pg_sub (pv 0) pe_int set_list))) pss_nil))))) pss_nil)
    (pss_cons (ps_if (pt_cmpR oGt (pe_ix ix_seq (pv 0) pe_int (fun _ _ => rfl)) pe_int (nomark _)) (pss_cons (ps_set (i := 5) sc.nd rfl (by first | exact Or.inl rfl | exact Or.inr rfl) (pe_op oMod (pe_callTy cInt (by rfl) (T.free 2) (by decide +kernel) (pa_cons (pe_ix ix_seq (pv 0) pe_int (fun _ _ => rfl)) pa_nil)) (pv 1)))
    (pss_cons (ps_asg (pe_op oDiv (pe_ix ix_seq (pv 0) pe_int (fun _ _ => rfl)) (pv 1)) (pg_sub (pv 0) pe_int set_list))
    (pss_one (ps_ret (pv 5))))) pss_nil)
    (pss_cons (ps_set (i := 3) sc.nd rfl (by first | exact Or.inl rfl | exact Or.inr rfl) (pe_op oMod (pe_callTy cInt (by rfl) (T.free 2) (by decide +kernel) (pa_cons (pe_op oAdd (pe_op oMul (pv 3) pe_int) (pe_op oDiv (pv 3) pe_int)) pa_nil)) pe_int))
    (pss_one (ps_ret (pe_op oMod (pe_callTy cInt (by rfl) (T.free 2) (by decide +kernel) (pa_cons (pv 3) pa_nil)) (pv 1)))))))))), ?rd⟩), F.bindsN fun _ _ _ _ _ _ us hl => match us, hl with | [_, _], _ => rfl⟩
  case len =>
    obtain ⟨p, n, rfl, _⟩ := h
    rfl
  case rd =>
    obtain ⟨p, n, rfl, h0, hs, hp, hQ⟩ := h
    obtain ⟨q, l, ns, h1, ⟨a, b, c, s, rfl, ha, hb, hs0, hs1⟩, h3, h4⟩ := hp
    show tSeq _ _ ⟨_, _, _, _⟩ [some (.ref p), some (.int n), none, none, none, none] H
    try dsimp only [cxOf]
    walk_at "ra"
    all_goals repeat rw [upd_upd]
    all_goals (refine hQ _ _ (Int.emod_nonneg _ (by omega)) (Int.emod_lt_of_pos _ h0) (drawn_put h1 ⟨a, b, c, s, rfl, ha, hb, hs0, hs1⟩ h3 h4 ?_ ?_ ?_ ?_) <;> first | omega | exact Int.ediv_nonneg (by omega) (by omega))

end
end My
namespace My
open PySem PySem.Spec PyProof.Rows L2 Rd
section
variable {P : Program} {w : World} {K : PySem.W.Frag} {mg : Str → Option Value} {base : Heap}
abbrev spBig : Sp := spDraw 0 (fun _ => True) (fun _ d => 0 ≤ d ∧ d < 1000000000 ^ 3)
theorem sc__law_big : FnScope ["_law_pool_here", "_law_value", "_law_k"] ["_law_pool_here"] (defScope (top 21)) := ⟨rfl, rfl, rfl, by decide +kernel, rfl, by decide +kernel, by decide +kernel⟩
theorem g__law_big (T : Tx fa fn xa fs P w K mg) : FnG P w K mg base CX0 2 "_law_big" ["_law_pool_here"] spBig := by
  obtain ⟨fd, F⟩ := T.says.def_ 3 (d := d__law_big) rfl
  have sc := sc__law_big
  refine ⟨_, fd, T.glo 9, F.kp, F.ok sc (fun vs H Q E h => ?len) (fun cdv A outer s H vs Q E hr h => ⟨_, PSs.nox (pss_cons (ps_set (i := 1) sc.nd rfl (by first | exact Or.inl rfl | exact Or.inr rfl) pe_int)
    (pss_cons (ps_for PassesOwn.never rfl (pi_range1 (by rfl) (T.free 8) (pa_cons pe_int pa_nil)) (pg_name (i := 2) sc.nd rfl (by first | exact Or.inl rfl | exact Or.inr rfl)) (pss_one (ps_set (i := 1) sc.nd rfl (by first | exact Or.inl rfl | exact Or.inr rfl) (pe_op oAdd (pe_op oMul (pv 1) (pe_op oPow pe_int pe_int)) (pe_cg (g__law_take T) (hr.mono (by decide)) rfl (pa_cons (pv 0) (pa_cons (pe_op oPow pe_int pe_int) pa_nil)))))))
    (pss_one (ps_ret (pv 1))))), ?rd⟩), F.bindsN fun _ _ _ _ _ _ us hl => match us, hl with | [_], _ => rfl⟩
  case len => exact spDraw_len h
  case rd =>
    obtain ⟨p, is, rfl, hl, _, hp, hQ⟩ := h
    obtain rfl := List.eq_nil_of_length_eq_zero hl
    show tSeq _ _ ⟨_, _, _, _⟩ [some (.ref p), none, none] H
    try dsimp only [cxOf]
    walk_at "rd"
    refine ⟨3, rfl, by decide, by decide, for_range (n := 3) (fun i σ H' => Drawn p H H' ∧ ∃ v x, 0 ≤ v ∧ v < 1000000000 ^ i ∧ σ = [some (.ref p), some (.int v), x]) ⟨Drawn.refl hp, 0, none, by decide, by decide, rfl⟩ ?_ ?_⟩
    · rintro i σ H' hi ⟨hd, v, x, h0, h1, rfl⟩
      walk_at "ra"
      refine use_take hd.pool (by decide) (small_of (by decide)) fun d H2 h2 h3 hd2 => ?_
      walk_at "ra"
      refine ⟨hd.trans hd2, _, _, ?_, ?_, rfl⟩
      · omega
      · rw [Int.pow_succ]; omega
    · rintro σ H' ⟨hd, v, x, h0, h1, rfl⟩
      walk_at "ra"
      exact hQ _ _ ⟨h0, h1⟩ hd

end
end My
namespace My
open PySem PySem.Spec PyProof.Rows L2 Rd
section
variable {P : Program} {w : World} {K : PySem.W.Frag} {mg : Str → Option Value} {base : Heap}
abbrev spFree : Sp := spDraw 0 (fun _ => True) (fun _ d => -1000000000000000000000000000 < d ∧ d < 1000000000000000000000000000)
theorem sc__law_free : FnScope ["_law_pool_here", "_law_value", "_law_way"] ["_law_pool_here"] (defScope (top 22)) := ⟨rfl, rfl, rfl, by decide +kernel, rfl, by decide +kernel, by decide +kernel⟩
theorem g__law_free (T : Tx fa fn xa fs P w K mg) : FnG P w K mg base CX0 3 "_law_free" ["_law_pool_here"] spFree := by
  obtain ⟨fd, F⟩ := T.says.def_ 4 (d := d__law_free) rfl
  have sc := sc__law_free
  refine ⟨_, fd, T.glo 10, F.kp, F.ok sc (fun vs H Q E h => ?len) (fun cdv A outer s H vs Q E hr h => ⟨_, PSs.nox (pss_cons (ps_set (i := 1) sc.nd rfl (by first | exact Or.inl rfl | exact Or.inr rfl) (pe_op oSub (pe_cg (g__law_take T) (hr.mono (by decide)) rfl (pa_cons (pv 0) (pa_cons pe_int pa_nil))) pe_int))
    (pss_cons (ps_set (i := 2) sc.nd rfl (by first | exact Or.inl rfl | exact Or.inr rfl) (pe_cg (g__law_take T) (hr.mono (by decide)) rfl (pa_cons (pv 0) (pa_cons pe_int pa_nil))))
    (pss_cons (ps_if (pt_cmpR op_eq (pv 2) pe_int (nomark _)) (pss_one (ps_set (i := 1) sc.nd rfl (by first | exact Or.inl rfl | exact Or.inr rfl) (pe_cg (g__law_big T) (hr.mono (by decide)) rfl (pa_cons (pv 0) pa_nil)))) pss_nil)
    (pss_cons (ps_if (pt_cmpR op_eq (pv 2) pe_int (nomark _)) (pss_one (ps_set (i := 1) sc.nd rfl (by first | exact Or.inl rfl | exact Or.inr rfl) (pe_op oSub pe_int (pe_cg (g__law_big T) (hr.mono (by decide)) rfl (pa_cons (pv 0) pa_nil))))) pss_nil)
    (pss_one (ps_ret (pv 1))))))), ?rd⟩), F.bindsN fun _ _ _ _ _ _ us hl => match us, hl with | [_], _ => rfl⟩
  case len => exact spDraw_len h
  case rd =>
    obtain ⟨p, is, rfl, hl, _, hp, hQ⟩ := h
    obtain rfl := List.eq_nil_of_length_eq_zero hl
    show tSeq _ _ ⟨_, _, _, _⟩ [some (.ref p), none, none] H
    try dsimp only [cxOf]
    walk_at "ra"
    refine use_take hp (by decide) (small_of (by decide)) fun d H1 h1 h2 hd => ?_
    walk_at "ra"
    refine use_take hd.pool (by decide) (small_of (by decide)) fun e H2 h3 h4 he => ?_
    have hde := hd.trans he
    walk_at "ra"
    · refine use_draw0 hde.pool trivial fun b H3 hb hd3 => ?_
      obtain ⟨hb0, hb1⟩ := hb
      walk_at "ra"
      exact hQ _ _ (by constructor <;> omega) (hde.trans hd3)
    · refine use_draw0 hde.pool trivial fun b H3 hb hd3 => ?_
      obtain ⟨hb0, hb1⟩ := hb
      walk_at "ra"
      exact hQ _ _ (by constructor <;> omega) (hde.trans hd3)
    · exact hQ _ _ (by constructor <;> omega) hde

end
end My
namespace My
open PySem PySem.Spec PyProof.Rows L2 Rd
section
variable {P : Program} {w : World} {K : PySem.W.Frag} {mg : Str → Option Value} {base : Heap}
abbrev spStep : Sp := spDraw 0 (fun _ => True) (fun _ d => 1 ≤ d ∧ d ≤ 1000000000000000000000000000)
theorem sc__law_step : FnScope ["_law_pool_here", "_law_way"] ["_law_pool_here"] (defScope (top 23)) := ⟨rfl, rfl, rfl, by decide +kernel, rfl, by decide +kernel, by decide +kernel⟩
theorem g__law_step (T : Tx fa fn xa fs P w K mg) : FnG P w K mg base CX0 3 "_law_step" ["_law_pool_here"] spStep := by
  obtain ⟨fd, F⟩ := T.says.def_ 5 (d := d__law_step) rfl
  have sc := sc__law_step
  refine ⟨_, fd, T.glo 11, F.kp, F.ok sc (fun vs H Q E h => ?len) (fun cdv A outer s H vs Q E hr h => ⟨_, PSs.nox (pss_cons (ps_set (i := 1) sc.nd rfl (by first | exact Or.inl rfl | exact Or.inr rfl) (pe_cg (g__law_take T) (hr.mono (by decide)) rfl (pa_cons (pv 0) (pa_cons pe_int pa_nil))))
    (pss_cons (ps_if (pt_cmpR op_eq (pv 1) pe_int (nomark _)) (pss_one (ps_ret (pe_op oAdd pe_int (pe_cg (g__law_take T) (hr.mono (by decide)) rfl (pa_cons (pv 0) (pa_cons pe_int pa_nil)))))) pss_nil)
    (pss_cons (ps_if (pt_cmpR op_eq (pv 1) pe_int (nomark _)) (pss_one (ps_ret (pe_op oAdd pe_int (pe_cg (g__law_big T) (hr.mono (by decide)) rfl (pa_cons (pv 0) pa_nil))))) pss_nil)
    (pss_one (ps_ret (pe_op oAdd pe_int (pe_cg (g__law_take T) (hr.mono (by decide)) rfl (pa_cons (pv 0) (pa_cons pe_int pa_nil))))))))), ?rd⟩), F.bindsN fun _ _ _ _ _ _ us hl => match us, hl with | [_], _ => rfl⟩
  case len => exact spDraw_len h
  case rd =>
    obtain ⟨p, is, rfl, hl, _, hp, hQ⟩ := h
    obtain rfl := List.eq_nil_of_length_eq_zero hl
    show tSeq _ _ ⟨_, _, _, _⟩ [some (.ref p), none] H
    try dsimp only [cxOf]
    walk_at "ra"
    refine use_take hp (by decide) (small_of (by decide)) fun d H1 h1 h2 hd => ?_
    walk_at "ra"
    · refine use_take hd.pool (by decide) (small_of (by decide)) fun e H2 h3 h4 he => ?_
      walk_at "ra"
      exact hQ _ _ (by constructor <;> omega) (hd.trans he)
    · refine use_draw0 hd.pool trivial fun b H2 hb he => ?_
      obtain ⟨hb0, hb1⟩ := hb
      walk_at "ra"
      exact hQ _ _ (by constructor <;> omega) (hd.trans he)
    · refine use_take hd.pool (by decide) (small_of (by decide)) fun e H2 h3 h4 he => ?_
      walk_at "ra"
      exact hQ _ _ (by constructor <;> omega) (hd.trans he)

end
end My
namespace My
open PySem PySem.Spec PyProof.Rows L2 Rd
section
variable {P : Program} {w : World} {K : PySem.W.Frag} {mg : Str → Option Value} {base : Heap}
abbrev spShift : Sp := spDraw 1 (fun l => 1 ≤ l.headD 0 ∧ l.headD 0 ≤ 1000000000000000000000000000) (fun _ d => -1000000000000000000000000000 ≤ d ∧ d ≤ 1000000000000000000000000000)
theorem sc__law_shift : FnScope ["_law_pool_here", "_law_step_here", "_law_way"] ["_law_pool_here", "_law_step_here"] (defScope (top 24)) := ⟨rfl, rfl, rfl, by decide +kernel, rfl, by decide +kernel, by decide +kernel⟩
theorem g__law_shift (T : Tx fa fn xa fs P w K mg) : FnG P w K mg base CX0 3 "_law_shift" ["_law_pool_here", "_law_step_here"] spShift := by
  obtain ⟨fd, F⟩ := T.says.def_ 6 (d := d__law_shift) rfl
  have sc := sc__law_shift
  refine ⟨_, fd, T.glo 12, F.kp, F.ok sc (fun vs H Q E h => ?len) (fun cdv A outer s H vs Q E hr h => ⟨_, PSs.nox (pss_cons (ps_set (i := 2) sc.nd rfl (by first | exact Or.inl rfl | exact Or.inr rfl) (pe_cg (g__law_take T) (hr.mono (by decide)) rfl (pa_cons (pv 0) (pa_cons pe_int pa_nil))))
    (pss_cons (ps_if (pt_cmpR op_eq (pv 2) pe_int (nomark _)) (pss_one (ps_ret pe_int)) pss_nil)
    (pss_cons (ps_if (pt_cmpR op_eq (pv 2) pe_int (nomark _)) (pss_one (ps_ret (pe_cg (g__law_take T) (hr.mono (by decide)) rfl (pa_cons (pv 0) (pa_cons (pv 1) pa_nil))))) pss_nil)
    (pss_cons (ps_if (pt_cmpR op_eq (pv 2) pe_int (nomark _)) (pss_one (ps_ret (pe_op oSub (pe_op oSub pe_int pe_int) (pe_cg (g__law_take T) (hr.mono (by decide)) rfl (pa_cons (pv 0) (pa_cons pe_int pa_nil)))))) pss_nil)
    (pss_cons (ps_if (pt_cmpR op_eq (pe_cg (g__law_take T) (hr.mono (by decide)) rfl (pa_cons (pv 0) (pa_cons pe_int pa_nil))) pe_int (nomark _)) (pss_one (ps_ret (pe_op oSub pe_int (pe_cg (g__law_big T) (hr.mono (by decide)) rfl (pa_cons (pv 0) pa_nil))))) pss_nil)
    (pss_one (ps_ret (pe_cg (g__law_big T) (hr.mono (by decide)) rfl (pa_cons (pv 0) pa_nil))))))))), ?rd⟩), F.bindsN fun _ _ _ _ _ _ us hl => match us, hl with | [_, _], _ => rfl⟩
  case len => exact spDraw_len h
  case rd =>
    obtain ⟨p, is, rfl, hl, hpre, hp, hQ⟩ := h
    obtain ⟨st, rfl⟩ := List.length_eq_one_iff.mp hl
    obtain ⟨s0, s1⟩ : 1 ≤ st ∧ st ≤ 1000000000000000000000000000 := hpre
    have hsm : Small st := small_of (by omega)
    show tSeq _ _ ⟨_, _, _, _⟩ [some (.ref p), some (.int st), none] H
    try dsimp only [cxOf]
    walk_at "ra"
    refine use_take hp (by decide) (small_of (by decide)) fun d H1 h1 h2 hd => ?_
    walk_at "ra"
    · exact hQ _ _ (by constructor <;> omega) hd
    · refine use_take hd.pool (by omega) hsm fun e H2 h3 h4 he => ?_
      exact hQ _ _ (by constructor <;> omega) (hd.trans he)
    · refine use_take hd.pool (by decide) (small_of (by decide)) fun e H2 h3 h4 he => ?_
      walk_at "ra"
      exact hQ _ _ (by constructor <;> omega) (hd.trans he)
    · refine use_take hd.pool (by decide) (small_of (by decide)) fun e H2 h3 h4 he => ?_
      have hde := hd.trans he
      walk_at "ra"
      · refine use_draw0 hde.pool trivial fun b H3 hb hf => ?_
        obtain ⟨hb0, hb1⟩ := hb
        walk_at "ra"
        exact hQ _ _ (by constructor <;> omega) (hde.trans hf)
      · refine use_draw0 hde.pool trivial fun b H3 hb hf => ?_
        obtain ⟨hb0, hb1⟩ := hb
        exact hQ _ _ (by constructor <;> omega) (hde.trans hf)

end
end My
namespace My
open PySem PySem.Spec PyProof.Rows L2 Rd
section
variable {P : Program} {w : World} {K : PySem.W.Frag} {mg : Str → Option Value} {base : Heap}
theorem x_BadNumber (T : Tx fa fn xa fs P w K mg) : ExcG P w K mg base 1 "BadNumber" ["self", "number"] (spX1 (He.ga K "BadNumber") "number") := by
  obtain ⟨fd, F⟩ := T.all.sdef 0 (d := s_BadNumber) rfl
  exact exc_one T (T.free 14) (T.glo 15) (T.exc 0) F (T.noat 13) rfl rfl rfl
    (cls_scope ⟨rfl, rfl, rfl, by decide +kernel, rfl, by decide +kernel, by decide +kernel⟩ (by decide +kernel) (fun _ => rfl) rfl (by decide +kernel) (fun x h => h))
    (by decide +kernel) rfl ⟨by decide, by decide⟩ ⟨by decide +kernel, by decide +kernel⟩ ⟨by decide +kernel, by decide +kernel⟩ (fun _ _ _ _ => ⟨_, rfl⟩) (fun _ _ _ _ => rfl) (fun _ _ _ _ => rfl)
    (fun _ _ _ _ _ _ _ us hu => match us, hu with | [_, _], _ => rfl)

end
end My
namespace My
open PySem PySem.Spec PyProof.Rows L2 Rd
section
variable {P : Program} {w : World} {K : PySem.W.Frag} {mg : Str → Option Value} {base : Heap}

theorem sc_Grid___init__ : FnScope ["self", "step", "offset"] ["self", "step", "offset"] (defScope (inClass (top 15) 0)) := ⟨rfl, rfl, rfl, by decide +kernel, rfl, by decide +kernel, by decide +kernel⟩
theorem f_Grid___init__ (T : Tx fa fn xa fs P w K mg) : ∃ fd, FunD K "__init__" "Grid.__init__" (defArgs (inClass (top 15) 0)) (defBody (inClass (top 15) 0)) (defScope (inClass (top 15) 0)) (He.DefD.dvs K d_Grid___init__) (He.DefD.kws K d_Grid___init__) (He.ma K (He.ga K "Grid") "__init__") fd ∧ FnOk P w K mg base (CX P w) 3 (He.ma K (He.ga K "Grid") "__init__") fd ["self", "step", "offset"] (spGridI K) := by
  obtain ⟨fd, F⟩ := T.says.def_ 7 (d := d_Grid___init__) rfl
  have sc := sc_Grid___init__
  refine ⟨fd, F, F.ok sc (fun vs H Q E h => ?len) (fun cdv A outer s H vs Q E hr h => ⟨_, (pss_cons (ps_if (pt_cmpR oLt (pv 1) pe_int (nomark _)) (pss_one (ps_raise rfl (takes_of rfl rfl rfl rfl) (pmk_g (x_BadNumber T) (hr.mono (by decide)) rfl (pa_cons (pv 1) pa_nil)))) pss_nil)
    (pss_cons (ps_fld (pv 0) (pv 1) rfl)
    (pss_one (ps_fld (pv 0) (pe_op oMod (pv 2) (pv 1)) rfl)))), ?rd⟩)⟩
  case len =>
    obtain ⟨x, dx, s, o, rfl, _⟩ := h
    rfl
  case rd =>
    obtain ⟨x, dx, s, o, rfl, hx, hI⟩ := h
    show tSeq _ _ ⟨_, _, _, _⟩ [some (.ref x), some (.int s), some (.int o)] H
    try dsimp only [cxOf]
    have hcl_Grid : Cls K (He.ga K "Grid") := T.cls 16
    have hn_Grid_step : NoAttr K (He.ga K "Grid") "step" := T.noat 17
    have hn_Grid_offset : NoAttr K (He.ga K "Grid") "offset" := T.noat 18
    walk_at "ra"
    · refine use_raise1 fun d hd => ?_
      exact hI.bad (bad_t (by omega)) .refl hd
    · rw [upd_upd]
      exact hI.go (bad_f (by omega)) (But.refl.put) upd_same

end
end My
namespace My
open PySem PySem.Spec PyProof.Rows L2 Rd
section
variable {P : Program} {w : World} {K : PySem.W.Frag} {mg : Str → Option Value} {base : Heap}
theorem mk_Grid2 (T : Tx fa fn xa fs P w K mg) : MkG P w K mg base (CX P w) 3 "Grid" ["self", "step", "offset"] [] (spGridI K) := by
  obtain ⟨fd, F, ok⟩ := f_Grid___init__ (w := w) (base := base) T
  obtain ⟨ds, hv, hb⟩ := F.binds1 (ps := ["self", "step", "offset"]) 3 1 (List.cons_ne_nil _ _) rfl (fun _ _ _ _ _ _ _ us its hu hi => match us, hu, its, hi with | [_, _, _], _, [_], _ => ⟨_, rfl, rfl⟩)
  exact ⟨_, fd, ds, T.glo 19, T.mkr 20, ok, hb, hv⟩
theorem mk_Grid1 (T : Tx fa fn xa fs P w K mg) : MkG P w K mg base (CX P w) 3 "Grid" ["self", "step", "offset"] [.int 0] (spGridI K) := by
  obtain ⟨fd, F, ok⟩ := f_Grid___init__ (w := w) (base := base) T
  obtain ⟨ds, hv, hb⟩ := F.binds1 (ps := ["self", "step", "offset"]) 2 0 (List.cons_ne_nil _ _) rfl (fun _ _ _ _ _ _ _ us its hu hi => match us, hu, its, hi with | [_, _], _, [_], _ => ⟨_, rfl, rfl⟩)
  exact ⟨_, fd, ds, T.glo 19, T.mkr 20, ok, hb, hv⟩

end
end My
namespace My
open PySem PySem.Spec PyProof.Rows L2 Rd
section
variable {P : Program} {w : World} {K : PySem.W.Frag} {mg : Str → Option Value} {base : Heap}
theorem x_Apart (T : Tx fa fn xa fs P w K mg) : ExcG P w K mg base 1 "Apart" ["self"] (spX0 (He.ga K "Apart") ) := by
  obtain ⟨fd, F⟩ := T.all.sdef 1 (d := s_Apart) rfl
  exact exc_zero T (T.free 14) (T.glo 21) (T.exc 1) F rfl rfl rfl
    (cls_scope ⟨rfl, rfl, rfl, by decide +kernel, rfl, by decide +kernel, by decide +kernel⟩ (by decide +kernel) (fun _ => rfl) rfl (by decide +kernel) (fun x h => h))
    (by decide +kernel) rfl (by decide) (fun _ _ _ _ => ⟨_, rfl⟩) (fun _ _ _ _ => rfl)
    (fun _ _ _ _ _ _ _ us hu => match us, hu with | [_], _ => rfl)

end
end My
namespace My
open PySem PySem.Spec PyProof.Rows L2 Rd
section
variable {P : Program} {w : World} {K : PySem.W.Frag} {mg : Str → Option Value} {base : Heap}

theorem sc_Grid_first_bar : FnScope ["self", "tick"] ["self", "tick"] (defScope (inClass (top 15) 2)) := ⟨rfl, rfl, rfl, by decide +kernel, rfl, by decide +kernel, by decide +kernel⟩
theorem g_Grid_first_bar (T : Tx fa fn xa fs P w K mg) : MtG P w K mg base CX0 1 (He.ga K "Grid") "first_bar" ["self", "tick"] (spFirst K) := by
  obtain ⟨fd, F⟩ := T.says.def_ 8 (d := d_Grid_first_bar) rfl
  have sc := sc_Grid_first_bar
  refine ⟨⟨_, fd, T.meth 22, F.ok sc (fun vs H Q E h => ?len) (fun cdv A outer s H vs Q E hr h => ⟨_, PSs.nox (pss_one (ps_ret (pe_op oAdd (pv 1) (pe_op oMod (pe_op oSub (pe_fld (pv 0) rfl) (pv 1)) (pe_fld (pv 0) rfl))))), ?rd⟩), F.bindsN fun _ _ _ _ _ _ us hl => match us, hl with | [_, _], _ => rfl⟩, T.cls 16⟩
  case len =>
    obtain ⟨a, s, o, t, rfl, _⟩ := h
    rfl
  case rd =>
    obtain ⟨a, s, o, t, rfl, hg, h1, hQ⟩ := h
    show tRet _ ⟨_, _, _, _⟩ [some (.ref a), some (.int t)] H
    try dsimp only [cxOf]
    obtain ⟨dx, ha⟩ := hg
    have hcl_Grid : Cls K (He.ga K "Grid") := T.cls 16
    have hn_Grid_step : NoAttr K (He.ga K "Grid") "step" := T.noat 17
    have hn_Grid_offset : NoAttr K (He.ga K "Grid") "offset" := T.noat 18
    walk_at "ra"
    exact hQ

end
end My
namespace My
open PySem PySem.Spec PyProof.Rows L2 Rd
section
variable {P : Program} {w : World} {K : PySem.W.Frag} {mg : Str → Option Value} {base : Heap}
open GcdM
/-- another thing: an int, a tuple -/
inductive Oth (K : PySem.W.Frag) (H : Hp) : V → Prop
  | int (j : Int) : Oth K H (.int j)
  | tup {a : Addr} {xs : List V} (e : H a = some (.tup xs)) : Oth K H (.ref a)
def spInG5 (K : PySem.W.Frag) : Sp := fun vs H Q _ => ∃ (a : Addr) (s o n : Int), vs = [.ref a, .int n] ∧ IsGrid K H a s o ∧ 1 ≤ s ∧ Q (.bl (decide ((n - o) % s = 0))) H
def spWithin (K : PySem.W.Frag) : Sp := fun vs H Q _ => ∃ (a b : Addr) (s o t u : Int), vs = [.ref a, .ref b] ∧ IsGrid K H a s o ∧ IsGrid K H b t u ∧ 1 ≤ t ∧ Q (.bl (decide (s % t = 0) && decide ((o - u) % t = 0))) H
def spEq (K : PySem.W.Frag) : Sp := fun vs H Q _ => ∃ (a : Addr) (s o : Int) (y : V), vs = [.ref a, y] ∧ IsGrid K H a s o ∧ ((Oth K H y ∧ Q (.bl false) H) ∨ ∃ (b : Addr) (t u : Int), y = .ref b ∧ IsGrid K H b t u ∧ Q (.bl (decide (s = t) && decide (o = u))) H)
def spAdd (K : PySem.W.Frag) : Sp := fun vs H Q _ => ∃ (a : Addr) (s o k : Int), vs = [.ref a, .int k] ∧ IsGrid K H a s o ∧ 1 ≤ s ∧ ∀ (c : Addr) (H' : Hp), H c = none → Same H H' → IsGrid K H' c s ((o + k) % s) → Q (.ref c) H'
def spRadd (K : PySem.W.Frag) : Sp := fun vs H Q _ => ∃ (a : Addr) (s o k : Int), vs = [.ref a, .int k] ∧ IsGrid K H a s o ∧ 1 ≤ s ∧ ∀ (c : Addr) (H' : Hp), H c = none → Same H H' → IsGrid K H' c s ((o + k) % s) → Q (.ref c) H'
def spSub (K : PySem.W.Frag) : Sp := fun vs H Q _ => ∃ (a : Addr) (s o k : Int), vs = [.ref a, .int k] ∧ IsGrid K H a s o ∧ 1 ≤ s ∧ ∀ (c : Addr) (H' : Hp), H c = none → Same H H' → IsGrid K H' c s ((o - k) % s) → Q (.ref c) H'
def spExt : Sp := fun vs H Q _ => ∃ (s t : Int), vs = [.int s, .int t] ∧ 1 ≤ s ∧ 1 ≤ t ∧ s < 2 ^ 700 ∧ t < 2 ^ 700 ∧ ∀ (u : Addr) (f : Int) (H' : Hp), H u = none → Same H H' → H' u = some (.tup [.int (g s t), .int f]) → t ∣ f * s - g s t → (f.natAbs : Int) ≤ t → Q (.ref u) H'
def spAnd (K : PySem.W.Frag) : Sp := fun vs H Q E => ∃ (a b : Addr) (s o t u : Int), vs = [.ref a, .ref b] ∧ IsGrid K H a s o ∧ IsGrid K H b t u ∧ 1 ≤ s ∧ 1 ≤ t ∧ s < 2 ^ 700 ∧ t < 2 ^ 700 ∧ (0 ≤ o ∧ o < s) ∧ (0 ≤ u ∧ u < t) ∧
  (g s t ∣ u - o → ∀ (c : Addr) (w : Int) (H' : Hp), H c = none → Same H H' → IsGrid K H' c (lc2 s t) w → 0 ≤ w → w < lc2 s t → s ∣ w - o → t ∣ w - u → Q (.ref c) H') ∧
  (¬ g s t ∣ u - o → ∀ H', Same H H' → E (.ref (He.ga K "Apart")) none H')

end
end My
namespace My
open PySem PySem.Spec PyProof.Rows L2 Rd
section
variable {P : Program} {w : World} {K : PySem.W.Frag} {mg : Str → Option Value} {base : Heap}

theorem sc_Grid___contains__ : FnScope ["self", "tick"] ["self", "tick"] (defScope (inClass (top 15) 6)) := ⟨rfl, rfl, rfl, by decide +kernel, rfl, by decide +kernel, by decide +kernel⟩
theorem g_Grid___contains__ (T : Tx fa fn xa fs P w K mg) : MtG P w K mg base CX0 1 (He.ga K "Grid") "__contains__" ["self", "tick"] (spInG5 K) := by
  obtain ⟨fd, F⟩ := T.says.def_ 9 (d := d_Grid___contains__) rfl
  have sc := sc_Grid___contains__
  refine ⟨⟨_, fd, T.meth 23, F.ok sc (fun vs H Q E h => ?len) (fun cdv A outer s H vs Q E hr h => ⟨_, PSs.nox (pss_one (ps_ret (pe_cmpR op_eq (pe_op oMod (pe_op oSub (pv 1) (pe_fld (pv 0) rfl)) (pe_fld (pv 0) rfl)) pe_int (nomark _)))), ?rd⟩), F.bindsN fun _ _ _ _ _ _ us hl => match us, hl with | [_, _], _ => rfl⟩, T.cls 16⟩
  case len =>
    obtain ⟨a, s, o, n, rfl, _⟩ := h
    rfl
  case rd =>
    obtain ⟨a, s, o, n, rfl, hs, s1, hQ⟩ := h
    show tRet _ ⟨_, _, _, _⟩ [some (.ref a), some (.int n)] H
    try dsimp only [cxOf]
    obtain ⟨dx, e⟩ := hs
    have hcl_Grid : Cls K (He.ga K "Grid") := T.cls 16
    have hn_Grid_step : NoAttr K (He.ga K "Grid") "step" := T.noat 17
    have hn_Grid_offset : NoAttr K (He.ga K "Grid") "offset" := T.noat 18
    walk_at "rl"
    exact hQ

end
end My
namespace My
open PySem PySem.Spec PyProof.Rows L2 Rd
section
variable {P : Program} {w : World} {K : PySem.W.Frag} {mg : Str → Option Value} {base : Heap}

theorem sc_Grid_within : FnScope ["self", "other"] ["self", "other"] (defScope (inClass (top 15) 5)) := ⟨rfl, rfl, rfl, by decide +kernel, rfl, by decide +kernel, by decide +kernel⟩
theorem g_Grid_within (T : Tx fa fn xa fs P w K mg) : MtG P w K mg base CX0 3 (He.ga K "Grid") "within" ["self", "other"] (spWithin K) := by
  obtain ⟨fd, F⟩ := T.says.def_ 10 (d := d_Grid_within) rfl
  have sc := sc_Grid_within
  refine ⟨⟨_, fd, T.meth 24, F.ok sc (fun vs H Q E h => ?len) (fun cdv A outer s H vs Q E hr h => ⟨_, PSs.nox (pss_one (ps_ret (pe_and (pe_cmpR op_eq (pe_op oMod (pe_fld (pv 0) rfl) (pe_fld (pv 1) rfl)) pe_int (nomark _)) (pe_one (pe_cmpR (oInG (g_Grid___contains__ T) (hr.mono (by decide))) (pe_fld (pv 0) rfl) (pv 1) (by with_unfolding_all rfl)))))), ?rd⟩), F.bindsN fun _ _ _ _ _ _ us hl => match us, hl with | [_, _], _ => rfl⟩, T.cls 16⟩
  case len =>
    obtain ⟨a, b, s, o, t, u, rfl, _⟩ := h
    rfl
  case rd =>
    obtain ⟨a, b, s, o, t, u, rfl, hs, ht, t1, hQ⟩ := h
    show tRet _ ⟨_, _, _, _⟩ [some (.ref a), some (.ref b)] H
    try dsimp only [cxOf]
    obtain ⟨dx, e⟩ := id hs
    obtain ⟨dy, e2⟩ := id ht
    have hcl_Grid : Cls K (He.ga K "Grid") := T.cls 16
    have hn_Grid_step : NoAttr K (He.ga K "Grid") "step" := T.noat 17
    have hn_Grid_offset : NoAttr K (He.ga K "Grid") "offset" := T.noat 18
    walk_at "rl"
    · rename_i c
      rw [decide_eq_true c, Bool.true_and] at hQ
      refine w_inG e2 ⟨b, t, u, o, rfl, ht, t1, _, rfl, ?_⟩
      exact hQ
    · rename_i c
      rw [decide_eq_false c, Bool.false_and] at hQ
      exact hQ

end
end My
namespace My
open PySem PySem.Spec PyProof.Rows L2 Rd
section
variable {P : Program} {w : World} {K : PySem.W.Frag} {mg : Str → Option Value} {base : Heap}

theorem sc_Grid___eq__ : FnScope ["self", "other"] ["self", "other"] (defScope (inClass (top 15) 7)) := ⟨rfl, rfl, rfl, by decide +kernel, rfl, by decide +kernel, by decide +kernel⟩
theorem g_Grid___eq__ (T : Tx fa fn xa fs P w K mg) : MtG P w K mg base CX0 1 (He.ga K "Grid") "__eq__" ["self", "other"] (spEq K) := by
  obtain ⟨fd, F⟩ := T.says.def_ 11 (d := d_Grid___eq__) rfl
  have sc := sc_Grid___eq__
  refine ⟨⟨_, fd, T.meth 25, F.ok sc (fun vs H Q E h => ?len) (fun cdv A outer s H vs Q E hr h => ⟨_, PSs.nox (pss_one (ps_ret (pe_and (pe_callB cIsi (by rfl) (T.free 0) (by decide +kernel) (pa_cons (pv 1) (pa_cons (pe_glob (v := .ref (He.ga K "Grid")) (by rfl) (T.glo 19) rfl) pa_nil))) (pe_and (pe_cmpR op_eq (pe_fld (pv 0) rfl) (pe_fld (pv 1) rfl) (nomark _)) (pe_one (pe_cmpR op_eq (pe_fld (pv 0) rfl) (pe_fld (pv 1) rfl) (nomark _))))))), ?rd⟩), F.bindsN fun _ _ _ _ _ _ us hl => match us, hl with | [_, _], _ => rfl⟩, T.cls 16⟩
  case len =>
    obtain ⟨a, s, o, y, rfl, _⟩ := h
    rfl
  case rd =>
    obtain ⟨a, s, o, y, rfl, hs, hQ⟩ := h
    show tRet _ ⟨_, _, _, _⟩ [some (.ref a), some (y)] H
    try dsimp only [cxOf]
    obtain ⟨dx, e⟩ := hs
    have hcl_Grid : Cls K (He.ga K "Grid") := T.cls 16
    have hn_Grid_step : NoAttr K (He.ga K "Grid") "step" := T.noat 17
    have hn_Grid_offset : NoAttr K (He.ga K "Grid") "offset" := T.noat 18
    have hty_Grid : ∀ {H : Hp} {a dx : Addr} {l : List (Str × V)}, H a = some (.ins (He.ga K "Grid") dx l) → TyX K H (.ref a) (.ref (He.ga K "Grid")) := fun e => T.inst 2 rfl (T.cls 16) e
    have hk_Grid_Grid : PySem.W.kitOne K (.ref (He.ga K "Grid")) (.ref (He.ga K "Grid")) = some true := T.kit 3 rfl
    have hk_int_Grid : PySem.W.kitOne K (.type "int") (.ref (He.ga K "Grid")) = some false := T.tkit 4 rfl
    have hk_tuple_Grid : PySem.W.kitOne K (.type "tuple") (.ref (He.ga K "Grid")) = some false := T.tkit 5 rfl
    rcases hQ with ⟨ho, hQ⟩ | ⟨b, t, u, rfl, ⟨dy, e2⟩, hQ⟩
    · walk_at "rl"
      cases ho with
      | int j =>
        refine w_isiO (.base (.int j)) hk_int_Grid ?_
        walk_at "rl"
        exact hQ
      | tup et =>
        refine w_isiO (.base (.tup et)) hk_tuple_Grid ?_
        walk_at "rl"
        exact hQ
    · walk_at "rl"
      refine w_isi_own (hty_Grid e2) hk_Grid_Grid ?_
      walk_at "rl"
      all_goals first
        | (rename_i c; rw [decide_eq_true c, Bool.true_and] at hQ; exact hQ)
        | (rename_i c; rw [decide_eq_false c, Bool.false_and] at hQ; exact hQ)

end
end My
namespace My
open PySem PySem.Spec PyProof.Rows L2 Rd
section
variable {P : Program} {w : World} {K : PySem.W.Frag} {mg : Str → Option Value} {base : Heap}

theorem sc_Grid___add__ : FnScope ["self", "ticks"] ["self", "ticks"] (defScope (inClass (top 15) 9)) := ⟨rfl, rfl, rfl, by decide +kernel, rfl, by decide +kernel, by decide +kernel⟩
theorem g_Grid___add__ (T : Tx fa fn xa fs P w K mg) : MtG P w K mg base CX0 5 (He.ga K "Grid") "__add__" ["self", "ticks"] (spAdd K) := by
  obtain ⟨fd, F⟩ := T.says.def_ 12 (d := d_Grid___add__) rfl
  have sc := sc_Grid___add__
  refine ⟨⟨_, fd, T.meth 26, F.ok sc (fun vs H Q E h => ?len) (fun cdv A outer s H vs Q E hr h => ⟨_, PSs.nox (pss_one (ps_ret (pe_mkE (mk_Grid2 T) (hr.mono (by decide)) rfl passL (pa_cons (pe_fld (pv 0) rfl) (pa_cons (pe_op oAdd (pe_fld (pv 0) rfl) (pv 1)) pa_nil))))), ?rd⟩), F.bindsN fun _ _ _ _ _ _ us hl => match us, hl with | [_, _], _ => rfl⟩, T.cls 16⟩
  case len =>
    obtain ⟨a, s, o, k, rfl, _⟩ := h
    rfl
  case rd =>
    obtain ⟨a, s, o, k, rfl, hs, s1, hQ⟩ := h
    show tRet _ ⟨_, _, _, _⟩ [some (.ref a), some (.int k)] H
    try dsimp only [cxOf]
    obtain ⟨dx, e⟩ := hs
    have hcl_Grid : Cls K (He.ga K "Grid") := T.cls 16
    have hn_Grid_step : NoAttr K (He.ga K "Grid") "step" := T.noat 17
    have hn_Grid_offset : NoAttr K (He.ga K "Grid") "offset" := T.noat 18
    walk_at "rl"
    refine use_grid (Makes.ok (bad_f (by omega)) fun c1 dx1 H2 hc1 s2 e3 => ?_)
    walk_at "rl"
    exact hQ c1 H2 hc1 s2 ⟨_, e3⟩

end
end My
namespace My
open PySem PySem.Spec PyProof.Rows L2 Rd
section
variable {P : Program} {w : World} {K : PySem.W.Frag} {mg : Str → Option Value} {base : Heap}

theorem sc_Grid___radd__ : FnScope ["self", "ticks"] ["self", "ticks"] (defScope (inClass (top 15) 10)) := ⟨rfl, rfl, rfl, by decide +kernel, rfl, by decide +kernel, by decide +kernel⟩
theorem g_Grid___radd__ (T : Tx fa fn xa fs P w K mg) : MtG P w K mg base CX0 5 (He.ga K "Grid") "__radd__" ["self", "ticks"] (spRadd K) := by
  obtain ⟨fd, F⟩ := T.says.def_ 13 (d := d_Grid___radd__) rfl
  have sc := sc_Grid___radd__
  refine ⟨⟨_, fd, T.meth 27, F.ok sc (fun vs H Q E h => ?len) (fun cdv A outer s H vs Q E hr h => ⟨_, PSs.nox (pss_one (ps_ret (pe_mkE (mk_Grid2 T) (hr.mono (by decide)) rfl passL (pa_cons (pe_fld (pv 0) rfl) (pa_cons (pe_op oAdd (pv 1) (pe_fld (pv 0) rfl)) pa_nil))))), ?rd⟩), F.bindsN fun _ _ _ _ _ _ us hl => match us, hl with | [_, _], _ => rfl⟩, T.cls 16⟩
  case len =>
    obtain ⟨a, s, o, k, rfl, _⟩ := h
    rfl
  case rd =>
    obtain ⟨a, s, o, k, rfl, hs, s1, hQ⟩ := h
    show tRet _ ⟨_, _, _, _⟩ [some (.ref a), some (.int k)] H
    try dsimp only [cxOf]
    obtain ⟨dx, e⟩ := hs
    have hcl_Grid : Cls K (He.ga K "Grid") := T.cls 16
    have hn_Grid_step : NoAttr K (He.ga K "Grid") "step" := T.noat 17
    have hn_Grid_offset : NoAttr K (He.ga K "Grid") "offset" := T.noat 18
    walk_at "rl"
    refine use_grid (Makes.ok (bad_f (by omega)) fun c1 dx1 H2 hc1 s2 e3 => ?_)
    walk_at "rl"
    exact hQ c1 H2 hc1 s2 ⟨_, by rw [Int.add_comm o k]; exact e3⟩

end
end My
namespace My
open PySem PySem.Spec PyProof.Rows L2 Rd
section
variable {P : Program} {w : World} {K : PySem.W.Frag} {mg : Str → Option Value} {base : Heap}

theorem sc_Grid___sub__ : FnScope ["self", "ticks"] ["self", "ticks"] (defScope (inClass (top 15) 11)) := ⟨rfl, rfl, rfl, by decide +kernel, rfl, by decide +kernel, by decide +kernel⟩
theorem g_Grid___sub__ (T : Tx fa fn xa fs P w K mg) : MtG P w K mg base CX0 5 (He.ga K "Grid") "__sub__" ["self", "ticks"] (spSub K) := by
  obtain ⟨fd, F⟩ := T.says.def_ 14 (d := d_Grid___sub__) rfl
  have sc := sc_Grid___sub__
  refine ⟨⟨_, fd, T.meth 28, F.ok sc (fun vs H Q E h => ?len) (fun cdv A outer s H vs Q E hr h => ⟨_, PSs.nox (pss_one (ps_ret (pe_mkE (mk_Grid2 T) (hr.mono (by decide)) rfl passL (pa_cons (pe_fld (pv 0) rfl) (pa_cons (pe_op oSub (pe_fld (pv 0) rfl) (pv 1)) pa_nil))))), ?rd⟩), F.bindsN fun _ _ _ _ _ _ us hl => match us, hl with | [_, _], _ => rfl⟩, T.cls 16⟩
  case len =>
    obtain ⟨a, s, o, k, rfl, _⟩ := h
    rfl
  case rd =>
    obtain ⟨a, s, o, k, rfl, hs, s1, hQ⟩ := h
    show tRet _ ⟨_, _, _, _⟩ [some (.ref a), some (.int k)] H
    try dsimp only [cxOf]
    obtain ⟨dx, e⟩ := hs
    have hcl_Grid : Cls K (He.ga K "Grid") := T.cls 16
    have hn_Grid_step : NoAttr K (He.ga K "Grid") "step" := T.noat 17
    have hn_Grid_offset : NoAttr K (He.ga K "Grid") "offset" := T.noat 18
    walk_at "rl"
    refine use_grid (Makes.ok (bad_f (by omega)) fun c1 dx1 H2 hc1 s2 e3 => ?_)
    walk_at "rl"
    exact hQ c1 H2 hc1 s2 ⟨_, e3⟩

end
end My
namespace My
open PySem PySem.Spec PyProof.Rows L2 Rd
section
variable {P : Program} {w : World} {K : PySem.W.Frag} {mg : Str → Option Value} {base : Heap}
open GcdM

theorem sc_extended_gcd : FnScope ["first", "second", "divisor", "rest", "factor", "next_factor", "quotient"] ["first", "second"] (defScope (top 14)) := ⟨rfl, rfl, rfl, by decide +kernel, rfl, by decide +kernel, by decide +kernel⟩
theorem g_extended_gcd (T : Tx fa fn xa fs P w K mg) : FnG P w K mg base CX0 1 "extended_gcd" ["first", "second"] spExt := by
  obtain ⟨fd, F⟩ := T.says.def_ 15 (d := d_extended_gcd) rfl
  have sc := sc_extended_gcd
  refine ⟨_, fd, T.glo 29, F.kp, F.ok sc (fun vs H Q E h => ?len) (fun cdv A outer s H vs Q E hr h => ⟨_, PSs.nox (pss_cons (ps_par (i := 2) (j := 3) rfl sc.nd rfl rfl (by decide) rfl rfl (pa_cons (pv 0) (pa_cons (pv 1) pa_nil)) (by rfl))
    (pss_cons (ps_asg (pe_tup (pa_cons pe_int (pa_cons pe_int pa_nil))) (pg_tup (n := 2) rfl (pgs_cons (pg_name (i := 4) sc.nd rfl (by first | exact Or.inl rfl | exact Or.inr rfl)) (pgs_cons (pg_name (i := 5) sc.nd rfl (by first | exact Or.inl rfl | exact Or.inr rfl)) pgs_nil))))
    (pss_cons (ps_while PassesOwn.never (pt_cmpR oGt (pv 3) pe_int (nomark _)) (pss_cons (ps_set (i := 6) sc.nd rfl (by first | exact Or.inl rfl | exact Or.inr rfl) (pe_op oDiv (pv 2) (pv 3)))
    (pss_cons (ps_par (i := 2) (j := 3) rfl sc.nd rfl rfl (by decide) rfl rfl (pa_cons (pv 3) (pa_cons (pe_op oSub (pv 2) (pe_op oMul (pv 6) (pv 3))) pa_nil)) (by rfl))
    (pss_one (ps_par (i := 4) (j := 5) rfl sc.nd rfl rfl (by decide) rfl rfl (pa_cons (pv 5) (pa_cons (pe_op oSub (pv 4) (pe_op oMul (pv 6) (pv 5))) pa_nil)) (by rfl))))))
    (pss_one (ps_ret (pe_tup (pa_cons (pv 2) (pa_cons (pv 4) pa_nil)))))))), ?rd⟩), F.bindsN fun _ _ _ _ _ _ us hl => match us, hl with | [_, _], _ => rfl⟩
  case len =>
    obtain ⟨s, t, rfl, _⟩ := h
    rfl
  case rd =>
    obtain ⟨s, t, rfl, s1, t1, s7, t7, hQ⟩ := h
    show tSeq _ _ ⟨_, _, _, _⟩ [some (.int s), some (.int t), none, none, none, none, none] H
    try dsimp only [cxOf]
    walk_at "rl"
    rename_i tt H1 n1 s1' e1
    clear e1
    refine w_while (fun m σ H' => H' = H1 ∧ ∃ (d r f n : Int) (q : Option V), r.toNat = m ∧ Ex s t d r f n ∧ d < 2 ^ 700 ∧ r < 2 ^ 700 ∧ σ = [some (.int s), some (.int t), some (.int d), some (.int r), some (.int f), some (.int n), q]) t.toNat ⟨rfl, s, t, 1, 0, none, rfl, ex_start s1 t1, s7, t7, rfl⟩ ?_
    rintro m σ H' ⟨rfl, d, r, f, n, q, rfl, ex, d7, r7, rfl⟩
    have d1 := ex.d1
    have r0 := ex.r0
    have nt := ex.nt
    have q0 : 0 < r → 0 ≤ d / r := fun c => Int.ediv_nonneg (by omega) (by omega)
    have q1 : 0 < r → d / r ≤ d := fun c => Int.ediv_le_self _ (by omega)
    walk_at "rl"
    · refine w_div (wide_div (b := 700) (by omega) (by omega) (by decide) (by decide)) ?_
      rename_i c
      have q0 := q0 c
      have q1 := q1 c
      walk_at "rl"
      refine w_mul (.inr (wide_mul (a := 700) (b := 700) (by omega) (by omega) (by decide) (by decide) (by decide))) ?_
      walk_at "rl"
      refine w_mul (.inr (wide_mul (a := 700) (b := 700) (by omega) (by omega) (by decide) (by decide) (by decide))) ?_
      walk_at "rl"
      have st := ex_step ex c
      have rr : d - d / r * r < r := by
        rw [show d - d / r * r = d % r by rw [Int.emod_def, Int.mul_comm]]
        exact Int.emod_lt_of_pos _ c
      refine less_of ⟨rfl, _, _, _, _, _, rfl, st, by omega, by omega, rfl⟩ (by have := st.r0; omega)
    · rename_i c u Hu nu su eu
      have r00 : r = 0 := by omega
      clear c q0 q1
      subst r00
      obtain ⟨rfl, df, ft⟩ := ex_end ex
      exact hQ u f Hu (s1'.free nu) (s1'.trans su) eu df ft

end
end My
namespace My
open PySem PySem.Spec PyProof.Rows L2 Rd
section
variable {P : Program} {w : World} {K : PySem.W.Frag} {mg : Str → Option Value} {base : Heap}
open GcdM

theorem sc_Grid___and__ : FnScope ["self", "other", "divisor", "factor", "distance", "many", "steps"] ["self", "other"] (defScope (inClass (top 15) 12)) := ⟨rfl, rfl, rfl, by decide +kernel, rfl, by decide +kernel, by decide +kernel⟩
theorem g_Grid___and__ (T : Tx fa fn xa fs P w K mg) : MtG P w K mg base (CX P w) 6 (He.ga K "Grid") "__and__" ["self", "other"] (spAnd K) := by
  obtain ⟨fd, F⟩ := T.says.def_ 16 (d := d_Grid___and__) rfl
  have sc := sc_Grid___and__
  refine ⟨⟨_, fd, T.meth 30, F.ok sc (fun vs H Q E h => ?len) (fun cdv A outer s H vs Q E hr h => ⟨_, (pss_cons (ps_asg (pe_cg (g_extended_gcd T) (hr.mono (by decide)) rfl (pa_cons (pe_fld (pv 0) rfl) (pa_cons (pe_fld (pv 1) rfl) pa_nil))) (pg_tup (n := 2) rfl (pgs_cons (pg_name (i := 2) sc.nd rfl (by first | exact Or.inl rfl | exact Or.inr rfl)) (pgs_cons (pg_name (i := 3) sc.nd rfl (by first | exact Or.inl rfl | exact Or.inr rfl)) pgs_nil))))
    (pss_cons (ps_set (i := 4) sc.nd rfl (by first | exact Or.inl rfl | exact Or.inr rfl) (pe_op oSub (pe_fld (pv 1) rfl) (pe_fld (pv 0) rfl)))
    (pss_cons (ps_if (pt_cmpR op_ne (pe_op oMod (pv 4) (pv 2)) pe_int (nomark _)) (pss_one (ps_raise rfl (takes_of rfl rfl rfl rfl) (pmk_g0 (x_Apart T) (hr.mono (by decide)) rfl))) pss_nil)
    (pss_cons (ps_set (i := 5) sc.nd rfl (by first | exact Or.inl rfl | exact Or.inr rfl) (pe_op oDiv (pe_fld (pv 1) rfl) (pv 2)))
    (pss_cons (ps_set (i := 6) sc.nd rfl (by first | exact Or.inl rfl | exact Or.inr rfl) (pe_op oMod (pe_op oMul (pe_op oDiv (pv 4) (pv 2)) (pv 3)) (pv 5)))
    (pss_one (ps_ret (pe_mkE (mk_Grid2 T) (hr.mono (by decide)) rfl (passes_call (takes_of rfl rfl rfl rfl) (fun _ _ _ _ z => z)) (pa_cons (pe_op oMul (pe_fld (pv 0) rfl) (pv 5)) (pa_cons (pe_op oAdd (pe_fld (pv 0) rfl) (pe_op oMul (pe_fld (pv 0) rfl) (pv 6))) pa_nil)))))))))), ?rd⟩), F.bindsN fun _ _ _ _ _ _ us hl => match us, hl with | [_, _], _ => rfl⟩, T.cls 16⟩
  case len =>
    obtain ⟨a, b, s, o, t, u, rfl, _⟩ := h
    rfl
  case rd =>
    obtain ⟨a, b, s, o, t, u, rfl, hs, ht, s1, t1, s7, t7, ho, hu, hQ, hX⟩ := h
    show tSeq _ _ ⟨_, _, _, _⟩ [some (.ref a), some (.ref b), none, none, none, none, none] H
    try dsimp only [cxOf]
    obtain ⟨dx, e⟩ := id hs
    obtain ⟨dy, e2⟩ := id ht
    have hcl_Grid : Cls K (He.ga K "Grid") := T.cls 16
    have hn_Grid_step : NoAttr K (He.ga K "Grid") "step" := T.noat 17
    have hn_Grid_offset : NoAttr K (He.ga K "Grid") "offset" := T.noat 18
    have gp := g_pos (b := t) (show 0 < s by omega)
    have gt : g s t ≤ t := Int.le_of_dvd (by omega) g_dvd2
    have gs : g s t ≤ s := Int.le_of_dvd (by omega) g_dvd1
    have m0 : 0 ≤ t / g s t := Int.ediv_nonneg (by omega) (by omega)
    have m1 : t / g s t ≤ t := Int.ediv_le_self _ (by omega)
    have mp : 0 < t / g s t := Int.ediv_pos_of_pos_of_dvd (by omega) (by omega) g_dvd2
    walk_at "rl"
    refine ⟨s, t, rfl, s1, t1, s7, t7, fun p f H1 np sp ep df ft => ?_⟩
    walk_at "rl"
    · rename_i c
      have dv : g s t ∣ u - o := Int.dvd_of_emod_eq_zero c
      obtain ⟨mt1, mt2⟩ := meets s1 t1 df dv
      have kb := div_abs dv gp
      have e0 := Int.emod_nonneg ((u - o) / g s t * f) (show t / g s t ≠ 0 by omega)
      have e1 := Int.emod_lt_of_pos ((u - o) / g s t * f) mp
      refine w_div (wide_div (b := 700) (by omega) (by omega) (by decide) (by decide)) ?_
      walk_at "rl"
      refine w_div (wide_div (b := 700) (by omega) (by omega) (by decide) (by decide)) ?_
      walk_at "rl"
      refine w_mul (.inr (wide_mul (a := 701) (b := 701) (by omega) (by omega) (by decide) (by decide) (by decide))) ?_
      walk_at "rl"
      refine w_mul (.inr (wide_mul (a := 701) (b := 701) (by omega) (by omega) (by decide) (by decide) (by decide))) ?_
      walk_at "rl"
      refine w_mul (.inr (wide_mul (a := 701) (b := 701) (by omega) (by omega) (by decide) (by decide) (by decide))) ?_
      walk_at "rl"
      rw [lc2_alt s1 t1]
      have lp := lc2_pos s1 t1
      refine use_grid (Makes.ok (bad_f (by omega)) fun c1 dx1 H2 hc1 s2 e3 => ?_)
      walk_at "rl"
      exact hQ dv c1 _ H2 (sp.free hc1) (sp.trans s2) ⟨_, e3⟩ (Int.emod_nonneg _ (by omega)) (Int.emod_lt_of_pos _ (by omega)) (mod_dvd (lc2_dvd1 s1 t1) mt1) (mod_dvd (lc2_dvd2 s1 t1) mt2)
    · rename_i c
      exact hX (fun z => c (Int.emod_eq_zero_of_dvd z)) _ sp

end
end My
namespace My
open PySem PySem.Spec PyProof.Rows L2 Rd
section
variable {P : Program} {w : World} {K : PySem.W.Frag} {mg : Str → Option Value} {base : Heap}
open GcdM
/-- the grids at as are those of rs -/
def GrsAt (K : PySem.W.Frag) (H : Hp) (as : List Addr) (rs : List (Int × Int)) : Prop := as.length = rs.length ∧ ∀ (i : Nat) (a : Addr) (z : Int × Int), as[i]? = some a → rs[i]? = some z → IsGrid K H a z.1 (z.2 % z.1)
theorem GrsAt.keep {H H' : Hp} {as : List Addr} {rs : List (Int × Int)} (h : GrsAt K H as rs) (s : Same H H') : GrsAt K H' as rs := ⟨h.1, fun i a z e1 e2 => (h.2 i a z e1 e2).keep s⟩
/-- a grid of the common ticks -/
def GrC (K : PySem.W.Frag) (H : Hp) (a : Addr) (rs : List (Int × Int)) : Prop := ∃ o : Int, IsGrid K H a (lc rs) o ∧ 0 ≤ o ∧ o < lc rs ∧ Bar o rs
theorem GrC.keep {H H' : Hp} {a : Addr} {rs : List (Int × Int)} (h : GrC K H a rs) (s : Same H H') : GrC K H' a rs := let ⟨o, e, r⟩ := h; ⟨o, e.keep s, r⟩
/-- the next one -/
theorem use_and {H : Hp} {Q : VK} {E : XK} {a b : Addr} {rs : List (Int × Int)} {z : Int × Int} (hs : Stp (rs ++ [z])) (sm : Sml (rs ++ [z])) (l6 : rs.length ≤ 6) (ha : GrC K H a rs) (hb : IsGrid K H b z.1 (z.2 % z.1))
    (hQ : Comp (rs ++ [z]) → ∀ (c : Addr) (H' : Hp), H c = none → Same H H' → GrC K H' c (rs ++ [z]) → Q (.ref c) H') (hX : ¬ Comp (rs ++ [z]) → ∀ H', Same H H' → E (.ref (He.ga K "Apart")) none H') : spAnd K [.ref a, .ref b] H Q E := by
  obtain ⟨o, ho, o0, o1, bo⟩ := ha
  have h1 : Stp rs := fun w m => hs w (List.mem_append_left _ m)
  have k1 : Sml rs := fun w m => sm w (List.mem_append_left _ m)
  have h2 := hs z (List.mem_append_right _ (List.mem_singleton.mpr rfl))
  have k2 := sm z (List.mem_append_right _ (List.mem_singleton.mpr rfl))
  have lp := lc_pos h1
  have l7 := lc_lt6 h1 k1 l6
  have m0 := Int.emod_nonneg z.2 (show z.1 ≠ 0 by omega)
  have m1 := Int.emod_lt_of_pos z.2 (show 0 < z.1 by omega)
  have key : g (lc rs) z.1 ∣ z.2 % z.1 - o ↔ Comp (rs ++ [z]) := by
    rw [← next_iff hs bo]
    have e : z.1 ∣ z.2 - z.2 % z.1 := ⟨z.2 / z.1, by rw [Int.emod_def]; omega⟩
    have e2 := Int.dvd_trans (g_dvd2 (a := lc rs) (b := z.1)) e
    constructor
    · intro q
      have := Int.dvd_add q e2
      rwa [show z.2 % z.1 - o + (z.2 - z.2 % z.1) = z.2 - o by omega] at this
    · intro q
      have := Int.dvd_sub q e2
      rwa [show z.2 - o - (z.2 - z.2 % z.1) = z.2 % z.1 - o by omega] at this
  refine ⟨a, b, lc rs, o, z.1, z.2 % z.1, rfl, ho, hb, lp, h2, l7, by omega, ⟨o0, o1⟩, ⟨m0, m1⟩, fun q c w H' hc s hg w0 w1 d1 d2 => ?_, fun q H' s => hX (fun c => q (key.mpr c)) H' s⟩
  rw [← lc_snoc] at hg w1
  refine hQ (key.mp q) c H' hc s ⟨w, hg, w0, w1, fun y m => ?_⟩
  rcases List.mem_append.mp m with m | m
  · have := Int.dvd_add (Int.dvd_trans (lc_dvd h1 y m) d1) (bo y m)
    rwa [show w - o + (o - y.2) = w - y.2 by omega] at this
  · rw [List.mem_singleton.mp m]
    have e : z.1 ∣ z.2 % z.1 - z.2 := ⟨-(z.2 / z.1), by rw [Int.emod_def, Int.mul_neg]; omega⟩
    have := Int.dvd_add d2 e
    rwa [show w - z.2 % z.1 + (z.2 % z.1 - z.2) = w - z.2 by omega] at this
def spCommon (K : PySem.W.Frag) : Sp := fun vs H Q E => ∃ (p : Addr) (as : List Addr) (rs : List (Int × Int)), vs = [.ref p] ∧ H p = some (.tup (as.map V.ref)) ∧ GrsAt K H as rs ∧ Stp rs ∧ Sml rs ∧ rs.length ≤ 6 ∧
  (Comp rs → ∀ (c : Addr) (H' : Hp), H c = none → Same H H' → GrC K H' c rs → Q (.ref c) H') ∧ (¬ Comp rs → ∀ H', Same H H' → E (.ref (He.ga K "Apart")) none H')

theorem sc_common_grid : FnScope ["grids", "common", "grid"] ["grids"] (defScope (top 16)) := ⟨rfl, rfl, rfl, by decide +kernel, rfl, by decide +kernel, by decide +kernel⟩
theorem g_common_grid (T : Tx fa fn xa fs P w K mg) : StarG P w K mg base (CX P w) 7 "common_grid" (spCommon K) := by
  obtain ⟨fd, F⟩ := T.says.def_ 17 (d := d_common_grid) rfl
  have sc := sc_common_grid
  refine ⟨_, T.glo 31, F.kp, Rd.FunD.star F sc StX.cxUp (fun _ _ _ _ _ _ rest => by cases rest <;> rfl) (fun cdv A outer s H vs Q E hr h => ⟨_, (pss_cons (ps_set (i := 1) sc.nd rfl (by first | exact Or.inl rfl | exact Or.inr rfl) (pe_mkE (mk_Grid1 T) (hr.mono (by decide)) rfl (passes_call (takes_of rfl rfl rfl rfl) (fun _ _ _ _ z => z)) (pa_cons pe_int pa_nil)))
    (pss_cons (ps_for (passes_of rfl) rfl (pi_tup (pv 0)) (pg_name (i := 2) sc.nd rfl (by first | exact Or.inl rfl | exact Or.inr rfl)) (pss_one (ps_set (i := 1) sc.nd rfl (by first | exact Or.inl rfl | exact Or.inr rfl) (pe_binS (op := .BitAnd) (C := He.ga K "Grid") (sp := (spAnd K)) (E := fun _ => _) (g_Grid___and__ T) (T.self1 6) (hr.mono (by decide)) (fun σ => Passes.at_ (passes_call (takes_of rfl rfl rfl rfl) (fun _ _ _ _ z => z)) σ) (pv 1) (pv 2)))))
    (pss_one (ps_ret (pv 1))))), ?rd⟩)⟩
  case rd =>
    obtain ⟨p, as, rs, rfl, hp, hz, hs, sm, l6, hQ, hX⟩ := h
    show tSeq _ _ ⟨_, _, _, _⟩ [some (.ref p), none, none] H
    try dsimp only [cxOf]
    have hcl_Grid : Cls K (He.ga K "Grid") := T.cls 16
    have hn_Grid_step : NoAttr K (He.ga K "Grid") "step" := T.noat 17
    have hn_Grid_offset : NoAttr K (He.ga K "Grid") "offset" := T.noat 18
    walk_at "rl"
    refine use_grid0 (Makes.ok (bad_f (by decide)) fun c0 dx0 H1 n1 s1 e1 => ?_)
    have hp1 := s1 _ _ hp
    have g0 : GrC K H1 c0 (rs.take 0) := by
      rw [List.take_zero]
      exact ⟨0, ⟨dx0, e1⟩, by decide, by decide, fun z m => nomatch m⟩
    walk_at "rl"
    refine ⟨p, rfl, ⟨_, SqT.of hp1⟩, for_tup (xs := as.map V.ref) (fun i σ H' => Same H H' ∧ ∃ (c : Addr) (v2 : Option V), H c = none ∧ GrC K H' c (rs.take i) ∧ σ = [some (.ref p), some (.ref c), v2]) ⟨s1, c0, _, n1, g0, rfl⟩ (fun i σ H' _ z => SqT.of (z.1 _ _ hp)) ?_ ?_⟩
    · rintro i x σ H2 hx ⟨s2, c, v2, cn, gc, rfl⟩
      rw [List.getElem?_map] at hx
      obtain ⟨a, ha, rfl⟩ := Option.map_eq_some_iff.mp hx
      have hi : i < rs.length := by rw [← hz.1]; exact (List.getElem?_eq_some_iff.mp ha).1
      obtain ⟨z, ez⟩ : ∃ z, rs[i]? = some z := ⟨_, List.getElem?_eq_getElem hi⟩
      have ga := (hz.2 i a z ha ez).keep s2
      obtain ⟨o, ⟨dxc, ec⟩, _⟩ := id gc
      obtain ⟨dxa, ea⟩ := id ga
      have tk : rs.take (i + 1) = rs.take i ++ [z] := take_one ez
      have st1 := stp_take hs (i + 1)
      have sm1 : Sml (rs.take (i + 1)) := fun z m => sm z (List.mem_of_mem_take m)
      rw [tk] at st1 sm1
      walk_at "rl"
      refine use_and st1 sm1 (by rw [List.length_take]; omega) gc ga (fun cm c2 H3 n3 s3 g3 => ?_) fun cm H3 s3 => ?_
      · walk_at "rl"
        rw [← tk] at g3
        exact ⟨s2.trans s3, c2, _, s2.free n3, g3, rfl⟩
      · refine hX (fun q => cm ?_) H3 (s2.trans s3)
        rw [← tk]
        exact comp_take q _
    · rintro σ H2 ⟨s2, c, v2, cn, gc, rfl⟩
      rw [List.length_map, hz.1, List.take_length] at gc
      obtain ⟨o, _, _, _, bo⟩ := id gc
      walk_at "rl"
      exact hQ (comp_of bo) c H2 cn s2 gc

end
end My
namespace My
open PySem PySem.Spec PyProof.Rows L2 Rd
section
variable {P : Program} {w : World} {K : PySem.W.Frag} {mg : Str → Option Value} {base : Heap}
def spRow : Sp := fun vs H Q _ => ∃ (p : Addr) (f m : Int), vs = [.ref p, .int f, .int m] ∧ PoolAt H p ∧ 1 ≤ f ∧ f ≤ 10 ^ 27 ∧ ∀ (u : Addr) (z : Int × Int) (H' : Hp), H u = none → 1 ≤ z.1 → z.1 < 2 ^ 100 → Drawn p H H' → H' u = some (.tup [.int z.1, .int z.2]) → Q (.ref u) H'

theorem sc__law_row : FnScope ["_law_pool_here", "_law_factor", "_law_meet", "_law_way", "_law_step_here", "_law_offset"] ["_law_pool_here", "_law_factor", "_law_meet"] (defScope (top 25)) := ⟨rfl, rfl, rfl, by decide +kernel, rfl, by decide +kernel, by decide +kernel⟩
theorem g__law_row (T : Tx fa fn xa fs P w K mg) : FnG P w K mg base CX0 4 "_law_row" ["_law_pool_here", "_law_factor", "_law_meet"] spRow := by
  obtain ⟨fd, F⟩ := T.says.def_ 18 (d := d__law_row) rfl
  have sc := sc__law_row
  refine ⟨_, fd, T.glo 32, F.kp, F.ok sc (fun vs H Q E h => ?len) (fun cdv A outer s H vs Q E hr h => ⟨_, PSs.nox (pss_cons (ps_set (i := 3) sc.nd rfl (by first | exact Or.inl rfl | exact Or.inr rfl) (pe_cg (g__law_take T) (hr.mono (by decide)) rfl (pa_cons (pv 0) (pa_cons pe_int pa_nil))))
    (pss_cons (ps_set (i := 4) sc.nd rfl (by first | exact Or.inl rfl | exact Or.inr rfl) (pe_op oMul (pv 1) (pe_ix ix_seq (pe_lst (pa_cons pe_int (pa_cons pe_int (pa_cons pe_int (pa_cons pe_int (pa_cons pe_int (pa_cons pe_int (pa_cons pe_int (pa_cons pe_int pa_nil))))))))) (pe_cg (g__law_take T) (hr.mono (by decide)) rfl (pa_cons (pv 0) (pa_cons pe_int pa_nil))) (fun _ _ => rfl))))
    (C8.pss_cut (ps_if (pt_cmpR oLt (pv 3) pe_int (nomark _)) (pss_one (ps_set (i := 4) sc.nd rfl (by first | exact Or.inl rfl | exact Or.inr rfl) (pe_cg (g__law_step T) (hr.mono (by decide)) rfl (pa_cons (pv 0) pa_nil)))) pss_nil)
    (pss_cons (ps_set (i := 5) sc.nd rfl (by first | exact Or.inl rfl | exact Or.inr rfl) (pe_op oAdd (pv 2) (pe_op oMul (pv 4) (pe_op oSub (pe_cg (g__law_take T) (hr.mono (by decide)) rfl (pa_cons (pv 0) (pa_cons pe_int pa_nil))) pe_int))))
    (C8.pss_cut (ps_if (pt_cmpR op_eq (pv 3) pe_int (nomark _)) (pss_one (ps_set (i := 5) sc.nd rfl (by first | exact Or.inl rfl | exact Or.inr rfl) (pe_cg (g__law_shift T) (hr.mono (by decide)) rfl (pa_cons (pv 0) (pa_cons (pv 4) pa_nil))))) pss_nil)
    (C8.pss_cut (ps_if (pt_cmpR op_eq (pv 3) pe_int (nomark _)) (pss_one (ps_set (i := 5) sc.nd rfl (by first | exact Or.inl rfl | exact Or.inr rfl) (pe_op oAdd (pe_op oAdd (pv 5) pe_int) (pe_cg (g__law_take T) (hr.mono (by decide)) rfl (pa_cons (pv 0) (pa_cons pe_int pa_nil)))))) pss_nil)
    (C8.pss_cut (ps_if (pt_cmpR op_eq (pv 3) pe_int (nomark _)) (pss_one (ps_set (i := 5) sc.nd rfl (by first | exact Or.inl rfl | exact Or.inr rfl) (pe_op oAdd (pv 5) (pe_op oMul (pv 1) (pe_op oAdd pe_int (pe_cg (g__law_take T) (hr.mono (by decide)) rfl (pa_cons (pv 0) (pa_cons pe_int pa_nil)))))))) pss_nil)
    (pss_one (ps_ret (pe_tup (pa_cons (pv 4) (pa_cons (pv 5) pa_nil)))))))))))), ?rd⟩), F.bindsN fun _ _ _ _ _ _ us hl => match us, hl with | [_, _, _], _ => rfl⟩
  case len =>
    obtain ⟨p, f, m, rfl, _⟩ := h
    rfl
  case rd =>
    obtain ⟨p, f, m, rfl, hp, f1, f2, hQ⟩ := h
    show tSeq _ _ ⟨_, _, _, _⟩ [some (.ref p), some (.int f), some (.int m), none, none, none] H
    try dsimp only [cxOf]
    walk_at "rx"
    rename_i way H2 w0 w8 d2 l H3 hl s3 el d H4 d0 d8 d4 v hv
    obtain ⟨k, rfl, k1, k12⟩ : ∃ k : Int, v = .int k ∧ 1 ≤ k ∧ k ≤ 12 := by
      simp only [List.mem_cons, List.not_mem_nil, or_false] at hv
      rcases hv with rfl | rfl | rfl | rfl | rfl | rfl | rfl | rfl <;> exact ⟨_, rfl, by decide, by decide⟩
    have b1 := Int.mul_le_mul_of_nonneg_left k1 (show 0 ≤ f by omega)
    have b2 := Int.mul_le_mul_of_nonneg_left k12 (show 0 ≤ f by omega)
    have dA : Drawn p H H4 := (d2.same s3).trans d4
    clear hv el hl s3 d2 d4 H3 l
    walk_at "rx"
    refine w_cut (fun σ' H' => ∃ s : Int, 1 ≤ s ∧ s < 2 ^ 100 ∧ (way = 0 → s ≤ 10 ^ 27) ∧ Drawn p H H' ∧ σ' = [some (.ref p), some (.int f), some (.int m), some (.int way), some (.int s), none]) ?_ ?_
    · walk_at "rx"
      · rename_i c s Hs hq ds
        exact ⟨s, hq.1, by omega, fun _ => by omega, dA.trans ds, rfl⟩
      · exact ⟨_, by omega, by omega, fun _ => by omega, dA, rfl⟩
    rintro σ' H5 ⟨s, s1, s100, s27, dB, rfl⟩
    clear dA b1 b2
    have hp5 := dB.pool
    walk_at "rx"
    rename_i e H6 e0 e7 d6
    have dC := dB.trans d6
    have hp6 := dC.pool
    clear dB d6 hp5
    refine w_cut (fun σ' H' => ∃ o : Int, Drawn p H H' ∧ σ' = [some (.ref p), some (.int f), some (.int m), some (.int way), some (.int s), some (.int o)]) ?_ ?_
    · walk_at "rx"
      · rename_i c
        refine use_draw1 hp6 ⟨s1, s27 c⟩ fun x Hx hq dx => ?_
        walk_at "rx"
        exact ⟨_, dC.trans dx, rfl⟩
      · exact ⟨_, dC, rfl⟩
    rintro σ' H7 ⟨o, dD, rfl⟩
    clear dC hp6
    have hp7 := dD.pool
    refine w_cut (fun σ' H' => ∃ o : Int, Drawn p H H' ∧ σ' = [some (.ref p), some (.int f), some (.int m), some (.int way), some (.int s), some (.int o)]) ?_ ?_
    · walk_at "rx"
      · rename_i c x Hx x0 x1 dx
        exact ⟨_, dD.trans dx, rfl⟩
      · exact ⟨_, dD, rfl⟩
    clear dD hp7 o
    rintro σ' H8 ⟨o, dE, rfl⟩
    have hp8 := dE.pool
    refine w_cut (fun σ' H' => ∃ o : Int, Drawn p H H' ∧ σ' = [some (.ref p), some (.int f), some (.int m), some (.int way), some (.int s), some (.int o)]) ?_ ?_
    · walk_at "rx"
      · rename_i c x Hx x0 x1 dx
        exact ⟨_, dE.trans dx, rfl⟩
      · exact ⟨_, dE, rfl⟩
    clear dE hp8 o
    rintro σ' H9 ⟨o, dF, rfl⟩
    walk_at "rx"
    rename_i u Hu nu su eu
    exact hQ u (s, o) Hu (dF.free nu) s1 s100 (dF.same su) eu

end
end My
namespace My
open PySem PySem.Spec PyProof.Rows L2 Rd
section
variable {P : Program} {w : World} {K : PySem.W.Frag} {mg : Str → Option Value} {base : Heap}
open GcdM
def spGcd : Sp := fun vs H Q _ => ∃ (a b : Int), vs = [.int a, .int b] ∧ 0 ≤ a ∧ 0 ≤ b ∧ b < 2 ^ 100 ∧ Q (.int (g a b)) H

theorem sc__law_gcd : FnScope ["_law_first", "_law_second", "_law_k", "_law_rest"] ["_law_first", "_law_second"] (defScope (top 26)) := ⟨rfl, rfl, rfl, by decide +kernel, rfl, by decide +kernel, by decide +kernel⟩
theorem g__law_gcd (T : Tx fa fn xa fs P w K mg) : FnG P w K mg base CX0 1 "_law_gcd" ["_law_first", "_law_second"] spGcd := by
  obtain ⟨fd, F⟩ := T.says.def_ 19 (d := d__law_gcd) rfl
  have sc := sc__law_gcd
  refine ⟨_, fd, T.glo 33, F.kp, F.ok sc (fun vs H Q E h => ?len) (fun cdv A outer s H vs Q E hr h => ⟨_, PSs.nox (pss_cons (ps_for PassesOwn.never rfl (pi_range1 (by rfl) (T.free 8) (pa_cons pe_int pa_nil)) (pg_name (i := 2) sc.nd rfl (by first | exact Or.inl rfl | exact Or.inr rfl)) (pss_cons (ps_if (pt_cmpR op_eq (pv 1) pe_int (nomark _)) (pss_one (ps_ret (pv 0))) pss_nil)
    (pss_cons (ps_set (i := 3) sc.nd rfl (by first | exact Or.inl rfl | exact Or.inr rfl) (pe_op oMod (pe_callTy cInt (by rfl) (T.free 2) (by decide +kernel) (pa_cons (pv 0) pa_nil)) (pv 1)))
    (pss_cons (ps_set (i := 0) sc.nd rfl (by first | exact Or.inl rfl | exact Or.inr rfl) (pv 1))
    (pss_one (ps_set (i := 1) sc.nd rfl (by first | exact Or.inl rfl | exact Or.inr rfl) (pv 3)))))))
    (pss_one (ps_ret (pv 0)))), ?rd⟩), F.bindsN fun _ _ _ _ _ _ us hl => match us, hl with | [_, _], _ => rfl⟩
  case len =>
    obtain ⟨a, b, rfl, _⟩ := h
    rfl
  case rd =>
    obtain ⟨a, b, rfl, a0, b0, b1, hQ⟩ := h
    show tSeq _ _ ⟨_, _, _, _⟩ [some (.int a), some (.int b), none, none] H
    try dsimp only [cxOf]
    walk_at "rl"
    refine ⟨400, rfl, by omega, by omega, for_range (n := 400) (fun i σ H' => H' = H ∧ ∃ (x y : Int) (w2 w3 : Option V), Eu i x y ∧ g x y = g a b ∧ σ = [some (.int x), some (.int y), w2, w3]) ⟨rfl, a, b, _, _, eu_zero a0 b0 b1, rfl, rfl⟩ ?_ ?_⟩
    · rintro i σ H' hi ⟨rfl, x, y, w2, w3, eu, eg, rfl⟩
      have x0 := eu.1
      have y0 := eu.2.1
      walk_at "rl"
      · rename_i c
        subst c
        rw [g_zero x0] at eg
        subst eg
        exact hQ
      · rename_i c
        exact ⟨rfl, y, x % y, _, _, eu_next eu c, by rw [g_step]; exact eg, rfl⟩
    · rintro σ H' ⟨rfl, x, y, w2, w3, eu, eg, rfl⟩
      have y0 := eu_end eu
      subst y0
      rw [g_zero eu.1] at eg
      subst eg
      walk_at "rl"
      exact hQ

end
end My
namespace My
open PySem PySem.Spec PyProof.Rows L2 Rd
section
variable {P : Program} {w : World} {K : PySem.W.Frag} {mg : Str → Option Value} {base : Heap}
open GcdM
/-- the pairs at ts are rs -/
def PrsA (H : Hp) (ts : List Addr) (zs : List (Int × Int)) : Prop := ts.length = zs.length ∧ ∀ (i : Nat) (t : Addr) (z : Int × Int), ts[i]? = some t → zs[i]? = some z → H t = some (.tup [.int z.1, .int z.2])
theorem PrsA.keep {H H' : Hp} {ts : List Addr} {zs : List (Int × Int)} (h : PrsA H ts zs) (s : Same H H') : PrsA H' ts zs := ⟨h.1, fun i t z e1 e2 => s _ _ (h.2 i t z e1 e2)⟩
theorem PrsA.at {H : Hp} {ts : List Addr} {zs : List (Int × Int)} (h : PrsA H ts zs) {i : Nat} (hi : i < zs.length) : ∃ (t : Addr) (z : Int × Int), ts[i]? = some t ∧ zs[i]? = some z ∧ atI (ts.map V.ref) (0 + (i : Int)) = some (.ref t) ∧ H t = some (.tup [.int z.1, .int z.2]) := by
  obtain ⟨t, et⟩ : ∃ t, ts[i]? = some t := ⟨_, List.getElem?_eq_getElem (by rw [h.1]; exact hi)⟩
  obtain ⟨z, ez⟩ : ∃ z, zs[i]? = some z := ⟨_, List.getElem?_eq_getElem hi⟩
  exact ⟨t, z, et, ez, atI_of (by omega) (by rw [show (0 + (i : Int)).toNat = i by omega, List.getElem?_map, et]; rfl), h.2 i t z et ez⟩
/-- the list at v has these rows -/
def RwsL (H : Hp) (l : Addr) (rs : List (Int × Int)) : Prop := ∃ ts : List Addr, H l = some (.lst (ts.map V.ref)) ∧ PrsA H ts rs
theorem RwsL.keep {H H' : Hp} {l : Addr} {rs : List (Int × Int)} (h : RwsL H l rs) (s : Same H H') : RwsL H' l rs := let ⟨ts, e, p⟩ := h; ⟨ts, s _ _ e, p.keep s⟩
theorem comp_next {rs : List (Int × Int)} {i : Nat} {z : Int × Int} (ez : rs[i]? = some z) (h : Comp (rs.take i)) (k : ∀ j w, j < i → rs[j]? = some w → g z.1 w.1 ∣ z.2 - w.2) : Comp (rs.take (i + 1)) := fun a b u w e1 e2 ba => by
  rw [List.getElem?_take] at e1 e2
  split at e1
  · rw [if_pos (by omega)] at e2
    rcases Nat.lt_or_ge a i with c | c
    · exact h a b u w (by rw [List.getElem?_take, if_pos c]; exact e1) (by rw [List.getElem?_take, if_pos (by omega)]; exact e2) ba
    · obtain rfl : a = i := by omega
      rw [ez] at e1
      cases e1
      exact k b w ba e2
  · cases e1

end
end My
namespace My
open PySem PySem.Spec PyProof.Rows L2 Rd
section
variable {P : Program} {w : World} {K : PySem.W.Frag} {mg : Str → Option Value} {base : Heap}
open GcdM
def spShared : Sp := fun vs H Q _ => ∃ (l : Addr) (rs : List (Int × Int)), vs = [.ref l] ∧ RwsL H l rs ∧ Stp rs ∧ Sml rs ∧ rs.length ≤ 6 ∧ (Comp rs → Q (.int (lc rs)) H) ∧ (¬ Comp rs → Q (.int 0) H)

theorem sc__law_shared : FnScope ["_law_rows", "_law_step_here", "_law_i", "_law_j"] ["_law_rows"] (defScope (top 27)) := ⟨rfl, rfl, rfl, by decide +kernel, rfl, by decide +kernel, by decide +kernel⟩
theorem g__law_shared (T : Tx fa fn xa fs P w K mg) : FnG P w K mg base CX0 3 "_law_shared" ["_law_rows"] spShared := by
  obtain ⟨fd, F⟩ := T.says.def_ 20 (d := d__law_shared) rfl
  have sc := sc__law_shared
  refine ⟨_, fd, T.glo 34, F.kp, F.ok sc (fun vs H Q E h => ?len) (fun cdv A outer s H vs Q E hr h => ⟨_, PSs.nox (pss_cons (ps_set (i := 1) sc.nd rfl (by first | exact Or.inl rfl | exact Or.inr rfl) pe_int)
    (pss_cons (ps_for PassesOwn.never rfl (pi_range1 (by rfl) (T.free 8) (pa_cons (pe_callB cLen (by rfl) (T.free 6) (by decide +kernel) (pa_cons (pv 0) pa_nil)) pa_nil)) (pg_name (i := 2) sc.nd rfl (by first | exact Or.inl rfl | exact Or.inr rfl)) (pss_cons (ps_for PassesOwn.never rfl (pi_range1 (by rfl) (T.free 8) (pa_cons (pv 2) pa_nil)) (pg_name (i := 3) sc.nd rfl (by first | exact Or.inl rfl | exact Or.inr rfl)) (pss_one (ps_if (pt_cmpR op_ne (pe_op oMod (pe_callTy cInt (by rfl) (T.free 2) (by decide +kernel) (pa_cons (pe_op oSub (pe_ix ix_seq (pe_ix ix_seq (pv 0) (pv 2) (fun _ _ => rfl)) pe_int (fun _ _ => rfl)) (pe_ix ix_seq (pe_ix ix_seq (pv 0) (pv 3) (fun _ _ => rfl)) pe_int (fun _ _ => rfl))) pa_nil)) (pe_cg (g__law_gcd T) (hr.mono (by decide)) rfl (pa_cons (pe_ix ix_seq (pe_ix ix_seq (pv 0) (pv 2) (fun _ _ => rfl)) pe_int (fun _ _ => rfl)) (pa_cons (pe_ix ix_seq (pe_ix ix_seq (pv 0) (pv 3) (fun _ _ => rfl)) pe_int (fun _ _ => rfl)) pa_nil)))) pe_int (nomark _)) (pss_one (ps_ret pe_int)) pss_nil)))
    (pss_one (ps_set (i := 1) sc.nd rfl (by first | exact Or.inl rfl | exact Or.inr rfl) (pe_op oMul (pe_op oDiv (pv 1) (pe_cg (g__law_gcd T) (hr.mono (by decide)) rfl (pa_cons (pv 1) (pa_cons (pe_ix ix_seq (pe_ix ix_seq (pv 0) (pv 2) (fun _ _ => rfl)) pe_int (fun _ _ => rfl)) pa_nil)))) (pe_ix ix_seq (pe_ix ix_seq (pv 0) (pv 2) (fun _ _ => rfl)) pe_int (fun _ _ => rfl)))))))
    (pss_one (ps_ret (pv 1))))), ?rd⟩), F.bindsN fun _ _ _ _ _ _ us hl => match us, hl with | [_], _ => rfl⟩
  case len =>
    obtain ⟨l, rs, rfl, _⟩ := h
    rfl
  case rd =>
    obtain ⟨l, rs, rfl, ⟨ts, el, pr⟩, hs, sm, l6, hQ, hX⟩ := h
    show tSeq _ _ ⟨_, _, _, _⟩ [some (.ref l), none, none, none] H
    try dsimp only [cxOf]
    have lt : (ts.map V.ref).length = rs.length := by rw [List.length_map, pr.1]
    walk_at "rl"
    rw [lt]
    have c00 : Comp (rs.take 0) := by rw [List.take_zero]; exact fun _ _ _ _ e => nomatch e
    have l00 : lc (rs.take 0) = 1 := by rw [List.take_zero]; rfl
    refine ⟨_, rfl, by omega, by omega, for_range (n := rs.length) (fun i σ H' => H' = H ∧ Comp (rs.take i) ∧ ∃ w2 w3, σ = [some (.ref l), some (.int (lc (rs.take i))), w2, w3]) ⟨rfl, c00, _, _, by rw [l00]⟩ ?_ ?_⟩
    · rintro i σ H' hi ⟨rfl, cm, w2, w3, rfl⟩
      obtain ⟨t, z, et, ez, at1, e1⟩ := pr.at hi
      have z1 := hs z (List.mem_of_getElem? ez)
      have z2 := sm z (List.mem_of_getElem? ez)
      have st := stp_take hs i
      have lp := lc_pos st
      have l7 := lc_lt6 st (fun z m => sm z (List.mem_of_mem_take m)) (by rw [List.length_take]; omega)
      walk_at "rl"
      refine ⟨_, rfl, by omega, by omega, for_range (n := (0 + (i : Int)).toNat) (fun j σ H2 => H2 = H' ∧ (∀ b w, b < j → rs[b]? = some w → g z.1 w.1 ∣ z.2 - w.2) ∧ ∃ w3, σ = [some (.ref l), some (.int (lc (rs.take i))), some (.int (0 + (i : Int))), w3]) ⟨rfl, fun _ _ q => absurd q (Nat.not_lt_zero _), _, rfl⟩ ?_ ?_⟩
      · rintro j σ H2 hj ⟨rfl, cj, w3, rfl⟩
        obtain ⟨t2, y, et2, ey, at2, e2⟩ := pr.at (show j < rs.length by omega)
        have y1 := hs y (List.mem_of_getElem? ey)
        have y2 := sm y (List.mem_of_getElem? ey)
        have gp := g_pos (b := y.1) (show 0 < z.1 by omega)
        walk_at "rl"
        refine w_ixL (SqL.of el) at1 ?_
        walk_at "rl"
        refine w_ixL (SqL.of el) at2 ?_
        walk_at "rl"
        refine w_ixL (SqL.of el) at1 ?_
        walk_at "rl"
        refine w_ixL (SqL.of el) at2 ?_
        walk_at "rl"
        refine ⟨z.1, y.1, rfl, by omega, by omega, y2, ?_⟩
        walk_at "rl"
        · rename_i c
          refine ⟨rfl, fun b w bj ew => ?_, _, rfl⟩
          rcases Nat.lt_or_ge b j with q | q
          · exact cj b w q ew
          · obtain rfl : b = j := by omega
            rw [ey] at ew
            cases ew
            exact Int.dvd_of_emod_eq_zero c
        · rename_i c
          exact hX fun q => c (Int.emod_eq_zero_of_dvd (q i j z y ez ey (by omega)))
      · rintro σ H2 ⟨rfl, cj, w3, rfl⟩
        rw [show (0 + (i : Int)).toNat = i by omega] at cj
        have gp := g_pos (b := z.1) (show 0 < lc (rs.take i) by omega)
        have gl : g (lc (rs.take i)) z.1 ≤ z.1 := Int.le_of_dvd (by omega) g_dvd2
        have d0 : 0 ≤ lc (rs.take i) / g (lc (rs.take i)) z.1 := Int.ediv_nonneg (by omega) (by omega)
        have d1 := Int.ediv_le_self (g (lc (rs.take i)) z.1) (show 0 ≤ lc (rs.take i) by omega)
        have tk : rs.take (i + 1) = rs.take i ++ [z] := take_one ez
        walk_at "rl"
        refine w_ixL (SqL.of el) at1 ?_
        walk_at "rl"
        refine ⟨_, z.1, rfl, by omega, by omega, z2, ?_⟩
        walk_at "rl"
        refine w_div (wide_div (b := 700) (by omega) (by omega) (by decide) (by decide)) ?_
        walk_at "rl"
        refine w_ixL (SqL.of el) at1 ?_
        walk_at "rl"
        refine w_mul (.inr (wide_mul (a := 700) (b := 700) (by omega) (by omega) (by decide) (by decide) (by decide))) ?_
        walk_at "rl"
        refine ⟨rfl, comp_next ez cm fun j w jl ew => cj j w jl ew, some (.int (0 + (i : Int))), w3, ?_⟩
        rw [tk, lc_snoc]
        rfl
    · rintro σ H' ⟨rfl, cm, w2, w3, rfl⟩
      rw [List.take_length] at cm ⊢
      walk_at "rl"
      exact hQ cm

end
end My
namespace My
open PySem PySem.Spec PyProof.Rows L2 Rd
section
variable {P : Program} {w : World} {K : PySem.W.Frag} {mg : Str → Option Value} {base : Heap}
def spLGrid (K : PySem.W.Frag) : Sp := fun vs H Q _ => ∃ (a : Addr) (s o f : Int), vs = [.ref a, .int s, .int f] ∧ IsGrid K H a s o ∧ 1 ≤ s ∧ 0 ≤ o ∧ o < s ∧ s ∣ o - f ∧ Q (.bl true) H

theorem sc__law_grid : FnScope ["_law_got", "_law_step_here", "_law_offset"] ["_law_got", "_law_step_here", "_law_offset"] (defScope (top 28)) := ⟨rfl, rfl, rfl, by decide +kernel, rfl, by decide +kernel, by decide +kernel⟩
theorem g__law_grid (T : Tx fa fn xa fs P w K mg) : FnG P w K mg base CX0 3 "_law_grid" ["_law_got", "_law_step_here", "_law_offset"] (spLGrid K) := by
  obtain ⟨fd, F⟩ := T.says.def_ 21 (d := d__law_grid) rfl
  have sc := sc__law_grid
  refine ⟨_, fd, T.glo 35, F.kp, F.ok sc (fun vs H Q E h => ?len) (fun cdv A outer s H vs Q E hr h => ⟨_, PSs.nox (pss_cons (ps_if (PW.pt (pw_or (pt_not (pt_val (pe_callB cIsi (by rfl) (T.free 0) (by decide +kernel) (pa_cons (pv 0) (pa_cons (pe_glob (v := .ref (He.ga K "Grid")) (by rfl) (T.glo 19) rfl) pa_nil))))) (pw_or (pt_not (pt_val (pe_cg (g__law_is_int T) (hr.mono (by decide)) rfl (pa_cons (pe_fld (pv 0) rfl) pa_nil)))) (pw_or1 (pt_not (pt_val (pe_cg (g__law_is_int T) (hr.mono (by decide)) rfl (pa_cons (pe_fld (pv 0) rfl) pa_nil)))))))) (pss_one (ps_ret pe_bl)) pss_nil)
    (pss_one (ps_ret (pe_and (pe_cmpR op_eq (pe_fld (pv 0) rfl) (pv 1) (nomark _)) (pe_and (pe_chain oLe oLt pe_int (pe_fld (pv 0) rfl) (pv 1)) (pe_one (pe_cmpR op_eq (pe_op oMod (pe_callTy cInt (by rfl) (T.free 2) (by decide +kernel) (pa_cons (pe_op oSub (pe_fld (pv 0) rfl) (pv 2)) pa_nil)) (pv 1)) pe_int (nomark _)))))))), ?rd⟩), F.bindsN fun _ _ _ _ _ _ us hl => match us, hl with | [_, _, _], _ => rfl⟩
  case len =>
    obtain ⟨a, s, o, f, rfl, _⟩ := h
    rfl
  case rd =>
    obtain ⟨a, s, o, f, rfl, hs, s1, o0, o1, od, hQ⟩ := h
    show tSeq _ _ ⟨_, _, _, _⟩ [some (.ref a), some (.int s), some (.int f)] H
    try dsimp only [cxOf]
    obtain ⟨dx, e⟩ := hs
    have hcl_Grid : Cls K (He.ga K "Grid") := T.cls 16
    have hn_Grid_step : NoAttr K (He.ga K "Grid") "step" := T.noat 17
    have hn_Grid_offset : NoAttr K (He.ga K "Grid") "offset" := T.noat 18
    have hty_Grid : ∀ {H : Hp} {a dx : Addr} {l : List (Str × V)}, H a = some (.ins (He.ga K "Grid") dx l) → TyX K H (.ref a) (.ref (He.ga K "Grid")) := fun e => T.inst 2 rfl (T.cls 16) e
    have hk_Grid_Grid : PySem.W.kitOne K (.ref (He.ga K "Grid")) (.ref (He.ga K "Grid")) = some true := T.kit 3 rfl
    have z := Int.emod_eq_zero_of_dvd od
    walk_at "rl"
    refine w_isi_own (hty_Grid e) hk_Grid_Grid ?_
    walk_at "rl"
    all_goals first
      | exact absurd o0 (by assumption)
      | exact absurd o1 (by assumption)
      | (rw [decide_eq_true z]; exact hQ)
      | exact hQ

end
end My
namespace My
open PySem PySem.Spec PyProof.Rows L2 Rd
section
variable {P : Program} {w : World} {K : PySem.W.Frag} {mg : Str → Option Value} {base : Heap}
open GcdM
/-- what was found of the common ticks of rs -/
def Met (K : PySem.W.Frag) (H : Hp) (m f : V) (rs : List (Int × Int)) : Prop := (Comp rs ∧ f = .non ∧ ∃ c, m = .ref c ∧ GrC K H c rs) ∨ (¬ Comp rs ∧ m = .non ∧ ∃ x, f = .ref x ∧ XcAt H x (He.ga K "Apart") none)
def spMeets (K : PySem.W.Frag) : Sp := fun vs H Q _ => ∃ (m f : V) (l : Addr) (rs : List (Int × Int)), vs = [m, f, .ref l] ∧ Met K H m f rs ∧ RwsL H l rs ∧ Stp rs ∧ Sml rs ∧ rs.length ≤ 6 ∧ ∀ H', Same H H' → Q (.bl true) H'

theorem sc__law_meets : FnScope ["_law_got", "_law_found", "_law_rows", "_law_step_here", "_law_row_here"] ["_law_got", "_law_found", "_law_rows"] (defScope (top 29)) := ⟨rfl, rfl, rfl, by decide +kernel, rfl, by decide +kernel, by decide +kernel⟩
theorem g__law_meets (T : Tx fa fn xa fs P w K mg) : FnG P w K mg base CX0 4 "_law_meets" ["_law_got", "_law_found", "_law_rows"] (spMeets K) := by
  obtain ⟨fd, F⟩ := T.says.def_ 22 (d := d__law_meets) rfl
  have sc := sc__law_meets
  refine ⟨_, fd, T.glo 41, F.kp, F.ok sc (fun vs H Q E h => ?len) (fun cdv A outer s H vs Q E hr h => ⟨_, PSs.nox (pss_cons (ps_set (i := 3) sc.nd rfl (by first | exact Or.inl rfl | exact Or.inr rfl) (pe_cg (g__law_shared T) (hr.mono (by decide)) rfl (pa_cons (pv 2) pa_nil)))
    (pss_cons (ps_if (pt_cmpR op_eq (pv 3) pe_int (nomark _)) (pss_cons (ps_if (pt_val (pe_callB cIsiT (by rfl) (T.free 0) (by decide +kernel) (pa_cons (pv 1) (pa_cons (pe_tup (pa_cons (pe_glob (v := .ref (He.ga K "BadNumber")) (by rfl) (T.glo 15) rfl) (pa_cons (pe_glob (v := .ref (He.ga K "BadText")) (by rfl) (T.glo 40) rfl) (pa_cons (pe_glob (v := .ref (He.ga K "NoSpans")) (by rfl) (T.glo 39) rfl) (pa_cons (pe_glob (v := .ref (He.ga K "Refused")) (by rfl) (T.glo 38) rfl) pa_nil))))) pa_nil)))) (pss_one (ps_ret pe_bl)) pss_nil)
    (pss_one (ps_ret (pe_and (pe_cmpR oIs (pv 0) pe_non (nomark _)) (pe_and (pe_callB cIsi (by rfl) (T.free 0) (by decide +kernel) (pa_cons (pv 1) (pa_cons (pe_glob (v := .ref (He.ga K "BarbreaksError")) (by rfl) (T.glo 37) rfl) pa_nil))) (pe_one (pe_callB cIsi (by rfl) (T.free 0) (by decide +kernel) (pa_cons (pv 1) (pa_cons (pe_bltn (v := .ty "ValueError") (u := .type "ValueError") rfl (T.free 36) (by decide +kernel) rfl) pa_nil))))))))) pss_nil)
    (pss_cons (ps_if (PW.pt (pw_or (pt_cmpR oIsNot (pv 1) pe_non (nomark _)) (pw_or (pt_not (pt_val (pe_callB cIsi (by rfl) (T.free 0) (by decide +kernel) (pa_cons (pv 0) (pa_cons (pe_glob (v := .ref (He.ga K "Grid")) (by rfl) (T.glo 19) rfl) pa_nil))))) (pw_or (pt_not (pt_val (pe_cg (g__law_is_int T) (hr.mono (by decide)) rfl (pa_cons (pe_fld (pv 0) rfl) pa_nil)))) (pw_or1 (pt_not (pt_val (pe_cg (g__law_is_int T) (hr.mono (by decide)) rfl (pa_cons (pe_fld (pv 0) rfl) pa_nil))))))))) (pss_one (ps_ret pe_bl)) pss_nil)
    (pss_cons (ps_if (PW.pt (pw_or (pt_cmpR op_ne (pe_fld (pv 0) rfl) (pv 3) (nomark _)) (pw_or1 (pt_not (pt_chain oLe oLt pe_int (pe_fld (pv 0) rfl) (pv 3)))))) (pss_one (ps_ret pe_bl)) pss_nil)
    (pss_cons (ps_for PassesOwn.never rfl (pi_list (pv 2)) (pg_name (i := 4) sc.nd rfl (by first | exact Or.inl rfl | exact Or.inr rfl)) (pss_one (ps_if (pt_cmpR op_ne (pe_op oMod (pe_callTy cInt (by rfl) (T.free 2) (by decide +kernel) (pa_cons (pe_op oSub (pe_fld (pv 0) rfl) (pe_ix ix_seq (pv 4) pe_int (fun _ _ => rfl))) pa_nil)) (pe_ix ix_seq (pv 4) pe_int (fun _ _ => rfl))) pe_int (nomark _)) (pss_one (ps_ret pe_bl)) pss_nil)))
    (pss_one (ps_ret pe_bl))))))), ?rd⟩), F.bindsN fun _ _ _ _ _ _ us hl => match us, hl with | [_, _, _], _ => rfl⟩
  case len =>
    obtain ⟨m, f, l, rs, rfl, _⟩ := h
    rfl
  case rd =>
    have xi_Apart := (T.exc 1 (x := "Apart") rfl).is
    have xf_Apart := (T.exc 1 (x := "Apart") rfl).fld
    have xk_Apart_BadNumber := T.kit 7 (x := "Apart") (y := "BadNumber") rfl
    have xk_Apart_BadText := T.kit 8 (x := "Apart") (y := "BadText") rfl
    have xk_Apart_NoSpans := T.kit 9 (x := "Apart") (y := "NoSpans") rfl
    have xk_Apart_Refused := T.kit 10 (x := "Apart") (y := "Refused") rfl
    have xk_Apart_BarbreaksError := T.kit 11 (x := "Apart") (y := "BarbreaksError") rfl
    have xk_Apart_ValueError := T.kitT 12 (x := "Apart") (t := "ValueError") rfl
    have xk_Apart_Grid := T.kit 13 (x := "Apart") (y := "Grid") rfl
    obtain ⟨m, f, l, rs, rfl, hm, hr, hs, sm, l6, hQ⟩ := h
    show tSeq _ _ ⟨_, _, _, _⟩ [some (m), some (f), some (.ref l), none, none] H
    try dsimp only [cxOf]
    have hcl_Grid : Cls K (He.ga K "Grid") := T.cls 16
    have hn_Grid_step : NoAttr K (He.ga K "Grid") "step" := T.noat 17
    have hn_Grid_offset : NoAttr K (He.ga K "Grid") "offset" := T.noat 18
    have hty_Grid : ∀ {H : Hp} {a dx : Addr} {l : List (Str × V)}, H a = some (.ins (He.ga K "Grid") dx l) → TyX K H (.ref a) (.ref (He.ga K "Grid")) := fun e => T.inst 2 rfl (T.cls 16) e
    have hk_Grid_Grid : PySem.W.kitOne K (.ref (He.ga K "Grid")) (.ref (He.ga K "Grid")) = some true := T.kit 3 rfl
    obtain ⟨ts, el, pr⟩ := id hr
    have lp := lc_pos hs
    walk_at "rl"
    refine ⟨l, rs, rfl, hr, hs, sm, l6, fun cm => ?_, fun cm => ?_⟩
    · rcases hm with ⟨_, rfl, c, rfl, o, ⟨dx, ec⟩, o0, o1, bo⟩ | ⟨q, _⟩
      · walk_at "rl"
        refine w_isi_own (hty_Grid ec) hk_Grid_Grid ?_
        walk_at "rl"
        all_goals first
          | exact absurd o0 (by assumption)
          | exact absurd o1 (by assumption)
          | skip
        refine ⟨l, rfl, ⟨_, SqL.of el⟩, for_list (xs := ts.map V.ref) (fun i σ H' => H' = H ∧ ∃ w4, σ = [some (.ref c), some .non, some (.ref l), some (.int (lc rs)), w4]) ⟨rfl, _, rfl⟩ (fun i σ H' _ z => z.1 ▸ SqL.of el) ?_ ?_⟩
        · rintro i x σ H' hx ⟨rfl, w4, rfl⟩
          rw [List.getElem?_map] at hx
          obtain ⟨t, et, rfl⟩ := Option.map_eq_some_iff.mp hx
          obtain ⟨y, ey⟩ : ∃ y, rs[i]? = some y := ⟨_, List.getElem?_eq_getElem (by rw [← pr.1]; exact (List.getElem?_eq_some_iff.mp et).1)⟩
          have ht := pr.2 i t y et ey
          have y1 := hs y (List.mem_of_getElem? ey)
          have dd := Int.emod_eq_zero_of_dvd (bo y (List.mem_of_getElem? ey))
          walk_at "rl"
          all_goals first
            | exact absurd dd (by assumption)
            | exact ⟨rfl, _, rfl⟩
        · rintro σ H' ⟨rfl, w4, rfl⟩
          walk_at "rl"
          exact hQ _ (Same.refl _)
      · exact absurd cm q
    · rcases hm with ⟨q, _⟩ | ⟨_, rfl, x, rfl, xa⟩
      · exact absurd q cm
      · walk_at "rl"
        all_goals exact hQ _ (by walk_at "same")

end
end My
namespace My
open PySem PySem.Spec PyProof.Rows L2 Rd
section
variable {P : Program} {w : World} {K : PySem.W.Frag} {mg : Str → Option Value} {base : Heap}
open GcdM
def spBoth (K : PySem.W.Frag) : Sp := fun vs H Q _ => ∃ (a b l : Addr) (rs : List (Int × Int)) (z : Int × Int), vs = [.ref a, .ref b, .ref l] ∧ GrC K H a rs ∧ IsGrid K H b z.1 (z.2 % z.1) ∧ RwsL H l (rs ++ [z]) ∧ Stp (rs ++ [z]) ∧ Sml (rs ++ [z]) ∧ rs.length ≤ 5 ∧ ∀ H', Same H H' → Q (.bl true) H'

theorem sc__law_both : FnScope ["_law_one", "_law_two", "_law_rows", "_law_found", "_law_got", "e"] ["_law_one", "_law_two", "_law_rows"] (defScope (top 30)) := ⟨rfl, rfl, rfl, by decide +kernel, rfl, by decide +kernel, by decide +kernel⟩
theorem g__law_both (T : Tx fa fn xa fs P w K mg) : FnG P w K mg base CX0 8 "_law_both" ["_law_one", "_law_two", "_law_rows"] (spBoth K) := by
  obtain ⟨fd, F⟩ := T.says.def_ 23 (d := d__law_both) rfl
  have sc := sc__law_both
  refine ⟨_, fd, T.glo 42, F.kp, F.ok sc (fun vs H Q E h => ?len) (fun cdv A outer s H vs Q E hr h => ⟨_, PSs.nox (pss_cons (ps_set (i := 3) sc.nd rfl (by first | exact Or.inl rfl | exact Or.inr rfl) pe_non)
    (pss_cons (ps_set (i := 4) sc.nd rfl (by first | exact Or.inl rfl | exact Or.inr rfl) pe_non)
    (C8.pss_cut (ps_catches rfl rfl rfl sc.nd (fun W _ _ tk po => (pss_one (ps_set (i := 4) sc.nd rfl (by first | exact Or.inl rfl | exact Or.inr rfl) (pe_binS (op := .BitAnd) (C := He.ga K "Grid") (sp := (spAnd K)) (E := WE W) (g_Grid___and__ T) (T.self1 6) (hr.mono (by decide)) (fun σ => passAt tk σ) (pv 0) (pv 1)))))
    (PHs.cons (i := 5) (c := .ref (He.ga K "Apart")) rfl rfl ⟨rfl, by decide, .inl (T.glo 21)⟩ (fun _ _ => (pss_one (ps_set (i := 3) sc.nd rfl (by first | exact Or.inl rfl | exact Or.inr rfl) (pv 5)))) PHs.nil))
    (pss_one (ps_ret (pe_cg (g__law_meets T) (hr.mono (by decide)) rfl (pa_cons (pv 4) (pa_cons (pv 3) (pa_cons (pv 2) pa_nil))))))))), ?rd⟩), F.bindsN fun _ _ _ _ _ _ us hl => match us, hl with | [_, _, _], _ => rfl⟩
  case len =>
    obtain ⟨a, b, l, rs, z, rfl, _⟩ := h
    rfl
  case rd =>
    have xi_Apart := (T.exc 1 (x := "Apart") rfl).is
    have xf_Apart := (T.exc 1 (x := "Apart") rfl).fld
    have xm_Apart_Apart := T.exm 14 (x := "Apart") (y := "Apart") rfl
    obtain ⟨a, b, l, rs, z, rfl, ha, hb, hr, hs, sm, l5, hQ⟩ := h
    show tSeq _ _ ⟨_, _, _, _⟩ [some (.ref a), some (.ref b), some (.ref l), none, none, none] H
    try dsimp only [cxOf]
    obtain ⟨o, ⟨dx, ea⟩, _⟩ := id ha
    obtain ⟨dy, eb⟩ := id hb
    walk_at "rl"
    refine w_cut (fun σ' H' => ∃ (f m : V) (e9 : Option V), Same H H' ∧ Met K H' m f (rs ++ [z]) ∧ σ' = [some (.ref a), some (.ref b), some (.ref l), some f, some m, e9]) ?_ ?_
    · walk_at "rl"
      refine use_and hs sm (by omega) ha hb (fun cm c H2 n2 s2 g2 => ?_) fun cm H2 s2 => ?_
      · walk_at "rl"
        exact ⟨_, _, _, s2, .inl ⟨cm, rfl, c, rfl, g2⟩, rfl⟩
      · refine n_caught0 (by assumption) fun x H3 hx s3 xa => ?_
        walk_at "rl"
        exact ⟨_, _, _, s2.trans s3, .inr ⟨cm, rfl, x, rfl, xa⟩, rfl⟩
    rintro σ' H2 ⟨f, m, e9, s2, mt, rfl⟩
    walk_at "rl"
    exact ⟨m, f, l, rs ++ [z], rfl, mt, hr.keep s2, hs, sm, by rw [List.length_append]; simp only [List.length_singleton]; omega, fun H3 s3 => hQ H3 (s2.trans s3)⟩

end
end My
namespace My
open PySem PySem.Spec PyProof.Rows L2 Rd
section
variable {P : Program} {w : World} {K : PySem.W.Frag} {mg : Str → Option Value} {base : Heap}
open GcdM
theorem mod_le {x t : Int} (h : 0 ≤ x) (ht : 1 ≤ t) : x % t ≤ x := by
  have d := Int.emod_add_mul_ediv x t
  have q : 0 ≤ x / t := Int.ediv_nonneg h (by omega)
  have := Int.mul_nonneg (show 0 ≤ t by omega) q
  omega
theorem emod_of {x s r : Int} (h0 : 0 ≤ r) (h1 : r < s) (d : s ∣ x - r) : x % s = r := by
  obtain ⟨k, e⟩ := d
  rw [show x = r + s * k by omega, Int.add_mul_emod_self_left, Int.emod_eq_of_lt h0 h1]
theorem like5 {s o : Int} : (o + 3 * s) % s = o % s := by rw [Int.mul_comm, Int.add_mul_emod_self_left]
theorem beside5 {s o : Int} (s1 : 1 ≤ s) : (decide (s = s) && decide (o % s = (o + 1) % s)) = decide (s = 1) := by
  rw [decide_eq_true rfl, Bool.true_and]
  refine decide_eq_decide.mpr ⟨fun h => ?_, fun h => by subst h; rw [Int.emod_one, Int.emod_one]⟩
  have e := Int.emod_emod_of_dvd (o + 1 - o) (Int.dvd_refl s)
  have d : s ∣ (o + 1) - o := by
    have := Int.emod_eq_emod_iff_emod_sub_eq_zero.mp h.symm
    exact Int.dvd_of_emod_eq_zero this
  rw [show o + 1 - o = 1 by omega] at d
  have := Int.le_of_dvd (by decide) d
  omega
theorem beside6 {s o : Int} (s1 : 1 ≤ s) : (!(decide (s = s) && decide (o % s = (o + 1) % s))) = decide (1 < s) := by
  rw [beside5 s1]
  by_cases h : s = 1
  · rw [decide_eq_true h, decide_eq_false (by omega)]; rfl
  · rw [decide_eq_false h, decide_eq_true (by omega)]; rfl
theorem within5 {s o t u : Int} (ht : 1 ≤ t) : (decide (s % t = 0) && decide ((o % s - u % t) % t = 0)) = (decide (s % t = 0) && decide ((o - u) % t = 0)) := by
  by_cases h : s % t = 0
  · rw [decide_eq_true h, Bool.true_and, Bool.true_and]
    have d := Int.dvd_of_emod_eq_zero h
    have e1 : t ∣ (o % s - u % t) - (o - u) := by
      obtain ⟨k, e⟩ := d
      refine ⟨-(k * (o / s)) + u / t, ?_⟩
      rw [Int.emod_def o, Int.emod_def u]
      have : s * (o / s) = t * (k * (o / s)) := by rw [← Int.mul_assoc, ← e]
      grind
    refine decide_eq_decide.mpr ⟨fun q => ?_, fun q => ?_⟩
    · have a := Int.dvd_sub (Int.dvd_of_emod_eq_zero q) e1
      rw [show o % s - u % t - (o % s - u % t - (o - u)) = o - u by omega] at a
      exact Int.emod_eq_zero_of_dvd a
    · have a := Int.dvd_add (Int.dvd_of_emod_eq_zero q) e1
      rw [show o - u + (o % s - u % t - (o - u)) = o % s - u % t by omega] at a
      exact Int.emod_eq_zero_of_dvd a
  · rw [decide_eq_false h, Bool.false_and, Bool.false_and]
theorem same5 {s o t u : Int} : (decide (s = t) && decide (o % s = u % t)) = ((decide (s % t = 0) && decide ((o - u) % t = 0)) && decide (s = t)) := by
  by_cases h : s = t
  · subst h
    rw [decide_eq_true rfl, decide_eq_true (Int.emod_self), Bool.true_and, Bool.true_and, Bool.and_true]
    exact decide_eq_decide.mpr Int.emod_eq_emod_iff_emod_sub_eq_zero
  · rw [decide_eq_false h, Bool.false_and, Bool.and_false]
theorem told5 {s o t u n : Int} (hs : 1 ≤ s) (ht : 1 ≤ t) (d1 : s % t = 0) (d2 : (o - u) % t = 0) : (n + (u % t - n) % t) + (o % s - (n + (u % t - n) % t)) % s = n + (o - n) % s := by
  have e1 : (u % t - n) % t = (u - n) % t := Int.emod_sub_emod ..
  rw [e1]
  have e2 : (o % s - (n + (u - n) % t)) % s = (o - (n + (u - n) % t)) % s := Int.emod_sub_emod ..
  rw [e2]
  have a0 := Int.emod_nonneg (o - n) (show s ≠ 0 by omega)
  have a1 := Int.emod_lt_of_pos (o - n) (show 0 < s by omega)
  have b0 := Int.emod_nonneg (u - n) (show t ≠ 0 by omega)
  have b1 := Int.emod_lt_of_pos (u - n) (show 0 < t by omega)
  have dd := Int.dvd_of_emod_eq_zero d1
  have f1 : s ∣ (o - n) - (o - n) % s := ⟨(o - n) / s, by rw [Int.emod_def]; omega⟩
  have f2 : t ∣ (u - n) - (u - n) % t := ⟨(u - n) / t, by rw [Int.emod_def]; omega⟩
  have le : (u - n) % t ≤ (o - n) % s := by
    have e : ((o - n) % s) % t = (u - n) % t := by
      refine emod_of b0 b1 ?_
      have g1 := Int.dvd_sub (Int.dvd_of_emod_eq_zero d2) (Int.dvd_trans dd f1)
      have g2 := Int.dvd_add g1 f2
      rwa [show o - u - (o - n - (o - n) % s) + (u - n - (u - n) % t) = (o - n) % s - (u - n) % t by omega] at g2
    rw [← e]
    exact mod_le a0 (by omega)
  rw [emod_of (x := o - (n + (u - n) % t)) (s := s) (r := (o - n) % s - (u - n) % t) (by omega) (by omega) (by
    rwa [show o - (n + (u - n) % t) - ((o - n) % s - (u - n) % t) = (o - n) - (o - n) % s by omega])]
  omega

end
end My
namespace My
open PySem PySem.Spec PyProof.Rows L2 Rd
section
variable {P : Program} {w : World} {K : PySem.W.Frag} {mg : Str → Option Value} {base : Heap}
open GcdM
theorem use_common {H : Hp} {Q : VK} {E : XK} {as : List Addr} {rs : List (Int × Int)} (hz : GrsAt K H as rs) (hs : Stp rs) (sm : Sml rs) (l6 : rs.length ≤ 6) (hQ : Comp rs → ∀ (c : Addr) (H' : Hp), Same H H' → GrC K H' c rs → Q (.ref c) H') (hX : ¬ Comp rs → ∀ H', Same H H' → E (.ref (He.ga K "Apart")) none H') : kStarC (spCommon K) E Q (as.map V.ref) H :=
  w_kstarC (by rw [List.length_map, hz.1]; omega) fun p H' np s ep => ⟨p, as, rs, rfl, ep, hz.keep s, hs, sm, l6, fun cm c H2 n2 s2 g2 => hQ cm c H2 (s.trans s2) g2, fun cm H2 s2 => hX cm H2 (s.trans s2)⟩
def spLCom (K : PySem.W.Frag) : Sp := fun vs H Q E => ∃ (l : Addr) (as : List Addr) (rs : List (Int × Int)), vs = [.ref l] ∧ H l = some (.lst (as.map V.ref)) ∧ GrsAt K H as rs ∧ Stp rs ∧ Sml rs ∧ (rs.length ≤ 3 ∨ rs.length = 6) ∧
  (Comp rs → ∀ (c : Addr) (H' : Hp), Same H H' → GrC K H' c rs → Q (.ref c) H') ∧ (¬ Comp rs → ∀ H', Same H H' → E (.ref (He.ga K "Apart")) none H')

theorem sc__law_common : FnScope ["_law_grids"] ["_law_grids"] (defScope (top 31)) := ⟨rfl, rfl, rfl, by decide +kernel, rfl, by decide +kernel, by decide +kernel⟩
theorem g__law_common (T : Tx fa fn xa fs P w K mg) : FnG P w K mg base (CX P w) 8 "_law_common" ["_law_grids"] (spLCom K) := by
  obtain ⟨fd, F⟩ := T.says.def_ 24 (d := d__law_common) rfl
  have sc := sc__law_common
  refine ⟨_, fd, T.glo 43, F.kp, F.ok sc (fun vs H Q E h => ?len) (fun cdv A outer s H vs Q E hr h => ⟨_, (pss_cons (ps_if (pt_cmpR op_eq (pe_callB cLen (by rfl) (T.free 6) (by decide +kernel) (pa_cons (pv 0) pa_nil)) pe_int (nomark _)) (pss_one (ps_ret (pe_starC0 (sp := (spCommon K)) (E := fun _ => _) (g_common_grid T) (hr.mono (by decide)) (by rfl) (fun σ => Passes.at_ (passes_call (takes_of rfl rfl rfl rfl) (fun _ _ _ _ z => z)) σ) ))) pss_nil)
    (pss_cons (ps_if (pt_cmpR op_eq (pe_callB cLen (by rfl) (T.free 6) (by decide +kernel) (pa_cons (pv 0) pa_nil)) pe_int (nomark _)) (pss_one (ps_ret (pe_starC (sp := (spCommon K)) (E := fun _ => _) (g_common_grid T) (hr.mono (by decide)) (by rfl) (fun σ => Passes.at_ (passes_call (takes_of rfl rfl rfl rfl) (fun _ _ _ _ z => z)) σ) (pa_cons (pe_ix ix_seq (pv 0) pe_int (fun _ _ => rfl)) pa_nil)))) pss_nil)
    (pss_cons (ps_if (pt_cmpR op_eq (pe_callB cLen (by rfl) (T.free 6) (by decide +kernel) (pa_cons (pv 0) pa_nil)) pe_int (nomark _)) (pss_one (ps_ret (pe_starC (sp := (spCommon K)) (E := fun _ => _) (g_common_grid T) (hr.mono (by decide)) (by rfl) (fun σ => Passes.at_ (passes_call (takes_of rfl rfl rfl rfl) (fun _ _ _ _ z => z)) σ) (pa_cons (pe_ix ix_seq (pv 0) pe_int (fun _ _ => rfl)) (pa_cons (pe_ix ix_seq (pv 0) pe_int (fun _ _ => rfl)) pa_nil))))) pss_nil)
    (pss_cons (ps_if (pt_cmpR op_eq (pe_callB cLen (by rfl) (T.free 6) (by decide +kernel) (pa_cons (pv 0) pa_nil)) pe_int (nomark _)) (pss_one (ps_ret (pe_starC (sp := (spCommon K)) (E := fun _ => _) (g_common_grid T) (hr.mono (by decide)) (by rfl) (fun σ => Passes.at_ (passes_call (takes_of rfl rfl rfl rfl) (fun _ _ _ _ z => z)) σ) (pa_cons (pe_ix ix_seq (pv 0) pe_int (fun _ _ => rfl)) (pa_cons (pe_ix ix_seq (pv 0) pe_int (fun _ _ => rfl)) (pa_cons (pe_ix ix_seq (pv 0) pe_int (fun _ _ => rfl)) pa_nil)))))) pss_nil)
    (pss_one (ps_ret (pe_starC (sp := (spCommon K)) (E := fun _ => _) (g_common_grid T) (hr.mono (by decide)) (by rfl) (fun σ => Passes.at_ (passes_call (takes_of rfl rfl rfl rfl) (fun _ _ _ _ z => z)) σ) (pa_cons (pe_ix ix_seq (pv 0) pe_int (fun _ _ => rfl)) (pa_cons (pe_ix ix_seq (pv 0) pe_int (fun _ _ => rfl)) (pa_cons (pe_ix ix_seq (pv 0) pe_int (fun _ _ => rfl)) (pa_cons (pe_ix ix_seq (pv 0) pe_int (fun _ _ => rfl)) (pa_cons (pe_ix ix_seq (pv 0) pe_int (fun _ _ => rfl)) (pa_cons (pe_ix ix_seq (pv 0) pe_int (fun _ _ => rfl)) pa_nil))))))))))))), ?rd⟩), F.bindsN fun _ _ _ _ _ _ us hl => match us, hl with | [_], _ => rfl⟩
  case len =>
    obtain ⟨l, as, rs, rfl, _⟩ := h
    rfl
  case rd =>
    obtain ⟨l, as, rs, rfl, hl, hz, hs, sm, l6, hQ, hX⟩ := h
    show tSeq _ _ ⟨_, _, _, _⟩ [some (.ref l)] H
    try dsimp only [cxOf]
    have lz := hz.1
    have go := use_common (Q := Q) (E := E) hz hs sm (by omega) hQ hX
    walk_at "rl"
    · rename_i c
      rw [List.length_map] at c
      obtain rfl : as = [] := List.eq_nil_of_length_eq_zero (by omega)
      refine w_starC ?_
      walk_at "rl"
      exact go
    · rename_i c
      rw [List.length_map] at c
      obtain ⟨a0, rfl⟩ : ∃ a0, as = [a0] := by
        match as, (show as.length = 1 by omega) with
        | [a0], _ => exact ⟨a0, rfl⟩
      have hl : H l = some (.lst [V.ref a0]) := hl
      refine w_starC ?_
      walk_at "rl"
      exact go
    · rename_i c
      rw [List.length_map] at c
      obtain ⟨a0, a1, rfl⟩ : ∃ a0 a1, as = [a0, a1] := by
        match as, (show as.length = 2 by omega) with
        | [a0, a1], _ => exact ⟨a0, a1, rfl⟩
      have hl : H l = some (.lst [V.ref a0, V.ref a1]) := hl
      refine w_starC ?_
      walk_at "rl"
      exact go
    · rename_i c
      rw [List.length_map] at c
      obtain ⟨a0, a1, a2, rfl⟩ : ∃ a0 a1 a2, as = [a0, a1, a2] := by
        match as, (show as.length = 3 by omega) with
        | [a0, a1, a2], _ => exact ⟨a0, a1, a2, rfl⟩
      have hl : H l = some (.lst [V.ref a0, V.ref a1, V.ref a2]) := hl
      refine w_starC ?_
      walk_at "rl"
      exact go
    · rename_i c0 c1 c2 c3
      rw [List.length_map] at c0 c1 c2 c3
      obtain ⟨a0, a1, a2, a3, a4, a5, rfl⟩ : ∃ a0 a1 a2 a3 a4 a5, as = [a0, a1, a2, a3, a4, a5] := by
        match as, (show as.length = 6 by omega) with
        | [a0, a1, a2, a3, a4, a5], _ => exact ⟨a0, a1, a2, a3, a4, a5, rfl⟩
      have hl : H l = some (.lst [V.ref a0, V.ref a1, V.ref a2, V.ref a3, V.ref a4, V.ref a5]) := hl
      refine w_starC ?_
      walk_at "rl"
      exact go

end
end My
namespace My
open PySem PySem.Spec PyProof.Rows L2 Rd
section
variable {P : Program} {w : World} {K : PySem.W.Frag} {mg : Str → Option Value} {base : Heap}
open GcdM
def spAll (K : PySem.W.Frag) : Sp := fun vs H Q _ => ∃ (l r : Addr) (as : List Addr) (rs : List (Int × Int)), vs = [.ref l, .ref r] ∧ H l = some (.lst (as.map V.ref)) ∧ GrsAt K H as rs ∧ RwsL H r rs ∧ Stp rs ∧ Sml rs ∧ (rs.length ≤ 3 ∨ rs.length = 6) ∧ ∀ H', Same H H' → Q (.bl true) H'

theorem sc__law_all : FnScope ["_law_grids", "_law_rows", "_law_found", "_law_got", "e"] ["_law_grids", "_law_rows"] (defScope (top 32)) := ⟨rfl, rfl, rfl, by decide +kernel, rfl, by decide +kernel, by decide +kernel⟩
theorem g__law_all (T : Tx fa fn xa fs P w K mg) : FnG P w K mg base CX0 9 "_law_all" ["_law_grids", "_law_rows"] (spAll K) := by
  obtain ⟨fd, F⟩ := T.says.def_ 25 (d := d__law_all) rfl
  have sc := sc__law_all
  refine ⟨_, fd, T.glo 44, F.kp, F.ok sc (fun vs H Q E h => ?len) (fun cdv A outer s H vs Q E hr h => ⟨_, PSs.nox (pss_cons (ps_set (i := 2) sc.nd rfl (by first | exact Or.inl rfl | exact Or.inr rfl) pe_non)
    (pss_cons (ps_set (i := 3) sc.nd rfl (by first | exact Or.inl rfl | exact Or.inr rfl) pe_non)
    (C8.pss_cut (ps_catches rfl rfl rfl sc.nd (fun W _ _ tk po => (pss_one (ps_set (i := 3) sc.nd rfl (by first | exact Or.inl rfl | exact Or.inr rfl) (pe_cgS (sp := (spLCom K)) (E := WE W) (g__law_common T) (hr.mono (by decide)) (by rfl) (fun σ => passAt tk σ) (pa_cons (pv 0) pa_nil)))))
    (PHs.cons (i := 4) (c := .ref (He.ga K "Apart")) rfl rfl ⟨rfl, by decide, .inl (T.glo 21)⟩ (fun _ _ => (pss_one (ps_set (i := 2) sc.nd rfl (by first | exact Or.inl rfl | exact Or.inr rfl) (pv 4)))) PHs.nil))
    (pss_one (ps_ret (pe_cg (g__law_meets T) (hr.mono (by decide)) rfl (pa_cons (pv 3) (pa_cons (pv 2) (pa_cons (pv 1) pa_nil))))))))), ?rd⟩), F.bindsN fun _ _ _ _ _ _ us hl => match us, hl with | [_, _], _ => rfl⟩
  case len =>
    obtain ⟨l, r, as, rs, rfl, _⟩ := h
    rfl
  case rd =>
    have xi_Apart := (T.exc 1 (x := "Apart") rfl).is
    have xf_Apart := (T.exc 1 (x := "Apart") rfl).fld
    have xm_Apart_Apart := T.exm 14 (x := "Apart") (y := "Apart") rfl
    obtain ⟨l, r, as, rs, rfl, hl, hz, hr, hs, sm, l6, hQ⟩ := h
    show tSeq _ _ ⟨_, _, _, _⟩ [some (.ref l), some (.ref r), none, none, none] H
    try dsimp only [cxOf]
    walk_at "rl"
    refine w_cut (fun σ' H' => ∃ (f m : V) (e9 : Option V), Same H H' ∧ Met K H' m f rs ∧ σ' = [some (.ref l), some (.ref r), some f, some m, e9]) ?_ ?_
    · walk_at "rl"
      refine ⟨l, as, rs, rfl, hl, hz, hs, sm, l6, fun cm c H2 s2 g2 => ?_, fun cm H2 s2 => ?_⟩
      · walk_at "rl"
        exact ⟨_, _, _, s2, .inl ⟨cm, rfl, c, rfl, g2⟩, rfl⟩
      · refine n_caught0 (by assumption) fun x H3 hx s3 xa => ?_
        walk_at "rl"
        exact ⟨_, _, _, s2.trans s3, .inr ⟨cm, rfl, x, rfl, xa⟩, rfl⟩
    rintro σ' H2 ⟨f, m, e9, s2, mt, rfl⟩
    walk_at "rl"
    exact ⟨m, f, r, rs, rfl, mt, hr.keep s2, hs, sm, by omega, fun H3 s3 => hQ H3 (s2.trans s3)⟩

end
end My
namespace My
open PySem PySem.Spec PyProof.Rows L2 Rd
section
variable {P : Program} {w : World} {K : PySem.W.Frag} {mg : Str → Option Value} {base : Heap}
/-- an answer and the one that is due -/
def RowB (H : Hp) (v : V) : Prop := ∃ (t : Addr) (b : Bool), v = .ref t ∧ H t = some (.tup [.bl b, .bl b])
theorem RowB.keep {H H' : Hp} {v : V} (h : RowB H v) (s : Same H H') : RowB H' v := let ⟨t, b, e, et⟩ := h; ⟨t, b, e, s _ _ et⟩
def spTruths : Sp := fun vs H Q _ => ∃ (l : Addr) (xs : List V), vs = [.ref l] ∧ H l = some (.lst xs) ∧ (∀ x ∈ xs, RowB H x) ∧ Q (.bl true) H

theorem sc__law_truths : FnScope ["_law_rows", "_law_got", "_law_due"] ["_law_rows"] (defScope (top 33)) := ⟨rfl, rfl, rfl, by decide +kernel, rfl, by decide +kernel, by decide +kernel⟩
theorem g__law_truths (T : Tx fa fn xa fs P w K mg) : FnG P w K mg base CX0 1 "_law_truths" ["_law_rows"] spTruths := by
  obtain ⟨fd, F⟩ := T.says.def_ 26 (d := d__law_truths) rfl
  have sc := sc__law_truths
  refine ⟨_, fd, T.glo 45, F.kp, F.ok sc (fun vs H Q E h => ?len) (fun cdv A outer s H vs Q E hr h => ⟨_, PSs.nox (pss_cons (ps_for PassesOwn.never rfl (pi_list (pv 0)) (pg_tup (n := 2) rfl (pgs_cons (pg_name (i := 1) sc.nd rfl (by first | exact Or.inl rfl | exact Or.inr rfl)) (pgs_cons (pg_name (i := 2) sc.nd rfl (by first | exact Or.inl rfl | exact Or.inr rfl)) pgs_nil))) (pss_one (ps_if (PW.pt (pw_or (pt_not (pt_val (pe_callB cIsi (by rfl) (T.free 0) (by decide +kernel) (pa_cons (pv 1) (pa_cons (pe_bltn (v := .ty "bool") (u := .type "bool") rfl (T.free 1) (by decide +kernel) rfl) pa_nil))))) (pw_or1 (pt_cmpR op_ne (pv 1) (pv 2) (nomark _))))) (pss_one (ps_ret pe_bl)) pss_nil)))
    (pss_one (ps_ret pe_bl))), ?rd⟩), F.bindsN fun _ _ _ _ _ _ us hl => match us, hl with | [_], _ => rfl⟩
  case len =>
    obtain ⟨l, xs, rfl, _⟩ := h
    rfl
  case rd =>
    obtain ⟨l, xs, rfl, el, all, hQ⟩ := h
    show tSeq _ _ ⟨_, _, _, _⟩ [some (.ref l), none, none] H
    try dsimp only [cxOf]
    walk_at "rl"
    refine ⟨l, rfl, ⟨_, SqL.of el⟩, for_list (xs := xs) (fun i σ H' => H' = H ∧ ∃ v5 v6, σ = [some (.ref l), v5, v6]) ⟨rfl, _, _, rfl⟩ (fun i σ H' _ z => z.1 ▸ SqL.of el) ?_ ?_⟩
    · rintro i x σ H2 hx ⟨rfl, v5, v6, rfl⟩
      obtain ⟨t, b0, rfl, et⟩ := all x (List.mem_of_getElem? hx)
      walk_at "rl"
      refine w_neB ?_
      rw [decide_eq_true rfl]
      walk_at "rl"
      exact ⟨rfl, _, _, rfl⟩
    · rintro σ H2 ⟨rfl, v5, v6, rfl⟩
      walk_at "rl"
      exact hQ

end
end My
namespace My
open PySem PySem.Spec PyProof.Rows L2 Rd
section
variable {P : Program} {w : World} {K : PySem.W.Frag} {mg : Str → Option Value} {base : Heap}
section
variable {H : Hp} {a b c : Addr} {s o t u j : Int} {Q : VK} {E : XK} {xs : List V}
theorem use_eqO (ha : IsGrid K H a s o) (hb : IsGrid K H b t u) (q : Q (.bl (decide (s = t) && decide (o = u))) H) : rEqG (He.ga K "Grid") (spEq K) (.ref a) (.ref b) H Q :=
  let ⟨_, ea⟩ := id ha; let ⟨_, eb⟩ := id hb; w_eqGO ea eb ⟨a, s, o, _, rfl, ha, .inr ⟨b, t, u, rfl, hb, q⟩⟩
theorem use_eqS (ha : IsGrid K H a s o) (hb : IsGrid K H b s o) (q : Q (.bl true) H) : rEqG (He.ga K "Grid") (spEq K) (.ref a) (.ref b) H Q := use_eqO ha hb (by rw [decide_eq_true rfl, decide_eq_true rfl]; exact q)
theorem use_eqF (ha : IsGrid K H a s o) (hb : IsGrid K H b t u) (n : ¬ s = t) (q : Q (.bl false) H) : rEqG (He.ga K "Grid") (spEq K) (.ref a) (.ref b) H Q := use_eqO ha hb (by rw [decide_eq_false n, Bool.false_and]; exact q)
theorem use_eqI (ha : IsGrid K H a s o) (q : Q (.bl false) H) : rEqG (He.ga K "Grid") (spEq K) (.ref a) (.int j) H Q := let ⟨_, ea⟩ := id ha; w_eqGI ea ⟨a, s, o, _, rfl, ha, .inl ⟨.int j, q⟩⟩
theorem use_eqT (hc : H c = some (.tup xs)) (ha : IsGrid K H a s o) (q : Q (.bl false) H) : rEqG (He.ga K "Grid") (spEq K) (.ref a) (.ref c) H Q := let ⟨_, ea⟩ := id ha; w_eqGT ea hc ⟨a, s, o, _, rfl, ha, .inl ⟨.tup hc, q⟩⟩
theorem use_neO (ha : IsGrid K H a s o) (hb : IsGrid K H b t u) (q : Q (.bl (!(decide (s = t) && decide (o = u)))) H) : rNeG (He.ga K "Grid") (spEq K) (.ref a) (.ref b) H Q :=
  let ⟨_, ea⟩ := id ha; let ⟨_, eb⟩ := id hb; w_neGO ea eb ⟨a, s, o, _, rfl, ha, .inr ⟨b, t, u, rfl, hb, ⟨_, rfl, q⟩⟩⟩
theorem use_neS (ha : IsGrid K H a s o) (hb : IsGrid K H b s o) (q : Q (.bl false) H) : rNeG (He.ga K "Grid") (spEq K) (.ref a) (.ref b) H Q := use_neO ha hb (by rw [decide_eq_true rfl, decide_eq_true rfl]; exact q)
theorem use_neI (ha : IsGrid K H a s o) (q : Q (.bl true) H) : rNeG (He.ga K "Grid") (spEq K) (.ref a) (.int j) H Q := let ⟨_, ea⟩ := id ha; w_neGI ea ⟨a, s, o, _, rfl, ha, .inl ⟨.int j, ⟨_, rfl, q⟩⟩⟩
theorem use_neT (hc : H c = some (.tup xs)) (ha : IsGrid K H a s o) (q : Q (.bl true) H) : rNeG (He.ga K "Grid") (spEq K) (.ref a) (.ref c) H Q := let ⟨_, ea⟩ := id ha; w_neGT ea hc ⟨a, s, o, _, rfl, ha, .inl ⟨.tup hc, ⟨_, rfl, q⟩⟩⟩
end

end
end My
namespace My
open PySem PySem.Spec PyProof.Rows L2 Rd
section
variable {P : Program} {w : World} {K : PySem.W.Frag} {mg : Str → Option Value} {base : Heap}
/-- a grid and an offset that is due -/
def RowG (K : PySem.W.Frag) (H : Hp) (s : Int) (v : V) : Prop := ∃ (t a : Addr) (o f : Int), v = .ref t ∧ H t = some (.tup [.ref a, .int f]) ∧ IsGrid K H a s o ∧ 0 ≤ o ∧ o < s ∧ s ∣ o - f
theorem RowG.keep {H H' : Hp} {s : Int} {v : V} (h : RowG K H s v) (k : Same H H') : RowG K H' s v := let ⟨t, a, o, f, e, et, ha, r⟩ := h; ⟨t, a, o, f, e, k _ _ et, ha.keep k, r⟩
def spAlone (K : PySem.W.Frag) : Sp := fun vs H Q _ => ∃ (a c : Addr) (s o k : Int), vs = [.ref a, .ref c, .int k] ∧ IsGrid K H a s (o % s) ∧ H c = some (.tup [.int s, .int o]) ∧ 1 ≤ s ∧ ∀ H', Same H H' → Q (.bl true) H'

theorem sc__law_alone : FnScope ["_law_one", "_law_a", "_law_k", "_law_got", "_law_offset", "_law_like", "_law_beside", "_law_rows"] ["_law_one", "_law_a", "_law_k"] (defScope (top 34)) := ⟨rfl, rfl, rfl, by decide +kernel, rfl, by decide +kernel, by decide +kernel⟩
theorem g__law_alone (T : Tx fa fn xa fs P w K mg) : FnG P w K mg base CX0 7 "_law_alone" ["_law_one", "_law_a", "_law_k"] (spAlone K) := by
  obtain ⟨fd, F⟩ := T.says.def_ 27 (d := d__law_alone) rfl
  have sc := sc__law_alone
  refine ⟨_, fd, T.glo 46, F.kp, F.ok sc (fun vs H Q E h => ?len) (fun cdv A outer s H vs Q E hr h => ⟨_, PSs.nox (pss_cons (ps_for PassesOwn.never rfl (pi_list (pe_lst (pa_cons (pe_tup (pa_cons (pe_binT (op := .Add) (C := He.ga K "Grid") (sp := (spAdd K)) (E := fun _ => E0) (g_Grid___add__ T) (T.binT 18) (hr.mono (by decide)) (fun σ => Passes.at_ pass0 σ) (pv 0) (pv 2)) (pa_cons (pe_op oAdd (pe_ix ix_seq (pv 1) pe_int (fun _ _ => rfl)) (pv 2)) pa_nil))) (pa_cons (pe_tup (pa_cons (pe_binR (op := .Add) (C := He.ga K "Grid") (sp := (spRadd K)) (E := fun _ => E0) (g_Grid___add__ T) (g_Grid___radd__ T) (T.self1 6) (T.noint 17) PySem.F.fills_int_add PySem.F.slot_int_add PySem.F.entry_int_add PySem.F.args_int_add_2 (hr.mono (by decide)) (fun σ => Passes.at_ pass0 σ) (pv 2) (pv 0)) (pa_cons (pe_op oAdd (pe_ix ix_seq (pv 1) pe_int (fun _ _ => rfl)) (pv 2)) pa_nil))) (pa_cons (pe_tup (pa_cons (pe_binT (op := .Sub) (C := He.ga K "Grid") (sp := (spSub K)) (E := fun _ => E0) (g_Grid___sub__ T) (T.binT 16) (hr.mono (by decide)) (fun σ => Passes.at_ pass0 σ) (pv 0) (pv 2)) (pa_cons (pe_op oSub (pe_ix ix_seq (pv 1) pe_int (fun _ _ => rfl)) (pv 2)) pa_nil))) (pa_cons (pe_tup (pa_cons (pv 0) (pa_cons (pe_ix ix_seq (pv 1) pe_int (fun _ _ => rfl)) pa_nil))) pa_nil)))))) (pg_tup (n := 2) rfl (pgs_cons (pg_name (i := 3) sc.nd rfl (by first | exact Or.inl rfl | exact Or.inr rfl)) (pgs_cons (pg_name (i := 4) sc.nd rfl (by first | exact Or.inl rfl | exact Or.inr rfl)) pgs_nil))) (pss_one (ps_if (pt_not (pt_val (pe_cg (g__law_grid T) (hr.mono (by decide)) rfl (pa_cons (pv 3) (pa_cons (pe_ix ix_seq (pv 1) pe_int (fun _ _ => rfl)) (pa_cons (pv 4) pa_nil)))))) (pss_one (ps_ret pe_bl)) pss_nil)))
    (pss_cons (ps_set (i := 5) sc.nd rfl (by first | exact Or.inl rfl | exact Or.inr rfl) (pe_mkE (mk_Grid2 T) (hr.mono (by decide)) rfl passL (pa_cons (pe_ix ix_seq (pv 1) pe_int (fun _ _ => rfl)) (pa_cons (pe_op oAdd (pe_ix ix_seq (pv 1) pe_int (fun _ _ => rfl)) (pe_op oMul pe_int (pe_ix ix_seq (pv 1) pe_int (fun _ _ => rfl)))) pa_nil))))
    (pss_cons (ps_set (i := 6) sc.nd rfl (by first | exact Or.inl rfl | exact Or.inr rfl) (pe_mkE (mk_Grid2 T) (hr.mono (by decide)) rfl passL (pa_cons (pe_ix ix_seq (pv 1) pe_int (fun _ _ => rfl)) (pa_cons (pe_op oAdd (pe_ix ix_seq (pv 1) pe_int (fun _ _ => rfl)) pe_int) pa_nil))))
    (pss_cons (ps_set (i := 7) sc.nd rfl (by first | exact Or.inl rfl | exact Or.inr rfl) (pe_lst (pa_cons (pe_tup (pa_cons (pe_cmpR (oEqG (g_Grid___eq__ T) (hr.mono (by decide))) (pv 0) (pv 5) (nomark _)) (pa_cons pe_bl pa_nil))) (pa_cons (pe_tup (pa_cons (pe_cmpR (oNeG (g_Grid___eq__ T) (T.neD 15) (hr.mono (by decide))) (pv 0) (pv 5) (nomark _)) (pa_cons pe_bl pa_nil))) (pa_cons (pe_tup (pa_cons (pe_cmpR (oEqG (g_Grid___eq__ T) (hr.mono (by decide))) (pv 0) (pv 6) (nomark _)) (pa_cons (pe_cmpR op_eq (pe_ix ix_seq (pv 1) pe_int (fun _ _ => rfl)) pe_int (nomark _)) pa_nil))) (pa_cons (pe_tup (pa_cons (pe_cmpR (oNeG (g_Grid___eq__ T) (T.neD 15) (hr.mono (by decide))) (pv 0) (pv 6) (nomark _)) (pa_cons (pe_cmpR oGt (pe_ix ix_seq (pv 1) pe_int (fun _ _ => rfl)) pe_int (nomark _)) pa_nil))) pa_nil))))))
    (pss_cons (ps_set (i := 7) sc.nd rfl (by first | exact Or.inl rfl | exact Or.inr rfl) (pe_op oAdd (pv 7) (pe_lst (pa_cons (pe_tup (pa_cons (pe_cmpR (oEqG (g_Grid___eq__ T) (hr.mono (by decide))) (pv 0) (pe_mkE (mk_Grid2 T) (hr.mono (by decide)) rfl passL (pa_cons (pe_op oAdd (pe_ix ix_seq (pv 1) pe_int (fun _ _ => rfl)) pe_int) (pa_cons (pe_ix ix_seq (pv 1) pe_int (fun _ _ => rfl)) pa_nil))) (nomark _)) (pa_cons pe_bl pa_nil))) (pa_cons (pe_tup (pa_cons (pe_cmpR (oEqG (g_Grid___eq__ T) (hr.mono (by decide))) (pv 0) (pe_ix ix_seq (pv 1) pe_int (fun _ _ => rfl)) (nomark _)) (pa_cons pe_bl pa_nil))) (pa_cons (pe_tup (pa_cons (pe_cmpR (oNeG (g_Grid___eq__ T) (T.neD 15) (hr.mono (by decide))) (pv 0) (pe_ix ix_seq (pv 1) pe_int (fun _ _ => rfl)) (nomark _)) (pa_cons pe_bl pa_nil))) pa_nil))))))
    (pss_one (ps_ret (pe_cg (g__law_truths T) (hr.mono (by decide)) rfl (pa_cons (pe_op oAdd (pv 7) (pe_lst (pa_cons (pe_tup (pa_cons (pe_cmpR (oEqG (g_Grid___eq__ T) (hr.mono (by decide))) (pv 0) (pv 1) (nomark _)) (pa_cons pe_bl pa_nil))) (pa_cons (pe_tup (pa_cons (pe_cmpR (oNeG (g_Grid___eq__ T) (T.neD 15) (hr.mono (by decide))) (pv 0) (pv 1) (nomark _)) (pa_cons pe_bl pa_nil))) (pa_cons (pe_tup (pa_cons (pe_cmpR (oEqG (g_Grid___eq__ T) (hr.mono (by decide))) (pv 0) (pv 0) (nomark _)) (pa_cons pe_bl pa_nil))) pa_nil))))) pa_nil))))))))), ?rd⟩), F.bindsN fun _ _ _ _ _ _ us hl => match us, hl with | [_, _, _], _ => rfl⟩
  case len =>
    obtain ⟨a, c, s, o, k, rfl, _⟩ := h
    rfl
  case rd =>
    obtain ⟨a, c, s, o, k, rfl, ha, hc, s1, hQ⟩ := h
    show tSeq _ _ ⟨_, _, _, _⟩ [some (.ref a), some (.ref c), some (.int k), none, none, none, none, none] H
    try dsimp only [cxOf]
    have m0 := Int.emod_nonneg o (show s ≠ 0 by omega)
    have m1 := Int.emod_lt_of_pos o (show 0 < s by omega)
    have md : ∀ x : Int, s ∣ x % s - x := fun x => ⟨-(x / s), by rw [Int.emod_def, Int.mul_neg]; omega⟩
    have mm : ∀ x y : Int, s ∣ (o % s + x) % s - (o + x) := fun x y => by
      rw [Int.emod_add_emod]
      exact md _
    obtain ⟨dx, ea⟩ := id ha
    have hcl_Grid : Cls K (He.ga K "Grid") := T.cls 16
    have hn_Grid_step : NoAttr K (He.ga K "Grid") "step" := T.noat 17
    have hn_Grid_offset : NoAttr K (He.ga K "Grid") "offset" := T.noat 18
    walk_at "rl"
    refine w_binT ?_
    walk_at "rl"
    refine w_kbinT1 ?_
    walk_at "rl"
    refine w_kbinT2 ea ?_
    refine ⟨a, s, o % s, k, rfl, ha, s1, fun c1 H1 n1 S1 g1 => ?_⟩
    walk_at "rl"
    rename_i t1 M1 nt1 v1 et1
    have S := S1.trans v1
    have r1 : RowG K M1 s (.ref t1) := ⟨t1, c1, _, _, rfl, et1, g1.keep v1, Int.emod_nonneg _ (by omega), Int.emod_lt_of_pos _ (by omega), mm k 0⟩
    clear S1 v1 n1 nt1 et1 g1
    refine w_binR ?_
    walk_at "rl"
    refine w_kbinR1 ?_
    walk_at "rl"
    refine w_kbinR2 (S _ _ ea) ?_
    refine ⟨a, s, o % s, k, rfl, ha.keep S, s1, fun c1 H1 n1 S1 g1 => ?_⟩
    walk_at "rl"
    rename_i t2 M2 nt1 v1 et1
    have r2 : RowG K M2 s (.ref t2) := ⟨t2, c1, _, _, rfl, et1, g1.keep v1, Int.emod_nonneg _ (by omega), Int.emod_lt_of_pos _ (by omega), mm k 0⟩
    replace r1 := r1.keep (S1.trans v1)
    replace S := S.trans (S1.trans v1)
    clear S1 v1 n1 nt1 et1 g1
    refine w_binT ?_
    walk_at "rl"
    refine w_kbinT1 ?_
    walk_at "rl"
    refine w_kbinT2 (S _ _ ea) ?_
    refine ⟨a, s, o % s, k, rfl, ha.keep S, s1, fun c1 H1 n1 S1 g1 => ?_⟩
    walk_at "rl"
    rename_i t3 M3 nt3 v3 et3 t4 M4 nt4 v4 et4 ll Hl nl vl el
    have r3 : RowG K M3 s (.ref t3) := ⟨t3, c1, _, _, rfl, et3, g1.keep v3, Int.emod_nonneg _ (by omega), Int.emod_lt_of_pos _ (by omega), by rw [Int.emod_sub_emod]; exact md _⟩
    have S4 := S.trans (((S1.trans v3).trans v4))
    have r4 : RowG K M4 s (.ref t4) := ⟨t4, a, _, _, rfl, et4, ha.keep S4, m0, m1, md _⟩
    have all : ∀ x ∈ [V.ref t1, V.ref t2, V.ref t3, V.ref t4], RowG K Hl s x := fun x m => by
      simp only [List.mem_cons, List.not_mem_nil, or_false] at m
      rcases m with rfl | rfl | rfl | rfl
      · exact r1.keep (((S1.trans v3).trans v4).trans vl)
      · exact r2.keep (((S1.trans v3).trans v4).trans vl)
      · exact r3.keep (v4.trans vl)
      · exact r4.keep vl
    have S5 := S4.trans vl
    clear S S4 S1 v3 v4 vl r1 r2 r3 r4 et3 et4 nt3 nt4 nl n1 g1
    refine ⟨ll, rfl, ⟨_, SqL.of el⟩, for_list (xs := [V.ref t1, V.ref t2, V.ref t3, V.ref t4]) (fun i σ H' => H' = Hl ∧ ∃ w3 w4, σ = [some (.ref a), some (.ref c), some (.int k), w3, w4, none, none, none]) ⟨rfl, _, _, rfl⟩ (fun i σ H' _ z => z.1 ▸ SqL.of el) ?_ ?_⟩
    · rintro i x σ H2 hx ⟨rfl, w3, w4, rfl⟩
      obtain ⟨t, b, p, f, rfl, et, gb, p0, p1, pd⟩ := all x (List.mem_of_getElem? hx)
      have hc2 := S5 _ _ hc
      walk_at "rl"
      refine ⟨b, s, p, f, rfl, gb, s1, p0, p1, pd, ?_⟩
      walk_at "rl"
      exact ⟨rfl, _, _, rfl⟩
    rintro σ H2 ⟨rfl, w3, w4, rfl⟩
    clear all el
    have hc2 := S5 _ _ hc
    walk_at "rl"
    refine use_grid (Makes.ok (bad_f (by omega)) fun lk dl B1 nk sk ek => ?_)
    rw [like5] at ek
    have gk : IsGrid K B1 lk s (o % s) := ⟨dl, ek⟩
    replace S5 := S5.trans sk
    clear hc2 nk sk ek
    have hc2 := S5 _ _ hc
    walk_at "rl"
    refine use_grid (Makes.ok (bad_f (by omega)) fun bs db B2 nb sb eb => ?_)
    have gb : IsGrid K B2 bs s ((o + 1) % s) := ⟨db, eb⟩
    replace gk := gk.keep sb
    have S := S5.trans sb
    clear hc2 nb sb eb S5
    have hc2 := S _ _ hc
    walk_at "rl"
    refine use_eqS (ha.keep S) gk ?_
    walk_at "rl"
    rename_i q1 M1 nt1 v1 et1
    have r1 : RowB M1 (.ref q1) := ⟨q1, _, rfl, et1⟩
    replace gk := gk.keep (v1)
    replace gb := gb.keep (v1)
    replace S := S.trans (v1)
    replace hc2 := S _ _ hc
    clear nt1 v1 et1
    refine use_neS (ha.keep S) gk ?_
    walk_at "rl"
    rename_i q2 M2 nt2 v2 et2
    have r2 : RowB M2 (.ref q2) := ⟨q2, _, rfl, et2⟩
    replace r1 := r1.keep (v2)
    replace gk := gk.keep (v2)
    replace gb := gb.keep (v2)
    replace S := S.trans (v2)
    replace hc2 := S _ _ hc
    clear nt2 v2 et2
    refine use_eqO (ha.keep S) gb ?_
    rw [beside5 s1]
    walk_at "rl"
    rename_i q3 M3 nt3 v3 et3
    have r3 : RowB M3 (.ref q3) := ⟨q3, _, rfl, et3⟩
    replace r1 := r1.keep (v3)
    replace r2 := r2.keep (v3)
    replace gk := gk.keep (v3)
    replace gb := gb.keep (v3)
    replace S := S.trans (v3)
    replace hc2 := S _ _ hc
    clear nt3 v3 et3
    refine use_neO (ha.keep S) gb ?_
    rw [beside6 s1]
    walk_at "rl"
    rename_i q4 M4 nt4 v4 et4 ls0 N0 nl0 w0 el0
    have r4 : RowB M4 (.ref q4) := ⟨q4, _, rfl, et4⟩
    replace r4 := r4.keep (w0)
    replace r1 := r1.keep ((v4).trans w0)
    replace r2 := r2.keep ((v4).trans w0)
    replace r3 := r3.keep ((v4).trans w0)
    replace gk := gk.keep ((v4).trans w0)
    replace gb := gb.keep ((v4).trans w0)
    replace S := S.trans ((v4).trans w0)
    replace hc2 := S _ _ hc
    clear nt4 w0 v4 et4
    have eL := el0
    clear el0 nl0
    refine use_grid (Makes.ok (bad_f (by omega)) fun cs dxs Hs hcs ss es => ?_)
    walk_at "rl"
    refine use_eqF (ha.keep (S.trans ss)) ⟨_, es⟩ (by omega) ?_
    walk_at "rl"
    rename_i q5 M5 nt5 v5 et5
    have r5 : RowB M5 (.ref q5) := ⟨q5, _, rfl, et5⟩
    replace r1 := r1.keep ((ss).trans v5)
    replace r2 := r2.keep ((ss).trans v5)
    replace r3 := r3.keep ((ss).trans v5)
    replace r4 := r4.keep ((ss).trans v5)
    replace eL := ((ss).trans v5) _ _ eL
    replace S := S.trans ((ss).trans v5)
    replace hc2 := S _ _ hc
    clear nt5 v5 ss et5 hcs es
    refine use_eqI (ha.keep S) ?_
    walk_at "rl"
    rename_i q6 M6 nt6 v6 et6
    have r6 : RowB M6 (.ref q6) := ⟨q6, _, rfl, et6⟩
    replace r1 := r1.keep (v6)
    replace r2 := r2.keep (v6)
    replace r3 := r3.keep (v6)
    replace r4 := r4.keep (v6)
    replace r5 := r5.keep (v6)
    replace eL := (v6) _ _ eL
    replace S := S.trans (v6)
    replace hc2 := S _ _ hc
    clear nt6 v6 et6
    refine use_neI (ha.keep S) ?_
    walk_at "rl"
    rename_i q7 M7 nt7 v7 et7 ls1 N1 nl1 w1 el1 L1 R1 nL1 x1 eL1
    have r7 : RowB M7 (.ref q7) := ⟨q7, _, rfl, et7⟩
    replace r7 := r7.keep ((w1).trans x1)
    replace r1 := r1.keep (((v7).trans w1).trans x1)
    replace r2 := r2.keep (((v7).trans w1).trans x1)
    replace r3 := r3.keep (((v7).trans w1).trans x1)
    replace r4 := r4.keep (((v7).trans w1).trans x1)
    replace r5 := r5.keep (((v7).trans w1).trans x1)
    replace r6 := r6.keep (((v7).trans w1).trans x1)
    replace S := S.trans (((v7).trans w1).trans x1)
    replace hc2 := S _ _ hc
    clear nt7 x1 w1 v7 et7
    replace eL := eL1
    clear el1 nl1 nL1
    refine use_eqT (S _ _ hc) (ha.keep S) ?_
    walk_at "rl"
    rename_i q8 M8 nt8 v8 et8
    have r8 : RowB M8 (.ref q8) := ⟨q8, _, rfl, et8⟩
    replace r1 := r1.keep (v8)
    replace r2 := r2.keep (v8)
    replace r3 := r3.keep (v8)
    replace r4 := r4.keep (v8)
    replace r5 := r5.keep (v8)
    replace r6 := r6.keep (v8)
    replace r7 := r7.keep (v8)
    replace eL := (v8) _ _ eL
    replace S := S.trans (v8)
    replace hc2 := S _ _ hc
    clear nt8 v8 et8
    refine use_neT (S _ _ hc) (ha.keep S) ?_
    walk_at "rl"
    rename_i q9 M9 nt9 v9 et9
    have r9 : RowB M9 (.ref q9) := ⟨q9, _, rfl, et9⟩
    replace r1 := r1.keep (v9)
    replace r2 := r2.keep (v9)
    replace r3 := r3.keep (v9)
    replace r4 := r4.keep (v9)
    replace r5 := r5.keep (v9)
    replace r6 := r6.keep (v9)
    replace r7 := r7.keep (v9)
    replace r8 := r8.keep (v9)
    replace eL := (v9) _ _ eL
    replace S := S.trans (v9)
    replace hc2 := S _ _ hc
    clear nt9 v9 et9
    refine use_eqS (ha.keep S) (ha.keep S) ?_
    walk_at "rl"
    rename_i q10 M10 nt10 v10 et10 ls2 N2 nl2 w2 el2 L2 R2 nL2 x2 eL2
    have r10 : RowB M10 (.ref q10) := ⟨q10, _, rfl, et10⟩
    replace r10 := r10.keep ((w2).trans x2)
    replace r1 := r1.keep (((v10).trans w2).trans x2)
    replace r2 := r2.keep (((v10).trans w2).trans x2)
    replace r3 := r3.keep (((v10).trans w2).trans x2)
    replace r4 := r4.keep (((v10).trans w2).trans x2)
    replace r5 := r5.keep (((v10).trans w2).trans x2)
    replace r6 := r6.keep (((v10).trans w2).trans x2)
    replace r7 := r7.keep (((v10).trans w2).trans x2)
    replace r8 := r8.keep (((v10).trans w2).trans x2)
    replace r9 := r9.keep (((v10).trans w2).trans x2)
    replace S := S.trans (((v10).trans w2).trans x2)
    replace hc2 := S _ _ hc
    clear nt10 x2 w2 v10 et10
    replace eL := eL2
    clear el2 nl2 nL2
    have eL : R2 L2 = some (.lst [V.ref q1, V.ref q2, V.ref q3, V.ref q4, V.ref q5, V.ref q6, V.ref q7, V.ref q8, V.ref q9, V.ref q10]) := eL
    have all : ∀ x ∈ [V.ref q1, V.ref q2, V.ref q3, V.ref q4, V.ref q5, V.ref q6, V.ref q7, V.ref q8, V.ref q9, V.ref q10], RowB R2 x := fun x m => by
      simp only [List.mem_cons, List.not_mem_nil, or_false] at m
      rcases m with rfl | rfl | rfl | rfl | rfl | rfl | rfl | rfl | rfl | rfl <;> assumption
    clear r1 r2 r3 r4 r5 r6 r7 r8 r9 r10
    refine ⟨L2, _, rfl, eL, all, ?_⟩
    exact hQ _ S

end
end My
namespace My
open PySem PySem.Spec PyProof.Rows L2 Rd
section
variable {P : Program} {w : World} {K : PySem.W.Frag} {mg : Str → Option Value} {base : Heap}
open GcdM
theorem w_andVD {H : Hp} {Q : VK} {x y : Bool} {ta tb : TE} {σ : L2.St} (ha : ∀ Q : VK, Q (.bl x) H → ta σ H Q) (hb : ∀ Q : VK, Q (.bl y) H → tb σ H Q) (q : Q (.bl (x && y)) H) : tAndV ta tb σ H Q :=
  ha _ ⟨x, rfl, by cases x <;> first | exact hb _ q | exact q⟩
def spPair (K : PySem.W.Frag) : Sp := fun vs H Q _ => ∃ (a b c d l : Addr) (s o t u : Int) (ns : List Int), vs = [.ref a, .ref b, .ref c, .ref d, .ref l] ∧ IsGrid K H a s (o % s) ∧ IsGrid K H b t (u % t) ∧ H c = some (.tup [.int s, .int o]) ∧ H d = some (.tup [.int t, .int u]) ∧ 1 ≤ s ∧ 1 ≤ t ∧ s < 2 ^ 100 ∧ t < 2 ^ 100 ∧ H l = some (.lst (ns.map V.int)) ∧ ∀ H', Same H H' → Q (.bl true) H'

theorem sc__law_pair : FnScope ["_law_one", "_law_two", "_law_a", "_law_b", "_law_ticks", "_law_nested", "_law_same", "_law_tick", "_law_told"] ["_law_one", "_law_two", "_law_a", "_law_b", "_law_ticks"] (defScope (top 35)) := ⟨rfl, rfl, rfl, by decide +kernel, rfl, by decide +kernel, by decide +kernel⟩
theorem g__law_pair (T : Tx fa fn xa fs P w K mg) : FnG P w K mg base CX0 9 "_law_pair" ["_law_one", "_law_two", "_law_a", "_law_b", "_law_ticks"] (spPair K) := by
  obtain ⟨fd, F⟩ := T.says.def_ 28 (d := d__law_pair) rfl
  have sc := sc__law_pair
  refine ⟨_, fd, T.glo 47, F.kp, F.ok sc (fun vs H Q E h => ?len) (fun cdv A outer s H vs Q E hr h => ⟨_, PSs.nox (pss_cons (ps_set (i := 5) sc.nd rfl (by first | exact Or.inl rfl | exact Or.inr rfl) (pe_and (pe_cmpR op_eq (pe_op oMod (pe_callTy cInt (by rfl) (T.free 2) (by decide +kernel) (pa_cons (pe_ix ix_seq (pv 2) pe_int (fun _ _ => rfl)) pa_nil)) (pe_ix ix_seq (pv 3) pe_int (fun _ _ => rfl))) pe_int (nomark _)) (pe_one (pe_cmpR op_eq (pe_op oMod (pe_callTy cInt (by rfl) (T.free 2) (by decide +kernel) (pa_cons (pe_op oSub (pe_ix ix_seq (pv 2) pe_int (fun _ _ => rfl)) (pe_ix ix_seq (pv 3) pe_int (fun _ _ => rfl))) pa_nil)) (pe_ix ix_seq (pv 3) pe_int (fun _ _ => rfl))) pe_int (nomark _)))))
    (pss_cons (ps_set (i := 6) sc.nd rfl (by first | exact Or.inl rfl | exact Or.inr rfl) (pe_and (pv 5) (pe_one (pe_cmpR op_eq (pe_ix ix_seq (pv 2) pe_int (fun _ _ => rfl)) (pe_ix ix_seq (pv 3) pe_int (fun _ _ => rfl)) (nomark _)))))
    (pss_cons (ps_if (pt_not (pt_val (pe_cg (g__law_truths T) (hr.mono (by decide)) rfl (pa_cons (pe_lst (pa_cons (pe_tup (pa_cons (pe_mg (g_Grid_within T) (hr.mono (by decide)) (pv 0) (pa_cons (pv 1) pa_nil)) (pa_cons (pv 5) pa_nil))) (pa_cons (pe_tup (pa_cons (pe_cmpR (oEqG (g_Grid___eq__ T) (hr.mono (by decide))) (pv 0) (pv 1) (nomark _)) (pa_cons (pv 6) pa_nil))) (pa_cons (pe_tup (pa_cons (pe_cmpR (oNeG (g_Grid___eq__ T) (T.neD 15) (hr.mono (by decide))) (pv 0) (pv 1) (nomark _)) (pa_cons (pe_not (pv 6)) pa_nil))) pa_nil)))) pa_nil)))) (pss_one (ps_ret pe_bl)) pss_nil)
    (pss_cons (ps_if (pt_val (pv 5)) (pss_one (ps_for PassesOwn.never rfl (pi_list (pv 4)) (pg_name (i := 7) sc.nd rfl (by first | exact Or.inl rfl | exact Or.inr rfl)) (pss_cons (ps_set (i := 8) sc.nd rfl (by first | exact Or.inl rfl | exact Or.inr rfl) (pe_mg (g_Grid_first_bar T) (hr.mono (by decide)) (pv 0) (pa_cons (pe_mg (g_Grid_first_bar T) (hr.mono (by decide)) (pv 1) (pa_cons (pv 7) pa_nil)) pa_nil)))
    (pss_one (ps_if (PW.pt (pw_or (pt_not (pt_val (pe_cg (g__law_is_int T) (hr.mono (by decide)) rfl (pa_cons (pv 8) pa_nil)))) (pw_or1 (pt_cmpR op_ne (pv 8) (pe_op oAdd (pv 7) (pe_op oMod (pe_callTy cInt (by rfl) (T.free 2) (by decide +kernel) (pa_cons (pe_op oSub (pe_ix ix_seq (pv 2) pe_int (fun _ _ => rfl)) (pv 7)) pa_nil)) (pe_ix ix_seq (pv 2) pe_int (fun _ _ => rfl)))) (nomark _))))) (pss_one (ps_ret pe_bl)) pss_nil))))) pss_nil)
    (pss_one (ps_ret (pe_cg (g__law_both T) (hr.mono (by decide)) rfl (pa_cons (pv 0) (pa_cons (pv 1) (pa_cons (pe_lst (pa_cons (pv 2) (pa_cons (pv 3) pa_nil))) pa_nil)))))))))), ?rd⟩), F.bindsN fun _ _ _ _ _ _ us hl => match us, hl with | [_, _, _, _, _], _ => rfl⟩
  case len =>
    obtain ⟨a, b, c, d, l, s, o, t, u, ns, rfl, _⟩ := h
    rfl
  case rd =>
    obtain ⟨a, b, c, d, l, s, o, t, u, ns, rfl, ha, hb, hc, hd, s1, t1, s2, t2, hl, hQ⟩ := h
    show tSeq _ _ ⟨_, _, _, _⟩ [some (.ref a), some (.ref b), some (.ref c), some (.ref d), some (.ref l), none, none, none, none] H
    try dsimp only [cxOf]
    have t0 : 0 < t := by omega
    obtain ⟨dx, ea⟩ := id ha
    obtain ⟨dy, eb⟩ := id hb
    have hcl_Grid : Cls K (He.ga K "Grid") := T.cls 16
    have hn_Grid_step : NoAttr K (He.ga K "Grid") "step" := T.noat 17
    have hn_Grid_offset : NoAttr K (He.ga K "Grid") "offset" := T.noat 18
    refine w_seq ?_
    refine w_asg ?_
    refine w_andVD (x := decide (s % t = 0)) (y := decide ((o - u) % t = 0)) (fun Q q => by walk_at "rl"; exact q) (fun Q q => by walk_at "rl"; exact q) ?_
    generalize hnb : (decide (s % t = 0) && decide ((o - u) % t = 0)) = nb
    refine' w_knameF ?we ?_
    case we => walk_at "set"
    refine w_seq ?_
    refine w_asg ?_
    refine w_andVD (x := nb) (y := decide (s = t)) (fun Q q => by walk_at "rl"; exact q) (fun Q q => by walk_at "rl"; exact q) ?_
    refine' w_knameF ?we ?_
    case we => walk_at "set"
    walk_at "rl"
    refine ⟨a, b, s, o % s, t, u % t, rfl, ha, hb, t1, ?_⟩
    rw [within5 t1, hnb]
    walk_at "rl"
    rename_i q1 M1 n1 v1 e1
    refine use_eqO (ha.keep v1) (hb.keep v1) ?_
    rw [same5, hnb]
    walk_at "rl"
    rename_i q2 M2 n2 v2 e2
    refine use_neO ((ha.keep v1).keep v2) ((hb.keep v1).keep v2) ?_
    rw [same5, hnb]
    walk_at "rl"
    rename_i q3 M3 n3 v3 e3 ll M4 n4 v4 e4
    have all : ∀ x ∈ [V.ref q1, V.ref q2, V.ref q3], RowB M4 x := fun x m => by
      simp only [List.mem_cons, List.not_mem_nil, or_false] at m
      rcases m with rfl | rfl | rfl
      · exact ⟨_, _, rfl, ((v2.trans v3).trans v4) _ _ e1⟩
      · exact ⟨_, _, rfl, (v3.trans v4) _ _ e2⟩
      · exact ⟨_, _, rfl, v4 _ _ e3⟩
    have S := ((v1.trans v2).trans v3).trans v4
    clear v1 v2 v3 v4 e1 e2 e3 n1 n2 n3 n4
    refine ⟨ll, _, rfl, e4, all, ?_⟩
    have hl4 := S _ _ hl
    have hc4 := S _ _ hc
    have hd4 := S _ _ hd
    clear all e4
    have gc : GrC K H a [(s, o)] := ⟨o % s, by
      show IsGrid K H a (lc2 1 s) (o % s)
      rw [show lc2 1 s = s by unfold lc2 g; rw [Int.gcd_one_left]; show 1 / 1 * s = s; omega]
      exact ha, Int.emod_nonneg _ (by omega), by
      show o % s < lc2 1 s
      rw [show lc2 1 s = s by unfold lc2 g; rw [Int.gcd_one_left]; show 1 / 1 * s = s; omega]
      exact Int.emod_lt_of_pos _ (by omega), fun z m => by
      rw [List.mem_singleton.mp m]
      show s ∣ o % s - o
      exact ⟨-(o / s), by rw [Int.emod_def, Int.mul_neg]; omega⟩⟩
    have st : Stp [(s, o), (t, u)] := fun z m => by
      simp only [List.mem_cons, List.not_mem_nil, or_false] at m
      rcases m with rfl | rfl
      · exact s1
      · exact t1
    have sm : Sml [(s, o), (t, u)] := fun z m => by
      simp only [List.mem_cons, List.not_mem_nil, or_false] at m
      rcases m with rfl | rfl
      · exact s2
      · exact t2
    have both : ∀ {Hx : Hp} {lq : Addr}, Same M4 Hx → Hx lq = some (.lst [.ref c, .ref d]) → spBoth K [.ref a, .ref b, .ref lq] Hx Q E0 := fun {Hx lq} sx eq => ⟨a, b, lq, [(s, o)], (t, u), rfl, (gc.keep S).keep sx, (hb.keep S).keep sx, ⟨[c, d], eq, rfl, fun i t' z e1 e2 => by
      match i, e1, e2 with
      | 0, e1, e2 => cases e1; cases e2; exact sx _ _ hc4
      | 1, e1, e2 => cases e1; cases e2; exact sx _ _ hd4
      | i + 2, e1, _ => cases e1⟩, st, sm, (by show 1 ≤ 5; decide), fun H' s' => hQ H' ((S.trans sx).trans s')⟩
    walk_at "rl"
    cases nb with
    | false =>
      walk_at "rl"
      rename_i lq Hx nx sx ex
      exact both sx ex
    | true =>
      rw [Bool.and_eq_true, decide_eq_true_eq, decide_eq_true_eq] at hnb
      walk_at "rl"
      refine ⟨l, rfl, ⟨_, SqL.of hl4⟩, for_list (xs := ns.map V.int) (fun i σ H' => H' = M4 ∧ ∃ w7 w8, σ = [some (.ref a), some (.ref b), some (.ref c), some (.ref d), some (.ref l), some (.bl true), some (.bl (true && decide (s = t))), w7, w8]) ⟨rfl, _, _, rfl⟩ (fun i σ H' _ z => z.1 ▸ SqL.of hl4) ?_ ?_⟩
      · rintro i x σ H' hx ⟨rfl, w7, w8, rfl⟩
        obtain ⟨n, _, rfl⟩ := List.mem_map.mp (List.mem_of_getElem? hx)
        have ea4 := S _ _ ea
        have eb4 := S _ _ eb
        have tl : GridM.fb s (o % s) (GridM.fb t (u % t) n) = n + (o - n) % s := told5 s1 t1 hnb.1 hnb.2
        walk_at "rl"
        refine ⟨b, t, u % t, n, rfl, hb.keep S, t1, ?_⟩
        walk_at "rl"
        refine ⟨a, s, o % s, _, rfl, ha.keep S, s1, ?_⟩
        rw [tl]
        walk_at "rl"
        all_goals first
          | exact ⟨rfl, _, _, rfl⟩
          | (exfalso; omega)
      · rintro σ H' ⟨rfl, w7, w8, rfl⟩
        walk_at "rl"
        rename_i lq Hx nx sx ex
        exact both sx ex

end
end My
namespace My
open PySem PySem.Spec PyProof.Rows L2 Rd
section
variable {P : Program} {w : World} {K : PySem.W.Frag} {mg : Str → Option Value} {base : Heap}
def LcH (G : Hp → Hp → Prop) (H : Hp) (D : Addr) (R : Nat → List V → Hp → Prop) (i : Nat) (H' : Hp) : Prop := ∃ acc, H' D = some (.lst acc) ∧ G H H' ∧ R i acc H'
def kEltH (G : Hp → Hp → Prop) (H : Hp) (D : Addr) (R : Nat → List V → Hp → Prop) (i : Nat) : VK := fun y H4 => ∃ acc, H4 D = some (.lst acc) ∧ acc.length < sizeLine ∧ LcH G H D R (i + 1) (upd H4 D (.lst (acc ++ [y])))
abbrev LcStepH (G : Hp → Hp → Prop) (H : Hp) (D : Addr) (R : Nat → List V → Hp → Prop) (g : TG) (tt : TT) (te : TE) (vs : List Nat) (σ : L2.St) (i : Nat) (x : V) (H1 : Hp) : Prop :=
  g x (wipe σ vs) H1 fun σ2 H2 => wipe σ2 vs = wipe σ vs ∧ tt σ2 H2 fun b H3 => if b = true then te σ2 H3 (kEltH G H D R i) else LcH G H D R (i + 1) H3
theorem eltH_done {G : Hp → Hp → Prop} {H H4 : Hp} {D : Addr} {R : Nat → List V → Hp → Prop} {i : Nat} {acc : List V} {y : V} (gs : GoesOn G H) (hD : H D = none) (ha : H4 D = some (.lst acc)) (hz : acc.length ≤ 1000000) (s : G H H4) (r : R (i + 1) (acc ++ [y]) (upd H4 D (.lst (acc ++ [y])))) : kEltH G H D R i y H4 := ⟨acc, ha, by rw [sizeLine_eq]; omega, _, upd_same, gs.put s hD, r⟩
theorem lc_LA {K : PySem.W.Frag} {G : Hp → Hp → Prop} {H : Hp} {p : Addr} {xs : List V} {g : TG} {tt : TT} {te : TE} {vs : List Nat} {σ : L2.St} {Q : VK} (gs : GoesOn G H) (hp : H p = some (.lst xs)) (hx : ∀ H', G H H' → H' p = some (.lst xs)) (R : Addr → Nat → List V → Hp → Prop) (r0 : ∀ D H', G H H' → R D 0 [] H')
    (step : ∀ (D : Addr) (i : Nat) (x : V) (acc : List V) (H1 : Hp), H D = none → xs[i]? = some x → R D i acc H1 → G H H1 → H1 D = some (.lst acc) → LcStepH G H D (R D) g tt te vs σ i x H1)
    (done : ∀ (l : Addr) (acc : List V) (H' : Hp), H l = none → G H H' → H' l = some (.lst acc) → R l xs.length acc H' → Q (.ref l) H') : kCL K g tt te vs σ Q (.ref p) H := by
  refine ⟨p, rfl, ⟨_, SqL.of hp⟩, fun D hD => lc_list (xs := xs) (LcH G H D (R D)) ⟨[], upd_same, gs.put gs.refl hD, r0 D _ (gs.put gs.refl hD)⟩ ?_ ?_ ?_⟩
  · rintro i H' _ ⟨acc, _, s, _⟩
    exact SqL.of (hx H' s)
  · rintro i x H' hi ⟨acc, ha, s, r⟩
    exact step D i x acc H' hD hi r s ha
  · rintro H' ⟨acc, ha, s, r⟩
    exact done D acc H' hD s ha r
theorem lc_RA {G : Hp → Hp → Prop} {H : Hp} {g : TG} {tt : TT} {te : TE} {vs : List Nat} {σ : L2.St} {Q : VK} {n : Int} (gs : GoesOn G H) (h0 : -(2 ^ 62) ≤ n) (h1 : n < 2 ^ 62) (R : Addr → Nat → List V → Hp → Prop) (r0 : ∀ D H', G H H' → R D 0 [] H')
    (step : ∀ (D : Addr) (i : Nat) (acc : List V) (H1 : Hp), H D = none → i < n.toNat → R D i acc H1 → G H H1 → H1 D = some (.lst acc) → LcStepH G H D (R D) g tt te vs σ i (.int (0 + (i : Int))) H1)
    (done : ∀ (l : Addr) (acc : List V) (H' : Hp), H l = none → G H H' → H' l = some (.lst acc) → R l n.toNat acc H' → Q (.ref l) H') : kCR1 g tt te vs σ Q [.int n] H := by
  refine ⟨n, rfl, h0, h1, fun D hD => lc_range (n := n.toNat) (LcH G H D (R D)) ⟨[], upd_same, gs.put gs.refl hD, r0 D _ (gs.put gs.refl hD)⟩ ?_ ?_⟩
  · rintro i H' hi ⟨acc, ha, s, r⟩
    exact step D i acc H' hD hi r s ha
  · rintro H' ⟨acc, ha, s, r⟩
    exact done D acc H' hD s ha r

end
end My
namespace My
open PySem PySem.Spec PyProof.Rows L2 Rd
section
variable {P : Program} {w : World} {K : PySem.W.Frag} {mg : Str → Option Value} {base : Heap}
open GcdM
theorem PrsA.take {H : Hp} {ts : List Addr} {zs : List (Int × Int)} (h : PrsA H ts zs) (n : Nat) : PrsA H (ts.take n) (zs.take n) := ⟨by rw [List.length_take, List.length_take, h.1], fun i t z e1 e2 => by
  rw [List.getElem?_take] at e1 e2
  split at e1
  · rename_i c
    rw [if_pos c] at e2
    exact h.2 i t z e1 e2
  · cases e1⟩
theorem GrsAt.take {H : Hp} {as : List Addr} {rs : List (Int × Int)} (h : GrsAt K H as rs) (n : Nat) : GrsAt K H (as.take n) (rs.take n) := ⟨by rw [List.length_take, List.length_take, h.1], fun i t z e1 e2 => by
  rw [List.getElem?_take] at e1 e2
  split at e1
  · rename_i c
    rw [if_pos c] at e2
    exact h.2 i t z e1 e2
  · cases e1⟩
theorem cut_rows {ts : List Addr} {n : Nat} : cutV (ts.map V.ref) none (some (n : Int)) = (ts.take n).map V.ref := by
  rw [cut_take (by omega), Int.toNat_natCast, List.map_take]
theorem grc_one {H : Hp} {b : Addr} {z : Int × Int} (z1 : 1 ≤ z.1) (h : IsGrid K H b z.1 (z.2 % z.1)) : GrC K H b [z] := by
  have e : lc [z] = z.1 := by
    show lc2 1 z.1 = z.1
    unfold lc2 g
    rw [Int.gcd_one_left]
    show 1 / 1 * z.1 = z.1
    omega
  refine ⟨z.2 % z.1, by rw [e]; exact h, Int.emod_nonneg _ (by omega), by rw [e]; exact Int.emod_lt_of_pos _ (by omega), fun w m => ?_⟩
  rw [List.mem_singleton.mp m]
  exact ⟨-(z.2 / z.1), by rw [Int.emod_def, Int.mul_neg]; omega⟩
theorem sml_take {rs : List (Int × Int)} (h : Sml rs) (n : Nat) : Sml (rs.take n) := fun z m => h z (List.mem_of_mem_take m)

end
end My
namespace My
open PySem PySem.Spec PyProof.Rows L2 Rd
section
variable {P : Program} {w : World} {K : PySem.W.Frag} {mg : Str → Option Value} {base : Heap}
open GcdM

theorem sc_law : FnScope ["_law_script", "_law_pool_here", "_law_factor", "_law_meet", "_law_rows", "_law_k", "_law_grids", "_law_row_here", "_law_i", "_law_j", "_law_size"] ["_law_script"] (defScope (top 36)) := ⟨rfl, rfl, rfl, by decide +kernel, rfl, by decide +kernel, by decide +kernel⟩
theorem ok_law (T : Tx fa fn xa fs P w K mg) {f : Addr} {fd : FuncData} (F : FunD K "law" "law" (defArgs (top 36)) (defBody (top 36)) (defScope (top 36)) [] [] f fd) : FnOk P w K mg base CX0 10 f fd ["_law_script"] (spLaw K) := by
  have sc := sc_law
  refine F.ok sc (fun vs H Q E h => ?len) (fun cdv A outer s H vs Q E hr h => ⟨_, PSs.nox (pss_cons (ps_set (i := 1) sc.nd rfl (by first | exact Or.inl rfl | exact Or.inr rfl) (pe_cg (g__law_pool T) (hr.mono (by decide)) rfl (pa_cons (pv 0) pa_nil)))
    (pss_cons (ps_set (i := 2) sc.nd rfl (by first | exact Or.inl rfl | exact Or.inr rfl) pe_int)
    (C8.pss_cut (ps_if (pt_cmpR op_eq (pe_cg (g__law_take T) (hr.mono (by decide)) rfl (pa_cons (pv 1) (pa_cons pe_int pa_nil))) pe_int (nomark _)) (pss_one (ps_set (i := 2) sc.nd rfl (by first | exact Or.inl rfl | exact Or.inr rfl) (pe_cg (g__law_step T) (hr.mono (by decide)) rfl (pa_cons (pv 1) pa_nil)))) pss_nil)
    (pss_cons (ps_set (i := 3) sc.nd rfl (by first | exact Or.inl rfl | exact Or.inr rfl) (pe_cg (g__law_free T) (hr.mono (by decide)) rfl (pa_cons (pv 1) pa_nil)))
    (pss_cons (ps_setLc (i := 4) (own := [("_law_k", 5)]) rfl sc.nd rfl (by first | exact rfl | exact Or.inl rfl | exact Or.inr rfl) (sw_true rfl rfl rfl (by decide +kernel)) (pi_range1 (by rfl) (T.free 8) (pa_cons pe_int pa_nil)) (blkOk_by (N := ["_law_script", "_law_pool_here", "_law_factor", "_law_meet", "_law_rows", "_law_k", "_law_grids", "_law_row_here", "_law_i", "_law_j", "_law_size"]) (sc := defScope (top 36)) (by decide +kernel)) (fun _ _ _ _ _ => (pg_name (i := 5) sc.nd rfl (by first | exact Or.inl rfl | exact Or.inr rfl))) (fun _ _ _ _ _ => pts_nil) (fun _ _ _ _ _ => (pe_cg (sp := spRow) (g__law_row T) (hr.mono (by decide)) (by rfl) (pa_cons (pv 1) (pa_cons (pv 2) (pa_cons (pv 3) pa_nil))))))
    (pss_cons (ps_set (i := 5) sc.nd rfl (by first | exact Or.inl rfl | exact Or.inr rfl) (pe_cg (g__law_free T) (hr.mono (by decide)) rfl (pa_cons (pv 1) pa_nil)))
    (pss_cons (ps_setLc (i := 6) (own := [("_law_row_here", 7)]) rfl sc.nd rfl (by first | exact rfl | exact Or.inl rfl | exact Or.inr rfl) (sw_true rfl rfl rfl (by decide +kernel)) (pi_list (pv 4)) (blkOk_by (N := ["_law_script", "_law_pool_here", "_law_factor", "_law_meet", "_law_rows", "_law_k", "_law_grids", "_law_row_here", "_law_i", "_law_j", "_law_size"]) (sc := defScope (top 36)) (by decide +kernel)) (fun _ _ _ _ _ => (pg_name (i := 7) sc.nd rfl (by first | exact Or.inl rfl | exact Or.inr rfl))) (fun _ _ _ _ _ => pts_nil) (fun _ _ _ _ _ => (pe_mkC (He.ga K "Grid") (by rfl) (sp := (spGridI K)) (E := fun _ => E0) (mk_Grid2 T) (hr.mono (by decide)) (by rfl) (fun σ => Passes.at_ passL σ) (pa_cons (pe_ix (ix_seqK K rfl) (pv 7) pe_int (fun _ _ => rfl)) (pa_cons (pe_ix (ix_seqK K rfl) (pv 7) pe_int (fun _ _ => rfl)) pa_nil)))))
    (pss_cons (ps_for PassesOwn.never rfl (pi_range1 (by rfl) (T.free 8) (pa_cons pe_int pa_nil)) (pg_name (i := 8) sc.nd rfl (by first | exact Or.inl rfl | exact Or.inr rfl)) (pss_cons (ps_if (pt_not (pt_val (pe_cg (g__law_alone T) (hr.mono (by decide)) rfl (pa_cons (pe_ix ix_seq (pv 6) (pv 8) (fun _ _ => rfl)) (pa_cons (pe_ix ix_seq (pv 4) (pv 8) (fun _ _ => rfl)) (pa_cons (pv 5) pa_nil)))))) (pss_one (ps_ret pe_bl)) pss_nil)
    (pss_one (ps_for PassesOwn.never rfl (pi_range1 (by rfl) (T.free 8) (pa_cons pe_int pa_nil)) (pg_name (i := 9) sc.nd rfl (by first | exact Or.inl rfl | exact Or.inr rfl)) (pss_one (ps_if (pt_not (pt_val (pe_cg (g__law_pair T) (hr.mono (by decide)) rfl (pa_cons (pe_ix ix_seq (pv 6) (pv 8) (fun _ _ => rfl)) (pa_cons (pe_ix ix_seq (pv 6) (pv 9) (fun _ _ => rfl)) (pa_cons (pe_ix ix_seq (pv 4) (pv 8) (fun _ _ => rfl)) (pa_cons (pe_ix ix_seq (pv 4) (pv 9) (fun _ _ => rfl)) (pa_cons (pe_lst (pa_cons (pv 3) (pa_cons (pe_op oAdd (pv 3) pe_int) (pa_cons (pv 5) pa_nil)))) pa_nil)))))))) (pss_one (ps_ret pe_bl)) pss_nil))))))
    (pss_cons (ps_for PassesOwn.never rfl (pi_list (pe_lst (pa_cons pe_int (pa_cons pe_int (pa_cons pe_int (pa_cons pe_int (pa_cons pe_int (pa_cons pe_int pa_nil)))))))) (pg_name (i := 10) sc.nd rfl (by first | exact Or.inl rfl | exact Or.inr rfl)) (pss_one (ps_if (pt_not (pt_val (pe_cg (g__law_all T) (hr.mono (by decide)) rfl (pa_cons (pe_slice oSl (pv 6) po_none (po_some (pv 10))) (pa_cons (pe_slice oSl (pv 4) po_none (po_some (pv 10))) pa_nil))))) (pss_one (ps_ret pe_bl)) pss_nil)))
    (C8.pss_cut (ps_if (PW.pt (pw_and (pt_cmpR oGt (pe_cg (g__law_shared T) (hr.mono (by decide)) rfl (pa_cons (pe_slice oSl (pv 4) po_none (po_some pe_int)) pa_nil)) pe_int (nomark _)) (pw_and1 (pt_not (pt_val (pe_cg (g__law_both T) (hr.mono (by decide)) rfl (pa_cons (pe_binS (op := .BitAnd) (C := He.ga K "Grid") (sp := (spAnd K)) (E := fun _ => _) (g_Grid___and__ T) (T.self1 6) (hr.mono (by decide)) (fun σ => Passes.at_ passL σ) (pe_ix ix_seq (pv 6) pe_int (fun _ _ => rfl)) (pe_ix ix_seq (pv 6) pe_int (fun _ _ => rfl))) (pa_cons (pe_ix ix_seq (pv 6) pe_int (fun _ _ => rfl)) (pa_cons (pe_slice oSl (pv 4) po_none (po_some pe_int)) pa_nil))))))))) (pss_one (ps_ret pe_bl)) pss_nil)
    (pss_cons (ps_for PassesOwn.never rfl (pi_range1 (by rfl) (T.free 8) (pa_cons pe_int pa_nil)) (pg_name (i := 8) sc.nd rfl (by first | exact Or.inl rfl | exact Or.inr rfl)) (pss_one (ps_if (pt_not (pt_val (pe_cg (g__law_grid T) (hr.mono (by decide)) rfl (pa_cons (pe_ix ix_seq (pv 6) (pv 8) (fun _ _ => rfl)) (pa_cons (pe_ix ix_seq (pe_ix ix_seq (pv 4) (pv 8) (fun _ _ => rfl)) pe_int (fun _ _ => rfl)) (pa_cons (pe_ix ix_seq (pe_ix ix_seq (pv 4) (pv 8) (fun _ _ => rfl)) pe_int (fun _ _ => rfl)) pa_nil)))))) (pss_one (ps_ret pe_bl)) pss_nil)))
    (pss_one (ps_ret pe_bl))))))))))))), ?rd⟩)
  case len =>
    obtain ⟨a, is, rfl, _⟩ := h
    rfl
  case rd =>
    obtain ⟨a, is, rfl, _, hs, hQ⟩ := h
    show tSeq _ _ ⟨_, _, _, _⟩ [some (.ref a), none, none, none, none, none, none, none, none, none, none] H
    try dsimp only [cxOf]
    have hcl_Grid : Cls K (He.ga K "Grid") := T.cls 16
    have hn_Grid_step : NoAttr K (He.ga K "Grid") "step" := T.noat 17
    have hn_Grid_offset : NoAttr K (He.ga K "Grid") "offset" := T.noat 18
    walk_at "rw"
    refine ⟨a, is, rfl, hs, fun p H1 hp hk hp1 => ?_⟩
    walk_at "rx"
    refine w_cut (fun σ' H' => ∃ f : Int, 1 ≤ f ∧ f ≤ 10 ^ 27 ∧ Drawn p H1 H' ∧ σ' = [some (.ref a), some (.ref p), some (.int f), none, none, none, none, none, none, none, none]) ?_ ?_
    · walk_at "rx"
      · rename_i d H2 d0 d1 dd c f H3 hf d3
        exact ⟨f, hf.1, by omega, dd.trans d3, rfl⟩
      · exact ⟨1, by decide, by decide, by walk_at "drawn", rfl⟩
    rintro σ' H2 ⟨f, f1, f2, d2, rfl⟩
    have hp2 := d2.pool
    clear d2 hp1 hk hp
    walk_at "rx"
    rename_i mt H3 hq d3
    have hp3 := d3.pool
    clear d3 hq hp2
    refine lc_RA (goes_drawn hp3) (by omega) (by omega) (fun Dl i acc H' => ∃ (ts : List Addr) (rs : List (Int × Int)), acc = ts.map V.ref ∧ ts.length = i ∧ rs.length = i ∧ (∀ z ∈ rs, 1 ≤ z.1 ∧ z.1 < 2 ^ 100) ∧ ∀ (j : Nat) (t : Addr) (z : Int × Int), ts[j]? = some t → rs[j]? = some z → t ≠ Dl ∧ H' t = some (.tup [.int z.1, .int z.2])) (fun D H' s => ⟨[], [], rfl, rfl, rfl, (fun _ z => nomatch z), fun j t z e => nomatch e⟩) ?_ ?_
    · rintro Dl i acc H4 hD hi ⟨ts, rs, rfl, lt, lr, sz, hts⟩ d4 eD
      have Dp : Dl ≠ p := ne_pool hp3 hD
      refine ⟨rfl, w_yes ?_⟩
      walk_at "rl"
      refine ⟨p, f, mt, rfl, d4.pool, f1, f2, fun u z H5 nu z1 z2 d5 eu => ?_⟩
      have uD : u ≠ Dl := fun q => by rw [q, eD] at nu; cases nu
      have e5 := d5.lst Dp eD
      refine eltH_done (goes_drawn hp3) hD e5 (by rw [List.length_map, lt]; omega) (d4.trans d5) ⟨ts ++ [u], rs ++ [z], by rw [List.map_append]; rfl, by rw [List.length_append, lt]; rfl, by rw [List.length_append, lr]; rfl, fun y m => ?_, fun j t y e1 e2 => ?_⟩
      · rcases List.mem_append.mp m with m | m
        · exact sz y m
        · rw [List.mem_singleton.mp m]; exact ⟨z1, z2⟩
      · rcases Nat.lt_or_ge j ts.length with q | q
        · rw [List.getElem?_append_left q] at e1
          rw [List.getElem?_append_left (by omega)] at e2
          obtain ⟨n, e⟩ := hts j t y e1 e2
          exact ⟨n, by rw [upd_ne n]; exact d5.tup e⟩
        · rw [List.getElem?_append_right q] at e1
          rw [List.getElem?_append_right (by omega)] at e2
          have m1 := List.mem_singleton.mp (List.mem_of_getElem? e1)
          have m2 := List.mem_singleton.mp (List.mem_of_getElem? e2)
          subst m1 m2
          exact ⟨uD, by rw [upd_ne uD]; exact eu⟩
    rintro rl acc H4 nrl d4 el ⟨ts, rs, rfl, lt, lr, sz, hts⟩
    have rp : rl ≠ p := ne_pool hp3 nrl
    have hp4 := d4.pool
    have lt : ts.length = 6 := lt
    have lr : rs.length = 6 := lr
    walk_at "rx"
    rename_i k H5 hq d5
    have el5 := d5.lst rp el
    have pr : PrsA H5 ts rs := ⟨by omega, fun i t z e1 e2 => d5.tup (hts i t z e1 e2).2⟩
    have hs : Stp rs := fun z m => (sz z m).1
    have sm : Sml rs := fun z m => (sz z m).2
    clear hts el d4 d5 hp4 hp3 sz hq rp nrl f1 f2
    refine lc_LA (goes_same H5) el5 (fun H' s => s _ _ el5) (fun D i acc H' => ∃ as : List Addr, acc = as.map V.ref ∧ as.length = i ∧ ∀ (j : Nat) (b : Addr) (z : Int × Int), as[j]? = some b → rs[j]? = some z → b ≠ D ∧ IsGrid K H' b z.1 (z.2 % z.1)) (fun D H' s => ⟨[], rfl, rfl, fun j b z e => nomatch e⟩) ?_ ?_
    · rintro D i x acc H6 hD hx ⟨as, rfl, la, as_⟩ s6 e6
      rw [List.getElem?_map] at hx
      obtain ⟨t, et, rfl⟩ := Option.map_eq_some_iff.mp hx
      obtain ⟨z, ez⟩ : ∃ z, rs[i]? = some z := ⟨_, List.getElem?_eq_getElem (by rw [← pr.1]; exact (List.getElem?_eq_some_iff.mp et).1)⟩
      have ht := s6 _ _ (pr.2 i t z et ez)
      have z1 := hs z (List.mem_of_getElem? ez)
      refine ⟨rfl, w_yes ?_⟩
      walk_at "rl"
      refine use_grid (Makes.ok (bad_f (by omega)) fun c1 dx1 H7 hc1 s7 e7 => ?_)
      have cD : c1 ≠ D := fun q => by rw [q, e6] at hc1; cases hc1
      refine eltH_done (goes_same H5) hD (s7 _ _ e6) (by rw [List.length_map, la]; have := (List.getElem?_eq_some_iff.mp ez).1; omega) (s6.trans s7) ⟨as ++ [c1], by rw [List.map_append]; rfl, by rw [List.length_append, la]; rfl, fun j b y ea ey => ?_⟩
      have putD : ∀ {b : Addr} {u v : Int}, b ≠ D → IsGrid K H7 b u v → IsGrid K (upd H7 D (.lst (as.map V.ref ++ [.ref c1]))) b u v := fun n ⟨dx, e⟩ => ⟨dx, by rw [upd_ne n]; exact e⟩
      rcases Nat.lt_or_ge j as.length with q | q
      · rw [List.getElem?_append_left q] at ea
        obtain ⟨n, pp⟩ := as_ j b y ea ey
        exact ⟨n, putD n (pp.keep s7)⟩
      · rw [List.getElem?_append_right q] at ea
        have m1 := List.mem_singleton.mp (List.mem_of_getElem? ea)
        obtain rfl : j = i := by
          have := (List.getElem?_eq_some_iff.mp ea).1
          simp only [List.length_singleton] at this
          omega
        subst m1
        rw [ez] at ey
        cases ey
        exact ⟨cD, putD cD ⟨dx1, e7⟩⟩
    rintro gl acc H6 ngl s6 egl ⟨as, rfl, la, as_⟩
    rw [List.length_map, lt] at la
    have gz : GrsAt K H6 as rs := ⟨by omega, fun i b z e1 e2 => (as_ i b z e1 e2).2⟩
    have erl := s6 _ _ el5
    replace pr := pr.keep s6
    clear as_ el5 s6 ngl
    have lg : (as.map V.ref).length = 6 := by rw [List.length_map]; exact la
    have gat : ∀ i : Nat, i < 6 → ∃ (b t : Addr) (z : Int × Int), rs[i]? = some z ∧ atI (as.map V.ref) (0 + (i : Int)) = some (.ref b) ∧ atI (ts.map V.ref) (0 + (i : Int)) = some (.ref t) ∧ IsGrid K H6 b z.1 (z.2 % z.1) ∧ H6 t = some (.tup [.int z.1, .int z.2]) ∧ 1 ≤ z.1 ∧ z.1 < 2 ^ 100 := fun i hi => by
      obtain ⟨t, z, et, ez, at1, e1⟩ := pr.at (show i < rs.length by omega)
      obtain ⟨b, eb⟩ : ∃ b, as[i]? = some b := ⟨_, List.getElem?_eq_getElem (by omega)⟩
      exact ⟨b, t, z, ez, atI_of (by omega) (by rw [show (0 + (i : Int)).toNat = i by omega, List.getElem?_map, eb]; rfl), at1, gz.2 i b z eb ez, e1, hs z (List.mem_of_getElem? ez), sm z (List.mem_of_getElem? ez)⟩
    walk_at "rl"
    refine ⟨3, rfl, by omega, by omega, for_range (n := 3) (fun i σ H' => Same H6 H' ∧ ∃ w7 w8 w9, σ = [some (.ref a), some (.ref p), some (.int f), some (.int mt), some (.ref rl), some (.int k), some (.ref gl), w7, w8, w9, none]) ⟨Same.refl _, _, _, _, rfl⟩ ?_ ?_⟩
    · rintro i σ Ha hi ⟨sa, w7, w8, w9, rfl⟩
      obtain ⟨b, t, z, ez, ag, ar, gb, eb, z1, z2⟩ := gat i (by omega)
      have ega := sa _ _ egl
      have era := sa _ _ erl
      walk_at "rl"
      refine w_ixL (SqL.of ega) ag ?_
      walk_at "rl"
      refine w_ixL (SqL.of era) ar ?_
      walk_at "rl"
      refine ⟨b, t, z.1, z.2, k, rfl, gb.keep sa, sa _ _ eb, z1, fun Hb sb => ?_⟩
      have sab := sa.trans sb
      clear ega era sa sb
      walk_at "rl"
      refine ⟨3, rfl, by omega, by omega, for_range (n := 3) (fun j σ H' => Same H6 H' ∧ ∃ w9, σ = [some (.ref a), some (.ref p), some (.int f), some (.int mt), some (.ref rl), some (.int k), some (.ref gl), w7, some (.int (0 + (i : Int))), w9, none]) ⟨sab, _, rfl⟩ ?_ ?_⟩
      · rintro j σ Hc hj ⟨sc, w9, rfl⟩
        obtain ⟨b2, t2, y, ey, ag2, ar2, gb2, eb2, y1, y2⟩ := gat j (by omega)
        have egc := sc _ _ egl
        have erc := sc _ _ erl
        walk_at "rl"
        refine w_ixL (SqL.of egc) ag ?_
        walk_at "rl"
        refine w_ixL (SqL.of egc) ag2 ?_
        walk_at "rl"
        refine w_ixL (SqL.of erc) ar ?_
        walk_at "rl"
        refine w_ixL (SqL.of erc) ar2 ?_
        walk_at "rl"
        rename_i lq Hd nq sd eq
        have scd := sc.trans sd
        refine ⟨b, b2, t, t2, lq, z.1, z.2, y.1, y.2, [mt, mt + 1, k], rfl, gb.keep scd, gb2.keep scd, scd _ _ eb, scd _ _ eb2, z1, y1, z2, y2, eq, fun He' se => ?_⟩
        clear egc erc
        walk_at "rl"
        exact ⟨scd.trans se, _, rfl⟩
      · rintro σ Hc ⟨sc, w9, rfl⟩
        exact ⟨sc, _, _, _, rfl⟩
    rintro σ Ha ⟨sa, w7, w8, w9, rfl⟩
    walk_at "rl"
    rename_i lq Hb nq sb eq
    have sab := sa.trans sb
    clear nq sa sb
    refine ⟨lq, rfl, ⟨_, SqL.of eq⟩, for_list (xs := [V.int 0, V.int 1, V.int 2, V.int 3, V.int 6, V.int 3]) (fun i σ H' => Same Hb H' ∧ ∃ w10, σ = [some (.ref a), some (.ref p), some (.int f), some (.int mt), some (.ref rl), some (.int k), some (.ref gl), w7, w8, w9, w10]) ⟨Same.refl _, _, rfl⟩ (fun i σ H' _ z => SqL.of (z.1 _ _ eq)) ?_ ?_⟩
    · rintro i x σ Hc hx ⟨sc, w10, rfl⟩
      obtain ⟨n, rfl, hn⟩ : ∃ n : Nat, x = V.int (n : Nat) ∧ (n ≤ 3 ∨ n = 6) := by
        have m := List.mem_of_getElem? hx
        simp only [List.mem_cons, List.not_mem_nil, or_false] at m
        rcases m with rfl | rfl | rfl | rfl | rfl | rfl
        · exact ⟨0, rfl, by omega⟩
        · exact ⟨1, rfl, by omega⟩
        · exact ⟨2, rfl, by omega⟩
        · exact ⟨3, rfl, by omega⟩
        · exact ⟨6, rfl, by omega⟩
        · exact ⟨3, rfl, by omega⟩
      have S6 := sab.trans sc
      have egc := S6 _ _ egl
      have erc := S6 _ _ erl
      walk_at "rl"
      rename_i l1 Hd n1 s1 e1 l2 He' n2 s2 e2
      rw [cut_rows] at e1 e2
      refine ⟨l1, l2, as.take n, rs.take n, rfl, s2 _ _ e1, (gz.take n).keep ((S6.trans s1).trans s2), ⟨ts.take n, e2, (pr.take n).keep ((S6.trans s1).trans s2)⟩, stp_take hs n, sml_take sm n, by rw [List.length_take]; omega, fun Hf sf => ?_⟩
      clear egc erc
      walk_at "rl"
      exact ⟨((sc.trans s1).trans s2).trans sf, _, rfl⟩
    rintro σ Hc ⟨sc, w10, rfl⟩
    have S6 := sab.trans sc
    clear sab sc eq
    walk_at "rl"
    refine w_cut (fun σ' H' => Same H6 H' ∧ σ' = [some (.ref a), some (.ref p), some (.int f), some (.int mt), some (.ref rl), some (.int k), some (.ref gl), w7, w8, w9, w10]) ?_ ?_
    · have egc := S6 _ _ egl
      have erc := S6 _ _ erl
      obtain ⟨b0, t0, y0, ez0, ag0, _, gb0, _, y01, y02⟩ := gat 0 (by decide)
      obtain ⟨b1, t1, y1, ez1, ag1, _, gb1, _, y11, y12⟩ := gat 1 (by decide)
      obtain ⟨b2, t2, y2, ez2, ag2, _, gb2, _, y21, y22⟩ := gat 2 (by decide)
      have ag0 : atI (as.map V.ref) 0 = some (.ref b0) := ag0
      have ag1 : atI (as.map V.ref) 1 = some (.ref b1) := ag1
      have ag2 : atI (as.map V.ref) 2 = some (.ref b2) := ag2
      have tk1 : rs.take 1 = [y0] := by rw [show rs.take 1 = rs.take 0 ++ [y0] from take_one ez0, List.take_zero]; rfl
      have tk2 : rs.take 2 = [y0] ++ [y1] := by rw [show rs.take 2 = rs.take 1 ++ [y1] from take_one ez1, tk1]
      have tk3 : rs.take 3 = ([y0] ++ [y1]) ++ [y2] := by rw [show rs.take 3 = rs.take 2 ++ [y2] from take_one ez2, tk2]
      have st2 := stp_take hs 2
      have sm2 := sml_take sm 2
      have st3 := stp_take hs 3
      have sm3 := sml_take sm 3
      have lp := lc_pos st2
      have pr3 := (pr.take 3)
      walk_at "rl"
      rename_i l1 Hd n1 s1 e1
      have S7 := S6.trans s1
      rw [show (2 : Int) = ((2 : Nat) : Int) from rfl, cut_rows] at e1
      refine ⟨l1, rs.take 2, rfl, ⟨ts.take 2, e1, (pr.take 2).keep S7⟩, st2, sm2, by rw [List.length_take]; omega, fun cm => ?_, fun cm => ?_⟩
      · rw [tk2] at cm st2 sm2
        rw [tk3] at pr3 st3 sm3
        have eg7 := S7 _ _ egl
        have er7 := S7 _ _ erl
        obtain ⟨dx0, ea0⟩ := gb0.keep S7
        obtain ⟨dx1, ea1⟩ := gb1.keep S7
        clear egc erc e1 n1
        walk_at "rl"
        · refine w_ixL (SqL.of eg7) ag0 ?_
          walk_at "rl"
          refine w_ixL (SqL.of eg7) ag1 ?_
          walk_at "rl"
          refine use_and (rs := [y0]) (z := y1) st2 sm2 (by show 1 ≤ 6; decide) (grc_one y01 ⟨dx0, ea0⟩) ⟨dx1, ea1⟩ (fun _ c8 H8 n8 s8 g8 => ?_) fun nc => absurd cm nc
          have eg8 := s8 _ _ eg7
          have er8 := s8 _ _ er7
          clear eg7 er7 n8
          walk_at "rl"
          refine w_ixL (SqL.of eg8) ag2 ?_
          walk_at "rl"
          rename_i l3 H9 n9 s9 e9
          rw [show (3 : Int) = ((3 : Nat) : Int) from rfl, cut_rows] at e9
          have S9 := (S7.trans s8).trans s9
          refine ⟨c8, b2, l3, [y0] ++ [y1], y2, rfl, g8.keep s9, gb2.keep S9, ⟨ts.take 3, e9, pr3.keep S9⟩, st3, sm3, by show 2 ≤ 5; decide, fun Hf sf => ?_⟩
          clear eg8 er8
          walk_at "rl"
          exact ⟨S9.trans sf, rfl⟩
      · clear egc erc e1 n1
        walk_at "rl"
        exact ⟨S7, rfl⟩
    clear S6
    rintro σ' Hd ⟨S7, rfl⟩
    walk_at "rl"
    refine ⟨6, rfl, by omega, by omega, for_range (n := 6) (fun i σ H' => H' = Hd ∧ ∃ w8, σ = [some (.ref a), some (.ref p), some (.int f), some (.int mt), some (.ref rl), some (.int k), some (.ref gl), w7, w8, w9, w10]) ⟨rfl, _, rfl⟩ ?_ ?_⟩
    · rintro i σ He' hi ⟨rfl, w8, rfl⟩
      obtain ⟨b, t, z, ez, ag, ar, gb, eb, z1, z2⟩ := gat i (by omega)
      have ega := S7 _ _ egl
      have era := S7 _ _ erl
      have et := S7 _ _ eb
      walk_at "rl"
      refine w_ixL (SqL.of ega) ag ?_
      walk_at "rl"
      refine w_ixL (SqL.of era) ar ?_
      walk_at "rl"
      refine w_ixL (SqL.of era) ar ?_
      walk_at "rl"
      refine ⟨b, z.1, z.2 % z.1, z.2, rfl, gb.keep S7, z1, Int.emod_nonneg _ (by omega), Int.emod_lt_of_pos _ (by omega), ⟨-(z.2 / z.1), by rw [Int.emod_def, Int.mul_neg]; omega⟩, ?_⟩
      walk_at "rl"
      exact ⟨rfl, _, rfl⟩
    · rintro σ He' ⟨rfl, w8, rfl⟩
      walk_at "rl"
      exact hQ _

end
end My
namespace My
open PySem PySem.Spec PyProof.Rows L2 Rd
theorem facts : FactsP := by
  intro P w K h mg f X G hfa c hfile hno
  obtain ⟨fd, F⟩ := c.base.def_ 29 (d := d_law) rfl
  have e := hfa.symm.trans (He.glo_ok X G (c.base.fact 48 (f := .glo "law") rfl))
  cases e
  have b := FunD.bindsA (ps := ["_law_script"]) F fun _ _ _ _ _ _ us hl => match us, hl with | [_], _ => rfl
  exact ⟨fd, fun s v => b s [v] rfl, fun base _ _ => ok_law ⟨c, ⟨h, X, G⟩, hfile, hno⟩ F⟩
end My
theorem PySem.Challenge.cw_barbreaks_k05_grids_shared_holds : PySem.Challenge.rw_barbreaks_k05_grids_shared.Holds := by
  exact My.closing My.facts
