import PyProof.Rows.All
import Wide.All
import OpenK.AllK
import Wide.FinOn
import HandS.ForMost
import HandS.IsInst
import HandS.FStr
import HandS.Zip
import HandS.Walk
import HandS.Codes
import HandS.Defaults
import HandS.Head0
import HandS.Head1
import HandS.Head2
import HandS.HeadEnd
import HandS.HeadHook1
import HandS.HeadHook2
import HandS.HeadHook3
import HandS.HeadHook4
import KE.GoesEnumKw
import OpenK.KWalk
import HandS.ClsMeth
import HandS.Style
import HandS.More
import HandS.RevRange
import HandS.Conv
import HandS.Steps
import HandS.Text
import HandS.MapObj
import HandS.HeadNt
import HandS.NoneIn
import HandS.ExcInit
import HandS.ExcIs
import HandS.ExcField
import HandS.HotCalls
import HandS.Nested
import HandS.Lambda
import KE.KExcSuper
import KE.KSuper
import HandS.HeadWalk
import HandS.OwnEq
import HandS.Wide
import PyProof.StrLawsChain
import PySem.Challenge.RW_buriedsure_k01_worlds_told
section
set_option Elab.async false
set_option maxRecDepth 100000
set_option maxHeartbeats 4000000
set_option linter.all false
namespace My
open PySem L2
/-! ### calls by one bundle -/
structure Cal (P : Program) (w : World) (K : PySem.W.Frag) (mg : Str → Option Value) (base : Heap) (k : Nat) (x : Str) (ps : List Str) (sp : Sp) : Prop where
  ex : ∃ f fd, FnOk P w K mg base CX0 k f fd ps sp ∧ mg x = some (.ref f) ∧ PySem.W.keepIn K (.ref f) = true ∧ Binds K fd ps []
structure CalM (P : Program) (w : World) (K : PySem.W.Frag) (mg : Str → Option Value) (base : Heap) (k : Nat) (x : Str) (C : Addr) (ps : List Str) (sp : Sp) : Prop where
  ex : ∃ f fd, Mk K C f ∧ FnOk P w K mg base CX0 k f fd ps sp ∧ mg x = some (.ref C) ∧ Binds K fd ps []
section
variable {X : Cx} {k : Nat} {x : Str} {C : Addr} {ps : List Str} {sp : Sp} {p pos : Pos} {e : Expr} {es : List Expr} {t : TA}
theorem pe_callC (c : Cal X.prog X.w X.K X.mg X.base k x ps sp) (hr : Room k X.A) (hg : Gl X x) (ha : PA X (e :: es) t) (hdb : (x == ("__debug__" : Str)) = false := by decide)
    (he : starEach (e :: es) X.env = (false, eval e X.env) :: starEach es X.env := by rfl) (hpl : (backTo pos (starEach es X.env)).any (·.1) = false := by rfl) : PE X (.Call (.Name x p) (e :: es) [] pos) (tCall sp [] E0 t) := by
  obtain ⟨f, fd, F, hm, hk, hb⟩ := c.ex
  exact pe_call F hr hg hm hk hb .nil pass0 ha hdb he hpl
theorem pe_callC0 (c : Cal X.prog X.w X.K X.mg X.base k x ps sp) (hr : Room k X.A) (hg : Gl X x) (hdb : (x == ("__debug__" : Str)) = false := by decide) : PE X (.Call (.Name x p) [] [] pos) (tCall sp [] E0 tNil) := by
  obtain ⟨f, fd, F, hm, hk, hb⟩ := c.ex
  exact pe_call0 F hr hg hm hk hb .nil pass0 hdb
theorem pe_makeC (c : CalM X.prog X.w X.K X.mg X.base k x C ps sp) (hr : Room (k + 1) X.A) (hg : Gl X x) (ha : PA X (e :: es) t) (hdb : (x == ("__debug__" : Str)) = false := by decide)
    (he : starEach (e :: es) X.env = (false, eval e X.env) :: starEach es X.env := by rfl) (hpl : (backTo pos (starEach es X.env)).any (·.1) = false := by rfl) : PE X (.Call (.Name x p) (e :: es) [] pos) (tMake C sp [] E0 t) := by
  obtain ⟨f, fd, M, F, hm, hb⟩ := c.ex
  exact pe_make M F hr hg hm hb .nil pass0 ha hdb he hpl
end
theorem Cal.mono {P : Program} {w : World} {K : PySem.W.Frag} {mg : Str → Option Value} {base : Heap} {j k : Nat} {x : Str} {ps : List Str} {sp : Sp} (c : Cal P w K mg base j x ps sp) (h : j ≤ k) : Cal P w K mg base k x ps sp := by
  obtain ⟨f, fd, F, a⟩ := c.ex
  exact ⟨f, fd, F.mono h, a⟩
theorem CalM.mono {P : Program} {w : World} {K : PySem.W.Frag} {mg : Str → Option Value} {base : Heap} {j k : Nat} {x : Str} {C : Addr} {ps : List Str} {sp : Sp} (c : CalM P w K mg base j x C ps sp) (h : j ≤ k) : CalM P w K mg base k x C ps sp := by
  obtain ⟨f, fd, M, F, a⟩ := c.ex
  exact ⟨f, fd, M, F.mono h, a⟩

/-! ### named operators -/
def rPlus : R2 := rI0 fun i j => .int (i + j)
def rMinus : R2 := rI0 fun i j => .int (i - j)
def rTimes : R2 := rI CMul fun i j => .int (i * j)
def rModP : R2 := rI (fun _ j => 0 < j) fun i j => .int (i % j)
def rFdivN : R2 := rI CDivN fun i j => .int (i.fdiv j)
def rPow0 : R2 := rI CPow fun i j => .int (i ^ j.toNat)
def rLt0 : R2 := rI0 fun i j => .bl (decide (i < j))
def rLe0 : R2 := rI0 fun i j => .bl (decide (i ≤ j))
def rGt0 : R2 := rI0 fun i j => .bl (decide (j < i))
def rGe0 : R2 := rI0 fun i j => .bl (decide (j ≤ i))
def rIsN0 : R2 := fun x y H Q => y = .non ∧ Q (.bl (decide (x = .non))) H
def rNotN0 : R2 := fun x y H Q => y = .non ∧ Q (.bl (!decide (x = .non))) H
def rAddS : R2 := fun x y H Q => ∃ i j, x = .str i ∧ y = .str j ∧ i.length + j.length ≤ sizeLine ∧ Q (.str (i ++ j)) H
def uNeg : V → Hp → VK → Prop := rU fun i => .int (-i)
def bInt : List V → Hp → VK → Prop := fun xs H Q => (∃ i, xs = [.int i] ∧ Q (.int i) H) ∨ ∃ k, xs = [.bl k] ∧ Q (.int (if k then 1 else 0)) H
def bMax2 : List V → Hp → VK → Prop := fun xs H Q => ∃ i j, xs = [.int i, .int j] ∧ Q (.int (if j > i then j else i)) H
def bMin2 : List V → Hp → VK → Prop := fun xs H Q => ∃ i j, xs = [.int i, .int j] ∧ Q (.int (if j < i then j else i)) H
def bAbs : List V → Hp → VK → Prop := fun xs H Q => ∃ i, xs = [.int i] ∧ Q (.int (if i < 0 then -i else i)) H
def bStr : List V → Hp → VK → Prop := fun xs H Q => ∃ i, xs = [.int i] ∧ i.natAbs.log2 < 1920 ∧ Q (.str (Str.ofString (toString i))) H
def bLen (K : PySem.W.Frag) : List V → Hp → VK → Prop := fun xs H Q => ∃ p ys, xs = [V.ref p] ∧ (SqL K H p ys ∨ SqT K H p ys) ∧ Q (.int (ys.length : Int)) H
def bList (K : PySem.W.Frag) : List V → Hp → VK → Prop := fun xs H Q => ∃ p ys, xs = [V.ref p] ∧ (SqL K H p ys ∨ SqT K H p ys) ∧ ∀ l, H l = none → Q (.ref l) (upd H l (.lst ys))
def bTuple (K : PySem.W.Frag) : List V → Hp → VK → Prop := fun xs H Q => ∃ p ys, xs = [V.ref p] ∧ ((SqL K H p ys ∧ ∀ l, H l = none → Q (.ref l) (upd H l (.tup ys))) ∨ SqT K H p ys ∧ Q (.ref p) H)
def mJoin (K : PySem.W.Frag) : V → List V → Hp → VK → Prop := fun x xs H Q => ∃ a p ys, x = .str a ∧ xs = [.ref p] ∧ (SqL K H p (ys.map V.str) ∨ SqT K H p (ys.map V.str)) ∧ (ys.map (·.length)).sum + ys.length * a.length ≤ 16777216 ∧ Q (.str (Txt.join a ys)) H
def tTru (K : PySem.W.Frag) (ta : TE) : TT := fun σ H Q => ta σ H fun x H' => ∃ k, TruV K x H' k ∧ Q k H'
def tJoin (ts : List TE) : TE := fun σ H Q => tJs ts Str.empty σ H fun out H1 => Q (.str out) H1
def rItemS : R2 := fun x y H Q => ∃ z i c, x = .str z ∧ y = .int i ∧ 0 ≤ i ∧ i < 2 ^ 63 ∧ i < (z.length : Int) ∧ z.cps[i.toNat]? = some c ∧ Q (.str { cps := #[c] }) H

/-! ### steps: statements -/
section
variable {t u : TS} {c ta tt : TT} {D : Ends} {σ : St} {H : Hp} {te tf : TE} {g : TG} {gs : TGs} {i j n : Nat} {x y v : V} {xs ys : List V} {Q : VK} {R : St → Hp → Prop} {K : PySem.W.Frag} {a b p l : Addr} {B : Bool → Hp → Prop} {LQ : List V → Hp → Prop} {tas tar : TA}
theorem s_seq (h : t { D with nx := u D } σ H) : tSeq t u D σ H := h
theorem s_cut (M : St → Hp → Prop) (h : t { D with nx := M } σ H) (k : ∀ σ' H', M σ' H' → u D σ' H') : C8.tCut t u D σ H := ⟨M, h, k⟩
theorem s_asg (h : te σ H fun x H1 => g x σ H1 D.nx) : tAsg te g D σ H := h
theorem s_ret (h : te σ H D.rt) : tRet te D σ H := h
theorem s_retN (h : D.rt .non H) : tRetN D σ H := h
theorem s_drop (h : te σ H fun _ H1 => D.nx σ H1) : tDrop te D σ H := h
theorem s_next (h : D.nx σ H) : tNext D σ H := h
theorem s_if (h : c σ H fun b H1 => if b = true then t D σ H1 else u D σ H1) : tIfS c t u D σ H := h
theorem s_par (h : tas σ H fun vs H1 => ∃ v w, vs = [v, w] ∧ D.nx ((σ.set i (some v)).set j (some w)) H1) : tPar i j tas D σ H := h
theorem s_brk (h : D.bk σ H) : tBreak D σ H := h
theorem s_cont (h : D.ct σ H) : tCont D σ H := h
theorem x_par {w : V} {P : V → V → Prop} (h : P v w) : ∃ v' w', [v, w] = [v', w'] ∧ P v' w' := ⟨v, w, rfl, h⟩
theorem g_name (h : R (σ.set i (some v)) H) : gName i v σ H R := h
theorem g_tup (h : SqT K H a xs) (hl : xs.length = n) (q : gs xs σ H R) : gTup K n gs (.ref a) σ H R := ⟨a, xs, rfl, h, hl, q⟩
theorem g_cons (h : g x σ H fun σ' H' => gs xs σ' H' R) : gCons g gs (x :: xs) σ H R := ⟨x, xs, rfl, h⟩
theorem g_nil (h : R σ H) : gNil [] σ H R := ⟨rfl, h⟩
theorem g_sub {to ti : TE} {ts : TSet} (h : to σ H fun o H1 => ti σ H1 fun i H2 => ts o i v H2 fun H3 => R σ H3) : gSub to ti ts v σ H R := h
/-! ### expressions -/
theorem e_var (h : σ[i]? = some (some v)) (q : Q v H) : tVar i σ H Q := ⟨v, h, q⟩
theorem e_c (q : Q v H) : tC v σ H Q := q
theorem e_op {r : R2} (h : te σ H fun x H1 => tf σ H1 fun y H2 => r x y H2 Q) : tOp r te tf σ H Q := h
theorem e_un {r : V → Hp → VK → Prop} (h : te σ H fun x H1 => r x H1 Q) : tUn r te σ H Q := h
theorem e_if (h : c σ H fun b H1 => if b = true then te σ H1 Q else tf σ H1 Q) : tIf c te tf σ H Q := h
theorem e_tup (h : tas σ H fun xs H1 => xs.length ≤ sizeLine ∧ ∀ p, H1 p = none → Q (.ref p) (upd H1 p (.tup xs))) : tTup tas σ H Q := h
theorem e_lst (h : tas σ H fun xs H1 => xs.length ≤ sizeLine ∧ ∀ p, H1 p = none → Q (.ref p) (upd H1 p (.lst xs))) : tLst tas σ H Q := h
theorem e_call {sp : Sp} {E : XK} (h : tas σ H fun vs H1 => sp (vs ++ []) H1 Q E) : tCall sp [] E tas σ H Q := h
theorem e_cb {r : List V → Hp → VK → Prop} (h : tas σ H fun vs H1 => r vs H1 Q) : tCB r tas σ H Q := h
theorem e_bm {T : String} {r : V → List V → Hp → VK → Prop} (h : te σ H fun x H1 => tyV K T x H1 ∧ tas σ H1 fun xs H2 => r x xs H2 Q) : tBM K T r te tas σ H Q := h
theorem e_bm0 {T : String} {r : V → List V → Hp → VK → Prop} (h : te σ H fun x H1 => tyV K T x H1 ∧ r x [] H1 Q) : tBM0 K T r te σ H Q := h
theorem e_sl {r : V → Option Int → Option Int → Hp → VK → Prop} {tl th : TO} (h : te σ H fun x H1 => tl σ H1 fun l H2 => th σ H2 fun u H3 => r x l u H3 Q) : tSl r te tl th σ H Q := h
theorem o_no {R : Option Int → Hp → Prop} (h : R none H) : tNoPart σ H R := h
theorem o_part {R : Option Int → Hp → Prop} (h : te σ H fun x H1 => ∃ i, x = .int i ∧ R (some i) H1) : tPart te σ H R := h
theorem x_part {P : Int → Prop} {i : Int} (h : P i) : ∃ i', V.int i = .int i' ∧ P i' := ⟨i, rfl, h⟩
theorem e_and (h : te σ H fun x H1 => ∃ c, x = .bl c ∧ if c = true then tf σ H1 Q else Q (.bl false) H1) : tAndV te tf σ H Q := h
theorem e_or (h : te σ H fun x H1 => ∃ c, x = .bl c ∧ if c = true then Q (.bl true) H1 else tf σ H1 Q) : tOrV te tf σ H Q := h
theorem e_not (h : te σ H fun x H1 => ∃ c, x = .bl c ∧ Q (.bl (!c)) H1) : tNotV te σ H Q := h
theorem e_fld {f : Str} (h : te σ H fun x H1 => ∃ a C dx fs v, x = .ref a ∧ H1 a = some (.ins C dx fs) ∧ Cls K C ∧ NoAttr K C f ∧ fs.lookup f = some v ∧ Q v H1) : tFld K te f σ H Q := h
theorem s_fld {f : Str} (h : tf σ H fun y H1 => te σ H1 fun x H2 => ∃ a C dx fs, x = .ref a ∧ H2 a = some (.ins C dx fs) ∧ Cls K C ∧ NoAttr K C f ∧ fs.length < 1000 ∧ D.nx σ (upd H2 a (.ins C dx (putF f y fs)))) : sFld K te tf f D σ H := h
theorem a_nil (q : LQ [] H) : tNil σ H LQ := q
theorem a_cons (h : te σ H fun x H1 => tas σ H1 fun xs H2 => LQ (x :: xs) H2) : tCons te tas σ H LQ := h
/-! ### tests -/
theorem t_test (h : te σ H fun x H' => ∃ k, x = .bl k ∧ B k H') : tTest te σ H B := h
theorem t_b (h : te σ H fun x H1 => ∃ c, x = .bl c ∧ B c H1) : tB te σ H B := h
theorem t_and (h : c σ H fun d H1 => if d = true then tt σ H1 B else B false H1) : tAnd c tt σ H B := h
theorem t_or (h : c σ H fun d H1 => if d = true then B true H1 else tt σ H1 B) : tOr c tt σ H B := h
theorem t_not (h : c σ H fun d H1 => B (!d) H1) : tNot c σ H B := h
theorem t_tru (h : te σ H fun x H' => ∃ k, TruV K x H' k ∧ B k H') : tTru K te σ H B := h
theorem x_bl {R : Bool → Hp → Prop} {k : Bool} (h : R k H) : ∃ k', V.bl k = .bl k' ∧ R k' H := ⟨k, rfl, h⟩
theorem x_blE {R : Bool → Prop} {k : Bool} (h : R k) : ∃ k', V.bl k = .bl k' ∧ R k' := ⟨k, rfl, h⟩
theorem x_trT {P : Bool → Prop} (h : SqT K H p xs) (q : P (!xs.isEmpty)) : ∃ k, TruV K (.ref p) H k ∧ P k := ⟨_, Or.inr (Or.inl ⟨xs, h, rfl⟩), q⟩
theorem x_trL {P : Bool → Prop} (h : SqL K H p xs) (q : P (!xs.isEmpty)) : ∃ k, TruV K (.ref p) H k ∧ P k := ⟨_, Or.inl ⟨xs, h, rfl⟩, q⟩
theorem x_trB {P : Bool → Prop} {d : Bool} (q : P d) : ∃ k, TruV K (.bl d) H k ∧ P k := ⟨_, rfl, q⟩
theorem i_dec {p : Prop} [Decidable p] {A B : Prop} (h1 : p → A) (h2 : ¬ p → B) : if decide p = true then A else B := by
  by_cases h : p
  · rw [if_pos (decide_eq_true h)]; exact h1 h
  · rw [if_neg (by rw [decide_eq_false h]; exact Bool.false_ne_true)]; exact h2 h
theorem i_ndec {p : Prop} [Decidable p] {A B : Prop} (h1 : ¬ p → A) (h2 : p → B) : if (!decide p) = true then A else B := by
  by_cases h : p
  · rw [decide_eq_true h, if_neg (by exact Bool.false_ne_true)]; exact h2 h
  · rw [decide_eq_false h, Bool.not_false, if_pos rfl]; exact h1 h
theorem i_t {A B : Prop} (h : A) : if true = true then A else B := by rw [if_pos rfl]; exact h
theorem i_f {A B : Prop} (h : B) : if false = true then A else B := by rw [if_neg Bool.false_ne_true]; exact h
theorem i_nt {A B : Prop} (h : B) : if (!true) = true then A else B := i_f h
theorem i_nf {A B : Prop} (h : A) : if (!false) = true then A else B := i_t h
theorem i_b {d : Bool} {A B : Prop} (h1 : d = true → A) (h2 : d = false → B) : if d = true then A else B := by
  cases d
  · exact i_f (h2 rfl)
  · exact i_t (h1 rfl)
/-! ### operators -/
theorem r_0 {g : Int → Int → V} {i j : Int} (q : Q (g i j) H) : rI0 g (.int i) (.int j) H Q := ⟨i, j, rfl, rfl, q⟩
theorem r_1 {C : Int → Int → Prop} {g : Int → Int → V} {i j : Int} (h : C i j) (q : Q (g i j) H) : rI C g (.int i) (.int j) H Q := ⟨i, j, rfl, rfl, h, q⟩
theorem r_plus {i j : Int} (q : Q (.int (i + j)) H) : rPlus (.int i) (.int j) H Q := r_0 q
theorem r_minus {i j : Int} (q : Q (.int (i - j)) H) : rMinus (.int i) (.int j) H Q := r_0 q
theorem r_times {i j : Int} (h : CMul i j) (q : Q (.int (i * j)) H) : rTimes (.int i) (.int j) H Q := r_1 h q
theorem r_mod {i j : Int} (h : 0 < j) (q : Q (.int (i % j)) H) : rModP (.int i) (.int j) H Q := r_1 h q
theorem r_fdiv {i j : Int} (h : CDivN i j) (q : Q (.int (i.fdiv j)) H) : rFdivN (.int i) (.int j) H Q := r_1 h q
theorem r_pow {i j : Int} (h : CPow i j) (q : Q (.int (i ^ j.toNat)) H) : rPow0 (.int i) (.int j) H Q := r_1 h q
theorem r_lt {i j : Int} (q : Q (.bl (decide (i < j))) H) : rLt0 (.int i) (.int j) H Q := r_0 q
theorem r_le {i j : Int} (q : Q (.bl (decide (i ≤ j))) H) : rLe0 (.int i) (.int j) H Q := r_0 q
theorem r_gt {i j : Int} (q : Q (.bl (decide (j < i))) H) : rGt0 (.int i) (.int j) H Q := r_0 q
theorem r_ge {i j : Int} (q : Q (.bl (decide (j ≤ i))) H) : rGe0 (.int i) (.int j) H Q := r_0 q
theorem dec_int {i j : Int} : decide (V.int i = V.int j) = decide (i = j) := by
  by_cases h : i = j
  · rw [decide_eq_true h, decide_eq_true (congrArg V.int h)]
  · rw [decide_eq_false h, decide_eq_false (fun e => h (V.int.inj e))]
theorem dec_bl {i j : Bool} : decide (V.bl i = V.bl j) = decide (i = j) := by
  by_cases h : i = j
  · rw [decide_eq_true h, decide_eq_true (congrArg V.bl h)]
  · rw [decide_eq_false h, decide_eq_false (fun e => h (V.bl.inj e))]
theorem dec_str {i j : Str} : decide (V.str i = V.str j) = decide (i = j) := by
  by_cases h : i = j
  · rw [decide_eq_true h, decide_eq_true (congrArg V.str h)]
  · rw [decide_eq_false h, decide_eq_false (fun e => h (V.str.inj e))]
theorem r_eqI {i j : Int} (q : Q (.bl (decide (i = j))) H) : rEq (.int i) (.int j) H Q := ⟨rfl, by rw [dec_int]; exact q⟩
theorem r_eqB {i j : Bool} (q : Q (.bl (decide (i = j))) H) : rEq (.bl i) (.bl j) H Q := ⟨rfl, by rw [dec_bl]; exact q⟩
theorem r_eqS {i j : Str} (q : Q (.bl (decide (i = j))) H) : rEq (.str i) (.str j) H Q := ⟨rfl, by rw [dec_str]; exact q⟩
theorem r_neI {i j : Int} (q : Q (.bl (!decide (i = j))) H) : rNe (.int i) (.int j) H Q := ⟨rfl, by rw [dec_int]; exact q⟩
theorem r_neB {i j : Bool} (q : Q (.bl (!decide (i = j))) H) : rNe (.bl i) (.bl j) H Q := ⟨rfl, by rw [dec_bl]; exact q⟩
theorem r_neS {i j : Str} (q : Q (.bl (!decide (i = j))) H) : rNe (.str i) (.str j) H Q := ⟨rfl, by rw [dec_str]; exact q⟩
theorem r_isNi {i : Int} (q : Q (.bl false) H) : rIsN0 (.int i) .non H Q := ⟨rfl, q⟩
theorem r_isNr (q : Q (.bl false) H) : rIsN0 (.ref a) .non H Q := ⟨rfl, q⟩
theorem r_isNs {z : Str} (q : Q (.bl false) H) : rIsN0 (.str z) .non H Q := ⟨rfl, q⟩
theorem r_isNb {d : Bool} (q : Q (.bl false) H) : rIsN0 (.bl d) .non H Q := ⟨rfl, q⟩
theorem r_isNn (q : Q (.bl true) H) : rIsN0 .non .non H Q := ⟨rfl, q⟩
theorem r_notNi {i : Int} (q : Q (.bl true) H) : rNotN0 (.int i) .non H Q := ⟨rfl, q⟩
theorem r_notNr (q : Q (.bl true) H) : rNotN0 (.ref a) .non H Q := ⟨rfl, q⟩
theorem r_notNn (q : Q (.bl false) H) : rNotN0 .non .non H Q := ⟨rfl, q⟩
theorem r_neg {i : Int} (q : Q (.int (-i)) H) : uNeg (.int i) H Q := ⟨i, rfl, q⟩
theorem atI_nn {α : Type} {xs : List α} {i : Int} {v : α} (h0 : 0 ≤ i) (ha : xs[i.toNat]? = some v) : atI xs i = some v := by
  obtain ⟨n, rfl⟩ := Int.eq_ofNat_of_zero_le h0
  exact atI_nat ha
theorem ixN_nn {i : Int} {n k : Nat} (h0 : 0 ≤ i) (hk : i.toNat = k) (h : k < n) : ixN n i = some k := by
  obtain ⟨m, rfl⟩ := Int.eq_ofNat_of_zero_le h0
  have : m = k := by rw [← hk]; rfl
  rw [this]
  unfold ixN
  rw [if_pos (Int.natCast_nonneg k), if_pos (by omega)]
  simp
theorem r_ixL {i : Int} (h : SqL K H p xs) (h0 : 0 ≤ i) (ha : xs[i.toNat]? = some v) (q : Q v H) : rIxL K (.ref p) (.int i) H Q := ⟨p, xs, i, v, rfl, rfl, h, atI_nn h0 ha, q⟩
theorem r_ixT {i : Int} (h : SqT K H p xs) (h0 : 0 ≤ i) (ha : xs[i.toNat]? = some v) (q : Q v H) : rIxT K (.ref p) (.int i) H Q := ⟨p, xs, i, v, rfl, rfl, h, atI_nn h0 ha, q⟩
theorem r_set {k : Int} (h : H p = some (.lst xs)) (h0 : 0 ≤ k) (hk : k.toNat = j) (hj : j < xs.length) {R : Hp → Prop} (q : R (upd H p (.lst (xs.set j v)))) : rSetL (.ref p) (.int k) v H R := ⟨p, xs, k, j, rfl, rfl, h, ixN_nn h0 hk hj, q⟩
theorem r_app (h : H p = some (.lst xs)) (hl : xs.length < sizeLine) (q : Q .non (upd H p (.lst (xs ++ [y])))) : rAppend (.ref p) [y] H Q := ⟨p, xs, y, rfl, rfl, h, hl, q⟩
theorem r_ext (h : H p = some (.lst xs)) (h2 : H b = some (.lst ys)) (hl : xs.length + ys.length ≤ sizeLine) (q : Q .non (upd H p (.lst (xs ++ ys)))) : rExtend (.ref p) [.ref b] H Q := ⟨p, b, xs, ys, rfl, rfl, h, h2, hl, q⟩
theorem r_popAt {i : Int} {k : Nat} (h : H p = some (.lst xs)) (h1 : -(2 ^ 63) ≤ i) (h2 : i < 2 ^ 63) (h3 : seqIndex? i xs.length = some k) (h4 : xs[k]? = some y) (q : Q y (upd H p (.lst (xs.eraseIdx k)))) : rPopAt (.ref p) [.int i] H Q := ⟨p, xs, i, k, y, rfl, rfl, h, h1, h2, h3, h4, q⟩
theorem r_cat (h : H p = some (.lst xs)) (h2 : H b = some (.lst ys)) (hl : xs.length + ys.length ≤ sizeLine) (q : ∀ l, H l = none → Q (.ref l) (upd H l (.lst (xs ++ ys)))) : rCat (.ref p) (.ref b) H Q := ⟨p, b, xs, ys, rfl, rfl, h, h2, hl, q⟩
theorem r_slL {lo hi : Option Int} (h : SqL K H p xs) (q : ∀ l, H l = none → Q (.ref l) (upd H l (.lst (cutV xs lo hi)))) : rSlL K (.ref p) lo hi H Q := ⟨p, xs, rfl, h, q⟩
theorem b_int {i : Int} (q : Q (.int i) H) : bInt [.int i] H Q := .inl ⟨i, rfl, q⟩
theorem b_max2 {i j : Int} (q : Q (.int (if j > i then j else i)) H) : bMax2 [.int i, .int j] H Q := ⟨i, j, rfl, q⟩
theorem b_min2 {i j : Int} (q : Q (.int (if j < i then j else i)) H) : bMin2 [.int i, .int j] H Q := ⟨i, j, rfl, q⟩
theorem b_str {i : Int} (h : i.natAbs.log2 < 1920) (q : Q (.str (Str.ofString (toString i))) H) : bStr [.int i] H Q := ⟨i, rfl, h, q⟩
theorem b_lenL (h : SqL K H p xs) (q : Q (.int (xs.length : Int)) H) : bLen K [.ref p] H Q := ⟨p, xs, rfl, .inl h, q⟩
theorem b_lenT (h : SqT K H p xs) (q : Q (.int (xs.length : Int)) H) : bLen K [.ref p] H Q := ⟨p, xs, rfl, .inr h, q⟩
theorem b_listL (h : SqL K H p xs) (q : ∀ l, H l = none → Q (.ref l) (upd H l (.lst xs))) : bList K [.ref p] H Q := ⟨p, xs, rfl, .inl h, q⟩
theorem b_tupL (h : SqL K H p xs) (q : ∀ l, H l = none → Q (.ref l) (upd H l (.tup xs))) : bTuple K [.ref p] H Q := ⟨p, xs, rfl, .inl ⟨h, q⟩⟩
theorem b_tupT (h : SqT K H p xs) (q : Q (.ref p) H) : bTuple K [.ref p] H Q := ⟨p, xs, rfl, .inr ⟨h, q⟩⟩
theorem ty_list (h : SqL K H p xs) : tyV K "list" (.ref p) H := .inl ⟨rfl, xs, h⟩
theorem ty_str {z : Str} : tyV K "str" (.str z) H := rfl
theorem x_tl {A : Prop} (h : SqL K H p xs) (q : A) : tyV K "list" (.ref p) H ∧ A := ⟨ty_list h, q⟩
theorem x_ts {z : Str} {A : Prop} (q : A) : tyV K "str" (.str z) H ∧ A := ⟨rfl, q⟩
theorem x_isi {x c : V} {t u : Value} {d : Bool} (hc : ClsV c u) (ht : TyX K H x t) (hk : PySem.W.kitOne K t u = some d) (q : Q (.bl d) H) : rIsi K [x, c] H Q := ⟨x, c, t, u, d, rfl, hc, ht, hk, q⟩
end
/-! ### frames -/
/-- all that was tracked stands as it was, but at a -/
def Sb (a : Addr) (H H' : Hp) : Prop := ∀ b o, b ≠ a → H b = some o → H' b = some o
theorem Sb.refl (a : Addr) (H : Hp) : Sb a H H := fun _ _ _ h => h
theorem Sb.trans {a : Addr} {H H1 H2 : Hp} (x : Sb a H H1) (y : Sb a H1 H2) : Sb a H H2 := fun b o n h => y b o n (x b o n h)
theorem Sb.new {a : Addr} {H H1 : Hp} {p : Addr} {o : HO} (x : Sb a H H1) (h : H1 p = none) : Sb a H (upd H1 p o) := fun b u n e => by
  rw [upd_ne (ne_of_none (x b u n e) h)]
  exact x b u n e
theorem Sb.mut {a : Addr} {H H1 : Hp} {p : Addr} {o : HO} (x : Sb a H H1) (h : H p = none) : Sb a H (upd H1 p o) := fun b u n e => by
  rw [upd_ne (ne_of_none e h)]
  exact x b u n e
theorem Sb.own {a : Addr} {H H1 : Hp} {o : HO} (x : Sb a H H1) : Sb a H (upd H1 a o) := fun b u n e => by
  rw [upd_ne n]
  exact x b u n e
theorem Sb.same {a : Addr} {H H1 : Hp} (x : Same H H1) : Sb a H H1 := fun b o _ h => x b o h
theorem Same.sb {a : Addr} {H H1 : Hp} (x : Same H H1) : Sb a H H1 := fun b o _ h => x b o h
theorem Same.new {H H1 : Hp} {p : Addr} {o : HO} (x : Same H H1) (h : H1 p = none) : Same H (upd H1 p o) := fun b u e => by
  rw [upd_ne (ne_of_none (x b u e) h)]
  exact x b u e
theorem Same.mut {H H1 : Hp} {p : Addr} {o : HO} (x : Same H H1) (h : H p = none) : Same H (upd H1 p o) := fun b u e => by
  rw [upd_ne (ne_of_none e h)]
  exact x b u e
theorem Sb.free {a : Addr} {H H' : Hp} (e : Sb a H H') {l : Addr} (n : l ≠ a) (h : H' l = none) : H l = none := by
  cases q : H l with
  | none => rfl
  | some o =>
    rw [e l o n q] at h
    cases h
theorem SqL.at {K : PySem.W.Frag} {H : Hp} {a : Addr} {xs : List V} (h : H a = some (.lst xs)) : SqL K H a xs := L2.SqL.of h
theorem SqT.at {K : PySem.W.Frag} {H : Hp} {a : Addr} {xs : List V} (h : H a = some (.tup xs)) : SqT K H a xs := L2.SqT.of h
/-! ### finding an index -/
theorem ixN_nat {n i : Nat} (h : i < n) : ixN n (i : Int) = some i := by
  unfold ixN
  first
    | (simp; omega)
    | (rw [if_pos (by omega)]; simp; omega)
theorem atI_at {α : Type} {xs : List α} {i : Nat} {v : α} (h : xs[i]? = some v) : atI xs (i : Int) = some v := by
  have hi : i < xs.length := (List.getElem?_eq_some_iff.mp h).1
  unfold atI
  rw [ixN_nat hi]
  exact h
/-! ### more steps -/
theorem upd_at {H : Hp} {p b : Addr} {o : HO} {u : Option HO} (n : b ≠ p) (h : H b = u) : upd H p o b = u := by rw [upd_ne n]; exact h
theorem sb_at {a b : Addr} {H H' : Hp} {o : HO} (s : Sb a H H') (n : b ≠ a) (h : H b = some o) : H' b = some o := s b o n h
theorem same_at {b : Addr} {H H' : Hp} {o : HO} (s : Same H H') (h : H b = some o) : H' b = some o := s b o h
theorem ne_new {H : Hp} {b p : Addr} {o : HO} (n : H p = none) (h : H b = some o) : b ≠ p := ne_of_none h n
theorem ne_new' {H : Hp} {b p : Addr} {o : HO} (n : H p = none) (h : H b = some o) : p ≠ b := (ne_of_none h n).symm
theorem ne_tl {H : Hp} {a b : Addr} {xs ys : List V} (h : H b = some (.tup xs)) (g : H a = some (.lst ys)) : b ≠ a := ne_of h g (by intro z; cases z)
theorem ne_lt {H : Hp} {a b : Addr} {xs ys : List V} (h : H b = some (.lst xs)) (g : H a = some (.tup ys)) : b ≠ a := ne_of h g (by intro z; cases z)
theorem SqL.mono {K : PySem.W.Frag} {H H' : Hp} {a : Addr} {xs : List V} (h : SqL K H a xs) (s : Same H H') : SqL K H' a xs := s.seq h
theorem s_for {wi : TI} {g : TG} {tb : TS} {D : Ends} {σ : L2.St} {H : Hp} (h : wi σ H fun J H1 => ∃ W : Nat → Nat → L2.St → Hp → Prop, (∃ m, W 0 m σ H1) ∧ ∀ i m σ H, W i m σ H →
  (J.stop i H ∧ D.nx σ H) ∨ (J.go i H ∧ ∃ N : L2.St → Hp → Prop, (∀ σ' H', N σ' H' → ∃ m', m' < m ∧ W (i + 1) m' σ' H') ∧ ∀ x H', J.yld i H x H' → g x σ H' fun σ2 H2 => tb { D with nx := N, ct := N, bk := D.nx } σ2 H2)) : tFor wi g tb D σ H := h
theorem i_tup {K : PySem.W.Frag} {te : TE} {σ : L2.St} {H : Hp} {R : It → Hp → Prop} (h : te σ H fun x H1 => ∃ a, x = .ref a ∧ (∃ xs, SqT K H1 a xs) ∧ R (Itt K a) H1) : iTup K te σ H R := h
theorem i_list {K : PySem.W.Frag} {te : TE} {σ : L2.St} {H : Hp} {R : It → Hp → Prop} (h : te σ H fun x H1 => ∃ a, x = .ref a ∧ (∃ xs, SqL K H1 a xs) ∧ R (Itl K a) H1) : iList K te σ H R := h
theorem i_rng1 {ta : TA} {σ : L2.St} {H : Hp} {R : It → Hp → Prop} (h : ta σ H fun vs H1 => ∃ j : Int, vs = [.int j] ∧ -(2 ^ 62) ≤ j ∧ j < 2 ^ 62 ∧ R (Itr 0 j.toNat) H1) : iRng1 ta σ H R := h
theorem i_rng2 {ta : TA} {σ : L2.St} {H : Hp} {R : It → Hp → Prop} (h : ta σ H fun vs H1 => ∃ i j : Int, vs = [.int i, .int j] ∧ (-(2 ^ 62) ≤ i ∧ i < 2 ^ 62 ∧ -(2 ^ 62) ≤ j ∧ j < 2 ^ 62) ∧ R (Itr i (j - i).toNat) H1) : iRng2 ta σ H R := h
theorem i_zip {K : PySem.W.Frag} {ta : TA} {σ : L2.St} {H : Hp} {R : It → Hp → Prop} (h : ta σ H fun vs H1 => ∃ a b xs ys, vs = [.ref a, .ref b] ∧ ((SqL K H1 a xs ∧ SqL K H1 b ys ∧ R (Itz K a b) H1) ∨ (SqT K H1 a xs ∧ SqT K H1 b ys ∧ R (RZ.ItzT K a b) H1))) : RZ.iZipA K ta σ H R := h
theorem e_join {ts : List TE} {σ : L2.St} {H : Hp} {Q : VK} (h : tJs ts Str.empty σ H fun out H1 => Q (.str out) H1) : tJoin ts σ H Q := h
theorem j_nil {acc : Str} {σ : L2.St} {H : Hp} {R : Str → Hp → Prop} (h : R acc H) : tJs [] acc σ H R := h
theorem j_cons {t : TE} {ts : List TE} {acc : Str} {σ : L2.St} {H : Hp} {R : Str → Hp → Prop} (h : t σ H fun x H1 => ∃ y : Str, x = .str y ∧ (acc ++ y).length ≤ sizeLine ∧ tJs ts (acc ++ y) σ H1 R) : tJs (t :: ts) acc σ H R := h
theorem mapI_get {ns : List Int} {i : Nat} {x : V} (h : (ns.map V.int)[i]? = some x) : ∃ n, x = V.int n ∧ ns[i]? = some n := by
  rw [List.getElem?_map] at h
  cases e : ns[i]? with
  | none => rw [e] at h; cases h
  | some n => rw [e] at h; exact ⟨n, (Option.some.inj h).symm, rfl⟩
theorem e_lc {wi : TI} {g : TG} {tt : TT} {te : TE} {vs : List Nat} {σ : L2.St} {H : Hp} {Q : VK} (h : wi σ H fun J H1 => ∀ D, H1 D = none → ∃ W : Nat → Nat → Hp → Prop, (∃ m, W 0 m (upd H1 D (.lst []))) ∧ ∀ i m H, W i m H →
  (J.stop i H ∧ Q (.ref D) H) ∨ (J.go i H ∧ ∃ Nx : Hp → Prop, (∀ H', Nx H' → ∃ m', m' < m ∧ W (i + 1) m' H') ∧ ∀ x H', J.yld i H x H' → g x (wipe σ vs) H' fun σ2 H2 => wipe σ2 vs = wipe σ vs ∧ tt σ2 H2 fun b H3 =>
    if b = true then te σ2 H3 fun y H4 => ∃ acc, H4 D = some (.lst acc) ∧ acc.length < sizeLine ∧ Nx (upd H4 D (.lst (acc ++ [y]))) else Nx H3)) : tLc wi g tt te vs σ H Q := h
theorem t_yes {σ : L2.St} {H : Hp} {B : Bool → Hp → Prop} (q : B true H) : tYes σ H B := q
theorem e_fmtS {te : TE} {σ : L2.St} {H : Hp} {Q : VK} (h : te σ H fun x H1 => (∃ y : Str, x = .str y ∧ y.length ≤ sizeLine ∧ Q (.str y) H1) ∨ ∃ i : Int, x = .int i ∧ i.natAbs.log2 < 1920 ∧ Q (.str (toString i)) H1) : tFmt te σ H Q := h
theorem sz {n : Nat} (h : n ≤ 100000) : n ≤ sizeLine := Nat.le_trans h (by decide)
theorem szl {n : Nat} (h : n ≤ 100000) : n < sizeLine := Nat.lt_of_le_of_lt h (by decide)
theorem walk_zipT {K : PySem.W.Frag} {a b : Addr} {xs ys : List V} {n : Nat} (hn : n = min xs.length ys.length) : Walk (RZ.ItzT K a b) n (fun H => SqT K H a xs ∧ SqT K H b ys) (YPair (fun i => xs[i]?) (fun i => ys[i]?)) := by
  subst hn
  refine ⟨fun i _ hi q => ?_, fun _ q => ⟨xs, ys, q.1, q.2, by omega⟩, fun i H v H' _ q y => ?_⟩
  · have h1 : i < xs.length := by omega
    have h2 : i < ys.length := by omega
    exact ⟨xs, ys, xs[i], ys[i], q.1, q.2, by simp [h1], by simp [h2]⟩
  · obtain ⟨T, x, z, h1, h2, h3, h4, h5⟩ := y
    exact ⟨T, x, z, h1, h2, h3, h4 xs q.1, h5 ys q.2⟩
theorem x_max {i j : Int} {H : Hp} {Q : VK} (q : ∀ m : Int, i ≤ m → j ≤ m → (m = i ∨ m = j) → Q (.int m) H) : bMax2 [.int i, .int j] H Q := by
  refine ⟨i, j, rfl, ?_⟩
  by_cases h : j > i
  · rw [if_pos h]; exact q j (by omega) (Int.le_refl _) (.inr rfl)
  · rw [if_neg h]; exact q i (Int.le_refl _) (by omega) (.inl rfl)
theorem x_min {i j : Int} {H : Hp} {Q : VK} (q : ∀ m : Int, m ≤ i → m ≤ j → (m = i ∨ m = j) → Q (.int m) H) : bMin2 [.int i, .int j] H Q := by
  refine ⟨i, j, rfl, ?_⟩
  by_cases h : j < i
  · rw [if_pos h]; exact q j (by omega) (Int.le_refl _) (.inr rfl)
  · rw [if_neg h]; exact q i (Int.le_refl _) (by omega) (.inl rfl)
theorem e_make {C : Addr} {sp : Sp} {E : XK} {t : TA} {σ : L2.St} {H : Hp} {Q : VK} (h : t σ H fun vs H1 => ∀ x dx, H1 x = none → H1 dx = none → dx ≠ x →
  sp (.ref x :: (vs ++ [])) (upd (upd H1 dx (.own x)) x (.ins C dx [])) (fun v H2 => v = .non ∧ Q (.ref x) H2) E) : tMake C sp [] E t σ H Q := h
theorem Same.mut2 {p : Addr} {H H' : Hp} (h : H p = none) (s : Sb p H H') : Same H H' := fun b o e => s b o (ne_of_none e h) e
end My
end

section
set_option Elab.async false
set_option maxRecDepth 100000
set_option maxHeartbeats 4000000
set_option linter.all false
namespace My
open PySem L2
/-! ### enumerate over a text, from k0 -/
def Ites (x : Str) (k0 : Int) : It :=
  ⟨fun i _ => i < x.cps.size, fun i H v H' => ∃ (T : Addr) (c : Nat), v = .ref T ∧ H T = none ∧ H' = upd H T (.tup [.int (k0 + (i : Nat)), .str ⟨#[c]⟩]) ∧ x.cps[i]? = some c, fun i _ => i = x.cps.size⟩
theorem turn_enumS {P : Program} {w : World} {K : PySem.W.Frag} {elts : List Expr} {kk : Nat} {tpos : Pos} (x : Str) (t : Tok) (k0 : Int) (e it : Addr) :
    Turn P w K (.Tuple elts kk tpos) (Ites x k0) [e, it] e (fun i h => (∃ old, IsEnum h e it (k0 + ((i : Nat) : Int)) old) ∧ h.IsStrIter it (strIterType x) x t i ∧ e ≠ it) where
  mem := by simp
  obj := fun i h st b hb => by
    obtain ⟨⟨old, he⟩, ⟨o, ho, hc, hd⟩, _⟩ := st
    have e' : b = e ∨ b = it := by simpa using hb
    rcases e' with z | z
    · rw [z]; exact ⟨_, he, fun v q => nomatch q⟩
    · rw [z]; exact ⟨o, ho, fun v q => by rw [hd] at q; cases q⟩
  keep := fun i h h' st k => by
    obtain ⟨⟨old, he⟩, ⟨o, ho, r⟩, hne⟩ := st
    exact ⟨⟨old, k e (by simp) _ he⟩, ⟨o, k it (by simp) o ho, r⟩, hne⟩
  item := by
    intro X hP hw hK hc i pins s σ H E I hf st hg
    subst hP hw hK
    obtain ⟨⟨old, he⟩, hit, hne⟩ := st
    have hel : e < s.heap.objs.size := Heap.lt_size he
    have hil : it < s.heap.objs.size := by obtain ⟨_, q, _⟩ := id hit; exact Heap.lt_size q
    have hh : X.A.in1.handled = none := I.ok.hd hc
    have D : Draws X.prog X.w X.A.in1 it [it] x.cps.size _ _ := Draws.text hh it x t
    refine wpAny_pyNext_enum_itemC D he hit hg hne (by simpa using hne) fun u h' tk hu ho hit' hT hsz hk => ?_
    obtain ⟨c, tc, hx, rfl⟩ := hu
    refine ⟨_, rfl, wpAny_letOwnedTupleGo_enum (s := { s with heap := h', toks := tk + 1 }) ho fun h'' he' sb => ?_⟩
    have hT2 : h''.get? s.heap.objs.size = some { cls := .type "tuple", data := .seq #[.int (k0 + (i : Nat)) tk, .str ⟨#[c]⟩ tc] } := (sb.2 _ (Nat.ne_of_gt hel)).trans hT
    have new : ObjOk X.prog X.w (upd H s.heap.objs.size (.tup [.int (k0 + (i : Nat)), .str ⟨#[c]⟩])) h'' s.heap.objs.size (.tup [.int (k0 + (i : Nat)), .str ⟨#[c]⟩]) :=
      ⟨by show 2 ≤ sizeLine; decide, [.int (k0 + (i : Nat)) tk, .str ⟨#[c]⟩ tc], .cons ⟨_, rfl⟩ (.cons ⟨_, rfl⟩ .nil), ⟨_, hT2, rfl, _, rfl⟩⟩
    have I1 : Inv X pins σ (upd H s.heap.objs.size (.tup [.int (k0 + (i : Nat)), .str ⟨#[c]⟩])) { s with heap := h'', toks := tk + 1 } :=
      I.turnedNew (ch := [e, it]) (fun b ob hb q => (sb.2 b (fun z => hb (by simp [z]))).trans (hk b ob (fun z => hb (by simp [z])) (fun z => hb (by simp [z])) q)) hf (Nat.le_refl _) new
    obtain ⟨oi, ei, ri⟩ := hit'
    refine ⟨.ref s.heap.objs.size, _, I1, rfl, ⟨_, c, rfl, I.hok.fresh (Nat.le_refl _), rfl, hx⟩, ⟨⟨.str ⟨#[c]⟩ tc, ?_⟩, ⟨oi, (sb.2 it (Ne.symm hne)).trans ei, ri⟩, hne⟩, fun b hb => ?_⟩
    · have e1 : k0 + ((i + 1 : Nat) : Int) = k0 + (i : Int) + 1 := by omega
      rw [e1]; exact he'
    · have hb' : b < s.heap.objs.size := by
        have e' : b = e ∨ b = it := by simpa using hb
        rcases e' with z | z
        · rw [z]; exact hel
        · rw [z]; exact hil
      rw [upd_ne (Nat.ne_of_lt hb')]
      exact (hf b hb).1
  done := by
    intro X hP hw hK hc i pins s σ H E I hf st hg
    subst hP hw hK
    obtain ⟨⟨old, he⟩, hit, hne⟩ := st
    obtain ⟨f0, f1, f2, f3, f4, f5⟩ := hf it (by simp)
    have hh : X.A.in1.handled = none := I.ok.hd hc
    have D : Draws X.prog X.w X.A.in1 it [it] x.cps.size _ _ := Draws.text hh it x t
    have hg' : i = x.cps.size := hg
    rw [hg'] at he hit
    exact wpAny_pyNext_enum_endD D he hit fun h' eb => ⟨rfl, I.turned (t' := s.toks) (fun b o hb q => eb b o hb q) f0 f1 f3 f4 f5⟩
  self := fun A i s Q E st h => let ⟨⟨_, he⟩, _⟩ := st; wpAny_pyIter_enum he h
def iEnumS (ta : TA) : TI := fun σ H R => ta σ H fun vs H1 => ∃ x : Str, vs = [.str x] ∧ R (Ites x 0) H1
def iEnumSK (ta tk : TA) : TI := fun σ H R => ta σ H fun vs H1 => tk σ H1 fun us H2 => ∃ (x : Str) (k0 : Int), vs = [.str x] ∧ us = [.int k0] ∧ -(2 ^ 63) ≤ k0 ∧ k0 < 2 ^ 63 ∧ R (Ites x k0) H2
section
variable {X : Cx} {e e2 : Expr} {ta tk : TA} {kpos : Pos} {p pos tpos : Pos} {elts : List Expr} {kk : Nat}
theorem fin_enumS {pins : List (Addr × Obj)} {σ : L2.St} {H : Hp} {s : Shared} {x : Str} {t : Tok} {k0 : Int} {R : It → Hp → Prop} {h' : Heap} (I : Inv X pins σ H s) (he : IsEnum h' (s.heap.objs.size + 1) s.heap.objs.size k0 .none) (hit : h'.IsStrIter s.heap.objs.size (strIterType x) x t 0)
    (hk : ∀ b o, s.heap.get? b = some o → h'.get? b = some o) (q : R (Ites x k0) H) : wpAny (model X.prog X.w) X.A (pyIter (.ref (s.heap.objs.size + 1))) (PIE X pins σ (.Tuple elts kk tpos) R) X.xe { s with heap := h' } := by
  refine wpAny_pyIter_enum he ?_
  have I2 : Inv X pins σ H { s with heap := h' } := I.kept (t' := s.toks) hk
  refine ⟨s.heap.objs.size + 1, [s.heap.objs.size + 1, s.heap.objs.size], _, _, H, rfl, I2, turn_enumS x t k0 (s.heap.objs.size + 1) s.heap.objs.size, ⟨⟨.none, ?_⟩, hit, Nat.succ_ne_self _⟩, fun b hb => ?_, q⟩
  · rw [show k0 + ((0 : Nat) : Int) = k0 by omega]; exact he
  have e' : b = s.heap.objs.size + 1 ∨ b = s.heap.objs.size := by simpa using hb
  have hle : s.heap.objs.size ≤ b := by
    rcases e' with z | z
    · rw [z]; exact Nat.le_add_right _ _
    · rw [z]; exact Nat.le_refl _
  exact I.fpOk hle (I.hok.fresh hle)
theorem pi_enumS (hg : Gl X "enumerate") (hm : X.mg "enumerate" = none) (ha : PA X [e] ta) (hs : starEach [e] X.env = [(false, eval e X.env)] := by rfl) :
    PI X (.Tuple elts kk tpos) (.Call (.Name "enumerate" p) [e] [] pos) (iEnumS ta) := by
  refine ⟨fun pins s σ H R I h => ?_⟩
  refine PyProof.Rows.Call_ (ld_blt I hg hm PyProof.Rows.boot_enumerate (PyProof.Rows.callWith_type1 (thn (ha.run pos pins s σ H _ I h) fun us s1 ⟨vs, H1, I1, r1, q1⟩ => ?_) hs rfl))
  obtain ⟨x, ex, q⟩ := q1
  subst ex
  cases r1 with
  | cons r rr =>
    cases rr
    obtain ⟨t, rfl⟩ := r
    exact call_enumerate_str fun h' he hit hsz hk => fin_enumS I1 he hit hk q
theorem callWith_typeK {M : Model} {A : Around} {E : Value → Shared → Prop} {s : Shared} {env : Env} {pos : Pos} {T : String} {e : Expr} {rest : List Expr} {kws : List Keyword} {Q : Value → Shared → Prop}
    (h : wpAny M A (spliced (backTo pos (starEach (e :: rest) env))) (fun vs s₁ => wpAny M A (evalAll ((backToKw pos (keywordEach kws env)).map (·.2)))
      (fun kvs s₂ => wpAny M A (call (.type T) vs (((backToKw pos (keywordEach kws env)).filterMap (·.1)).zip kvs)) Q E s₂) E s₁) E s)
    (he : backTo pos (starEach (e :: rest) env) = (false, eval e env) :: backTo pos (starEach rest env))
    (hplain : (backTo pos (starEach (e :: rest) env)).any (·.1) = false)
    (hall : (backToKw pos (keywordEach kws env)).all (·.1.isSome) = true)
    (hkw : (backToKw pos (keywordEach kws env)).any (·.1.isNone) = false) :
    wpAny M A (callWith pos (.type T) [] (backTo pos (starEach (e :: rest) env)) (backToKw pos (keywordEach kws env))) Q E s := by
  unfold callWith
  have h2 : wpAny M A (evalArgs (.type T) true (backTo pos (starEach (e :: rest) env)) (backToKw pos (keywordEach kws env))) (fun a s₁ => wpAny M A (call (.type T) ([] ++ a.pos) a.kw) Q E s₁) E s := by
    rw [he] at h ⊢
    exact PyProof.Rows.evalArgs_kwB hall h
  refine wpAny_bind (wpAny_holding (wpAny_mono h2 (fun a s₁ h₁ => wpAny_bind (wpAny_standAt ?_)) fun _ _ x => x))
  simp only [hplain, hkw, Bool.or_false]
  refine wpAny_bind (wpAny_pure ?_)
  exact wpAny_bind (wpAny_mono h₁ (fun r s₂ hr => wpAny_bind (wpAny_holding (wpAny_point (wpAny_pure hr)))) fun _ _ x => x)
theorem pi_enumSK (hg : Gl X "enumerate") (hm : X.mg "enumerate" = none) (ha : PA X [e] ta) (hk : PK X [⟨some "start", e2, kpos⟩] tk)
    (he : backTo pos (starEach [e] X.env) = (false, eval e X.env) :: backTo pos (starEach [] X.env) := by rfl) (hpl : (backTo pos (starEach [e] X.env)).any (·.1) = false := by rfl) :
    PI X (.Tuple elts kk tpos) (.Call (.Name "enumerate" p) [e] [⟨some "start", e2, kpos⟩] pos) (iEnumSK ta tk) := by
  refine ⟨fun pins s σ H R I h => ?_⟩
  refine wpAny_Call_Name_kw (ld_blt I hg hm PyProof.Rows.boot_enumerate ?_)
  refine callWith_typeK (thn (ha.run pos pins s σ H _ I h) fun us s1 ⟨vs, H1, I1, r1, q1⟩ => thn (hk.run pos pins s1 σ H1 _ I1 q1) fun ws s2 ⟨zs, H2, I2, r2, q2⟩ => ?_) he hpl rfl rfl
  obtain ⟨x, k0, ex, ek, h0, h1, q⟩ := q2
  subst ex
  subst ek
  cases r1 with
  | cons r rr =>
    cases rr
    obtain ⟨t, rfl⟩ := r
    cases r2 with
    | cons r' rr' =>
      cases rr'
      obtain ⟨t', rfl⟩ := r'
      refine enum_begins_start (begins_text x t) trivial h0 h1 fun h' he hit hsz hk => fin_enumS I2 he ⟨_, hit, rfl, rfl⟩ hk q
end
end My
end

section
set_option Elab.async false
set_option maxRecDepth 100000
set_option maxHeartbeats 4000000
set_option linter.all false
namespace My
open PySem L2
/-! ### C.m(..), m a staticmethod of the class at C -/
structure SMet (K : PySem.W.Frag) (C : Addr) (mc : Value) (m : Str) (p g : Addr) : Prop where
  at_ : PySem.W.findCls K (.ref C) mc m = some (.get (.builtin "staticmethod.__get__") (.ref p) .none (.ref C))
  rc : ∃ rest, PySem.W.recIn K p "staticmethod" = some (.ref g :: rest)
  kp : PySem.W.keepIn K (.ref g) = true
section
variable {X : Cx} {CX : CXT} {k : Nat} {C p g f : Addr} {fd : FuncData} {ps : List Str} {mc : Value} {sp : Sp} {E : XK} {o e : Expr} {es : List Expr} {m : Str} {pos apos : Pos} {ta : TE} {t : TA} {pl : Sem Bool}
def tSMeth (C : Addr) (sp : Sp) (E : XK) (ta : TE) (t : TA) : TE := fun σ H Q => ta σ H fun x H1 => x = .ref C ∧ t σ H1 fun vs H2 => sp (vs ++ []) H2 Q E
theorem getsm_ok {pins : List (Addr × Obj)} {σ : L2.St} {H : Hp} {s : Shared} {A : Around} {E : Value → Shared → Prop} {pl : Sem Bool} {Q : Value × List Value → Shared → Prop} (I : Inv X pins σ H s) (r : ClX.CRead X.K C mc) (c : SMet X.K C mc m p g)
    (h : ∀ s', Inv X pins σ H s' → Q (.ref g, []) s') : wpAny (model X.prog X.w) A (getMethod (.ref C) m pl) Q E s := by
  obtain ⟨rest, hp⟩ := c.rc
  refine PySem.W.method_cls I.kIn r.ga (PySem.W.cls_bind I.kIn r.rd c.at_ ?_)
  exact wpAny_call (PySem.W.sm_get (s := { s with toks := s.toks + 1 }) I.kIn hp (PySem.W.handed_on rfl (h _ (I.tok _))))
theorem pe_smeth (he : PE X o ta) (r : ClX.CRead X.K C mc) (c : SMet X.K C mc m p g) (F : FnOk X.prog X.w X.K X.mg X.base CX k g fd ps sp) (hr : Room k X.A) (hb : Binds X.K fd ps []) (hx : Passes CX X E) (ha : PA X (e :: es) t)
    (hst : starEach (e :: es) X.env = (false, eval e X.env) :: starEach es X.env := by rfl) (hpl : (backTo pos (starEach es X.env)).any (·.1) = false := by rfl)
    (ht : eval (.Call (.Attribute o m apos) (e :: es) [] pos) X.env = (do
      let ov ← eval o X.env
      standAt apos.atName
      let (fn, first) ← holding [ov] (getMethod ov m pl)
      callWith pos fn first (backTo pos (starEach (e :: es) X.env)) (backToKw pos (keywordEach [] X.env))) := by rfl) :
    PE X (.Call (.Attribute o m apos) (e :: es) [] pos) (tSMeth C sp E ta t) := by
  refine ⟨fun pins s σ H Q I h => ?_⟩
  refine PySem.W.methodCall_KW (pl := pl) (thn (he.run pins s σ H _ I h) fun u s1 ⟨x, H1, I1, rx, ex, q⟩ => ?_) ht
  subst ex
  obtain rfl : u = Value.ref C := rx
  refine getsm_ok I1 r c fun s2 I2 => ?_
  refine PySem.W.callWith_K (first := []) (h₀ := X.base) I2.ok.mod.kin c.kp (thn (ha.run pos pins s2 σ H1 _ I2 q) fun us s3 ⟨vs, H2, I3, rv, q2⟩ => ⟨I3.kIn, ?_⟩) hst hpl
  exact run_fn (us := us) (vs := vs) F hr hb .nil hx I3 rv q2
end
/-! ### len of an instance of a class with its own __len__ -/
structure LenOwn (K : PySem.W.Frag) (C f : Addr) : Prop where
  cl : Cls K C
  at_ : PySem.W.findIn K (.ref C) "__len__" = some (some (.ref f))
  fn : PySem.W.isFn K (.ref f) = true
section
variable {X : Cx} {k : Nat} {C f : Addr} {fd : FuncData} {ps : List Str} {sp : Sp}
def rLenOwn (C : Addr) (sp : Sp) : List V → Hp → VK → Prop := fun xs H Q => ∃ a dx fs, xs = [.ref a] ∧ H a = some (.ins C dx fs) ∧ sp [.ref a] H (fun y H' => ∃ n : Int, y = .int n ∧ 0 ≤ n ∧ n < 2 ^ 63 ∧ Q (.int n) H') E0
theorem call_lenOwn (lo : LenOwn X.K C f) (F : FnOk X.prog X.w X.K X.mg X.base CX0 k f fd ps sp) (hr : Room (k + 1) X.A) (hb : Binds X.K fd ps []) : CallR X (.builtin "len") (rLenOwn C sp) := by
  intro pins s σ H xs us Q I r h
  obtain ⟨a, dx, fs, rfl, ea, q⟩ := h
  obtain ⟨u, rfl, rx⟩ := vals1 r
  obtain rfl : u = Value.ref a := rx
  obtain ⟨mA, O, rr, _, _, _⟩ := ins_get I.hok ea
  obtain ⟨od, J, hl⟩ := O.look
  have r1 : Vals [V.ref a] [Value.ref a] := .cons rfl .nil
  have body : wpAny (model X.prog X.w) X.A.in1 (call (.ref f) [.ref a]) (EP X pins σ fun y H' => ∃ n : Int, y = .int n ∧ 0 ≤ n ∧ n < 2 ^ 63 ∧ Q (.int n) H') X.xe s := by
    have hlen : ([Value.ref a] ++ []).length = ps.length := by
      have := F.len _ _ _ _ q
      exact this
    refine wpAny_call (codeAny_mono (F.run X.A.in1 X.stack s H ⟨[.ref a], []⟩ ([.ref a] ++ []) [V.ref a] _ E0 hr.in1 I.env0.in1 (hb s [.ref a] I.kIn hlen) r1 q) fun fl s' hq => ?_)
    cases fl with
    | error e => exact pass0 pins σ H s e s' I hq
    | ok fl =>
      cases fl with
      | ret u => exact I.after hq
      | next => exact False.elim hq
      | brk => exact False.elim hq
      | cont => exact False.elim hq
  refine PySem.Calls.call_function_entry PySem.kind_len PySem.plain_len PySem.entry_len (PySem.args_len1 _) ?_
  unfold Builtin.«len»
  refine wpAny_bind (m := oneArg "len" _) (wpAny_pure ?_)
  refine wpAny_bind (m := callSpecial? (.ref a) (Str.ofString "__len__")) (PySem.W.special_fn I.kIn J lo.at_ (beq_iff_eq.mp lo.fn) (wpAny_mono body (fun v s1 hv => ?_) fun _ _ y => y))
  obtain ⟨y, H1, I1, ry, n, rfl, h0, h1, q1⟩ := hv
  obtain ⟨t, rfl⟩ := ry
  refine wpAny_bind (wpAny_holding (wpAny_pure (wpAny_bind (wpAny_letGo ?_))))
  show wpAny _ _ (if n < 0 then _ else _) _ _ _
  rw [if_neg (Int.not_lt.mpr h0)]
  show wpAny _ _ (if n ≥ 2 ^ 63 then _ else _) _ _ _
  rw [if_neg (Int.not_le.mpr h1)]
  exact wpAny_bind (wpAny_mkInt (wpAny_pure ⟨_, rfl, .int n, H1, I1.tok _, ⟨_, rfl⟩, q1⟩))
end
end My
end

section
set_option Elab.async false
set_option maxRecDepth 100000
set_option maxHeartbeats 4000000
set_option linter.all false
namespace My
open PySem L2
/-! ### a written dict with text keys, read by its address -/
def KGet (K : PySem.W.Frag) (a : Addr) (z : Str) (v : V) : Prop := ∃ u0, PySem.W.nsIn K a z = some (some u0) ∧ RelV v u0
def rIxK (K : PySem.W.Frag) (a : Addr) : R2 := fun x y H Q => ∃ z v, x = .ref a ∧ y = .str z ∧ KGet K a z v ∧ Q v H
theorem ix_k {X : Cx} {a : Addr} (D : ∃ es n, KDict X.K X.w a es n) : IxR X (rIxK X.K a) := by
  intro value slice pins s σ H x y v u Q I rx ry h hs
  obtain ⟨z, w, rfl, rfl, ⟨u0, e, r⟩, q⟩ := h
  obtain ⟨es, n, d⟩ := D
  exact ix_kdict value slice pins s σ H _ _ v u Q I rx ry ⟨a, z, w, rfl, rfl, ⟨es, n, u0, d.1, d.2, e, r⟩, q⟩ hs
/-! ### xs[-2::-1] -/
theorem rev2_bounds (n : Nat) : sliceBounds (some (-2)) none (some (-1)) n = (((n - 1 : Nat) : Int) - 1, -1, -1) := by
  show (max (-1) (min (if (-2 : Int) < 0 then -2 + (n : Int) else -2) ((n : Int) - 1)), (-1 : Int), (-1 : Int)) = _
  rw [if_pos (by decide)]
  have : max (-1) (min (-2 + (n : Int)) ((n : Int) - 1)) = ((n - 1 : Nat) : Int) - 1 := by omega
  rw [this]
theorem fm_congr {α β : Type} {f g : α → Option β} : ∀ {l : List α}, (∀ x ∈ l, f x = g x) → l.filterMap f = l.filterMap g
  | [], _ => rfl
  | x :: l, h => by rw [List.filterMap_cons, List.filterMap_cons, h x (.head _), fm_congr fun y hy => h y (.tail _ hy)]
theorem rev2_pick (items : Array Value) : slicePick items (some (-2)) none (some (-1)) = items.toList.dropLast.reverse.toArray := by
  unfold slicePick
  rw [rev2_bounds]
  show ((sliceRange (((items.size - 1 : Nat) : Int) - 1) (-1) (-1)).filterMap (items[·]?)).toArray = _
  rw [PySem.W.krv_sliceRange, PySem.W.krv_range, List.filterMap_reverse]
  have e : (List.range (items.size - 1)).filterMap (items[·]?) = items.toList.dropLast := by
    have h := PySem.W.krv_all items.pop
    rw [Array.size_pop, Array.toList_pop] at h
    rw [← h]
    refine fm_congr fun k hk => ?_
    have hk' := List.mem_range.mp hk
    rw [Array.getElem?_pop]
    simp [hk']
  rw [e]
def tRevL2 (K : PySem.W.Frag) (te : TE) : TE := fun σ H Q => te σ H fun x H1 => ∃ a xs, x = .ref a ∧ SqL K H1 a xs ∧ ∀ p, H1 p = none → Q (.ref p) (upd H1 p (.lst xs.dropLast.reverse))
open PySem.Spec PyProof.Rows in
theorem pe_revL2 {X : Cx} {e : Expr} {te : TE} {k k2 : Nat} {p1 p2 p3 p4 p5 pos : Pos} (he : PE X e te) :
    PE X (.Subscript e (.Slice (some (.UnaryOp .USub (.Constant (.int 2) k2 p4) p5)) none (some (.UnaryOp .USub (.Constant (.int 1) k p1) p2)) p3) pos) (tRevL2 X.K te) := by
  refine ⟨fun pins s σ H Q I h => ?_⟩
  refine PyProof.Rows.Subscript_ (thn (he.run pins s σ H _ I h) fun v s1 ⟨x, H1, I1, r1, q1⟩ => ?_)
  obtain ⟨a, xs, ex, hx, q⟩ := q1
  subst ex
  cases r1
  have hst : PO X (some (.UnaryOp .USub (.Constant (.int 1) k p1) p2)) (tPart (tUn (rU fun i => .int (-i)) (tC (.int 1)))) := po_some (pe_un un_neg pe_int)
  have hlo : PO X (some (.UnaryOp .USub (.Constant (.int 2) k2 p4) p5)) (tPart (tUn (rU fun i => .int (-i)) (tC (.int 2)))) := po_some (pe_un un_neg pe_int)
  refine wpAny_Slice (thn (hlo.run pins s1 σ H1 (fun o H2 => o = some (-2) ∧ H2 = H1) I1 ⟨2, rfl, -2, rfl, rfl, rfl⟩) fun vl s2 ⟨l, H2, I2, pl, el, e2⟩ => ?_)
  subst el e2
  refine thn (po_none.run pins s2 σ H2 (fun o H3 => o = none ∧ H3 = H2) I2 ⟨rfl, rfl⟩) fun vu s3 ⟨u, H3, I3, pu, eu, e3⟩ => ?_
  subst eu e3
  refine thn (hst.run pins s3 σ H3 (fun o H4 => o = some (-1) ∧ H4 = H3) I3 ⟨1, rfl, -1, rfl, rfl, rfl⟩) fun vs s4 ⟨o, H4, I4, ps, eo, e4⟩ => ?_
  subst eo e4
  have I5 : Inv X pins σ H4 { s4 with heap := s4.heap.push { cls := .type "slice", data := .fields #[vl, vu, vs] } } := I4.kept (t' := s4.toks) fun b ob q => Heap.get?_push_of_some _ q
  obtain ⟨its, r, ht, hz⟩ := I5.list hx
  have hlen := r.length
  show wpAny (model X.prog X.w) X.A (PyProof.Rows.subscriptTail e (.Slice (some (.UnaryOp .USub (.Constant (.int 2) k2 p4) p5)) none (some (.UnaryOp .USub (.Constant (.int 1) k p1) p2)) p3) (.ref a) (.ref s4.heap.objs.size)) (EP X pins σ Q) X.xe _
  refine tail_any (ops := [.ref a, .ref s4.heap.objs.size]) ht.isList.typeIs (PySem.slot_list_getitem.lookup) ?_ (by with_unfolding_all rfl)
  refine wpAny_getItem_list_slice ht.isList (Heap.IsSliceOf.new _ vl vu vs) pl pu ps (by decide) ?_ (by rw [List.size_toArray]; omega)
  rw [rev2_pick]
  refine ⟨.ref _, _, I5.laid (t' := s4.toks) (o := .lst xs.dropLast.reverse) (fun b ob q => Heap.get?_push_of_some _ q) (Nat.le_refl _) ?_, rfl, q _ (I5.hok.fresh (Nat.le_refl _))⟩
  have rd : Vals xs.dropLast its.dropLast := by
    exact r.dropLast
  exact ⟨by rw [List.length_reverse, List.length_dropLast]; exact Nat.le_trans (Nat.sub_le _ _) hz, _, 0, rd.reverse, Heap.get?_push_size _ rfl⟩
end My
end

section
set_option Elab.async false
set_option maxRecDepth 100000
set_option maxHeartbeats 4000000
set_option linter.all false
namespace My
open PySem L2
/-! ### more bundles -/
structure CalLen (P : Program) (w : World) (K : PySem.W.Frag) (mg : Str → Option Value) (base : Heap) (k : Nat) (C : Addr) (sp : Sp) : Prop where
  ex : ∃ f fd ps, LenOwn K C f ∧ FnOk P w K mg base CX0 k f fd ps sp ∧ Binds K fd ps []
structure CalD (P : Program) (w : World) (K : PySem.W.Frag) (mg : Str → Option Value) (base : Heap) (k : Nat) (x : Str) (ps : List Str) (dvs : List V) (sp : Sp) : Prop where
  ex : ∃ f fd ds, FnOk P w K mg base CX0 k f fd ps sp ∧ mg x = some (.ref f) ∧ PySem.W.keepIn K (.ref f) = true ∧ Binds K fd ps ds ∧ Vals dvs ds
structure CalS (P : Program) (w : World) (K : PySem.W.Frag) (mg : Str → Option Value) (base : Heap) (k : Nat) (C : Addr) (m : Str) (ps : List Str) (sp : Sp) : Prop where
  ex : ∃ mc p g fd, ClX.CRead K C mc ∧ SMet K C mc m p g ∧ FnOk P w K mg base CX0 k g fd ps sp ∧ Binds K fd ps []
section
variable {P : Program} {w : World} {K : PySem.W.Frag} {mg : Str → Option Value} {base : Heap} {j k : Nat} {x m : Str} {C : Addr} {ps : List Str} {dvs : List V} {sp : Sp}
theorem CalLen.mono (c : CalLen P w K mg base j C sp) (h : j ≤ k) : CalLen P w K mg base k C sp := by
  obtain ⟨f, fd, ps, a, F, b⟩ := c.ex
  exact ⟨f, fd, ps, a, F.mono h, b⟩
theorem CalD.mono (c : CalD P w K mg base j x ps dvs sp) (h : j ≤ k) : CalD P w K mg base k x ps dvs sp := by
  obtain ⟨f, fd, ds, F, b⟩ := c.ex
  exact ⟨f, fd, ds, F.mono h, b⟩
theorem CalS.mono (c : CalS P w K mg base j C m ps sp) (h : j ≤ k) : CalS P w K mg base k C m ps sp := by
  obtain ⟨mc, p, g, fd, a, b, F, d⟩ := c.ex
  exact ⟨mc, p, g, fd, a, b, F.mono h, d⟩
end
section
variable {X : Cx} {k : Nat} {x m : Str} {C : Addr} {ps : List Str} {dvs : List V} {sp : Sp} {p pos apos : Pos} {o e : Expr} {es : List Expr} {ta : TE} {t : TA}
theorem pe_lenC (c : CalLen X.prog X.w X.K X.mg X.base k C sp) (hr : Room (k + 1) X.A) (hg : Gl X "len") (hm : X.mg "len" = none) (ha : PA X [e] t)
    (he : starEach [e] X.env = (false, eval e X.env) :: starEach [] X.env := by rfl) : PE X (.Call (.Name "len" p) [e] [] pos) (tCB (rLenOwn C sp) t) := by
  obtain ⟨f, fd, ps, a, F, b⟩ := c.ex
  exact pe_callB (call_lenOwn a F hr b) hg hm boot_len ha (he := he)
theorem pe_callD (c : CalD X.prog X.w X.K X.mg X.base k x ps dvs sp) (hr : Room k X.A) (hg : Gl X x) (ha : PA X (e :: es) t) (hdb : (x == ("__debug__" : Str)) = false := by decide)
    (he : starEach (e :: es) X.env = (false, eval e X.env) :: starEach es X.env := by rfl) (hpl : (backTo pos (starEach es X.env)).any (·.1) = false := by rfl) : PE X (.Call (.Name x p) (e :: es) [] pos) (tCall sp dvs E0 t) := by
  obtain ⟨f, fd, ds, F, hm, hk, hb, hd⟩ := c.ex
  exact pe_call F hr hg hm hk hb hd pass0 ha hdb he hpl
theorem pe_smethC {pl : Sem Bool} (c : CalS X.prog X.w X.K X.mg X.base k C m ps sp) (hr : Room k X.A) (ho : PE X o ta) (ha : PA X (e :: es) t)
    (hst : starEach (e :: es) X.env = (false, eval e X.env) :: starEach es X.env := by rfl) (hpl : (backTo pos (starEach es X.env)).any (·.1) = false := by rfl)
    (ht : eval (.Call (.Attribute o m apos) (e :: es) [] pos) X.env = (do
      let ov ← eval o X.env
      standAt apos.atName
      let (fn, first) ← holding [ov] (getMethod ov m pl)
      callWith pos fn first (backTo pos (starEach (e :: es) X.env)) (backToKw pos (keywordEach [] X.env))) := by rfl) :
    PE X (.Call (.Attribute o m apos) (e :: es) [] pos) (tSMeth C sp E0 ta t) := by
  obtain ⟨mc, q, g, fd, a, b, F, d⟩ := c.ex
  exact pe_smeth ho a b F hr d pass0 ha hst hpl ht
end
/-! ### named readings -/
def mSplit : V → List V → Hp → VK → Prop := fun x xs H Q => ∃ a b, x = .str a ∧ xs = [.str b] ∧ (b.length == 0) = false ∧ a.length + 2 ≤ sizeLine ∧ rNewStrs (Txt.split a b) H Q
def mFind : V → List V → Hp → VK → Prop := fun x xs H Q => ∃ a b, x = .str a ∧ xs = [.str b] ∧ Q (.int (Txt.find a b)) H
def mCount : V → List V → Hp → VK → Prop := fun x xs H Q => ∃ a b, x = .str a ∧ xs = [.str b] ∧ Q (.int (Txt.count a b)) H
def bLenS : List V → Hp → VK → Prop := fun xs H Q => ∃ z : Str, xs = [.str z] ∧ z.length ≤ sizeLine ∧ Q (.int (z.length : Int)) H
theorem call_lenS {X : Cx} : CallR X (.builtin "len") bLenS := by
  intro pins s σ H xs us Q I r h
  obtain ⟨z, rfl, hz, q⟩ := h
  exact call_len pins s σ H [.str z] us Q I r ⟨.str z, z.length, rfl, ⟨hz, rfl⟩, q⟩
def bIntS : List V → Hp → VK → Prop := fun xs H Q => ∃ a n, xs = [.str a] ∧ PySem.intText? a = some n ∧ a.length ≤ 640 ∧ Q (.int n) H
/-! ### more steps -/
section
variable {D : Ends} {σ : L2.St} {H : Hp} {te tf : TE} {ta tb : TA} {v : V} {xs : List V} {Q : VK} {R : It → Hp → Prop} {K : PySem.W.Frag} {a p : Addr} {C : Addr} {sp : Sp} {E : XK}
theorem e_callD {dvs : List V} (h : ta σ H fun vs H1 => sp (vs ++ dvs) H1 Q E) : tCall sp dvs E ta σ H Q := h
theorem e_smeth (h : te σ H fun x H1 => x = .ref C ∧ ta σ H1 fun vs H2 => sp (vs ++ []) H2 Q E) : tSMeth C sp E te ta σ H Q := h
theorem i_enumS (h : ta σ H fun vs H1 => ∃ x : Str, vs = [.str x] ∧ R (Ites x 0) H1) : iEnumS ta σ H R := h
theorem i_enumSK (h : ta σ H fun vs H1 => tb σ H1 fun us H2 => ∃ (x : Str) (k0 : Int), vs = [.str x] ∧ us = [.int k0] ∧ -(2 ^ 63) ≤ k0 ∧ k0 < 2 ^ 63 ∧ R (Ites x k0) H2) : iEnumSK ta tb σ H R := h
theorem i_str (h : te σ H fun x H1 => ∃ z : Str, x = .str z ∧ R (Its z) H1) : iStr te σ H R := h
theorem e_revL (h : te σ H fun x H1 => ∃ a xs, x = .ref a ∧ SqL K H1 a xs ∧ ∀ p, H1 p = none → Q (.ref p) (upd H1 p (.lst xs.reverse))) : tRevL K te σ H Q := h
theorem e_revL2 (h : te σ H fun x H1 => ∃ a xs, x = .ref a ∧ SqL K H1 a xs ∧ ∀ p, H1 p = none → Q (.ref p) (upd H1 p (.lst xs.dropLast.reverse))) : tRevL2 K te σ H Q := h
theorem r_ixK {z : Str} (h : KGet K a z v) (q : Q v H) : rIxK K a (.ref a) (.str z) H Q := ⟨z, v, rfl, rfl, h, q⟩
theorem r_inS {c : Nat} {z : Str} (q : Q (.bl (decide (c ∈ z.cps.toList))) H) : rInS (.str ⟨#[c]⟩) (.str z) H Q := ⟨c, z, rfl, rfl, q⟩
theorem r_notInS {c : Nat} {z : Str} (q : Q (.bl (!decide (c ∈ z.cps.toList))) H) : rNotInS (.str ⟨#[c]⟩) (.str z) H Q := ⟨c, z, rfl, rfl, q⟩
theorem r_addS {x y : Str} (h : x.length + y.length ≤ sizeLine) (q : Q (.str (x ++ y)) H) : rAddS (.str x) (.str y) H Q := ⟨x, y, rfl, rfl, h, q⟩
theorem r_itemS {z : Str} {i : Int} {c : Nat} (h0 : 0 ≤ i) (h1 : i < (z.length : Int)) (hz : z.length ≤ sizeLine) (hc : z.cps[i.toNat]? = some c) (q : Q (.str ⟨#[c]⟩) H) : rItemS (.str z) (.int i) H Q := by
  refine ⟨z, i, c, rfl, rfl, h0, ?_, h1, hc, q⟩
  have : sizeLine = 16777216 := sizeLine_eq
  omega
theorem b_lenS {z : Str} (hz : z.length ≤ 100000) (q : Q (.int (z.length : Int)) H) : bLenS [.str z] H Q := ⟨z, rfl, Nat.le_trans hz (by decide), q⟩
theorem b_intS {a : Str} {n : Int} (h : PySem.intText? a = some n) (hl : a.length ≤ 640) (q : Q (.int n) H) : bIntS [.str a] H Q := ⟨a, n, rfl, h, hl, q⟩
theorem x_trI {P : Bool → Prop} {i : Int} (q : P (!decide (i = 0))) : ∃ k, TruV K (.int i) H k ∧ P k := ⟨_, rfl, q⟩
end
/-! ### sep.join(reversed(text)), sep empty -/
def tJoinRev (to te : TE) : TE := fun σ H Q => to σ H fun x H1 => x = .str "" ∧ te σ H1 fun y H2 => ∃ z : Str, y = .str z ∧ z.length ≤ 100000 ∧ Q (.str ⟨z.cps.toList.reverse.toArray⟩) H2
end My
end

section
set_option Elab.async false
set_option maxRecDepth 100000
set_option maxHeartbeats 4000000
set_option linter.all false
namespace Rvs
open PySem PySem.Spec PyProof.Rows
/-! ### facts of the type reversed -/
theorem slot_next : Slot "reversed" "__next__" "reversed.__next__" :=
  .of (owner := "reversed") (n := "__next__") (by rw [typeLookup_type, builtinLookup_eq_fast]; kernel_rfl) (by decide +kernel) (by decide +kernel) (by decide +kernel)
    (by first | exact .inl (by decide +kernel) | exact .inr (by decide +kernel)) (by rw [isSubtype_type]; kernel_rfl)
theorem entry_next : entryFor table "reversed.__next__" = some Builtin.«reversed.__next__» := entryFor_of_tree (by kernel_rfl)
theorem owner_rv : Manifest.owners.lookup (String.ofList ['d', 'e', 's', 'r', 'e', 'v', 'e', 'r'].reverse) = some Manifest.sig_reversed := by kernel_rfl
theorem args_next (a : Value) : argsOk "reversed.__next__" ⟨[a], []⟩ := by
  unfold argsOk; rw [signature?_of (id := "reversed.__next__") (n := ['_', '_', 't', 'x', 'e', 'n', '_', '_']) (o := ['d', 'e', 's', 'r', 'e', 'v', 'e', 'r']) (by kernel_rfl) owner_rv]; kernel_rfl
theorem slot_iter : Slot "reversed" "__iter__" "reversed.__iter__" :=
  .of (owner := "reversed") (n := "__iter__") (by rw [typeLookup_type, builtinLookup_eq_fast]; kernel_rfl) (by decide +kernel) (by decide +kernel) (by decide +kernel)
    (by first | exact .inl (by decide +kernel) | exact .inr (by decide +kernel)) (by rw [isSubtype_type]; kernel_rfl)
theorem args_iter (a : Value) : argsOk "reversed.__iter__" ⟨[a], []⟩ := by
  unfold argsOk; rw [signature?_of (id := "reversed.__iter__") (n := ['_', '_', 'r', 'e', 't', 'i', '_', '_']) (o := ['d', 'e', 's', 'r', 'e', 'v', 'e', 'r']) (by kernel_rfl) owner_rv]; kernel_rfl
theorem entry_iter : entryFor table "reversed.__iter__" = some Builtin.«dict_keyiterator.__iter__» :=
  entryFor_alias (id' := "dict_keyiterator.__iter__") (by kernel_rfl) (by first | rfl | decide +kernel | (unfold String.splitOn; simp +decide [String.splitOnAux])) (by decide +kernel) (by kernel_rfl)
theorem slot_hint : Slot "reversed" "__length_hint__" "reversed.__length_hint__" :=
  .of (owner := "reversed") (n := "__length_hint__") (by rw [typeLookup_type, builtinLookup_eq_fast]; kernel_rfl) (by decide +kernel) (by decide +kernel) (by decide +kernel)
    (by first | exact .inl (by decide +kernel) | exact .inr (by decide +kernel)) (by rw [isSubtype_type]; kernel_rfl)
theorem entry_hint : entryFor table "reversed.__length_hint__" = some Builtin.«reversed.__length_hint__» := entryFor_of_tree (by kernel_rfl)
theorem args_hint (a : Value) : argsOk "reversed.__length_hint__" ⟨[a], []⟩ := by
  unfold argsOk; rw [signature?_of (id := "reversed.__length_hint__") (n := ['_', '_', 't', 'n', 'i', 'h', '_', 'h', 't', 'g', 'n', 'e', 'l', '_', '_']) (o := ['d', 'e', 's', 'r', 'e', 'v', 'e', 'r']) (by kernel_rfl) owner_rv]; kernel_rfl
theorem slot_init : Slot "reversed" "__init__" "object.__init__" :=
  .of (owner := "object") (n := "__init__") (by rw [typeLookup_type, builtinLookup_eq_fast]; kernel_rfl) (by decide +kernel) (by decide +kernel) (by decide +kernel)
    (by first | exact .inl (by decide +kernel) | exact .inr (by decide +kernel)) (by rw [isSubtype_type]; kernel_rfl)
theorem nolen : typeLookup (.type "reversed") "__len__" = pure none := by rw [typeLookup_type, builtinLookup_eq_fast]; kernel_rfl
theorem called : TypeCalled "reversed" "reversed.__new__" "object.__init__" :=
  ⟨by decide +kernel, F.create_reversed, ⟨_, _, F.mro_reversed⟩, F.made_reversed, F.plain_reversed_new, F.sub_reversed_self, slot_init⟩
theorem str_norev : typeLookup (.type "str") "__reversed__" = pure none := by rw [typeLookup_type, builtinLookup_eq_fast]; kernel_rfl
abbrev IsRv (h : Heap) (m : Addr) (z : Str) (t : Tok) (i : Int) : Prop := h.get? m = some { cls := .type "reversed", dict := none, data := .fields #[.str z t, rawInt i], slots := #[] }
section
variable {prog : Program} {w : World} {A : Around} {E : Value → Shared → Prop} {s : Shared}
theorem new_rv (z : Str) (t : Tok) (hz : z.length ≤ sizeLine) : MeetsIn prog w (Builtin.«reversed.__new__» ⟨[.type "reversed", .str z t], []⟩)
    (fun A R s => R (.ok (.ret (.ref s.heap.objs.size))) { s with heap := s.heap.push { cls := .type "reversed", data := .fields #[.str z t, rawInt ((z.length : Int) - 1)] }, toks := s.toks + 1 + 1 }) :=
  .of_wp fun A R s h => by
    unfold Builtin.«reversed.__new__»
    refine wpAny_bind (wpAny_of_eq (newClass_reversed _) ?_)
    try dsimp only
    refine wpAny_bind (wpAny_of_eq (a := ()) (by first | rfl | kernel_rfl) ?_)
    refine wpAny_bind (wpAny_of_eq (a := ()) (by first | rfl | kernel_rfl) ?_)
    try dsimp only
    refine wpAny_bind (wpAny_specialOf (typeIs_str _ _ _) str_norev ?_)
    try dsimp only
    refine wpAny_bind ?_
    wp_delta
    refine wpAny_bind (wpAny_isInstance (T := "str") (b := false) (typeIs_str _ _ _) (by rw [isSubtype_type]; kernel_rfl) ?_)
    rw [if_neg Bool.false_ne_true]
    refine wpAny_bind (wpAny_specialOf (typeIs_str _ _ _) F.slot_str_getitem.lookup ?_)
    dsimp only
    rw [if_pos (by decide)]
    refine wpAny_pure ?_
    rw [if_neg (by decide)]
    have hl : sizeLine = 16777216 := sizeLine_eq
    refine wpAny_bind (len_str (by omega) ?_)
    refine wpAny_bind (m := asInt? _) (wpAny_pure ?_)
    dsimp only
    refine wpAny_bind (m := Builtin.SmallTypes.newRecord _ _) ?_
    show wpAny _ _ (newObj (.type "reversed") (.fields #[.str z t, rawInt ((z.length : Int) - 1)])) _ _ _
    refine wpAny_newObj_type ?_
    exact wpAny_pure ⟨_, rfl, h⟩
theorem call_rv {z : Str} {t : Tok} {Q : Value → Shared → Prop} (hz : z.length ≤ sizeLine)
    (h : ∀ h', IsRv h' s.heap.objs.size z t ((z.length : Int) - 1) → h'.objs.size = s.heap.objs.size + 1 → (∀ c o, s.heap.get? c = some o → h'.get? c = some o) → Q (.ref s.heap.objs.size) { s with heap := h', toks := s.toks + 1 + 1 }) :
    wpAny (model prog w) A (call (.type "reversed") [.str z t]) Q E s := by
  refine callType_newIn called (by decide) (F.typeCall_reversed_1 _) (F.newCall_reversed_1 _) (fun obj => F.args_object_init_2 obj _) F.entry_reversed_new (new_rv z t hz) ?_
  show _ ∧ _
  exact ⟨⟨_, Heap.get?_push_size _ rfl, rfl⟩, h _ (Heap.get?_push_size _ rfl) (Heap.size_push ..) fun c o e => Heap.get?_push_of_some _ e⟩
/-! ### drawn -/
theorem next_item {m : Addr} {z : Str} {t : Tok} {i c : Nat} {Q : Option Value → Shared → Prop} (hz : z.length ≤ sizeLine) (hit : IsRv s.heap m z t (i : Int)) (hx : z.cps[i]? = some c)
    (hQ : ∀ h', IsRv h' m z t ((i : Int) - 1) → Heap.SameBut m s.heap h' → ∀ tk u, s.toks ≤ tk → Q (some (.str ⟨#[c]⟩ u)) { s with heap := h', toks := tk }) : wpAny (model prog w) A (pyNext (.ref m)) Q E s := by
  have hT : s.TypeIs (.ref m) "reversed" := ⟨_, hit, rfl⟩
  have hl : sizeLine = 16777216 := sizeLine_eq
  have hi : i < z.length := by
    have := (Array.getElem?_eq_some_iff.mp hx).1
    exact this
  unfold pyNext
  refine wpAny_bind (wpAny_attempt (wpAny_callSpecial?_slot (name := Str.ofString "__next__") hT slot_next
    (wpAny_call_entry slot_next hT entry_next ?_ (args_next _))))
  unfold Builtin.«reversed.__next__»
  refine wpAny_bind (wpAny_of_eq (a := (Value.ref m, [])) rfl ?_)
  try dsimp only
  refine wpAny_bind (wpAny_field hit rfl (x := .str z t) rfl ?_)
  refine wpAny_bind (wpAny_field hit rfl (x := rawInt (i : Int)) rfl ?_)
  show wpAny _ _ (if (i : Int) < 0 then _ else _) _ _ s
  rw [if_neg (by omega)]
  refine wpAny_bind (wpAny_specialOf (typeIs_str _ _ _) F.slot_str_getitem.lookup ?_)
  rw [if_neg (by show ¬ ((some (Value.builtin "str.__getitem__")).isNone = true); exact Bool.false_ne_true)]
  refine wpAny_bind (wpAny_mkInt ?_)
  refine wpAny_bind (wpAny_attempt (P.getItem_str (c := c) (by
    have e1 : decide ((i : Int) < -(2 ^ 63 : Int)) = false := decide_eq_false (by omega)
    have e2 : decide ((i : Int) ≥ 2 ^ 63) = false := decide_eq_false (by omega)
    rw [e1, e2, Bool.or_false]) (by
      have : seqIndex? (i : Int) z.length = some i := by
        unfold seqIndex?
        simp
        omega
      rw [this]; exact hx) ?_))
  dsimp only
  refine wpAny_bind (wpAny_field hit rfl (x := rawInt (i : Int)) rfl ?_)
  show wpAny _ _ (setField (.ref m) 1 (rawInt ((i : Int) - 1)) >>= _) _ _ _
  refine wpAny_bind (wpAny_setField hit rfl (by simp) ?_)
  refine wpAny_pure ⟨_, rfl, wpAny_pure (hQ _ ?_ (Heap.SameBut.update ..) _ _ (by show s.toks ≤ s.toks + 1 + 1; omega))⟩
  exact Heap.get?_update_self _ hit rfl
theorem next_end {m : Addr} {z : Str} {t : Tok} {Q : Option Value → Shared → Prop} (hh : A.handled = none) (hit : IsRv s.heap m z t (-1))
    (hQ : ∀ h', Heap.ExtBut m s.heap h' → Q none { s with heap := h' }) : wpAny (model prog w) A (pyNext (.ref m)) Q E s := by
  have hT : s.TypeIs (.ref m) "reversed" := ⟨_, hit, rfl⟩
  unfold pyNext
  refine wpAny_bind (wpAny_attempt (wpAny_callSpecial?_slot (name := Str.ofString "__next__") hT slot_next
    (wpAny_call_entry slot_next hT entry_next ?_ (args_next _))))
  unfold Builtin.«reversed.__next__»
  refine wpAny_bind (wpAny_of_eq (a := (Value.ref m, [])) rfl ?_)
  try dsimp only
  refine wpAny_bind (wpAny_field hit rfl (x := .str z t) rfl ?_)
  refine wpAny_bind (wpAny_field hit rfl (x := rawInt (-1)) rfl ?_)
  show wpAny _ _ (if (-1 : Int) < 0 then _ else _) _ _ s
  rw [if_pos (by decide)]
  refine wpAny_bind (wpAny_rule ?_)
  refine wpAny_bind ?_
  wp_delta
  refine wpAny_bind (wpAny_setField hit rfl (by simp) ?_)
  have hit2 := Heap.get?_update_self (Obj.mapFields (·.setIfInBounds 1 (rawInt (-1)))) hit rfl
  refine wpAny_setField hit2 rfl (by simp [Obj.mapFields]) ?_
  generalize hH : ((s.heap.update m (Obj.mapFields (·.setIfInBounds 1 (rawInt (-1))))).update m (Obj.mapFields (·.setIfInBounds 0 .none))) = H2
  have hx : Heap.ExtBut m s.heap H2 := by
    rw [← hH]
    exact fun b o hb e => (Heap.get?_update_other _ _ (Ne.symm hb)).trans ((Heap.get?_update_other _ _ (Ne.symm hb)).trans e)
  show wpAny _ _ (Builtin.SmallTypes.stopIteration >>= _) _ _ _
  refine wpAny_bind ?_
  show wpAny _ _ (newExc (.type "StopIteration") [] >>= _) _ _ _
  refine wpAny_bind ?_
  simp only [newExc, newTuple]
  refine wpAny_bind (wpAny_newObj_type ?_ (by size_fits))
  refine wpAny_bind (m := firstArgMember _ _) (wpAny_of_eq (a := Value.none) (by first | rfl | (simp only [firstArgMember]; rfl)) ?_)
  refine wpAny_newObj_type ?_ (by size_fits)
  simp only [raiseNew]
  refine wpAny_bind (wpAny_handled ?_)
  first | rw [show A.in1.handled = none from hh] | rw [hh]
  refine wpAny_bind (wpAny_pure (wpAny_throw ?_))
  refine wpAny_bind (wpAny_isInstance (T := "StopIteration") (b := true) ⟨_, Heap.get?_push_size _ rfl, rfl⟩ isSubtype_stop ?_)
  exact wpAny_pure (hQ _ ((hx.push _).push _))
theorem rv_pyIter {m : Addr} {z : Str} {t : Tok} {i : Int} {Q : Value → Shared → Prop} (hm : IsRv s.heap m z t i) (h : Q (.ref m) s) : wpAny (model prog w) A (pyIter (.ref m)) Q E s := by
  have hT : s.TypeIs (.ref m) "reversed" := ⟨_, hm, rfl⟩
  refine wpAny_pyIter_slot hT slot_iter (wpAny_call_entry slot_iter hT entry_iter ?_ (args_iter _))
  show wpAny _ _ (ret (.ref m)) _ _ s
  exact wpAny_pure ⟨_, rfl, "reversed", _, hT, slot_next.lookup, h⟩
end
theorem walks_rv {prog : Program} {w : World} {A : Around} {m : Addr} {z : Str} {t : Tok} (hh : A.handled = none) (hz : z.length ≤ sizeLine) :
    WalksS prog w A m [m] [m] (fun a b => b = a) z.length (fun i v => ∃ c u, z.cps[z.length - 1 - i]? = some c ∧ v = .str ⟨#[c]⟩ u) (fun i s => IsRv s.heap m z t ((z.length : Int) - 1 - (i : Nat))) where
  sub := fun b hb => hb
  grefl := fun _ => rfl
  gtrans := fun _ _ _ h1 h2 => h2.trans h1
  frame := fun i s h' tk st _ hk => hk m (by simp) _ st
  item := fun i s Q E hi st hQ => by
    have e : (z.length : Int) - 1 - (i : Nat) = ((z.length - 1 - i : Nat) : Int) := by omega
    rw [e] at st
    have hlt : z.length - 1 - i < z.cps.size := by show z.length - 1 - i < z.length; omega
    refine next_item hz st (Array.getElem?_eq_getElem hlt) fun h' hit hs tk u htk => ?_
    have e2 : ((z.length - 1 - i : Nat) : Int) - 1 = (z.length : Int) - 1 - ((i + 1 : Nat) : Int) := by omega
    rw [e2] at hit
    exact hQ _ _ ⟨_, u, Array.getElem?_eq_getElem hlt, rfl⟩ hit ⟨fun b ob hb e => hs.extBut b ob (fun h => hb (by simp [h])) e, rfl, rfl, rfl, htk⟩
  done := fun s Q E st hQ => by
    have e : (z.length : Int) - 1 - (z.length : Nat) = -1 := by omega
    rw [e] at st
    exact next_end hh st fun h' hx => hQ _ ⟨fun b ob hb e => hx b ob (fun h => hb (by simp [h])) e, rfl, rfl, rfl, Nat.le_refl _⟩
  self := fun i s Q E st hQ => rv_pyIter st hQ
section
variable {prog : Program} {w : World} {A : Around} {E : Value → Shared → Prop} {s : Shared}
theorem hint_rv {m : Addr} {z : Str} {t : Tok} {Q : Bool → Shared → Prop} (hz : z.length ≤ sizeLine) (hit : IsRv s.heap m z t ((z.length : Int) - 1))
    (h : ∀ b tk, s.toks ≤ tk → Q b { s with toks := tk }) : wpAny (model prog w) A (Builtin.List.listLengthHint (.ref m)) Q E s := by
  have hT : s.TypeIs (.ref m) "reversed" := ⟨_, hit, rfl⟩
  have hl : sizeLine = 16777216 := sizeLine_eq
  unfold Builtin.List.listLengthHint
  refine wpAny_bind (wpAny_specialOf hT nolen ?_)
  show wpAny _ A (specialOf (Value.ref m) (Str.ofString "__length_hint__") >>= _) _ _ _
  refine wpAny_bind (wpAny_specialOf hT slot_hint.lookup ?_)
  (generalize hid : ("reversed.__length_hint__" : String) = id0; (fail_if_success (clear hid id0)); wp_delta; rw [show splitId id0 = some ("reversed", "__length_hint__") from by subst hid; decide +kernel]; subst hid)
  refine wpAny_bind (wpAny_isInstance (b := true) hT (by rw [isSubtype_type]; kernel_rfl) ?_)
  refine wpAny_ite_split (fun hab => absurd hab (by decide)) (fun _ => ?_)
  refine wpAny_ite_split (fun hab => absurd hab (by decide +kernel)) (fun _ => ?_)
  refine wpAny_bind (wpAny_rule ?_)
  refine wpAny_bind (wpAny_of_eq (slot_hint.bind _) ?_)
  dsimp only
  refine wpAny_bind (wpAny_attempt (wpAny_call_entry slot_hint hT entry_hint ?_ (args_hint _)))
  unfold Builtin.«reversed.__length_hint__»
  refine wpAny_bind (wpAny_of_eq (a := Value.ref m) rfl ?_)
  refine wpAny_bind (wpAny_field hit rfl (x := .str z t) rfl ?_)
  rw [if_neg (show ¬ ((Value.str z t == Value.none) = true) from Bool.false_ne_true)]
  refine wpAny_bind (len_str (by omega) ?_)
  refine wpAny_bind (m := asInt? _) (wpAny_pure ?_)
  dsimp only
  refine wpAny_bind (wpAny_field hit rfl (x := rawInt ((z.length : Int) - 1)) rfl ?_)
  show wpAny _ _ (if (z.length : Int) < (z.length : Int) - 1 + 1 then _ else _) _ _ _
  rw [if_neg (by omega)]
  refine wpAny_bind (m := mkInt _) (wpAny_mkInt ?_)
  refine wpAny_pure ⟨_, rfl, ?_⟩
  show wpAny _ _ (asInt? (.int _ _) >>= _) _ _ _
  refine wpAny_bind (m := asInt? _) (wpAny_pure ?_)
  dsimp only
  have ez : (z.length : Int) - 1 + 1 = z.length := by omega
  rw [ez]
  have h1 : Builtin.List.listFitsIndex (z.length : Int) = true := by unfold Builtin.List.listFitsIndex; simp; omega
  have h2 : Builtin.List.listTooLong ((z.length : Int).toNat) = false := by simp [Builtin.List.listTooLong]; omega
  rw [h1]
  refine wpAny_ite_split (fun hab => absurd hab (by decide)) (fun _ => ?_)
  refine wpAny_ite_split (fun hab => absurd hab (by omega)) (fun _ => ?_)
  refine wpAny_ite_split (fun hab => absurd hab (by rw [h2]; decide)) (fun _ => ?_)
  exact wpAny_pure (h _ _ (by show s.toks ≤ s.toks + 1 + 1 + 1; omega))
end
section
variable {prog : Program} {w : World} {A : Around} {E : Value → Shared → Prop} {s : Shared}
theorem collect_rv {m : Addr} {z : Str} {t : Tok} {Q : List Value → Shared → Prop} (hh : A.handled = none) (hz : z.length ≤ sizeLine) (hit : IsRv s.heap m z t ((z.length : Int) - 1))
    (hQ : ∀ s' acc, Moved [m] (fun a b => b = a) s s' → ItemsOf (fun i v => ∃ (c : Nat) (u : Tok), z.cps[z.length - 1 - i]? = some c ∧ v = Value.str ⟨#[c]⟩ u) acc z.length → Q acc.toList s') : wpAny (model prog w) A (collect (.ref m)) Q E s := by
  have W := walks_rv (prog := prog) (w := w) (A := A.in1) (m := m) (z := z) (t := t) hh hz
  have hml := Heap.lt_size hit
  have hSf : s.heap.objs.size ∉ [m] := fun hm => Nat.lt_irrefl _ ((List.mem_singleton.mp hm) ▸ hml)
  have hSI : s.heap.objs.size ≠ m := fun e => Nat.lt_irrefl _ (e ▸ hml)
  unfold collect
  refine wpAny_bind (wpAny_runValue (codeAny_builtin F.entry_proto_collect ?_))
  rw [Around.under_plainId F.plain_proto_collect _]
  show wpAny _ A.in1 (newList [] >>= fun l => again (.builtin "list.__iadd__" ⟨[l, .ref m], []⟩)) _ _ s
  refine wpAny_bind (wpAny_newObj_type ?_)
  refine wpAny_pure ⟨plainId_quiet F.plain_list_iadd _, codeAny_builtin F.entry_list_iadd ?_⟩
  rw [Around.under_plainId F.plain_list_iadd _]
  have hst₁ : IsRv (s.heap.push { cls := .type "list", data := .seq ([] : List Value).toArray }) m z t ((z.length : Int) - 1) := Heap.get?_push_of_some _ hit
  have hT₁ : ({ s with heap := s.heap.push { cls := .type "list", data := .seq ([] : List Value).toArray } } : Shared).TypeIs (.ref m) "reversed" := ⟨_, hst₁, rfl⟩
  show wpAny _ A.in1 (Builtin.List.listExtendWith (.ref s.heap.objs.size) (.ref m) (.ref s.heap.objs.size)) _ _ _
  unfold Builtin.List.listExtendWith
  refine wpAny_bind (wpAny_typeOf hT₁ ?_)
  have h1 : Builtin.List.listSameRef (.ref s.heap.objs.size) (.ref m) = false := by simp [Builtin.List.listSameRef, hSI]
  have h2 : (Value.type "reversed" == Value.type "list") = false := by decide
  have h3 : (Value.type "reversed" == Value.type "tuple") = false := by decide
  simp only [h1, h2, h3, Bool.or_false, Bool.false_eq_true, if_false]
  refine wpAny_bind (rv_pyIter hst₁ ?_)
  refine wpAny_bind (wpAny_holding (hint_rv hz hst₁ fun b tk htk => ?_))
  have key : ∀ (h : Heap) (c₁ tk : Nat), s.toks ≤ tk → IsRv h m z t ((z.length : Int) - 1) → (∀ b o, b ≠ s.heap.objs.size → (s.heap.push { cls := .type "list", data := .seq ([] : List Value).toArray }).get? b = some o → h.get? b = some o) →
      h.get? s.heap.objs.size = some { cls := .type "list", data := .seq #[] c₁ } →
      codeAny (model prog w) A (.builtin "list.extend.loop" ⟨[.ref s.heap.objs.size, .ref m, .ref s.heap.objs.size], []⟩)
        (fun r s' => match r with
          | .ok (.ret v) => wpAny (model prog w) A (match v with
            | .ref a => do
              match (← load a).data with
                | .seq xs _ => pure xs.toList
                | _ => unsupported "internal:collect"
            | _ => unsupported "internal:collect") Q E s'
          | .ok _ => False
          | .error e => E e s') { s with heap := h, toks := tk } := by
    intro h c₁ tk htk hit₁ hk hS₁
    have hit0 : IsRv h m z t ((z.length : Int) - 1 - ((0 : Nat) : Int)) := by
      have e0 : (z.length : Int) - 1 - ((0 : Nat) : Int) = (z.length : Int) - 1 := by omega
      rw [e0]; exact hit₁
    refine codeAny_extend_loopS W hz _ hSf _ z.length 0 ({ s with heap := h, toks := tk } : Shared) _ _ rfl (Nat.zero_le _) hit0 hS₁ (ItemsOf.nil _) fun s' acc' c' hm hS' hacc => ?_
    show wpAny _ A (load s.heap.objs.size >>= _) _ _ s'
    refine wpAny_bind (wpAny_load hS' ?_)
    refine wpAny_pure (hQ s' acc' (Moved.drop_new (o := { cls := .type "list", data := .seq ([] : List Value).toArray }) (tk := s.toks) (Moved.trans W.gtrans ((Moved.refl (G := fun a b => b = a) (s := ({ s with heap := s.heap.push { cls := .type "list", data := .seq ([] : List Value).toArray } } : Shared)) W.grefl).then_heap (tk := tk) (by exact htk) fun b o hb e => ?_) hm) (Nat.le_refl _)) hacc)
    exact hk b o (fun h => hb (h ▸ List.mem_cons_self)) e
  have hS₁ : (s.heap.push { cls := .type "list", data := .seq ([] : List Value).toArray }).get? s.heap.objs.size = some { cls := .type "list", data := .seq ([] : List Value).toArray } := Heap.get?_push_size _ rfl
  refine wpAny_ite_split (fun _ => ?_) (fun _ => ?_)
  · refine wpAny_bind (wpAny_rule ?_)
    refine wpAny_bind ?_
    show wpAny _ A.in1 (updateSeq s.heap.objs.size (·.push .none) >>= fun _ => updateSeq s.heap.objs.size (·.pop)) _ _ _
    refine wpAny_bind (wpAny_updateSeq hS₁ rfl ?_)
    have hS₂ := Heap.get?_update_self (Obj.mapSeq (·.push Value.none)) hS₁ rfl
    refine wpAny_updateSeq hS₂ rfl ?_
    have hS₃ := Heap.get?_update_self (Obj.mapSeq (·.pop)) hS₂ rfl
    have oth : ∀ b o, b ≠ s.heap.objs.size → (s.heap.push { cls := .type "list", data := .seq ([] : List Value).toArray }).get? b = some o →
        (((s.heap.push { cls := .type "list", data := .seq ([] : List Value).toArray }).update s.heap.objs.size (Obj.mapSeq (·.push Value.none))).update s.heap.objs.size (Obj.mapSeq (·.pop))).get? b = some o :=
      fun b o hb e => (Heap.get?_update_other _ _ (Ne.symm hb)).trans ((Heap.get?_update_other _ _ (Ne.symm hb)).trans e)
    exact wpAny_pure ⟨plainId_quiet F.plain_extend_loop _, key _ _ _ htk (oth _ _ (Ne.symm hSI) hst₁) oth hS₃⟩
  · exact wpAny_pure ⟨plainId_quiet F.plain_extend_loop _, key _ _ _ htk hst₁ (fun b o _ e => e) hS₁⟩
theorem ones_sum : ∀ l : List Nat, (l.map fun _ => 1).sum = l.length
  | [] => rfl
  | _ :: l => by rw [List.map_cons, List.sum_cons, ones_sum l, List.length_cons]; omega
theorem strs_of_get : ∀ {vs : List Value} {ys : List Str}, vs.length = ys.length → (∀ (j : Nat) (v : Value) (y : Str), vs[j]? = some v → ys[j]? = some y → ∃ u, v = Value.str y u) → StrsAre vs ys
  | [], [], _, _ => .nil
  | v :: vs, y :: ys, hl, h => by
    obtain ⟨u, rfl⟩ := h 0 v y rfl rfl
    exact .cons y u (strs_of_get (Nat.succ.inj hl) fun j a b ha hb => h (j + 1) a b ha hb)
  | [], _ :: _, hl, _ => absurd hl (by simp)
  | _ :: _, [], hl, _ => absurd hl (by simp)
theorem rv_strs (z : Str) (acc : Array Value) (h : ItemsOf (fun i v => ∃ (c : Nat) (u : Tok), z.cps[z.length - 1 - i]? = some c ∧ v = Value.str ⟨#[c]⟩ u) acc z.length) : StrsAre acc.toList (z.cps.toList.reverse.map fun c => (⟨#[c]⟩ : Str)) := by
  refine strs_of_get (by rw [Array.length_toList, h.1, List.length_map, List.length_reverse]; simp [Str.length]) fun j v y hv hy => ?_
  obtain ⟨c, u, hc, rfl⟩ := h.2 j v (by simpa using hv)
  have hj : j < z.length := by
    have := (List.getElem?_eq_some_iff.mp hv).1
    rw [Array.length_toList, h.1] at this
    exact this
  rw [List.getElem?_map, List.getElem?_reverse (by show j < z.cps.toList.length; simpa [Str.length] using hj)] at hy
  have e : z.cps.toList.length - 1 - j = z.length - 1 - j := by simp [Str.length]
  rw [e, Array.getElem?_toList, hc] at hy
  cases hy
  exact ⟨u, rfl⟩
theorem joinL_nil : ∀ L : List (List Nat), TL.joinL [] L = L.flatten
  | [] => rfl
  | [p] => by show p = [p].flatten; simp
  | p :: r :: s => by
    show p ++ ([] ++ TL.joinL [] (r :: s)) = _
    rw [List.nil_append, joinL_nil (r :: s), List.flatten_cons (L := r :: s)]
theorem rv_join (cs : List Nat) : Txt.join "" (cs.map fun c => (⟨#[c]⟩ : Str)) = ⟨cs.toArray⟩ := by
  have e : TL.tl (Txt.join "" (cs.map fun c => (⟨#[c]⟩ : Str))) = cs := by
    rw [TL.join_eq, TL.tl_join, show TL.tl ("" : Str) = [] by decide +kernel, joinL_nil, List.map_map]
    show (cs.map fun c => [c]).flatten = cs
    induction cs with
    | nil => rfl
    | cons c cs ih => rw [List.map_cons, List.flatten_cons, ih]; rfl
  generalize Txt.join "" (cs.map fun c => (⟨#[c]⟩ : Str)) = y at e
  obtain ⟨a⟩ := y
  have e' : a.toList = cs := e
  rw [← e']
theorem join_rv {m : Addr} {z : Str} {t t0 : Tok} {Q : Value → Shared → Prop} (hh : A.handled = none) (hz : z.length ≤ 100000) (hit : IsRv s.heap m z t ((z.length : Int) - 1))
    (hq : ∀ s', Moved [m] (fun a b => b = a) s s' → ∀ t' k, Q (.str ⟨z.cps.toList.reverse.toArray⟩ t') { s' with toks := k }) :
    wpAny (model prog w) A (call (.builtin "str.join") [.str "" t0, .ref m]) Q E s := by
  have hl : sizeLine = 16777216 := sizeLine_eq
  refine wpAny_call (codeAny_call_builtin F.slot_str_join.plain F.entry_str_join (F.slot_str_join.check _ _ _ _ _ _ _ _ (typeIs_str _ _ _) (F.args_str_join_2 _ _) ?_))
  rw [join_tree_other]
  refine wpAny_bind (wpAny_typeOf (T := "reversed") ⟨_, hit, rfl⟩ ?_)
  show wpAny _ A.in1 ((pyIter (.ref m)).tryCatch _ >>= fun it => collect it >>= fun items => joinTail "" items) _ _ s
  refine wpAny_bind (wpAny_tryCatch (rv_pyIter hit ?_))
  refine wpAny_bind (collect_rv hh (by omega) hit fun s' acc hm hacc => ?_)
  obtain ⟨l, hl2, ht⟩ := strsAre_values (rv_strs z acc hacc)
  rw [hl2]
  have hlen : ((z.cps.toList.reverse.map fun c => (⟨#[c]⟩ : Str)).map (·.length)).sum = z.length := by
    rw [List.map_map]
    have : ((fun y : Str => y.length) ∘ fun c => (⟨#[c]⟩ : Str)) = fun _ => 1 := rfl
    rw [this, ones_sum, List.length_reverse]
    simp [Str.length]
  have hok : ((z.cps.toList.reverse.map fun c => (⟨#[c]⟩ : Str)).map (·.length)).sum + (z.cps.toList.reverse.map fun c => (⟨#[c]⟩ : Str)).length * ("" : Str).length ≤ 16777216 := by
    rw [hlen]
    have : ("" : Str).length = 0 := by decide
    rw [this]
    omega
  have hj := rv_join z.cps.toList.reverse
  rw [← ht] at hok hj
  have hok' := joinOk_of hok
  unfold JoinOk at hok'
  rw [Bool.not_eq_true'] at hok'
  have g : Gives (joinTail "" (strValues l)) (joinMade "" l) := by
    have g0 := gives_joinTail "" l hok'
    cases l with
    | nil => exact g0
    | cons p r => cases r with
      | nil => exact g0
      | cons q r' => exact g0
  exact g prog w A (wants Q E) s' (post_join l ⟨joinFit_length hok', fun t' k => by rw [← ht] at *; first | exact hj ▸ hq s' hm t' k | (rw [hj]; exact hq s' hm t' k)⟩)
end
end Rvs
namespace My
open PySem PySem.Spec PyProof.Rows L2
theorem pe_joinRev {X : Cx} {o e : Expr} {to te : TE} {apos pos p pos2 : Pos} (hc : X.calm = true) (hg : Gl X "reversed") (hm : X.mg "reversed" = none) (ho : PE X o to) (he : PE X e te)
    (hs1 : starEach [.Call (.Name "reversed" p) [e] [] pos2] X.env = [(false, eval (.Call (.Name "reversed" p) [e] [] pos2) X.env)] := by rfl)
    (hs : starEach [e] X.env = (false, eval e X.env) :: starEach [] X.env := by rfl)
    (hbase : attributeBase o "join" X.env (eval o X.env) = eval o X.env := by rfl) (hline : (apos.endLine == pos.line) = true := by rfl) :
    PE X (.Call (.Attribute o "join" apos) [.Call (.Name "reversed" p) [e] [] pos2] [] pos) (tJoinRev to te) := by
  refine ⟨fun pins s σ H Q I h => ?_⟩
  refine PySem.Call_method1 hbase hs1 hline (thn (ho.run pins s σ H _ I h) fun v s1 ⟨x, H1, I1, r1, ex, q1⟩ => ?_)
  subst ex
  obtain ⟨t, rfl⟩ := _root_.id r1
  refine ⟨"str", _, F.plainAttrs_str, F.slot_str_join, F.type_str_join, typeIs_str _ _ _, (fun _ e => nomatch e), Calls.callWith_builtin rfl (Calls.evalArgs_plain (Calls.spliced_cons ?_))⟩
  refine wpAny_Call_Name_kw (ld_blt I1 hg hm PyProof.Rows.boot_reversed ?_)
  refine PyProof.Rows.callWith_type1 ?_ hs rfl
  rw [hs]
  show wpAny _ _ (spliced ((false, eval e X.env) :: [])) _ _ s1
  refine Calls.spliced_cons (thn (he.run pins s1 σ H1 _ I1 q1) fun u s2 ⟨y, H2, I2, r2, z, ey, hz, q2⟩ => ?_)
  subst ey
  obtain ⟨tz, rfl⟩ := _root_.id r2
  have hsl : sizeLine = 16777216 := sizeLine_eq
  refine Calls.spliced_nil (Rvs.call_rv (by omega) fun h' hi hsz hk => Calls.spliced_nil ?_)
  refine Rvs.join_rv (I2.ok.hd hc) hz hi fun s' mv t' k => ?_
  refine ⟨.str _, H2, ?_, ⟨t', rfl⟩, q2⟩
  rw [Moved.eq_with mv]
  refine I2.kept (t' := k) fun b o eb => mv.heap b o (fun hm' => ?_) (hk _ _ eb)
  rw [List.mem_singleton.mp hm'] at eb
  exact absurd (Heap.lt_size eb) (Nat.lt_irrefl _)
end My
end

section
set_option Elab.async false
set_option maxRecDepth 100000
set_option maxHeartbeats 4000000
set_option linter.all false
namespace My
open PySem L2
/-! ### what a head tells: facts, defs at any address, tables with text keys, a Bool; the interpreter's statics are looked at too -/
abbrev AlZ : Type := (He.AlD × List (Option (List (Option (Str × Int))))) × Bool
def obsZK (fa : List He.Fa) (fn : List He5.DefA) (ts : List He.Tab) (ex : PySem.W.Frag → Bool) (K : PySem.W.Frag) : AlZ := ((He5.obsA fa fn K, ts.map fun t => He.dicW K (t.1 K)), ex K)
def valZ (fn : List He5.DefA) (ts : List He.Tab) (w : World) : AlZ := ((He5.valA fn, ts.map fun t => some (He.keysIn w.params t.2)), true)
def obsZ (n : Nat) (fa : List He.Fa) (fn : List He5.DefA) (ts : List He.Tab) (ex : PySem.W.Frag → Bool) (g : Addr → Option Obj) : AlZ := obsZK fa fn ts ex (He.frT g (He5.asA g n))
structure SaysZ (fa : List He.Fa) (fn : List He5.DefA) (ts : List He.Tab) (ex : PySem.W.Frag → Bool) (w : World) (K : PySem.W.Frag) : Prop where
  d : He5.SaysA fa fn K
  tabs : (ts.map fun t => He.dicW K (t.1 K)) = ts.map fun t => some (He.keysIn w.params t.2)
  more : ex K = true
theorem SaysZ.of_obs {fa : List He.Fa} {fn : List He5.DefA} {ts : List He.Tab} {ex : PySem.W.Frag → Bool} {w : World} {K : PySem.W.Frag} (e : obsZK fa fn ts ex K = valZ fn ts w) : SaysZ fa fn ts ex w K :=
  ⟨congrArg (fun z : AlZ => z.1.1) e, congrArg (fun z : AlZ => z.1.2) e, congrArg (fun z : AlZ => z.2) e⟩
def hookZ (n : Nat) (fa : List He.Fa) (fn : List He5.DefA) (ts : List He.Tab) (ex : PySem.W.Frag → Bool) : PySem.W.Hook where
  α := AlZ
  obs := fun s => obsZ n fa fn ts ex s.heap.get?
  val := fun w => valZ fn ts w
  says := fun w h => ∃ K : PySem.W.Frag, K.In h ∧ SaysZ fa fn ts ex w K
  of := fun _ _ e => ⟨_, He.frT_in, SaysZ.of_obs e⟩
  keeps := fun _ _ _ ⟨K, hK, c⟩ k => ⟨K, PySem.W.Frag.In.keeps hK k, c⟩
theorem obsZ_eq {n : Nat} {fa : List He.Fa} {fn : List He5.DefA} {ts : List He.Tab} {ex : PySem.W.Frag → Bool} {g : Addr → Option Obj} {s : Shared} (h : ∀ a, g a = s.heap.get? a) : obsZ n fa fn ts ex g = (hookZ n fa fn ts ex).obs s := by
  have e : g = s.heap.get? := funext h
  rw [e] <;> rfl
section
variable {fa : List He.Fa} {fn : List He5.DefA} {ts : List He.Tab} {ex : PySem.W.Frag → Bool} {w : World} {K : PySem.W.Frag}
theorem SaysZ.tab (c : SaysZ fa fn ts ex w K) (i : Nat) {t : He.Tab} (h : ts[i]? = some t := by rfl) : ∃ es n, KDict K w (t.1 K) es n := by
  have e2 : (ts.map fun t => He.dicW K (t.1 K))[i]? = (ts.map fun t => some (He.keysIn w.params t.2))[i]? := by rw [c.tabs]
  rw [List.getElem?_map, List.getElem?_map, h] at e2
  exact He.dicW_ok (Option.some.inj e2)
end
/-! ### a tuple of K at an address -/
def tupA (K : PySem.W.Frag) (a : Addr) (vs : List V) : Bool := match K.lookup a with
  | some ⟨.type c, _, .seq its _, _⟩ => decide (c = "tuple") && (decide (its.size ≤ sizeLine) && He.relAll vs its.toList)
  | _ => false
theorem tupA_ok {K : PySem.W.Frag} {a : Addr} {vs : List V} (h : tupA K a vs = true) (H : Hp) : SqT K H a vs := by
  unfold tupA at h
  split at h
  · rename_i c od its n sl q
    obtain ⟨h1, h2⟩ := He.ba h
    obtain ⟨h3, h4⟩ := He.ba h2
    exact .inr ⟨_, its, n, q, congrArg Value.type (of_decide_eq_true h1), rfl, of_decide_eq_true h3, He.relAll_ok h4⟩
  · cases h
/-! ### a class whose attributes are read plainly; its staticmethods; its own len -/
theorem cread_of {K : PySem.W.Frag} {C : Addr} (h0 : PySem.W.readsIn K C (.type "type") = true) : ClX.CRead K C (.type "type") := by
  refine ⟨h0, ?_⟩
  have h := h0
  unfold PySem.W.readsIn at h
  obtain ⟨h, _⟩ := He.ba h
  obtain ⟨h, _⟩ := He.ba h
  obtain ⟨h, h3⟩ := He.ba h
  obtain ⟨_, h2⟩ := He.ba h
  unfold PySem.W.specialIn
  rw [beq_iff_eq.mp h2, Option.bind_some]
  exact beq_iff_eq.mp h3
def smB (K : PySem.W.Frag) (C : Addr) (m : Str) : Bool := PySem.W.readsIn K C (.type "type") && He5.wrapB K C "staticmethod" "staticmethod.__get__" m
abbrev smAt (K : PySem.W.Frag) (C : Addr) (m : Str) : Addr := He5.wf K C "staticmethod" m
theorem smB_ok {P : Program} {w : World} {K : PySem.W.Frag} {mg : Str → Option Value} {base : Heap} {k : Nat} {C : Addr} {m : Str} {ps : List Str} {sp : Sp} {fd : FuncData} (h : smB K C m = true) (hk : PySem.W.keepIn K (.ref (smAt K C m)) = true)
    (F : FnOk P w K mg base CX0 k (smAt K C m) fd ps sp) (B : Binds K fd ps []) : CalS P w K mg base k C m ps sp := by
  obtain ⟨h1, h2⟩ := He.ba h
  obtain ⟨h3, h4⟩ := He5.wrapB_ok h2
  exact ⟨_, _, _, fd, cread_of h1, ⟨h3, h4, hk⟩, F, B⟩
theorem lenOwn_of {K : PySem.W.Frag} {x : Str} (cl : Cls K (He.ga K x)) (h : (He.Fa.meth x "__len__").ok K = true) : LenOwn K (He.ga K x) (He.ma K (He.ga K x) "__len__") := by
  obtain ⟨h1, h2⟩ := He.ba h
  obtain ⟨h3, h4⟩ := He.ba h2
  exact ⟨cl, He.eqO_ok h1, h3⟩
theorem fnOk_false {P : Program} {w : World} {K : PySem.W.Frag} {mg : Str → Option Value} {base : Heap} {k : Nat} {f : Addr} {fd : FuncData} {ps : List Str} {sp : Sp} (h : ∀ vs H Q E, ¬ sp vs H Q E) : FnOk P w K mg base CX0 k f fd ps sp :=
  ⟨fun vs H Q E z => absurd z (h vs H Q E), fun A outer s H args us vs Q E _ _ _ _ z => absurd z (h vs H Q E)⟩
theorem calD_of {P : Program} {w : World} {K : PySem.W.Frag} {mg : Str → Option Value} {base : Heap} {k n j : Nat} {x qual : Str} {params : Arguments} {body : List Stmt} {scope : Scope} {dvs : List V} {kws : List (Str × V)} {f : Addr} {fd : FuncData} {ps : List Str} {sp : Sp}
    (F : FunD K x qual params body scope dvs kws f fd) (ok : FnOk P w K mg base CX0 k f fd ps sp) (hm : mg x = some (.ref f)) (hd : dvs ≠ []) (hn : n + (dvs.length - j) = ps.length)
    (h : ∀ (T : Addr) (kV doc pm : Value) (an : Option Addr) (cdv ct : Value) (us its : List Value), us.length = n → its.length = dvs.length →
      ∃ k, bindArgs (PySem.W.fnOf x qual params body scope (.ref T) kV doc pm an cdv ct) ⟨us, []⟩ = seqItems? (.ref T) >>= k ∧ k (some its.toArray) = pure (ps.zip (us ++ its.drop j))) : CalD P w K mg base k x ps (dvs.drop j) sp := by
  obtain ⟨ds, hv, hb⟩ := F.binds1 (ps := ps) n j hd hn h
  exact ⟨f, fd, ds, ok, hm, F.kp, hb, hv⟩
end My
end

section
set_option Elab.async false
set_option maxRecDepth 100000
set_option maxHeartbeats 4000000
set_option linter.all false
namespace My
open PySem L2
/-! ### o.m(..) by one bundle -/
structure CalMt (P : Program) (w : World) (K : PySem.W.Frag) (mg : Str → Option Value) (base : Heap) (k : Nat) (C : Addr) (m : Str) (ps : List Str) (dvs : List V) (sp : Sp) : Prop where
  ex : ∃ f fd ds, Cls K C ∧ Meth K C m f ∧ FnOk P w K mg base CX0 k f fd ps sp ∧ Binds K fd ps ds ∧ Vals dvs ds
theorem CalMt.mono {P : Program} {w : World} {K : PySem.W.Frag} {mg : Str → Option Value} {base : Heap} {j k : Nat} {C : Addr} {m : Str} {ps : List Str} {dvs : List V} {sp : Sp} (c : CalMt P w K mg base j C m ps dvs sp) (h : j ≤ k) : CalMt P w K mg base k C m ps dvs sp := by
  obtain ⟨f, fd, ds, a, b, F, r⟩ := c.ex
  exact ⟨f, fd, ds, a, b, F.mono h, r⟩
section
variable {X : Cx} {k : Nat} {x m : Str} {C : Addr} {ps : List Str} {dvs : List V} {sp : Sp} {p pos apos : Pos} {o e : Expr} {es : List Expr} {ta : TE} {t : TA}
theorem pe_methC {pl : Sem Bool} (c : CalMt X.prog X.w X.K X.mg X.base k C m ps dvs sp) (hr : Room k X.A) (ho : PE X o ta) (ha : PA X (e :: es) t)
    (hst : starEach (e :: es) X.env = (false, eval e X.env) :: starEach es X.env := by rfl) (hpl : (backTo pos (starEach es X.env)).any (·.1) = false := by rfl)
    (ht : eval (.Call (.Attribute o m apos) (e :: es) [] pos) X.env = (do
      let ov ← eval o X.env
      standAt apos.atName
      let (f, first) ← holding [ov] (getMethod ov m pl)
      callWith pos f first (backTo pos (starEach (e :: es) X.env)) (backToKw pos (keywordEach [] X.env))) := by rfl) :
    PE X (.Call (.Attribute o m apos) (e :: es) [] pos) (tMeth C m sp dvs E0 ta t) := by
  obtain ⟨f, fd, ds, a, b, F, hb, hd⟩ := c.ex
  exact pe_meth ho a b F hr hb hd pass0 ha hst hpl ht
theorem pe_methC0 {pl : Sem Bool} (c : CalMt X.prog X.w X.K X.mg X.base k C m ps dvs sp) (hr : Room k X.A) (ho : PE X o ta)
    (ht : eval (.Call (.Attribute o m apos) [] [] pos) X.env = (do
      let ov ← eval o X.env
      standAt apos.atName
      let (f, first) ← holding [ov] (getMethod ov m pl)
      callWith pos f first (backTo pos (starEach [] X.env)) (backToKw pos (keywordEach [] X.env))) := by rfl) :
    PE X (.Call (.Attribute o m apos) [] [] pos) (tMeth C m sp dvs E0 ta tNil) := by
  obtain ⟨f, fd, ds, a, b, F, hb, hd⟩ := c.ex
  exact pe_meth0 ho a b F hr hb hd pass0 ht
end
theorem e_meth {C : Addr} {m : Str} {sp : Sp} {dvs : List V} {ta : TE} {t : TA} {σ : L2.St} {H : Hp} {Q : VK} (h : ta σ H fun x H1 => ∃ a dx fs, x = .ref a ∧ H1 a = some (.ins C dx fs) ∧ fs.lookup m = none ∧ t σ H1 fun vs H2 => sp (x :: (vs ++ dvs)) H2 Q E0) : tMeth C m sp dvs E0 ta t σ H Q := h
theorem g_unl {K : PySem.W.Frag} {n : Nat} {gs : TGs} {a : Addr} {xs : List V} {σ : L2.St} {H : Hp} {R : L2.St → Hp → Prop} (h : SqL K H a xs) (hl : xs.length = n) (q : gs xs σ H R) : gUnl K n gs (.ref a) σ H R := ⟨a, xs, rfl, h, hl, q⟩
end My
end

section
set_option Elab.async false
set_option maxRecDepth 100000
set_option maxHeartbeats 4000000
set_option linter.all false
/-! errors: an except clause over a tuple of classes; classes whose __init__ says super().__init__(..) -/
namespace My
open PySem PySem.Spec PySem.Calls PyProof.Rows
section
variable {M : Model} {A : Around} {E : Value → Shared → Prop} {s : Shared} {β : Type}
theorem forIn_same {u : β} {f : Value → β → Sem (ForInStep β)} {Q : β → Shared → Prop} : ∀ {l : List Value}, (∀ c ∈ l, ∀ {Q' : ForInStep β → Shared → Prop}, Q' (.yield u) s → wpAny M A (f c u) Q' E s) → Q u s → wpAny M A (forIn l u f) Q E s
  | [], _, q => by
    rw [List.forIn_nil]
    exact wpAny_pure q
  | c :: l, h, q => by
    rw [List.forIn_cons]
    exact wpAny_bind (h c (.head _) (forIn_same (fun d hd => h d (.tail _ hd)) q))
theorem forIn_find {u d : β} {f : Value → β → Sem (ForInStep β)} {Q : β → Shared → Prop} {K : PySem.W.Frag} {cls : Value} : ∀ {l : List Value} {b : Bool}, PySem.W.exmAny K cls l = some b →
    (∀ c ∈ l, ∀ b1, PySem.W.exmOne K cls c = some b1 → ∀ {Q' : ForInStep β → Shared → Prop}, Q' (if b1 = true then .done d else .yield u) s → wpAny M A (f c u) Q' E s) → Q (if b = true then d else u) s → wpAny M A (forIn l u f) Q E s
  | [], b, e, _, q => by
    cases (show some false = some b from e)
    rw [List.forIn_nil]
    exact wpAny_pure q
  | c :: l, b, e, h, q => by
    obtain ⟨b1, d1, h1, h2, rfl⟩ := PySem.W.exmAny_cons e
    rw [List.forIn_cons]
    refine wpAny_bind (h c (.head _) b1 h1 ?_)
    cases b1 with
    | true => exact wpAny_pure q
    | false => exact forIn_find (d := d) h2 (fun c hc => h c (.tail _ hc)) q
end
/-- an exception beside a tuple of classes -/
theorem exm_tupN {M : Model} {K : PySem.W.Frag} {cs : List Value} {cls : Value} {tp e : Addr} {b : Bool} {h : Heap} {od : Option Addr} {n : Nat} {sl : Array (Option Value)} (X : K.In h) (LT : PySem.W.Looks M h (typeOf (.ref e)) cls) (hp : h.get? tp = some ⟨.type "tuple", od, .seq cs.toArray n, sl⟩)
    (hx : PySem.W.exmAny K cls cs = some b) : PySem.W.Looks M h (excMatches (.ref e) (.ref tp)) b := by
  intro A Q E s k₀ q
  obtain ⟨hh, g, d, tk, os⟩ := s
  have k : ∀ b o, h.get? b = some o → hh.get? b = some o := k₀
  have LT0 : PySem.W.Looks M h (isInstance (.ref tp) (.type "tuple")) true := ((PySem.W.Looks.ld hp).andThen .now).andThen (PySem.W.Looks.of_pure isSubtype_tuple_tuple)
  have LT := LT.keeps k
  have LT0 := LT0.keeps k
  have hp' := k _ _ hp
  have one : ∀ c ∈ cs, ∃ b1, PySem.W.exmOne K cls c = some b1 := by
    clear hp hp' k₀ q
    have : ∀ (cs : List Value) (b : Bool), PySem.W.exmAny K cls cs = some b → ∀ c ∈ cs, ∃ b1, PySem.W.exmOne K cls c = some b1 := by
      intro cs
      induction cs with
      | nil => intro b _ c hc; cases hc
      | cons c0 cs ih =>
        intro b e c hc
        obtain ⟨b1, d1, h1, h2, _⟩ := PySem.W.exmAny_cons e
        rcases List.mem_cons.mp hc with rfl | hc
        · exact ⟨b1, h1⟩
        · exact ih d1 h2 c hc
    exact this cs b hx
  unfold excMatches
  refine wpAny_bind (LT0.at ?_)
  dsimp only
  rw [if_pos rfl]
  first
    | refine wpAny_bind (wpAny_seqItems hp' rfl ?_)
    | refine wpAny_bind (wpAny_bind (wpAny_seqItems hp' rfl (wpAny_pure ?_)))
  dsimp only [Option.getD_some, Option.getD]
  refine wpAny_bind (wpAny_pure ?_)
  refine wpAny_bind (forIn_same (fun c hc Q' hq => ?_) ?_)
  · obtain ⟨b1, h1⟩ := one c hc
    obtain ⟨e1, _⟩ := PySem.W.exm_cls (M := M) X h1
    have e1 := e1.keeps k
    refine wpAny_bind (e1.at ?_)
    simp only [Bool.not_true, Bool.false_eq_true, if_false]
    exact wpAny_pure hq
  refine wpAny_bind (LT.at ?_)
  refine wpAny_bind (forIn_find (K := K) (cls := cls) (d := ⟨some true, ⟨⟩⟩) hx (fun c hc b1 h1 Q' hq => ?_) ?_)
  · obtain ⟨_, S1⟩ := PySem.W.exm_cls (M := M) X h1
    have S1 := S1.keeps k
    refine wpAny_bind (S1.at ?_)
    cases b1 with
    | true => exact wpAny_pure hq
    | false => exact wpAny_pure hq
  · cases b with
    | true => exact wpAny_pure q
    | false => exact wpAny_pure q
end My
namespace L2
open PySem PySem.Spec PyProof.Rows My
theorem flyingZ_keep {B h h' : Heap} {l : List Env} {a : Addr} {Z : Obj → Prop} (x : HandSPX.FlyingZ B l a Z h) (k : ∀ q o, h.get? q = some o → h'.get? q = some o) : HandSPX.FlyingZ B l a Z h' := by
  obtain ⟨f1, f2, f3, oe, vs, T, oT, ts, he, hz, hd, h1, hnT, hTe, hT, hdT, h3⟩ := x
  exact ⟨fun b o e => k b o (f1 b o e), f2, f3.of_keeps fun b o e _ => ⟨o, k b o e, rfl⟩, oe, vs, T, oT, ts, k _ _ he, hz, hd, h1, hnT, hTe, k _ _ hT, hdT, h3⟩
/-- the classes that an except clause over a tuple names -/
inductive AllNames (X : Cx) : List Expr → List Value → Prop
  | nil : AllNames X [] []
  | cons {x : Str} {p : Pos} {c : Value} {es : List Expr} {cs : List Value} : Names X x c → AllNames X es cs → AllNames X (.Name x p :: es) (c :: cs)
theorem spl_names {X : Cx} {a : Addr} {pn pins : List (Addr × Obj)} {σ : St} {H : Hp} {E : Value → Shared → Prop} {np : Pos} {s : Shared} (S : Inv (X.suite a pn) pins σ H s) : ∀ {es : List Expr} {cs : List Value} {Q : List Value → Shared → Prop}, AllNames X es cs → Q cs s →
    wpAny (model X.prog X.w) (X.suite a pn).A (spliced (backTo np (starEach es X.env))) Q E s
  | _, _, _, .nil, q => by
    first | exact Calls.spliced_nil q | (simp only [starEach]; exact Calls.spliced_nil q)
  | _, _, _, .cons (x := x) (p := p) hc hr, q => by
    refine Calls.spliced_cons ?_
    obtain ⟨hg, hdbg, hm | ⟨hm, hv, hnn⟩⟩ := hc
    · exact ld_glob (X := X.suite a pn) S hg hm (spl_names S hr q) hdbg
    · exact ld_blt (X := X.suite a pn) S hg hm hv (spl_names S hr q) hnn hdbg
/-- what the clause 'except (..) as n' wishes of an exception of the body -/
def wAsT (K : PySem.W.Frag) (cs : List Value) (i : Nat) (ts : Addr → Value → Option Addr → TS) (Wout : WX) (D : Ends) : WX := fun cls d σ H =>
  ∃ b, PySem.W.exmAny K cls cs = some b ∧ (b = true → ∀ a, H a = none → ts a cls d { nx := fun σ' H' => D.nx (σ'.set i none) H', rt := D.rt, bk := fun σ' H' => D.bk (σ'.set i none) H', ct := fun σ' H' => D.ct (σ'.set i none) H' } (σ.set i (some (.ref a))) H) ∧
    (b = false → Wout cls d σ H)
section
variable {X : Cx} {es : List Expr} {x1 : Nat} {n : Str} {cs : List Value} {i : Nat} {body suite : List Stmt} {b₀ : Stmt} {np pos pos' : Pos} {tb : WX → TS} {ts : Addr → Value → Option Addr → TS} {Wout : WX}
theorem ps_try_asT (hs : X.stack = X.env :: X.outer) (hf : X.env.frame = some X.env.locals) (hN : X.N.Nodup) (hi : X.N[i]? = some n) (hln : X.env.kindOf n = some .local) (hc : AllNames X es cs) (hlen : cs.length ≤ sizeLine) (tk : Takes X Wout)
    (hb : ∀ (W : WX) (pn : List (Addr × Obj)) (xe : Value → Shared → Prop), Takes (X.tr pn xe) W → PassesOwn (model X.prog X.w) X.A X.env xe → PSs (X.tr pn xe) body (tb W))
    (hsu : ∀ (a : Addr) (oe : Obj) (cls : Value) (d : Option Addr) (pn : List (Addr × Obj)), Zc cls d oe → (∃ vs, oe.data = .fields vs) → PSs (X.suite a ((a, oe) :: pn)) (b₀ :: suite) (ts a cls d)) :
    PS X (.Try body [.ExceptHandler (some (.Tuple es x1 np)) (some n) (b₀ :: suite) pos'] [] [] pos) (fun D σ H => tb (wAsT X.K cs i ts Wout D) D σ H) := by
  refine ⟨fun pins s σ H D I h => ?_⟩
  have ok := I.ok
  have hfr : X.A.frames = some (X.env :: X.outer) := by rw [ok.frames, hs]
  have hloc : Loc X.env.scope n := .inl hln
  refine wpAny_Try_except ?_
  refine wpAny_mono ((hb (wAsT X.K cs i ts Wout D) (X.pn ++ pins) (fun e s₁ => wpAny (model X.prog X.w) X.A (noteFrame e X.env) (fun _ s₂ => wpAny (model X.prog X.w) X.A (setFlight e none) (fun _ s₃ =>
    wpAny (model X.prog X.w) X.A (handleBy e X.env [.ExceptHandler (some (.Tuple es x1 np)) (some n) (b₀ :: suite) pos']) (SP X pins D) X.xe s₃) X.xe s₂) X.xe s₁) (fun u s' xx => ?_) PassesOwn.looking).run [] s σ H D (I.toTry _) h) (fun f s1 hsp => ?_) (fun e s1 he => he)
  · -- the catch
    obtain ⟨a, B, sI, pins', σ', H', cls, d, rfl, J', nb, up, sky, na, os, ag, b, hb1, hyes, hno⟩ := xx
    have J : Inv X pins σ' H' sI := J'.ofTry ok
    have sky' : Sky B (X.env :: X.outer) a (Zc cls d) X.env.locals s'.heap := by rw [← hs]; exact sky
    show wpAny (model X.prog X.w) X.A (noteFrame (.ref a) X.env) _ _ _
    refine Sky.land Zc.steady hfr hf sky' fun h3 fl3 up3 => ?_
    have J3 : Inv X pins σ' H' { s' with heap := h3 } := J.landed nb fl3.1 (up.trans up3) os ag
    obtain ⟨oe3, vs3, he3, hz3, hd3⟩ := fl3.there
    have notFr : ∀ {h : Heap} {o : Obj} {vs : Array Value}, h.FunFrames B (X.env :: X.outer) → h.get? a = some o → o.data = .fields vs → a ∉ frs (X.env :: X.outer) := fun {h o vs} ff e dd hm => by
      obtain ⟨_, o', e', hnf⟩ := ff.mem hm
      rw [e] at e'; cases e'
      exact hnf _ dd
    have nfr := notFr fl3.2.2.1 he3 hd3
    have nL : a ≠ X.env.locals := fun z => nfr (List.mem_filterMap.mpr ⟨X.env, List.mem_cons_self, by rw [hf, z]⟩)
    have nF : a ∉ X.fs := fun hm => by
      obtain ⟨e, he, q⟩ := List.mem_filterMap.mp hm
      exact nfr (List.mem_filterMap.mpr ⟨e, List.mem_cons_of_mem _ he, q⟩)
    have S3 := J3.suite he3 hd3 na nL nF
    refine wpAny_handleBy_cons (codeAny_handlers_test ?_) (by intro q; cases q)
    have LT : PySem.W.Looks (model X.prog X.w) h3 (typeOf (.ref a)) cls := fun A Q E s k q => wpAny_typeOf_ref (k _ _ he3) (by rw [hz3.1]; exact q)
    refine wpAny_Tuple_spliced (spl_names (S := S3) hc ⟨hlen, ?_⟩)
    have kp : ∀ q o, h3.get? q = some o → (h3.push { cls := .type "tuple", data := .seq cs.toArray }).get? q = some o := fun _ _ z => Heap.get?_push_of_some _ z
    have LM := exm_tupN (M := model X.prog X.w) (fun q o z => kp q o (J3.kIn q o z)) (LT.keeps kp) (Heap.get?_push_size h3 rfl) hb1
    refine LM.here ?_
    have fl3p : HandSPX.FlyingZ B (X.env :: X.outer) a (Zc cls d) (h3.push { cls := .type "tuple", data := .seq cs.toArray }) := flyingZ_keep fl3 kp
    have up3p := up3.trans (Heap.UpToSlots.of_keeps kp)
    clear S3 he3 hz3 hd3 J3
    revert fl3p up3p
    generalize (h3.push { cls := .type "tuple", data := .seq cs.toArray }) = h3' at *
    intro fl3p up3p
    clear LM LT kp up3 fl3
    rename HandSPX.FlyingZ B (X.env :: X.outer) a (Zc cls d) h3' => fl3
    rename s'.heap.UpToSlots h3' => up3
    obtain ⟨oe3, vs3, he3, hz3, hd3⟩ := fl3.there
    cases b with
    | true =>
      refine codeAny_handlers_suite_as ?_
      refine HandSPX.lands_againZ fl3 fun h4 fl4 up4 => ?_
      have J4 : Inv X pins σ' H' { s' with heap := h4 } := J.landed nb fl4.1 ((up.trans up3).trans up4) os ag
      obtain ⟨oe4, vs4, he4, hz4, hd4⟩ := fl4.there
      have S4 := J4.suite he4 hd4 na nL nF
      refine store_ok (X := X.suite a ((a, oe4) :: (X.pn ++ pins))) (v := .ref a) S4 hN hi hloc rfl (fun s5 S5 => ?_) (.inr hln)
      refine wpAny_mono ((hsu a oe4 cls d (X.pn ++ pins) hz4 ⟨_, hd4⟩).run [] s5 _ H' _ S5 (hyes rfl a na)) (fun f s6 hsp => ?_) (fun _ _ z => False.elim z)
      have end_ : ∀ {σ6 : St} {H6 : Hp} {Q : Shared → Prop}, Inv (X.suite a ((a, oe4) :: (X.pn ++ pins))) [] σ6 H6 s6 → (∀ s7, Inv X pins (σ6.set i none) H6 s7 → Q s7) →
          wpAny (model X.prog X.w) X.A (do bindName X.env n .none; unbindBehindTheSuite X.env n pos') (fun _ s7 => Q s7) X.xe s6 := fun {σ6 H6 Q} S6 hq => gone_ok (S6.unsuite ok) hN hi hln hq
      cases f with
      | next =>
        obtain ⟨σ6, H6, S6, q6⟩ := hsp
        exact end_ S6 fun s7 J7 => ⟨_, _, J7, q6⟩
      | brk =>
        obtain ⟨σ6, H6, S6, q6⟩ := hsp
        exact end_ S6 fun s7 J7 => ⟨_, _, J7, q6⟩
      | cont =>
        obtain ⟨σ6, H6, S6, q6⟩ := hsp
        exact end_ S6 fun s7 J7 => ⟨_, _, J7, q6⟩
      | ret u =>
        obtain ⟨v6, σ6, H6, S6, r6, q6⟩ := hsp
        exact end_ S6 fun s7 J7 => ⟨_, _, _, J7, r6, q6⟩
    | false =>
      show wpAny _ X.A (handleBy (.ref a) X.env []) _ _ _
      refine wpAny_handleBy_nil ?_
      obtain ⟨k1, k2, k3, oe, vs, T, oT, ts', he, hz, hd, h1, hr⟩ := id fl3
      unfold PySem.passOn
      refine wpAny_bind (wpAny_field he hd h1 ?_)
      rw [if_neg (show ¬ ((Value.ref T == Value.none) = true) from by simp)]
      have fin : wpAny (model X.prog X.w) X.A (setFlight (.ref a) X.env.frame) (fun _ s4 => wpAny (model X.prog X.w) X.A (throw (.ref a) : Sem Flow) (SP X pins D) X.xe s4) X.xe { s' with heap := h3' } := by
        rw [hf]
        refine HandSPX.setFlight_upZ fl3 fun h4 hh4 up4 => wpAny_throw (tk _ _ ?_)
        exact ⟨a, B, sI, pins, σ', H', cls, d, rfl, J, nb, (up.trans up3).trans up4, .inr (.inr (by rw [hs]; exact hh4)), na, os, ag, hno rfl⟩
      first
        | exact wpAny_bind (wpAny_pure (wpAny_bind fin))
        | exact wpAny_bind fin
  · cases f with
    | next =>
      obtain ⟨σ', H', J', q⟩ := hsp
      exact wpAny_execs_nil ⟨σ', H', J'.ofTry ok, q⟩
    | brk =>
      obtain ⟨σ', H', J', q⟩ := hsp
      exact ⟨σ', H', J'.ofTry ok, q⟩
    | cont =>
      obtain ⟨σ', H', J', q⟩ := hsp
      exact ⟨σ', H', J'.ofTry ok, q⟩
    | ret u =>
      obtain ⟨v, σ', H', J', r, q⟩ := hsp
      exact ⟨v, σ', H', J'.ofTry ok, r, q⟩
end
end L2
end

section
set_option Elab.async false
set_option maxRecDepth 100000
set_option maxHeartbeats 4000000
set_option linter.all false
/-! errors: a class whose __init__ begins with super().__init__(..) -/
namespace My
open PySem PySem.Spec PySem.Calls PyProof.Rows L2 NdefX
/-- super().__init__(..) of an error of the class at C (self in slot 0), then the rest -/
def tSup (K : PySem.W.Frag) (C : Addr) (ta : TA) (t : TS) : TS := fun D σ H => ∃ a, σ[0]? = some (some (.ref a)) ∧ H a = some (exo a C none) ∧
  ta σ H fun vs H1 => vs.length ≤ 1000 ∧ H1 a = some (exo a C none) ∧ t D σ H1
abbrev supS (p0 p1 p2 p3 p4 : Pos) (e : Expr) (es : List Expr) : Stmt := .Expr (.Call (.Attribute (.Call (.Name "super" p0) [] [] p1) "__init__" p2) (e :: es) [] p3) p4
/-- what the written part tells -/
structure SupF (P : Program) (K : PySem.W.Frag) (mg : Str → Option Value) (C f cc cda : Addr) (fd : FuncData) (qual : Str) : Prop where
  ex : OexC K C
  fn : ∃ oc od osl, K.lookup f = some ⟨oc, od, .func fd, osl⟩
  cd : PySem.W.codeIn K (.ref cda) qual = true
  file : ∃ ccl cdd vs ccs file tf, K.lookup cda = some ⟨ccl, cdd, .fields vs, ccs⟩ ∧ vs[2]? = some (.str file tf) ∧ ((P.main.file : Str) == file) = true
  top : (P.main.scope.names.lookup ("super" : Str)).isSome = false
  cell : ∃ cl cld csl, K.lookup cc = some ⟨cl, cld, .cell (some (.ref C)), csl⟩
  sup : mg "super" = none
  oth : PySem.W.nsIn K cStatics "thirdparty.any" = some none
  meth : PySem.W.ks_superIn K C C "__init__" = some (some (.builtin "ValueError.__init__"))
  mro : PySem.W.mroIn K C (.ref C) = some true
  ve : PySem.W.subIn K (.ref C) (.type "ValueError") = some true
section
variable {CX : CXT} {P : Program} {w : World} {K : PySem.W.Frag} {mg : Str → Option Value} {base : Heap} {N ps : List Str} {C f cc cda : Addr} {k : Nat} {name qual : Str} {params : Arguments} {body : List Stmt} {scope : Scope} {dV kV doc pm ct : Value} {an : Option Addr} {sp : Sp} {p0 p1 p2 p3 p4 : Pos} {e : Expr} {es : List Expr} {ar : Arg}
theorem fn_sup {pl : Sem Bool} (Z : SupF P K mg C f cc cda (PySem.W.ksFn name qual params (supS p0 p1 p2 p3 p4 e es :: body) scope dV kV doc pm an (.ref cda) ct cc) qual)
    (S : NScope N ps ["__class__"] scope) (hks : scope.names.lookup ("super" : Str) = some .globalImplicit) (hp : (params.posonlyargs ++ params.args).head? = some ar) (hN0 : N[0]? = some ar.arg) (hpa : ar.arg ∈ ps)
    (len : ∀ vs H Q E, sp vs H Q E → vs.length = ps.length)
    (hc : ∀ env : Env, eval (.Call (.Attribute (.Call (.Name "super" p0) [] [] p1) "__init__" p2) (e :: es) [] p3) env = (do
      let ov ← attributeBase (.Call (.Name "super" p0) [] [] p1) "__init__" env (eval (.Call (.Name "super" p0) [] [] p1) env)
      standAt p2.atName
      let (f, first) ← holding [ov] (getMethod ov "__init__" pl)
      callWith p3 f first (backTo p3 (starEach (e :: es) env)) []))
    (hst : ∀ env : Env, starEach (e :: es) env = (false, eval e env) :: starEach es env) (hpl : ∀ env : Env, (backTo p3 (starEach es env)).any (·.1) = false)
    (hsw : ∀ (l : Nat) (env : Env), swapsWith (.Call (.Attribute (.Call (.Name "super" p0) [] [] p1) "__init__" p2) (e :: es) [] p3) none l env = pure false)
    (hbody : ∀ (A : Around) (outer : List Env) (s : Shared) (H : Hp) (vs : List V) (Q : VK) (E : XK), Room k (A.deeper (envF ⟨name, qual, params, supS p0 p1 p2 p3 p4 e es :: body, scope, [("__class__", cc)], cda⟩ f s.heap.objs.size)) → sp vs H Q E →
      ∃ ta t, PA (ncx CX P w K mg base N ⟨name, qual, params, supS p0 p1 p2 p3 p4 e es :: body, scope, [("__class__", cc)], cda⟩ f A outer s H E) (e :: es) ta ∧
        PSs (ncx CX P w K mg base N ⟨name, qual, params, supS p0 p1 p2 p3 p4 e es :: body, scope, [("__class__", cc)], cda⟩ f A outer s H E) body t ∧ tSup K C ta t { nx := fun _ H' => Q .non H', rt := Q } (startF N vs [none]) H) :
    FnOk P w K mg base CX (k + 1) f (PySem.W.ksFn name qual params (supS p0 p1 p2 p3 p4 e es :: body) scope dV kV doc pm an (.ref cda) ct cc) ps sp := by
  refine ⟨len, fun A outer s H args us vs Q E hr e0 hb r hsp => ?_⟩
  have hl := len _ _ _ _ hsp
  have X0 : K.In s.heap := fun b o q => (e0.bs b o (e0.mod.kin b o q)).1
  obtain ⟨oc, od, osl, ho⟩ := Z.fn
  obtain ⟨ccl, cdd, cvs, ccs, file, tf, hcode, hvs, hfile⟩ := Z.file
  obtain ⟨cl, cld, csl, hcell⟩ := Z.cell
  have C0 : CellsAt [("__class__", cc)] ["__class__"] [none] s.heap H := by
    refine ⟨rfl, fun y c q => ?_, fun x y c q1 q2 => ?_, fun i y q => ?_⟩
    · have q1 := List.mem_singleton.mp (PySem.mem_of_lookup q)
      obtain ⟨_, rfl⟩ := Prod.mk.inj q1
      exact ⟨(e0.bs _ _ (e0.mod.kin _ _ hcell)).2, _, _, X0 _ _ hcell, rfl⟩
    · have q1 := List.mem_singleton.mp (PySem.mem_of_lookup q1)
      have q2 := List.mem_singleton.mp (PySem.mem_of_lookup q2)
      exact (Prod.mk.inj q1).1.trans (Prod.mk.inj q2).1.symm
    · have hi : i = 0 := by
        cases i with
        | zero => rfl
        | succ i => simp at q
      subst hi
      obtain rfl : ("__class__" : Str) = y := Option.some.inj q
      exact ⟨cc, rfl, fun v z => by cases z⟩
  obtain ⟨ta, t, hA, hT, hq⟩ := hbody A outer s H vs Q E (hr.deeper _) hsp
  have lim : s.heap.NoLimit := e0.mod.nolimit.keeps fun b o q => (e0.bs b o q).1
  refine PySem.ks_codeAny_call_defAt (body := supS p0 p1 p2 p3 p4 e es :: body) (binds := ps.zip us) hr.depth (X0 _ _ ho) rfl lim (PySem.W.codeRec_of X0 Z.cd) rfl hb S.nocell (fun ⟨n, _⟩ hy => S.par n (List.of_mem_zip hy).1) (fun h₁ hns kp => ?_) S.co S.gen S.kind
  have I : Inv (ncx CX P w K mg base N ⟨name, qual, params, supS p0 p1 p2 p3 p4 e es :: body, scope, [("__class__", cc)], cda⟩ f A outer s H E) [] (startF N vs [none]) H { s with heap := h₁, toks := s.toks + (ps.zip us).length } := inv_startN S hr.hd e0 hl r C0 hns kp
  have hkc : scope.names.lookup ("__class__" : Str) = some .free := S.frk _ List.mem_cons_self
  have hka : scope.names.lookup ar.arg = some .local := S.par _ hpa
  obtain ⟨a, e1, ea, hq⟩ := hq
  obtain ⟨nm, q0, Nn, bs, bm, sn, sub, ab, col, dd, k0, k1, k2, k3, k5, hC, hbm⟩ := Z.ex.cls
  have hcl : PySem.W.clsIn K C = some { name := nm, bases := bs, mro := .ref C :: bm, ns := Nn, qualname := q0, hasDict := true, slotNames := sn, subclasses := sub, abstract := ab, collection := col, hasDel := false } := by unfold PySem.W.clsIn; rw [hC] <;> rfl
  have X1 : K.In h₁ := I.kIn
  obtain ⟨t1, hoa⟩ := exo_at I.hok ea
  have hoa : h₁.get? a = some ({ cls := .ref C, dict := none, data := .fields #[.ref t1, .none, .none, .none, .bool false, .none] } : Obj) := hoa
  have IA : ∀ {h : Heap} {t1 : Addr}, h.get? a = some ({ cls := .ref C, dict := none, data := .fields #[.ref t1, .none, .none, .none, .bool false, .none] } : Obj) → PySem.W.InstAt h a { cls := .ref C, dict := none, data := .fields #[.ref t1, .none, .none, .none, .bool false, .none] } C none := fun z => ⟨z, rfl, rfl, trivial⟩
  have hxC : a ≠ C := PySem.W.ks_ne X1 (IA hoa) hcl
  obtain ⟨m, hn, hlo⟩ := id I.loc
  obtain ⟨u, ru, lo⟩ := hlo 0 ar.arg (.ref a) hN0 e1 (.inl hka)
  obtain rfl : u = Value.ref a := ru
  have hm : m ar.arg = some (.ref a) := by
    rcases lo with ⟨_, z⟩ | ⟨z, _⟩
    · exact z
    · have z : scope.names.lookup ar.arg = some .cell ∨ scope.names.lookup ar.arg = some .free := z
      rw [hka] at z
      rcases z with z | z <;> cases z
  have hn : h₁.Ns s.heap.objs.size m := hn
  refine PySem.ks_wpAt_execs_cons (PySem.ks_wpAt_Expr_any ?_ (show (scope.kind == ScopeKind.module && _) = false by rw [S.kind]; rfl) (hsw _ _))
  refine PySem.ks_wpAt_MethodCall (pl := pl) ?_ (hc _)
  obtain ⟨mb, hb1, hb2⟩ := I.mod.blt
  refine PySem.ks_wpAt_super_base (ar := ar) hks hkc rfl rfl (X1 _ _ ho) rfl hp rfl (X1 _ _ hcode) rfl hvs hfile Z.top ?_
  refine PySem.W.ks_loadName_global S.kind hks (Calls.loadGlobal_builtin (I.mod.glob.keeps I.bk) Z.sup (hb1.keeps I.bk) ((hb2 "super" (by decide)).trans (show bootBuiltins "super" = some (.type "super") by kernel_rfl)) ⟨rfl, ?_⟩)
  refine wpAny_loadName_free S.kind hkc rfl ⟨_, X1 _ _ hcell, rfl⟩ ?_
  refine wpAny_loadName_local S.kind hka hn hm ?_
  refine PySem.ks_wpAny_isType_cls (X1 _ _ hC) rfl ⟨rfl, ?_⟩
  refine PySem.ks_wpAny_call_super (X1 _ _ hC) rfl hoa rfl (fun c z => by cases z) (PySem.W.looks_mroIn X1 Z.mro) (fun h2 hso kp2 => ?_)
  have I2 := I.kept (t' := s.toks + (ps.zip us).length) kp2
  have X2 : K.In h2 := I2.kIn
  have hoa2 := kp2 _ _ hoa
  have hmet : PySem.W.alongIn K "__init__" (((.ref C :: bm).dropWhile (· != .ref C)).drop 1) = some (some (.builtin "ValueError.__init__")) := by
    have z := Z.meth
    unfold PySem.W.ks_superIn at z
    rw [hcl] at z
    exact z
  refine PySem.W.kxs_getMethod PySem.W.kxs_ValueError (l₀ := .ref C :: bm) hso (PySem.W.looks_opaque X2 Z.oth) (fun A Q E s k q => wpAny_bind ((PySem.W.looks_clsIn X2 hcl) A _ E s k (wpAny_pure q))) rfl X2 hmet
    ((IA hoa2).type.andThen (PySem.W.looks_subIn X2 Z.ve)) hxC (by decide) ?_
  have hfree : H h2.objs.size = none := I2.hok.fresh (Nat.le_refl _)
  have I3 := I2.kept (t' := s.toks + (ps.zip us).length + 1) (h' := h2.push (PySem.W.kxs_mw "ValueError.__init__" a)) (fun b o z => Heap.get?_push_of_some _ z)
  have hu3 : (h2.push (PySem.W.kxs_mw "ValueError.__init__" a)).get? h2.objs.size = some (PySem.W.kxs_mw "ValueError.__init__" a) := Heap.get?_push_size _ rfl
  have notIn : h2.objs.size ∉ frs (envF ⟨name, qual, params, supS p0 p1 p2 p3 p4 e es :: body, scope, [("__class__", cc)], cda⟩ f s.heap.objs.size :: outer) := fun hm => by
    obtain ⟨_, o', e', _⟩ := I2.stack.mem hm
    exact absurd (Heap.lt_size e') (Nat.lt_irrefl _)
  have I4 := I3.pins_of (pins' := [(h2.objs.size, PySem.W.kxs_mw "ValueError.__init__" a)]) (fun p hp => by
    obtain rfl := List.mem_singleton.mp hp
    refine ⟨hu3, hfree, fun z => ?_, fun z => ?_, fun v z => by cases z⟩
    · exact notIn (List.mem_filterMap.mpr ⟨_, List.mem_cons_self, congrArg some z.symm⟩)
    · obtain ⟨e', he', q'⟩ := List.mem_filterMap.mp z
      exact notIn (List.mem_filterMap.mpr ⟨e', List.mem_cons_of_mem _ he', q'⟩))
  dsimp only
  rw [hst]
  refine PySem.W.kxs_callWith (i := "ValueError.__init__") (x := a) (by show (false || (backTo p3 (starEach es _)).any (·.1)) = false; rw [hpl]; rfl) (evalArgs_plain ?_)
  have hrun := hA.run p3 _ _ _ H _ I4 hq
  rw [hst] at hrun
  refine thn hrun fun us1 s1 ⟨vs1, H1, I5, r1, hz, ea1, q1⟩ => ?_
  have hus : us1.length ≤ sizeLine := by
    rw [← Paired.length r1, sizeLine_eq]
    omega
  obtain ⟨hu5, _⟩ := I5.pin (h2.objs.size, PySem.W.kxs_mw "ValueError.__init__" a) (List.mem_append_right _ List.mem_cons_self)
  refine ⟨hu5, ?_⟩
  obtain ⟨t5, ho5⟩ := exo_at I5.hok ea1
  have X5 : K.In s1.heap := I5.kIn
  obtain ⟨hp5, g5, d5, tk5, os5⟩ := s1
  refine wpAny_call (codeAny_of_tree ?_)
  show wpAny _ _ (callAny (.ref h2.objs.size) ⟨us1, []⟩) _ _ _
  simp only [callAny]
  refine wpAny_bind (wpAny_load hu5 ?_)
  simp only [PySem.W.kxs_mw, show (Value.type "method-wrapper" == Value.type "method" || Value.type "method-wrapper" == Value.type "builtin_function_or_method" || Value.type "method-wrapper" == Value.type "method-wrapper") = true by decide, if_true]
  refine PySem.W.KFB.if_so (by decide) ?_
  refine wpAny_bind (PySem.W.check_bound_init F.excBase_ValueError.toExcCallFacts (X5 _ _ hC) ho5 rfl ?_)
  refine wpAny_bind (wpAny_pure (wpAny_pure ?_))
  refine ⟨plainId_quiet F.excBase_ValueError.init.plain _, codeAny_builtin F.excBase_ValueError.initEntry ?_⟩
  refine PySem.W.exc_init_tree (cls := .ref C) (t0 := t5) (dv := none) (c2 := .none) (c3 := .none) (b4 := .bool false) ho5 hus fun h6 k6 e6 _ => ?_
  have J := I5.write (t' := tk5) (x := a) (e := a) (o := exo a C none) (by rw [ea1]; exact True.intro) (.inl rfl) k6 ⟨_, e6⟩ (exo_ok e6)
  have eu : upd H1 a (exo a C none) = H1 := by
    funext b
    by_cases hb : b = a
    · rw [hb, upd_same, ea1]
    · rw [upd_ne hb]
  rw [eu] at J
  refine wpAt_of_wpAny (wpAny_mono (hT.run _ _ _ H1 _ J q1) (fun fl s' hs => ?_) fun e s' hs => hs)
  have fin : ∀ {σ' : L2.St} {H' : Hp} {v : V} {u : Value} {pn' : List (Addr × Obj)}, L2.Inv (ncx CX P w K mg base N ⟨name, qual, params, supS p0 p1 p2 p3 p4 e es :: body, scope, [("__class__", cc)], cda⟩ f A outer s H E) pn' σ' H' s' → L2.RelV v u → Q v H' → CE outer P w H s Q u s' :=
    fun {σ' H' v u pn'} J rv q => ⟨v, H', J.os, J.bare, J.base, J.hok, rv, q⟩
  cases fl with
  | ret u =>
    obtain ⟨v, σ', H', J, rv, q⟩ := hs
    exact fin J rv q
  | next =>
    obtain ⟨σ', H', J, q⟩ := hs
    exact fin (v := V.non) (u := Value.none) J rfl q
  | brk =>
    obtain ⟨_, _, _, q⟩ := hs
    exact False.elim q
  | cont =>
    obtain ⟨_, _, _, q⟩ := hs
    exact False.elim q
end
end My
end

section
set_option Elab.async false
set_option maxRecDepth 100000
set_option maxHeartbeats 4000000
set_option linter.all false
/-! errors: a def called from an except suite with the error it got; isinstance and fields of the error there -/
namespace PySem.W
open PySem PySem.Spec PySem.Calls PyProof.Rows
section
variable {prog : Program} {w : World} {A : Around} {E : Value → Shared → Prop} {s : Shared} {K : Frag} {x D : Addr} {ox : Obj}
theorem findObj_dataO {C : Addr} {od : Option Obj} {name : Str} {a g : Value} (hc : (clsIn K C).isSome = true) (ha : findIn K (.ref C) name = some (some a)) (hg : specialIn K a "__get__" = some (some g)) (ht : takesIn K a = some true) : findObj K C od name = some (.bind g a) := by
  obtain ⟨cd, hc⟩ := Option.isSome_iff_exists.mp hc
  unfold findObj
  rw [hc, Option.bind_some, ha, Option.bind_some]
  simp [hg, ht]
theorem kin_classO {od : Option Obj} {Q : Option Value → Shared → Prop} (hga : findIn K (.ref D) "__getattribute__" = some (some (.builtin "BaseException.__getattribute__"))) (hgt : findIn K (.ref D) "__getattr__" = some none) (hsub : subIn K (.ref D) (.type "BaseException") = some true)
    (hdct : hasDictIn K D = true) (ha : findIn K (.ref D) "__class__" = some (some (.builtin "object.__class__")))
    (hn : specialIn K (.builtin "object.__class__") "__get__" = some (some (.builtin "getset_descriptor.__get__"))) (htk : takesIn K (.builtin "object.__class__") = some true) (hm : mroIn K D (.type "object") = some true)
    (X : K.In s.heap) (I : InstAt s.heap x ox D od) (h : Q (some (.ref D)) { s with toks := s.toks + 1 }) : wpAny (model prog w) A (getAttr? (.ref x) "__class__") Q E s := by
  have hf : findObj K D od "__class__" = some (.bind (.builtin "getset_descriptor.__get__") (.builtin "object.__class__")) := findObj_dataO (by obtain ⟨cd, hc, _⟩ := any_some hdct; rw [hc]; rfl) ha hn htk
  obtain ⟨hp, g, d, t, os⟩ := s
  have L0 := I.type (M := model prog w)
  have L1 := looks_findIn (M := model prog w) X hga
  have L2 := looks_findIn (M := model prog w) X hgt
  have L3 := looks_find (M := model prog w) X I hf
  have sub : Looks (model prog w) hp (isInstance (.ref x) (.type "BaseException")) true := L0.andThen (looks_subIn X hsub)
  have hx0 : (false && onTheHeap (Value.builtin "BaseException.__getattribute__")) = false := rfl
  have hx2 : (Value.builtin "BaseException.__getattribute__" == Value.builtin "object.__getattribute__") = false := by decide +kernel
  have hx1 : (onTheHeap (Value.ref D) && Value.builtin "BaseException.__getattribute__" == Value.builtin "object.__getattribute__") = false := by rw [hx2]; rfl
  unfold getAttr? getAttrBy? getAttrBy
  refine wpAny_bind (wpAny_mkText (wpAny_bind (wpAny_attempt (wpAny_holding (wpAny_bind (L0.at (wpAny_bind (L1.at ?_))))))))
  show wpAny _ _ (if (onTheHeap (Value.ref D) && Value.builtin "BaseException.__getattribute__" == Value.builtin "object.__getattribute__") = true then _ else _) _ _ _
  rw [hx1, if_neg Bool.false_ne_true]
  unfold getAttrByItsOwn hookBefore
  refine wpAny_bind ?_
  rw [if_pos (show onTheHeap (Value.ref D) = true from rfl)]
  refine L2.at ?_
  refine wpAny_bind (wpAny_attempt (wpAny_holding ?_))
  unfold callGetattribute
  rw [hx0, if_neg Bool.false_ne_true]
  unfold boundAndCalled
  rw [PySem.F.excAttr_ValueError.ga.bind (.ref x)]
  refine wpAny_bind (wpAny_pure ?_)
  show wpAny _ _ (call (.builtin "BaseException.__getattribute__") [.ref x, .str "__class__" t]) _ _ _
  refine wpAny_call (codeAny_call_builtin PySem.F.excAttr_ValueError.ga.plain PySem.F.entry_bexc_ga ?_)
  refine @check_slot (model prog w) _ _ ⟨hp, g, d, t + 1, os⟩ "BaseException.__getattribute__" "BaseException" "__getattribute__" (.ref x) [.str "__class__" t] [] _ (by decide +kernel) (by decide +kernel) sub (PySem.F.args_bexc_ga (.ref x) (.str "__class__" t)) ?_
  unfold Builtin.«object.__getattribute__»
  refine wpAny_bind (wpAny_of_eq (a := ((Value.ref x : Value), [Value.str "__class__" t])) (by first | rfl | (simp only [slotArgs]; rfl)) ?_)
  refine wpAny_bind (wpAny_pure (wpAny_bind (L0.at (wpAny_bind (L3.at ?_)))))
  show wpAny _ _ (holding [Value.builtin "object.__class__"] (call (.builtin "getset_descriptor.__get__") [.builtin "object.__class__", .ref x, .ref D]) >>= ret) _ _ _
  refine wpAny_bind (wpAny_holding (wpAny_call (class_get (s := ⟨hp, g, d, t + 1, os⟩) (ox := ox) (od := od) X I hm ?_)))
  refine wpAny_pure ?_
  show wpAny _ _ (handedOut (.ref D)) _ _ _
  rw [handedOut_of (v := .ref D) rfl]
  first
    | exact wpAny_pure (wpAny_pure h)
    | exact wpAny_pure h
    | exact wpAny_pure (wpAny_bind (wpAny_pure (wpAny_pure h)))
theorem kitx_excO {od : Option Obj} (hga : findIn K (.ref D) "__getattribute__" = some (some (.builtin "BaseException.__getattribute__"))) (hgt : findIn K (.ref D) "__getattr__" = some none) (hsub : subIn K (.ref D) (.type "BaseException") = some true) (hdct : hasDictIn K D = true) (ha : findIn K (.ref D) "__class__" = some (some (.builtin "object.__class__")))
    (hn : specialIn K (.builtin "object.__class__") "__get__" = some (some (.builtin "getset_descriptor.__get__"))) (htk : takesIn K (.builtin "object.__class__") = some true) (hm : mroIn K D (.type "object") = some true) :
    KitX K (.ref x) (.ref D) (fun h => InstAt h x ox D od) where
  ty := fun _ _ _ I => I.type
  it := fun _ _ X _ => by
    obtain ⟨cdD, hcD, _⟩ := any_some hdct
    unfold clsIn at hcD
    split at hcD
    · rename_i c' d' cd' sl' ho
      intro A' Q' E' s' k q
      unfold isType loadHead
      exact wpAny_bind (wpAny_loadPart (k _ _ (X _ _ ho)) (wpAny_pure q))
    · cases hcD
  ne := fun h tp dd its n sl X htp => by
    obtain ⟨cdD, hcD, _⟩ := any_some hdct
    refine Bool.eq_false_iff.mpr fun q => ?_
    have e : D = tp := Value.ref.inj (beq_iff_eq.mp q)
    subst e
    unfold clsIn at hcD
    split at hcD
    · rename_i c' d' cd' sl' ho
      have z := (X _ _ ho).symm.trans htp
      cases z
    · cases hcD
  ca := fun X I k => kin_classO hga hgt hsub hdct ha hn htk hm X I k
end
end PySem.W
namespace L2H
open PySem PySem.Spec PyProof.Rows L2 HotX
/-- what a def promises that is called while p's error is handled, and knows p -/
structure FnE (P : Program) (w : World) (K : PySem.W.Frag) (mg : Str → Option Value) (base : Heap) (CX : CXT) (k : Nat) (f : Addr) (fd : FuncData) (ps : List Str) (sp : Addr × Obj → Sp) : Prop where
  len : ∀ p vs H Q E, sp p vs H Q E → vs.length = ps.length
  run : ∀ (A : Around) (outer : List Env) (s : Shared) (H : Hp) (args : Args) (us : List Value) (vs : List V) (Q : VK) (E : XK) (p : Addr × Obj), RoomH k A → PinOk outer H s p → Env0 P w K mg base A outer s H → BindsTo s fd args (ps.zip us) → Vals vs us → sp p vs H Q E →
    codeAny (model P w) A (.call (.ref f) args) (CR CX outer P w H s Q E) s
theorem fn_ofE2 {CX : CXT} {P : Program} {w : World} {K : PySem.W.Frag} {mg : Str → Option Value} {base : Heap} {k : Nat} {f : Addr} {name qual : Str} {params : Arguments} {body : List Stmt} {scope : Scope} {dV kV doc pm cdv ct oc : Value} {an od : Option Addr}
    {osl : Array (Option Value)} {N ps : List Str} {sp : Addr × Obj → Sp} (lk : K.lookup f = some ⟨oc, od, .func (PySem.W.fnOf name qual params body scope dV kV doc pm an cdv ct), osl⟩) (hcd : PySem.W.codeIn K cdv qual = true) (S : FnScope N ps scope)
    (len : ∀ p vs H Q E, sp p vs H Q E → vs.length = ps.length)
    (hbody : ∀ (A : Around) (outer : List Env) (s : Shared) (H : Hp) (vs : List V) (Q : VK) (E : XK) (p : Addr × Obj), RoomH k (A.deeper (envOfC qual scope s.heap.objs.size f cdv)) → sp p vs H Q E →
      ∃ t, PSs (cxH CX P w K mg base N qual scope f cdv A outer s H E p) body t ∧ t { nx := fun _ H' => Q .non H', rt := Q } (L2.start N vs) H) :
    FnE P w K mg base CX (k + 1) f (PySem.W.fnOf name qual params body scope dV kV doc pm an cdv ct) ps sp := by
  refine ⟨len, fun A outer s H args us vs Q E p hr hpin e0 hb r hsp => ?_⟩
  have hl := len _ _ _ _ _ hsp
  have KX : K.In s.heap := e0.mod.kin.keeps fun b o e => (e0.bs b o e).1
  have lim : s.heap.NoLimit := e0.mod.nolimit.keeps fun b o e => (e0.bs b o e).1
  have hkind : ∀ y ∈ ps.zip us, scope.names.lookup y.1 = some .local ∨ (scope.names.lookup y.1 = some .cell ∧ ((cellsFrom (s.heap.objs.size + 1) scope.names []).lookup y.1).isSome = true) := fun ⟨n, v⟩ hy => by
    rcases S.par n (List.of_mem_zip hy).1 with q | q
    · exact .inl q
    · exact .inr ⟨q, PySem.W.cellsFrom_some _ _ _ (.inl q)⟩
  refine codeAny_call_function hr.depth (KX _ _ lk) rfl S.co S.gen rfl (PySem.W.codeRec_of KX hcd) (hb _ _ _ _ ?_)
  refine wpAny_newFunctionEnv_cells S.kind hkind fun env he s1 x => ?_
  subst he
  refine ⟨lim.keeps x.toInCall.keep, codeAny_func ?_⟩
  obtain ⟨t, ht, hq⟩ := hbody A outer s H vs Q E p (hr.deeper _) hsp
  have I : Inv (cxH CX P w K mg base N qual scope f cdv A outer s H E p) [] (L2.start N vs) H s1 := inv_startH S hpin e0 hl r x
  refine wpAny_mono (ht.run [] s1 (L2.start N vs) H _ I hq) (fun fl s' hs => ?_) fun e s' hs => hs
  have fin : ∀ {σ' : St} {H' : Hp} {v : V} {u : Value}, Inv (cxH CX P w K mg base N qual scope f cdv A outer s H E p) [] σ' H' s' → RelV v u → Q v H' → CE outer P w H s Q u s' :=
    fun {σ' H' v u} J rv q => ⟨v, H', J.os, J.bare, J.base, J.hok, rv, q⟩
  cases fl with
  | ret u =>
    obtain ⟨v, σ', H', J, rv, q⟩ := hs
    exact fin J rv q
  | next =>
    obtain ⟨σ', H', J, q⟩ := hs
    exact fin (v := V.non) (u := Value.none) J rfl q
  | brk =>
    obtain ⟨_, _, _, q⟩ := hs
    exact False.elim q
  | cont =>
    obtain ⟨_, _, _, q⟩ := hs
    exact False.elim q

section
variable {X : Cx} {CX : CXT} {k : Nat} {f C : Addr} {fd : FuncData} {ps : List Str} {sp : Addr × Obj → Sp} {E : St → XK} {x m : Str} {q pos apos : Pos} {e o : Expr} {es : List Expr} {ta : TE} {t : TA}
theorem run_fnE {pins : List (Addr × Obj)} {σ : St} {H : Hp} {s : Shared} {Q : VK} {us : List Value} {vs : List V} (F : FnE X.prog X.w X.K X.mg X.base CX k f fd ps sp) (hr : RoomH k X.A) {p : Addr × Obj} (hp : p ∈ X.pn) (hb : Binds X.K fd ps []) (hx : PassesAt CX X σ (E σ))
    (I : Inv X pins σ H s) (r : Vals vs us) (h : sp p vs H Q (E σ)) : wpAny (model X.prog X.w) X.A (call (.ref f) us) (EP X pins σ Q) X.xe s := by
  have hl : us.length = ps.length := by rw [← r.length]; exact F.len _ _ _ _ _ h
  have b := hb s us I.kIn (by rw [List.append_nil]; exact hl)
  rw [List.append_nil] at b
  have P1 := I.pin p (List.mem_append_left _ hp)
  have hpin : PinOk X.stack H s p := ⟨P1.1, P1.2.1, fun hm => (List.mem_cons.mp (I.stkSub p.1 hm)).elim P1.2.2.1 P1.2.2.2.1, P1.2.2.2.2⟩
  refine wpAny_call (codeAny_mono (F.run X.A X.stack s H ⟨us, []⟩ us vs Q (E σ) p hr hpin I.env0 b r h) fun r s' hq => ?_)
  cases r with
  | error e => exact hx pins H s e s' I hq
  | ok fl =>
    cases fl with
    | ret u => exact I.after hq
    | next => exact False.elim hq
    | brk => exact False.elim hq
    | cont => exact False.elim hq
theorem pe_callE (F : FnE X.prog X.w X.K X.mg X.base CX k f fd ps sp) (hr : RoomH k X.A) {p : Addr × Obj} (hp : p ∈ X.pn) (hg : Gl X x) (hm : X.mg x = some (.ref f)) (hk : PySem.W.keepIn X.K (.ref f) = true) (hb : Binds X.K fd ps []) (hx : ∀ σ, PassesAt CX X σ (E σ))
    (ha : PA X (e :: es) t) (hdb : (x == ("__debug__" : Str)) = false := by decide) (he : starEach (e :: es) X.env = (false, eval e X.env) :: starEach es X.env := by rfl) (hpl : (backTo pos (starEach es X.env)).any (·.1) = false := by rfl) :
    PE X (.Call (.Name x q) (e :: es) [] pos) (tCallS (sp p) E t) := by
  refine ⟨fun pins s σ H Q I h => ?_⟩
  refine wpAny_Call_Name_kw (ld_glob I hg hm ?_ hdb)
  refine PySem.W.callWith_K (h₀ := X.base) I.ok.mod.kin hk (thn (ha.run pos pins s σ H _ I h) fun us s1 ⟨vs, H1, I1, r, q⟩ => ⟨I1.kIn, ?_⟩) he hpl
  exact run_fnE F hr hp hb (hx σ) I1 r q
end
end L2H
namespace My
open PySem PySem.Spec PySem.Calls PyProof.Rows L2 L2H
/-- isinstance(e, c), e the error that is handled (at a, of the class at D, its dict at d); c a class or a tuple of classes -/
def rIsP (K : PySem.W.Frag) (D a d : Addr) : List V → Hp → VK → Prop := fun xs H Q => (∃ fs, H d = some (.xd fs)) ∧ ∃ (c : V) (b : Bool), xs = [.ref a, c] ∧ Q (.bl b) H ∧
  ((∃ cv, (∀ u, RelV c u → u = cv) ∧ PySem.W.kitOne K (.ref D) cv = some b) ∨ ∃ (tp : Addr) (cs : List V) (cvs : List Value), c = .ref tp ∧ H tp = some (.tup cs) ∧ (∀ us, Vals cs us → us = cvs) ∧ PySem.W.kitAny K (.ref D) cvs = some b)
theorem xd_dict {X : Cx} {pins : List (Addr × Obj)} {σ : L2.St} {H : Hp} {s : Shared} {d : Addr} {fs : List (Str × V)} (I : Inv X pins σ H s) (h : H d = some (.xd fs)) : ∃ od, s.heap.get? d = some od := by
  have hx : ObjOk X.prog X.w H s.heap d (.xd fs) := I.hok d _ h
  obtain ⟨mA, ⟨o, _, _, ho, _⟩, _⟩ := hx
  exact ⟨o, ho⟩
theorem call_isP {X : Cx} {a D d : Addr} {oe : Obj} (C : ExcC X.K D) (hz : Zc (.ref D) (some d) oe) (hf : ∃ vs, oe.data = .fields vs) (hp : (a, oe) ∈ X.pn) : CallR X (.builtin "isinstance") (rIsP X.K D a d) := by
  intro pins s σ H xs us Q I r h
  obtain ⟨⟨fs, hd⟩, c, b, rfl, q, hc⟩ := h
  cases r with
  | cons rx rr =>
    cases rr with
    | cons rt rr =>
      cases rr
      cases rx
      obtain ⟨hget, _⟩ := I.pin (a, oe) (List.mem_append.mpr (.inl hp))
      obtain ⟨od, hod⟩ := xd_dict I hd
      obtain ⟨vs, hv⟩ := hf
      have J : PySem.W.InstAt s.heap a oe D (some od) := ⟨hget, hz.1, by unfold PySem.W.notCls; rw [hv] <;> rfl, by rw [hz.2]; exact hod⟩
      have KT := PySem.W.kitx_excO (K := X.K) (x := a) (D := D) (ox := oe) (od := some od) C.hg C.hk C.hs C.hd C.ha C.hn C.ht C.hm
      rcases hc with ⟨cv, hcv, e⟩ | ⟨tp, cs, cvs, rfl, ht, hcv, e⟩
      · have ec := hcv _ rt
        subst ec
        exact PySem.W.kia_one KT I.kIn J e (fun z => nomatch z) fun tk => ⟨.bl b, H, I.kept (t' := tk) fun _ _ z => z, rfl, q⟩
      · cases rt
        have ht' : ObjOk X.prog X.w H s.heap tp (.tup cs) := I.hok tp _ ht
        obtain ⟨_, its, hvs, o, ho, hoc, n, hod2⟩ := ht'
        have ev := hcv _ hvs
        subst ev
        obtain ⟨oc, odd, oda, osl⟩ := o
        dsimp only at hoc hod2
        subst hoc hod2
        exact PySem.W.kia_tup KT I.kIn J ho e (fun z => nomatch z) fun tk => ⟨.bl b, H, I.kept (t' := tk) fun _ _ z => z, rfl, q⟩
/-- e.f of the error at a of the class at C, its dict at d -/
def tXp (a d : Addr) (f : Str) (te : TE) : TE := fun σ H Q => te σ H fun x H1 => x = .ref a ∧ ∃ (fs : List (Str × V)) (v : V), H1 d = some (.xd fs) ∧ fs.lookup f = some v ∧ Q v H1
theorem pe_xp {X : Cx} {a C d : Addr} {oe : Obj} {e : Expr} {te : TE} {pos : Pos} {n : Str} (T : XfC X.K C) (hno : PySem.W.findIn X.K (.ref C) n = some none)
    (hz : Zc (.ref C) (some d) oe) (hf : ∃ vs, oe.data = .fields vs) (hp : (a, oe) ∈ X.pn) (he : PE X e te) (hb : attributeBase e n X.env (eval e X.env) = eval e X.env := by rfl) :
    PE X (.Attribute e n pos) (tXp a d n te) := by
  refine ⟨fun pins s σ H Q I h => ?_⟩
  refine attr_of hb (thn (he.run pins s σ H _ I h) fun u s1 hh => ?_)
  obtain ⟨x, H1, I1, rx, ex, fs, v, ea, l, q⟩ := hh
  subst ex
  obtain rfl : u = Value.ref a := rx
  obtain ⟨ha, _⟩ := I1.pin (a, oe) (List.mem_append_left _ hp)
  obtain ⟨vs, hd⟩ := hf
  have hx : ObjOk X.prog X.w H1 s1.heap d (.xd fs) := I1.hok d _ ea
  obtain ⟨mA, hns, hr⟩ := hx
  obtain ⟨od, ho, hl⟩ := lookIn_ns hns
  obtain ⟨u, hu, ru⟩ := RelO.some_of (v := v) (o := mA n) (by rw [← l]; exact hr n)
  have J : PySem.W.InstAt s1.heap a oe C (some od) := ⟨ha, hz.1, by unfold PySem.W.notCls; rw [hd] <;> rfl, by rw [hz.2]; exact ho⟩
  exact HandSPX.exc_get I1.kIn J T.ga T.gg T.exC (PySem.W.findObj_own T.hdC hno rfl (by rw [hl, hu])) (handed_of ru) ⟨v, H1, I1.tok _, ru, q⟩
end My
end

section
set_option Elab.async false
set_option maxRecDepth 100000
set_option maxHeartbeats 4000000
set_option linter.all false
/-! errors: a def that calls a lambda and tells its error by another def -/
namespace My
open PySem PySem.Spec PySem.Calls PyProof.Rows L2 L2H LamX
/-- what a def tells that gets the error which is handled: it, its class, its dict -/
abbrev SpX : Type := Addr → Value → Option Addr → Sp
def spP (spF : SpX) : Addr × Obj → Sp := fun p vs H Q E => (∃ fv, p.2.data = .fields fv) ∧ spF p.1 p.2.cls p.2.dict vs H Q E
/-- try: return ["told", a()] / except (..) as e: return y(e) -/
def TSaid (K : PySem.W.Frag) (cs : List Value) (spF : SpX) : (XK → Hp → VK → Prop) → Hp → VK → Prop := fun tl H Q =>
  ∃ Ech : XK, (∀ cls d H', Ech cls d H' → PySem.W.exmAny K cls cs = some true ∧ ∀ a, H' a = none → spF a cls d [.ref a] H' Q C8.E0) ∧
   tl Ech H fun v H1 => [V.str "told", v].length ≤ sizeLine ∧ ∀ p, H1 p = none → Q (.ref p) (upd H1 p (.lst [.str "told", v]))
theorem said_gives {X : Cx} {Ng : List Str} {x a q e y pe : Str} {sg : Scope} {g fF : Addr} {cdg : Value} {k x1 jj : Nat} {fdF : FuncData} {es : List Expr} {cs : List Value} {spF : SpX} {p2 p3 p4 p5 p6 p7 p8 p9 p10 p11 p12 p13 : Pos}
    (hNd : Ng.Nodup) (h1 : Ng[1]? = some e) (hle : sg.names.lookup e = some .local) (h0 : ∀ f : Addr, (L2.start Ng [V.ref f])[0]? = some (some (V.ref f))) (hr : Room (k + 1) X.A)
    (hA : ∀ Z : Cx, Z.env.scope = sg → Z.mg = X.mg → AllNames Z es cs) (hlen : cs.length ≤ sizeLine)
    (F : FnE X.prog X.w X.K X.mg X.base C8.CX0 k fF fdF [pe] (spP spF)) (hgl : sg.names.lookup y = some .globalImplicit) (hm : X.mg y = some (.ref fF)) (hk : PySem.W.keepIn X.K (.ref fF) = true) (hb : Binds X.K fdF [pe] [])
    (hdb : (y == ("__debug__" : Str)) = false := by decide) (hd : (e == ("__debug__" : Str)) = false := by decide) (hcd : (e == ("__classdict__" : Str)) = false := by decide) :
    GivesTo X Ng x sg g cdg [.Try [.Return (some (.List [.Constant (.str "told") jj p2, .Call (.Name a p3) [] [] p4] p5)) p6] [.ExceptHandler (some (.Tuple es x1 p7)) (some e) [.Return (some (.Call (.Name y p8) [.Name e p9] [] p10)) p11] p12] [] [] p13] a q (TSaid X.K cs spF) := by
  intro f c' s H Q tl act hc h
  obtain ⟨Ech, hE, htl⟩ := h
  have hle' : (cxOf C8.CX0 X.prog X.w X.K X.mg X.base Ng x sg g cdg X.A X.stack s H C8.E0).nox.env.kindOf e = some .local := hle
  refine ⟨_, pss_one (ps_try_asT (X := (cxOf C8.CX0 X.prog X.w X.K X.mg X.base Ng x sg g cdg X.A X.stack s H C8.E0).nox) (cs := cs) (i := 1)
      (tb := fun W D σ H => ∃ Ech : XK, (∀ cls d σ' H', Ech cls d H' → W cls d σ' H') ∧ σ[0]? = some (some (.ref f)) ∧ H c' = some (CodeO c' q) ∧ tl Ech H fun v H1 => [V.str "told", v].length ≤ sizeLine ∧ ∀ p, H1 p = none → D.rt (.ref p) (upd H1 p (.lst [.str "told", v])))
      (ts := fun a cls d D σ H => (σ[1]? = some (some (.ref a)) ∨ σ.length ≤ 1) ∧ spF a cls d [.ref a] H D.rt C8.E0)
      rfl rfl hNd h1 hle' (hA _ rfl rfl) hlen takes0 (fun W pn xe tk _ => ?_) (fun a oe cls d pn hz hf => ?_)), ?_⟩
  · refine ⟨fun pins s' σ H' D I h' => ?_⟩
    obtain ⟨Ec, hW, g1, g2, g3⟩ := h'
    have hp := act W pn xe Ec p3 p4 tk hW
    have hq := pss_one (ps_ret (pos := p6) (pe_lst (pos := p5) (pa_cons (pe_str (x := "told") (j := jj) (pos := p2)) (pa_cons hp pa_nil))))
    exact hq.run pins s' σ H' D I ⟨g1, g2, g3⟩
  · have hr' : RoomH k (((cxOf C8.CX0 X.prog X.w X.K X.mg X.base Ng x sg g cdg X.A X.stack s H C8.E0).nox).suite a ((a, oe) :: pn)).A := ⟨(hr.deeper (envOfC x sg s.heap.objs.size g cdg)).dp, (hr.deeper (envOfC x sg s.heap.objs.size g cdg)).un⟩
    have hq := pss_one (ps_ret (pos := p11) (pe_callE (X := ((cxOf C8.CX0 X.prog X.w X.K X.mg X.base Ng x sg g cdg X.A X.stack s H C8.E0).nox).suite a ((a, oe) :: pn)) (x := y) (q := p8) (pos := p10) (E := fun _ => C8.E0) (p := (a, oe)) F hr' List.mem_cons_self hgl hm hk hb
      (fun _ _ _ _ _ _ _ z => (show False from z).elim) (pa_cons (pe_var (i := 1) (pos := p9) h1 (.inl hle) hd hcd) pa_nil) hdb))
    refine ⟨fun pins s' σ H' D I h' => hq.run pins s' σ H' D I ?_⟩
    obtain ⟨hs, h2⟩ := h'
    have hlen2 : 1 < σ.length := by
      rw [I.len]
      exact (List.getElem?_eq_some_iff.mp h1).1
    have hs : σ[1]? = some (some (.ref a)) := hs.elim id fun z => absurd z (by omega)
    refine ⟨_, hs, hf, ?_⟩
    obtain ⟨z1, z2⟩ := hz
    subst z1 z2
    exact h2
  · refine ⟨Ech, fun cls d σ' H' z => ⟨true, (hE cls d H' z).1, fun _ a ha => ⟨?_, (hE cls d H' z).2 a ha⟩, fun z => by cases z⟩, h0 f, hc, htl⟩
    by_cases hl : 1 < σ'.length
    · exact .inl (List.getElem?_set_self hl)
    · exact .inr (by rw [List.length_set]; omega)
end My
end

section
set_option Elab.async false
set_option maxRecDepth 100000
set_option maxHeartbeats 4000000
set_option linter.all false
/-! what a head tells where the law makes lambdas and raises errors of own classes with super().__init__ -/
namespace My
open PySem PySem.Spec PyProof.Rows L2
/-! ### an __init__ whose body begins with super().__init__(..) -/
abbrev FnS : Type := Option (Str × Str × Arguments × FuncBody × Scope × Addr × List Str × Value × Addr)
/-- the class' name in the module, the def's qualified name, parameters, body, scope -/
structure SupD where
  cls : Str
  qual : Str
  params : Arguments
  body : List Stmt
  scope : Scope
abbrev SupD.C (d : SupD) (K : PySem.W.Frag) : Addr := He.ga K d.cls
abbrev SupD.f (d : SupD) (K : PySem.W.Frag) : Addr := He.ma K (d.C K) "__init__"
def SupD.obs (d : SupD) (K : PySem.W.Frag) : FnS := match K.lookup (d.f K) with
  | some ⟨_, _, .func fd, _⟩ => some (fd.name, fd.qualname, fd.params, fd.body, fd.scope, fd.globals, fd.closure.map (·.1), fd.defaults, fd.builtins)
  | _ => none
def SupD.val (d : SupD) : FnS := some ("__init__", d.qual, d.params, .stmts d.body, d.scope, mainGlobals, ["__class__"], .none, builtinsNs)
def oexB (K : PySem.W.Frag) (C : Addr) : Bool := (match K.lookup C with
  | some ⟨.type ty, _, .cls cd, sl⟩ => decide (ty = "type") && ((match cd.mro with
      | .ref C' :: bm => decide (C' = C) && PySem.HandSPX.refsVE bm
      | _ => false) && (cd.hasDict && (!cd.hasDel && (match sl.toList with
      | [_, _, _, _, some (.builtin n), _] => decide (n = "ValueError.__new__")
      | _ => false))))
  | _ => false) && (decide (PySem.W.findIn K (.ref C) "__setattr__" = some (some (.builtin "object.__setattr__"))) && (decide (PySem.W.subIn K (.ref C) (.type "BaseException") = some true) &&
    (decide (PySem.W.typeIn K (.ref C) = some (.type "type")) && PySem.W.keepIn K (.ref C))))
theorem oexB_ok {K : PySem.W.Frag} {C : Addr} (h : oexB K C = true) : OexC K C := by
  obtain ⟨h1, h2⟩ := He.ba h
  obtain ⟨h3, h4⟩ := He.ba h2
  obtain ⟨h5, h6⟩ := He.ba h4
  obtain ⟨h7, h8⟩ := He.ba h6
  refine ⟨?_, of_decide_eq_true h3, of_decide_eq_true h5, of_decide_eq_true h7, h8⟩
  cases q : K.lookup C with
  | none =>
    rw [q] at h1
    cases h1
  | some o =>
    obtain ⟨oc, od, dt, sl⟩ := o
    rw [q] at h1
    cases oc with
    | type ty =>
      cases dt with
      | cls cd =>
        obtain ⟨nm, bs, mro, ns, qn, hd, sn, sub, ab, col, del⟩ := cd
        obtain ⟨g1, g2⟩ := He.ba h1
        obtain ⟨g3, g4⟩ := He.ba g2
        obtain ⟨g5, g6⟩ := He.ba g4
        obtain ⟨g7, g8⟩ := He.ba g6
        have e1 : ty = "type" := of_decide_eq_true g1
        subst e1
        dsimp only at g3 g5 g7
        subst g5
        have g7 : del = false := by
          cases del with
          | false => rfl
          | true => cases g7
        subst g7
        split at g3
        · rename_i C' bm
          obtain ⟨g9, g10⟩ := He.ba g3
          have e2 : C' = C := of_decide_eq_true g9
          subst e2
          split at g8
          · rename_i k0 k1 k2 k3 n k5 hs
            have e3 : n = "ValueError.__new__" := of_decide_eq_true g8
            subst e3
            have hsl : sl = #[k0, k1, k2, k3, some (.builtin "ValueError.__new__"), k5] := by
              obtain ⟨l⟩ := sl
              simp only at hs
              rw [hs]
            subst hsl
            exact ⟨nm, qn, ns, bs, bm, sn, sub, ab, col, od, k0, k1, k2, k3, k5, rfl, g10⟩
          · cases g8
        · cases g3
      | _ => cases h1
    | _ => cases dt <;> cases h1
/-- what else is asked of it; file: the text's file -/
def SupD.ok (d : SupD) (file : Str) (K : PySem.W.Frag) : Bool := (match K.lookup (d.f K) with
  | some ⟨_, _, .func fd, _⟩ => (match fd.code with
      | .ref c => PySem.W.codeIn K (.ref c) d.qual && (match K.lookup c with
        | some ⟨_, _, .fields vs, _⟩ => (match (vs[2]? : Option Value) with
          | some (Value.str x _) => file == x
          | _ => false)
        | _ => false)
      | _ => false) && (match fd.closure with
      | [(_, cc)] => (match K.lookup cc with
        | some ⟨_, _, .cell (some (.ref D)), _⟩ => decide (D = d.C K)
        | _ => false)
      | _ => false)
  | _ => false) && (oexB K (d.C K) && (decide (PySem.W.nsIn K cStatics "thirdparty.any" = some none) && (decide (PySem.W.ks_superIn K (d.C K) (d.C K) "__init__" = some (some (.builtin "ValueError.__init__"))) &&
    (decide (PySem.W.mroIn K (d.C K) (.ref (d.C K)) = some true) && (decide (PySem.W.subIn K (.ref (d.C K)) (.type "ValueError") = some true) &&
    (decide (PySem.W.findIn K (.ref (d.C K)) "__init__" = some (some (.ref (d.f K)))) && decide (PySem.W.typeIn K (.ref (d.f K)) = some (.type "function"))))))))
theorem SupD.says {P : Program} {K : PySem.W.Frag} {mg : Str → Option Value} {d : SupD} (e : d.obs K = d.val) (h : d.ok P.main.file K = true) (hs : mg "super" = none) (ht : (P.main.scope.names.lookup ("super" : Str)).isSome = false) :
    ∃ (dV kV doc pm ct : Value) (an : Option Addr) (cda cc : Addr), dV = .none ∧ SupF P K mg (d.C K) (d.f K) cc cda (PySem.W.ksFn "__init__" d.qual d.params d.body d.scope dV kV doc pm an (.ref cda) ct cc) d.qual ∧
      PySem.W.findIn K (.ref (d.C K)) "__init__" = some (some (.ref (d.f K))) ∧ PySem.W.typeIn K (.ref (d.f K)) = some (.type "function") := by
  obtain ⟨h1, h⟩ := He.ba h
  obtain ⟨h2, h⟩ := He.ba h
  obtain ⟨h3, h⟩ := He.ba h
  obtain ⟨h4, h⟩ := He.ba h
  obtain ⟨h5, h⟩ := He.ba h
  obtain ⟨h6, h⟩ := He.ba h
  obtain ⟨h7, h8⟩ := He.ba h
  unfold SupD.obs at e
  cases q : K.lookup (d.f K) with
  | none =>
    rw [q] at h1
    cases h1
  | some o =>
    obtain ⟨oc, od, dt, osl⟩ := o
    rw [q] at h1 e
    cases dt with
    | func fd =>
      obtain ⟨n1, n2, n3, n4, n5, n6, n7, n8, n9, n10, n11, n12, n13, n14, n15⟩ := fd
      have e2 : (some (n1, n2, n3, n4, n5, n6, n7.map (·.1), n8, n15) : FnS) = SupD.val d := e
      unfold SupD.val at e2
      simp only [Option.some.injEq, Prod.mk.injEq] at e2
      obtain ⟨f1, f2, f3, f4, f5, f6, f7, f8, f9⟩ := e2
      subst f1 f2 f3 f4 f5 f6 f8 f9
      obtain ⟨g1, g2⟩ := He.ba h1
      dsimp only at g1 g2
      cases n13 with
      | ref c =>
        obtain ⟨g3, g4⟩ := He.ba g1
        match n7, f7, g2 with
        | [(y, cc)], f7, g2 =>
          simp only [List.map_cons, List.map_nil, List.cons.injEq, and_true] at f7
          subst f7
          dsimp only at g2
          refine ⟨.none, n9, n10, n11, n14, n12, c, cc, rfl, ⟨oexB_ok h2, ⟨_, _, _, q⟩, g3, ?_, ht, ?_, hs, of_decide_eq_true h3, of_decide_eq_true h4, of_decide_eq_true h5, of_decide_eq_true h6⟩, of_decide_eq_true h7, of_decide_eq_true h8⟩
          · cases qc : K.lookup c with
            | none =>
              rw [qc] at g4
              cases g4
            | some o =>
              obtain ⟨a1, a2, a3, a4⟩ := o
              rw [qc] at g4
              cases a3 with
              | fields vs =>
                dsimp only at g4
                cases qv : vs[2]? with
                | none =>
                  rw [qv] at g4
                  cases g4
                | some v =>
                  rw [qv] at g4
                  cases v with
                  | str x t => exact ⟨_, _, vs, _, x, t, rfl, qv, g4⟩
                  | _ => cases g4
              | _ => cases g4
          · cases qc : K.lookup cc with
            | none =>
              rw [qc] at g2
              cases g2
            | some o =>
              obtain ⟨a1, a2, a3, a4⟩ := o
              rw [qc] at g2
              cases a3 with
              | cell v =>
                cases v with
                | none => cases g2
                | some v =>
                  cases v with
                  | ref D =>
                    have eD : D = d.C K := of_decide_eq_true g2
                    subst eD
                    exact ⟨_, _, _, rfl⟩
                  | _ => cases g2
              | _ => cases g2
      | _ => cases g1
    | _ => cases h1
end My
namespace My
open PySem PySem.Spec PyProof.Rows L2
/-! ### the Hook -/
abbrev AlY : Type := AlZ × (List FnS × Bool)
def obsYK (fa : List He.Fa) (fn : List He5.DefA) (ts : List He.Tab) (tf : List He.Defn) (sf : List SupD) (file : Str) (ex : PySem.W.Frag → Bool) (g : Addr → Option Obj) (K : PySem.W.Frag) : AlY :=
  (obsZK fa fn ts ex K, (sf.map fun d => d.obs K, (sf.all fun d => d.ok file K) && He.tabsB g tf K))
def valY (fn : List He5.DefA) (ts : List He.Tab) (sf : List SupD) (w : World) : AlY := (valZ fn ts w, (sf.map SupD.val, true))
def obsY (n : Nat) (fa : List He.Fa) (fn : List He5.DefA) (ts : List He.Tab) (tf : List He.Defn) (sf : List SupD) (file : Str) (ex : PySem.W.Frag → Bool) (g : Addr → Option Obj) : AlY := obsYK fa fn ts tf sf file ex g (He.frT g (He5.asA g n))
structure SaysY (fa : List He.Fa) (fn : List He5.DefA) (ts : List He.Tab) (tf : List He.Defn) (sf : List SupD) (file : Str) (ex : PySem.W.Frag → Bool) (w : World) (h : Heap) (K : PySem.W.Frag) : Prop where
  z : SaysZ fa fn ts ex w K
  sobs : (sf.map fun d => d.obs K) = sf.map SupD.val
  sok : (sf.all fun d => d.ok file K) = true
  hd : ∀ p ∈ tf, PySem.W.codeHdIn K (He.cT K p).1 (He.cT K p).2 = true
  out : ∀ p ∈ tf, K.lookup (He.cT K p).2 = none
  empty : ∀ p ∈ tf, h.get? (He.cT K p).2 = some { cls := .none, data := .fields #[] }
theorem saysY_of {fa : List He.Fa} {fn : List He5.DefA} {ts : List He.Tab} {tf : List He.Defn} {sf : List SupD} {file : Str} {ex : PySem.W.Frag → Bool} {w : World} {h : Heap} {n : Nat} (e : obsY n fa fn ts tf sf file ex h.get? = valY fn ts sf w) :
    SaysY fa fn ts tf sf file ex w h (He.frT h.get? (He5.asA h.get? n)) := by
  have e1 : obsZK fa fn ts ex (He.frT h.get? (He5.asA h.get? n)) = valZ fn ts w := congrArg (fun z : AlY => z.1) e
  have e2 : (sf.map fun d => d.obs (He.frT h.get? (He5.asA h.get? n))) = sf.map SupD.val := congrArg (fun z : AlY => z.2.1) e
  have e3 : ((sf.all fun d => d.ok file (He.frT h.get? (He5.asA h.get? n))) && He.tabsB h.get? tf (He.frT h.get? (He5.asA h.get? n))) = true := congrArg (fun z : AlY => z.2.2) e
  obtain ⟨h1, h2⟩ := He.ba e3
  have key : ∀ p ∈ tf, PySem.W.codeHdIn (He.frT h.get? (He5.asA h.get? n)) (He.cT (He.frT h.get? (He5.asA h.get? n)) p).1 (He.cT (He.frT h.get? (He5.asA h.get? n)) p).2 = true ∧ ∃ o, h.get? (He.cT (He.frT h.get? (He5.asA h.get? n)) p).2 = some o ∧ He.emptyTab o = true := fun p hp => by
    obtain ⟨h3, h4⟩ := He.ba (List.all_eq_true.mp h2 p hp)
    refine ⟨h3, ?_⟩
    cases q : h.get? (He.cT (He.frT h.get? (He5.asA h.get? n)) p).2 with
    | none =>
      rw [q] at h4
      cases h4
    | some o =>
      rw [q] at h4
      exact ⟨o, rfl, h4⟩
  exact ⟨SaysZ.of_obs e1, e2, h1, fun p hp => (key p hp).1, fun p hp => by
    obtain ⟨_, o, q, z⟩ := key p hp
    exact He.frT_none q z, fun p hp => by
    obtain ⟨_, o, q, z⟩ := key p hp
    rw [q, He.emptyTab_eq z]⟩
def hookY (n : Nat) (fa : List He.Fa) (fn : List He5.DefA) (ts : List He.Tab) (tf : List He.Defn) (sf : List SupD) (file : Str) (ex : PySem.W.Frag → Bool) : PySem.W.Hook where
  α := AlY
  obs := fun s => obsY n fa fn ts tf sf file ex s.heap.get?
  val := fun w => valY fn ts sf w
  says := fun w h => ∃ K : PySem.W.Frag, K.In h ∧ SaysY fa fn ts tf sf file ex w h K
  of := fun _ _ e => ⟨_, He.frT_in, saysY_of e⟩
  keeps := fun _ _ _ ⟨K, hK, c⟩ k => ⟨K, PySem.W.Frag.In.keeps hK k, ⟨c.z, c.sobs, c.sok, c.hd, c.out, fun p hp => k _ _ (c.empty p hp)⟩⟩
theorem obsY_eq {n : Nat} {fa : List He.Fa} {fn : List He5.DefA} {ts : List He.Tab} {tf : List He.Defn} {sf : List SupD} {file : Str} {ex : PySem.W.Frag → Bool} {g : Addr → Option Obj} {s : Shared} (h : ∀ a, g a = s.heap.get? a) : obsY n fa fn ts tf sf file ex g = (hookY n fa fn ts tf sf file ex).obs s := by
  have e : g = s.heap.get? := funext h
  rw [e] <;> rfl
section
variable {fa : List He.Fa} {fn : List He5.DefA} {ts : List He.Tab} {tf : List He.Defn} {sf : List SupD} {file : Str} {ex : PySem.W.Frag → Bool} {w : World} {h : Heap} {K : PySem.W.Frag}
theorem SaysY.sup (c : SaysY fa fn ts tf sf file ex w h K) (i : Nat) {d : SupD} (hi : sf[i]? = some d := by rfl) : d.obs K = d.val ∧ d.ok file K = true := by
  refine ⟨?_, List.all_eq_true.mp c.sok d (List.mem_of_getElem? hi)⟩
  have e2 : (sf.map fun d => d.obs K)[i]? = (sf.map SupD.val)[i]? := by rw [c.sobs]
  rw [List.getElem?_map, List.getElem?_map, hi] at e2
  exact Option.some.inj e2
end
end My
end

section
set_option Elab.async false
set_option maxRecDepth 100000
set_option maxHeartbeats 4000000
set_option linter.all false
/-! errors: defs that may raise (their context is L2.CX), how they are called, raise of an own error -/
namespace My
open PySem PySem.Spec PySem.Calls PyProof.Rows L2
theorem pass_none {X : Cx} : Passes (L2.CX X.prog X.w) X E0 := fun _ _ _ _ _ _ _ ⟨_, _, _, _, _, _, _, _, _, _, _, _, z⟩ => z.elim
theorem pass_tk {X : Cx} {E : XK} (tk : Takes X (fun cls d _ H => E cls d H)) : Passes (L2.CX X.prog X.w) X E := passes_call tk (fun _ _ _ _ h => h)
/-- a def that may raise: all its parameters, its last ones by their defaults, by keywords alone -/
structure CalE (P : Program) (w : World) (K : PySem.W.Frag) (mg : Str → Option Value) (base : Heap) (k : Nat) (x : Str) (ps : List Str) (sp : Sp) : Prop where
  ex : ∃ f fd, FnOk P w K mg base (L2.CX P w) k f fd ps sp ∧ mg x = some (.ref f) ∧ PySem.W.keepIn K (.ref f) = true ∧ Binds K fd ps []
structure CalED (P : Program) (w : World) (K : PySem.W.Frag) (mg : Str → Option Value) (base : Heap) (k : Nat) (x : Str) (ps : List Str) (dvs : List V) (sp : Sp) : Prop where
  ex : ∃ f fd ds, FnOk P w K mg base (L2.CX P w) k f fd ps sp ∧ mg x = some (.ref f) ∧ PySem.W.keepIn K (.ref f) = true ∧ Binds K fd ps ds ∧ Vals dvs ds
structure CalEK (P : Program) (w : World) (K : PySem.W.Frag) (mg : Str → Option Value) (base : Heap) (k : Nat) (x : Str) (ps ks : List Str) (gV : List V → List V → List V) (sp : Sp) : Prop where
  ex : ∃ f fd g, FnOk P w K mg base (L2.CX P w) k f fd ps sp ∧ mg x = some (.ref f) ∧ PySem.W.keepIn K (.ref f) = true ∧ KBinds K fd ps ks g gV
/-- an own error's class -/
structure CalR (P : Program) (w : World) (K : PySem.W.Frag) (mg : Str → Option Value) (base : Heap) (k : Nat) (x : Str) (C : Addr) (ps : List Str) (sp : Sp) : Prop where
  ex : ∃ fI fd, OexC K C ∧ PySem.W.findIn K (.ref C) "__init__" = some (some (.ref fI)) ∧ PySem.W.typeIn K (.ref fI) = some (.type "function") ∧ FnOk P w K mg base CX0 k fI fd ps sp ∧ Binds K fd ps [] ∧ mg x = some (.ref C)
section
variable {P : Program} {w : World} {K : PySem.W.Frag} {mg : Str → Option Value} {base : Heap} {j k : Nat} {x : Str} {C : Addr} {ps ks : List Str} {dvs : List V} {sp : Sp} {gV : List V → List V → List V}
theorem CalE.mono (c : CalE P w K mg base j x ps sp) (h : j ≤ k) : CalE P w K mg base k x ps sp := let ⟨f, fd, F, r⟩ := c.ex; ⟨f, fd, F.mono h, r⟩
theorem CalED.mono (c : CalED P w K mg base j x ps dvs sp) (h : j ≤ k) : CalED P w K mg base k x ps dvs sp := let ⟨f, fd, ds, F, r⟩ := c.ex; ⟨f, fd, ds, F.mono h, r⟩
theorem CalEK.mono (c : CalEK P w K mg base j x ps ks gV sp) (h : j ≤ k) : CalEK P w K mg base k x ps ks gV sp := let ⟨f, fd, g, F, r⟩ := c.ex; ⟨f, fd, g, F.mono h, r⟩
theorem CalR.mono (c : CalR P w K mg base j x C ps sp) (h : j ≤ k) : CalR P w K mg base k x C ps sp := let ⟨f, fd, a, b, d, F, r⟩ := c.ex; ⟨f, fd, a, b, d, F.mono h, r⟩
end
section
variable {X : Cx} {k : Nat} {x : Str} {C : Addr} {ps ks : List Str} {dvs : List V} {sp : Sp} {gV : List V → List V → List V} {E : XK} {p pos rpos : Pos} {e : Expr} {es : List Expr} {t tk : TA} {kws : List Keyword}
theorem pe_callE0 (c : CalE X.prog X.w X.K X.mg X.base k x ps sp) (hr : Room k X.A) (hg : Gl X x) (ha : PA X (e :: es) t) (hdb : (x == ("__debug__" : Str)) = false := by decide)
    (he : starEach (e :: es) X.env = (false, eval e X.env) :: starEach es X.env := by rfl) (hpl : (backTo pos (starEach es X.env)).any (·.1) = false := by rfl) : PE X (.Call (.Name x p) (e :: es) [] pos) (tCall sp [] E0 t) := by
  obtain ⟨f, fd, F, hm, hk, hb⟩ := c.ex
  exact pe_call F hr hg hm hk hb .nil pass_none ha hdb he hpl
theorem pe_callED0 (c : CalED X.prog X.w X.K X.mg X.base k x ps dvs sp) (hr : Room k X.A) (hg : Gl X x) (ha : PA X (e :: es) t) (hdb : (x == ("__debug__" : Str)) = false := by decide)
    (he : starEach (e :: es) X.env = (false, eval e X.env) :: starEach es X.env := by rfl) (hpl : (backTo pos (starEach es X.env)).any (·.1) = false := by rfl) : PE X (.Call (.Name x p) (e :: es) [] pos) (tCall sp dvs E0 t) := by
  obtain ⟨f, fd, ds, F, hm, hk, hb, hd⟩ := c.ex
  exact pe_call F hr hg hm hk hb hd pass_none ha hdb he hpl
/-- f(k = v, ..) -/
theorem pe_callEK0 (c : CalEK X.prog X.w X.K X.mg X.base k x ps ks gV sp) (hr : Room k X.A) (hg : Gl X x) (hkw : PK X kws tk) (hall : (backToKw pos (keywordEach kws X.env)).all (·.1.isSome) = true := by rfl)
    (hks : (backToKw pos (keywordEach kws X.env)).filterMap (·.1) = ks := by rfl) (hdb : (x == ("__debug__" : Str)) = false := by decide)
    (hpl : ((backTo pos (starEach [] X.env)).any (·.1) || (backToKw pos (keywordEach kws X.env)).any (·.1.isNone)) = false := by rfl) : PE X (.Call (.Name x p) [] kws pos) (tCallK sp gV E0 tNil tk) := by
  obtain ⟨f, fd, g, F, hm, hk, hb⟩ := c.ex
  refine ⟨fun pins s σ H Q I h => ?_⟩
  refine wpAny_Call_Name_kw (ld_glob I hg hm ?_ hdb)
  refine PySem.W.callWith_KW0 (h₀ := X.base) I.ok.mod.kin hk hall (thn (hkw.run pos pins s σ H _ I h) fun ws s2 ⟨zs, H2, I2, rz, q2⟩ => ⟨I2.kIn, ?_⟩) hpl
  rw [hks]
  exact run_fnk (us := []) (vs := []) F hr hb pass_none I2 .nil rz q2
/-- a call that hands its error on -/
theorem pe_callX (c : CalE X.prog X.w X.K X.mg X.base k x ps sp) (tk : Takes X (fun cls d _ H => E cls d H)) (hr : Room k X.A) (hg : Gl X x) (ha : PA X (e :: es) t) (hdb : (x == ("__debug__" : Str)) = false := by decide)
    (he : starEach (e :: es) X.env = (false, eval e X.env) :: starEach es X.env := by rfl) (hpl : (backTo pos (starEach es X.env)).any (·.1) = false := by rfl) : PE X (.Call (.Name x p) (e :: es) [] pos) (tCall sp [] E t) := by
  obtain ⟨f, fd, F, hm, hk, hb⟩ := c.ex
  exact pe_call F hr hg hm hk hb .nil (pass_tk tk) ha hdb he hpl
theorem pe_callXD (c : CalED X.prog X.w X.K X.mg X.base k x ps dvs sp) (tk : Takes X (fun cls d _ H => E cls d H)) (hr : Room k X.A) (hg : Gl X x) (ha : PA X (e :: es) t) (hdb : (x == ("__debug__" : Str)) = false := by decide)
    (he : starEach (e :: es) X.env = (false, eval e X.env) :: starEach es X.env := by rfl) (hpl : (backTo pos (starEach es X.env)).any (·.1) = false := by rfl) : PE X (.Call (.Name x p) (e :: es) [] pos) (tCall sp dvs E t) := by
  obtain ⟨f, fd, ds, F, hm, hk, hb, hd⟩ := c.ex
  exact pe_call F hr hg hm hk hb hd (pass_tk tk) ha hdb he hpl
/-- raise C(..), C an own error -/
def tRaise (C : Addr) (sp : Sp) (E : XK) (t : TA) : TS := fun _ σ H => tMkO C sp [] t σ H E
theorem ps_raiseC (c : CalR X.prog X.w X.K X.mg X.base k x C ps sp) (tk : Takes X (fun cls d _ H => E cls d H)) (hc : X.calm = true) (hr : Room (k + 1) X.A) (hg : Gl X x) (ha : PA X (e :: es) t) (hdb : (x == ("__debug__" : Str)) = false := by decide)
    (he : starEach (e :: es) X.env = (false, eval e X.env) :: starEach es X.env := by rfl) (hpl : (backTo pos (starEach es X.env)).any (·.1) = false := by rfl) : PS X (.Raise (some (.Call (.Name x p) (e :: es) [] pos)) none rpos) (tRaise C sp E t) := by
  obtain ⟨fI, fd, T, iC, tI, F1, hb, hm⟩ := c.ex
  exact ps_raise hc tk (pmk_oex T iC tI F1 hr hb .nil pass0 hg hm ha hdb he hpl)
/-- the body of a def that may raise, of a lambda's -/
theorem takes_fn {CX : CXT} {P : Program} {w : World} {K : PySem.W.Frag} {mg : Str → Option Value} {base : Heap} {N : List Str} {qual : Str} {scope : Scope} {f : Addr} {cd : Value} {A : Around} {outer : List Env} {s : Shared} {H : Hp} {E : XK} :
    Takes (cxOf (L2.CX P w) P w K mg base N qual scope f cd A outer s H E) (fun cls d _ H => E cls d H) := takes_of rfl rfl rfl rfl
theorem takes_lam {A : Around} {outer : List Env} {s : Shared} {H : Hp} {scope : Scope} {f c' : Addr} : Takes (LamX.lamCx X A outer s H E scope f c') (fun cls d _ H => E cls d H) := takes_of rfl rfl rfl rfl
end
end My
end

section
set_option Elab.async false
set_option maxRecDepth 100000
set_option maxHeartbeats 4000000
set_option linter.all false
/-! == by an own __eq__ whatever it says; try: return .. / except (..) as e: return y(e) -/
namespace My
open PySem PySem.Spec PySem.Calls PyProof.Rows L2 L2H LamX
/-- the type of what stands at the right of == -/
inductive TyE (H : Hp) : V → Value → Prop where
  | str (z : Str) : TyE H (.str z) (.type "str")
  | ins {b D dx : Addr} {gs : List (Str × V)} (h : H b = some (.ins D dx gs)) : TyE H (.ref b) (.ref D)
def rEqO (K : PySem.W.Frag) (C : Addr) (sp : Sp) (E : XK) : R2 := fun x y H Q => ∃ a dx fs tb, x = .ref a ∧ H a = some (.ins C dx fs) ∧ TyE H y tb ∧ PySem.W.notFirst K C tb = true ∧ sp [.ref a, y] H (fun v H' => (∃ b, v = .bl b) ∧ Q v H') E
theorem op_eqO {X : Cx} {n : Nat} {CX : CXT} {C f : Addr} {fd : FuncData} {ps : List Str} {sp : Sp} {E : XK} (F : FnOk X.prog X.w X.K X.mg X.base CX n f fd ps sp)
    (hs : PySem.W.findIn X.K (.ref C) "__eq__" = some (some (.ref f))) (hf : PySem.W.isFn X.K (.ref f) = true) (hb : Binds X.K fd ps []) (hx : Passes CX X E) (hr : Room n X.A) : OpR X (compareOp .Eq) (rEqO X.K C sp E) := by
  intro pins s σ H x y v u Q I rx ry hq
  obtain ⟨a, dx, fs, tb, rfl, ha, ht, hn, hsp⟩ := hq
  cases rx
  obtain ⟨mA, J, _⟩ := ins_get I.hok ha
  obtain ⟨od, J, _⟩ := J.look
  obtain ⟨m, hF⟩ := I.fr
  have hb2 : PySem.W.Looks (model X.prog X.w) s.heap (typeOf u) tb := by
    cases ht with
    | str z =>
      obtain ⟨t, q⟩ := (show ∃ t, u = Value.str z t from ry)
      subst q
      exact PySem.W.Looks.of_pure rfl
    | ins h =>
      cases (show u = Value.ref _ from ry)
      obtain ⟨mB, J', _⟩ := ins_get I.hok h
      obtain ⟨od', J', _⟩ := J'.look
      exact J'.type
  show wpAny (model X.prog X.w) X.A (richCompare .Eq (.ref a) u) (EP X pins σ Q) X.xe s
  refine PySem.W.cmp_K (op := .Eq) (tb := tb) hr.units0 hF I.ok.mod.kin J hb2 hn hs hf ?_
  have e0 : Env0 X.prog X.w X.K X.mg X.base X.A X.stack s H := I.env0
  have hl := F.len _ _ _ _ hsp
  have r2 : Vals [V.ref a, y] [Value.ref a, u] := .cons rfl (.cons ry .nil)
  refine wpAny_call (codeAny_mono (F.run X.A X.stack s H ⟨[.ref a, u], []⟩ [.ref a, u] [.ref a, y] _ E hr e0 (by
    have := hb s [.ref a, u] I.kIn (by simpa using hl)
    simpa using this) r2 hsp) fun r s' hq => ?_)
  cases r with
  | error e => exact hx pins σ H s e s' I hq
  | ok fl =>
    cases fl with
    | ret w =>
      obtain ⟨z, H', I', rz, ez⟩ := I.after hq
      obtain ⟨⟨b, eb⟩, q⟩ := ez
      subst eb
      cases (show w = Value.bool b from rz)
      exact ⟨.bl b, H', I', rfl, q⟩
    | next => exact False.elim hq
    | brk => exact False.elim hq
    | cont => exact False.elim hq
/-- try: return b / except (es) as n: return y(n) -/
def tTell (K : PySem.W.Frag) (cs : List Value) (spF : SpX) (t : XK → TE) : TS := fun D σ H => ∃ Ech : XK, (∀ cls d H', Ech cls d H' → PySem.W.exmAny K cls cs = some true ∧ ∀ a, H' a = none → spF a cls d [.ref a] H' D.rt C8.E0) ∧ t Ech σ H D.rt
theorem pss_tell {X : Cx} {i : Nat} {n y pe : Str} {b : Expr} {t : XK → TE} {es : List Expr} {cs : List Value} {spF : SpX} {k x1 : Nat} {fF : Addr} {fdF : FuncData} {p6 p7 p8 p9 p10 p11 p12 p13 : Pos}
    (hs : X.stack = X.env :: X.outer) (hf : X.env.frame = some X.env.locals) (hN : X.N.Nodup) (hi : X.N[i]? = some n) (hln : X.env.kindOf n = some .local) (hlo : X.env.scope.names.lookup n = some .local) (hA : AllNames X es cs) (hlen : cs.length ≤ sizeLine) (tk0 : Takes X (fun _ _ _ _ => False))
    (hE : ∀ (W : WX) (pn : List (Addr × Obj)) (xe : Value → Shared → Prop) (Ec : XK), Takes (X.tr pn xe) W → (∀ cls d σ H, Ec cls d H → W cls d σ H) → PE (X.tr pn xe) b (t Ec))
    (F : FnE X.prog X.w X.K X.mg X.base C8.CX0 k fF fdF [pe] (spP spF)) (hr : RoomH k X.A) (hg : X.env.scope.names.lookup y = some .globalImplicit) (hm : X.mg y = some (.ref fF)) (hk : PySem.W.keepIn X.K (.ref fF) = true) (hb : Binds X.K fdF [pe] [])
    (hdb : (y == ("__debug__" : Str)) = false := by decide) (hd : (n == ("__debug__" : Str)) = false := by decide) (hcd : (n == ("__classdict__" : Str)) = false := by decide) :
    PSs X [.Try [.Return (some b) p6] [.ExceptHandler (some (.Tuple es x1 p7)) (some n) [.Return (some (.Call (.Name y p8) [.Name n p9] [] p10)) p11] p12] [] [] p13] (tTell X.K cs spF t) := by
  refine ⟨fun pins s σ H D I h => ?_⟩
  obtain ⟨Ech, hEc, ht⟩ := h
  refine (pss_one (ps_try_asT (X := X) (cs := cs) (i := i)
      (tb := fun W D σ H => ∃ Ech : XK, (∀ cls d σ' H', Ech cls d H' → W cls d σ' H') ∧ t Ech σ H D.rt)
      (ts := fun a cls d D σ H => (σ[i]? = some (some (.ref a)) ∨ σ.length ≤ i) ∧ spF a cls d [.ref a] H D.rt C8.E0)
      hs hf hN hi hln hA hlen tk0 (fun W pn xe tk _ => ?_) (fun a oe cls d pn hz hfl => ?_))).run pins s σ H D I ?_
  · refine ⟨fun pins s' σ H' D I h' => ?_⟩
    obtain ⟨Ec, hW, g⟩ := h'
    exact (pss_one (ps_ret (pos := p6) (hE W pn xe Ec tk fun cls d σ H z => hW cls d σ H z))).run pins s' σ H' D I g
  · have hr' : RoomH k (X.suite a ((a, oe) :: pn)).A := ⟨hr.dp, hr.un⟩
    have hq := pss_one (ps_ret (pos := p11) (pe_callE (X := X.suite a ((a, oe) :: pn)) (x := y) (q := p8) (pos := p10) (E := fun _ => C8.E0) (p := (a, oe)) F hr' List.mem_cons_self hg hm hk hb
      (fun _ _ _ _ _ _ _ z => (show False from z).elim) (pa_cons (pe_var (i := i) (pos := p9) hi (.inl hlo) hd hcd) pa_nil) hdb))
    refine ⟨fun pins s' σ H' D I h' => hq.run pins s' σ H' D I ?_⟩
    obtain ⟨hs, h2⟩ := h'
    have hlen2 : i < σ.length := by
      rw [I.len]
      exact (List.getElem?_eq_some_iff.mp hi).1
    have hs : σ[i]? = some (some (.ref a)) := hs.elim id fun z => absurd z (by omega)
    refine ⟨_, hs, hfl, ?_⟩
    obtain ⟨z1, z2⟩ := hz
    subst z1 z2
    exact h2
  · refine ⟨Ech, fun cls d σ' H' z => ⟨true, (hEc cls d H' z).1, fun _ a ha => ⟨?_, (hEc cls d H' z).2 a ha⟩, fun z => by cases z⟩, ht⟩
    by_cases hl : i < σ'.length
    · exact .inl (List.getElem?_set_self hl)
    · exact .inr (by rw [List.length_set]; omega)
/-- the def that tells an error, and the names of the classes -/
structure CalT (P : Program) (w : World) (K : PySem.W.Frag) (mg : Str → Option Value) (base : Heap) (k : Nat) (y : Str) (spF : SpX) (ns : List Str) : Prop where
  ex : ∃ (fF : Addr) (fdF : FuncData), FnE P w K mg base C8.CX0 k fF fdF ["e"] (spP spF) ∧ mg y = some (.ref fF) ∧ PySem.W.keepIn K (.ref fF) = true ∧ Binds K fdF ["e"] []
  names : ∀ n ∈ ns, mg n = some (.ref (He.ga K n))
theorem CalT.mono {P : Program} {w : World} {K : PySem.W.Frag} {mg : Str → Option Value} {base : Heap} {j k : Nat} {y : Str} {spF : SpX} {ns : List Str} (c : CalT P w K mg base j y spF ns) (h : j ≤ k) : CalT P w K mg base k y spF ns := by
  obtain ⟨fF, fdF, F, r⟩ := c.ex
  exact ⟨⟨fF, fdF, ⟨F.len, fun A outer s H args us vs Q E p hr => F.run A outer s H args us vs Q E p (hr.mono h)⟩, r⟩, c.names⟩
theorem nmT {X : Cx} {k : Nat} {y n : Str} {spF : SpX} {ns : List Str} (c : CalT X.prog X.w X.K X.mg X.base k y spF ns) (h1 : n ∈ ns) (h2 : X.env.scope.names.lookup n = some .globalImplicit) (h3 : (n == ("__debug__" : Str)) = false) : Names X n (.ref (He.ga X.K n)) := ⟨h2, h3, .inl (c.names n h1)⟩
theorem pss_tellC {X : Cx} {i : Nat} {n y : Str} {b : Expr} {t : XK → TE} {es : List Expr} {cs : List Value} {spF : SpX} {ns : List Str} {k x1 : Nat} {p6 p7 p8 p9 p10 p11 p12 p13 : Pos} (C : CalT X.prog X.w X.K X.mg X.base k y spF ns)
    (hs : X.stack = X.env :: X.outer) (hf : X.env.frame = some X.env.locals) (hN : X.N.Nodup) (hi : X.N[i]? = some n) (hln : X.env.kindOf n = some .local) (hlo : X.env.scope.names.lookup n = some .local) (hA : AllNames X es cs) (hlen : cs.length ≤ 1000) (tk0 : Takes X (fun _ _ _ _ => False))
    (hE : ∀ (W : WX) (pn : List (Addr × Obj)) (xe : Value → Shared → Prop) (Ec : XK), Takes (X.tr pn xe) W → (∀ cls d σ H, Ec cls d H → W cls d σ H) → PE (X.tr pn xe) b (t Ec))
    (hr : RoomH k X.A) (hg : X.env.scope.names.lookup y = some .globalImplicit) (hdb : (y == ("__debug__" : Str)) = false := by decide) (hd : (n == ("__debug__" : Str)) = false := by decide) (hcd : (n == ("__classdict__" : Str)) = false := by decide) :
    PSs X [.Try [.Return (some b) p6] [.ExceptHandler (some (.Tuple es x1 p7)) (some n) [.Return (some (.Call (.Name y p8) [.Name n p9] [] p10)) p11] p12] [] [] p13] (tTell X.K cs spF t) := by
  obtain ⟨fF, fdF, F, hm, hk, hb⟩ := C.ex
  exact pss_tell hs hf hN hi hln hlo hA (Nat.le_trans hlen (by decide)) tk0 hE F hr hg hm hk hb hdb hd hcd
/-- a class with an own == -/
structure CalQ (P : Program) (w : World) (K : PySem.W.Frag) (mg : Str → Option Value) (base : Heap) (k : Nat) (C : Addr) (ps : List Str) (sp : Sp) : Prop where
  ex : ∃ f fd, Meth K C "__eq__" f ∧ FnOk P w K mg base (L2.CX P w) k f fd ps sp ∧ Binds K fd ps []
theorem CalQ.mono {P : Program} {w : World} {K : PySem.W.Frag} {mg : Str → Option Value} {base : Heap} {j k : Nat} {C : Addr} {ps : List Str} {sp : Sp} (c : CalQ P w K mg base j C ps sp) (h : j ≤ k) : CalQ P w K mg base k C ps sp := let ⟨f, fd, a, F, b⟩ := c.ex; ⟨f, fd, a, F.mono h, b⟩
theorem op_eqC {X : Cx} {k : Nat} {C : Addr} {ps : List Str} {sp : Sp} (c : CalQ X.prog X.w X.K X.mg X.base k C ps sp) (hr : Room k X.A) : OpR X (compareOp .Eq) (rEqO X.K C sp E0) := by
  obtain ⟨f, fd, m, F, b⟩ := c.ex
  exact op_eqO F m.at_ m.fn b pass_none hr
abbrev rFind : V → List V → Hp → VK → Prop := fun x xs H Q => ∃ a b, x = .str a ∧ xs = [.str b] ∧ Q (.int (Txt.find a b)) H
end My
end

section
set_option Elab.async false
set_option maxRecDepth 100000
set_option maxHeartbeats 4000000
set_option linter.all false
namespace My
open PySem L2
/-! ### values without a heap -/
inductive PV where
  | non | bl (b : Bool) | int (i : Int) | str (s : Str) | lst (xs : List PV) | tup (xs : List PV) | obj (c : Str) (fs : List (Str × PV))
/-- not a table of code objects -/
def NT (o : HO) : Prop := ∀ ps, o ≠ .tbl ps
theorem NT.lst {xs : List V} : NT (.lst xs) := fun _ z => by cases z
theorem NT.tup {xs : List V} : NT (.tup xs) := fun _ z => by cases z
theorem NT.ins {C dx : Addr} {fs : List (Str × V)} : NT (.ins C dx fs) := fun _ z => by cases z
theorem NT.frz {o : Obj} {u : HO} : NT (.frz o u) := fun _ z => by cases z
theorem NT.xd {fs : List (Str × V)} : NT (.xd fs) := fun _ z => by cases z
/-- nothing but a table stands there -/
def Fresh (H : Hp) (a : Addr) : Prop := ∀ o, H a = some o → ¬ NT o
theorem Fresh.none {H : Hp} {a : Addr} (h : H a = none) : Fresh H a := fun o e => by rw [h] at e; cases e
/-- v stands for p; no cell of M is in it -/
inductive Rep (K : PySem.W.Frag) (M : List Addr) (H : Hp) : V → PV → Prop where
  | non : Rep K M H .non .non
  | bl (b : Bool) : Rep K M H (.bl b) (.bl b)
  | int (i : Int) : Rep K M H (.int i) (.int i)
  | str (s : Str) : Rep K M H (.str s) (.str s)
  | lst {a : Addr} {xs : List V} {ps : List PV} (hm : a ∉ M) (h : H a = some (.lst xs)) (hl : xs.length = ps.length) (hi : ∀ (i : Nat) (x : V) (p : PV), xs[i]? = some x → ps[i]? = some p → Rep K M H x p) : Rep K M H (.ref a) (.lst ps)
  | tup {a : Addr} {xs : List V} {ps : List PV} (hm : a ∉ M) (h : H a = some (.tup xs)) (hl : xs.length = ps.length) (hi : ∀ (i : Nat) (x : V) (p : PV), xs[i]? = some x → ps[i]? = some p → Rep K M H x p) : Rep K M H (.ref a) (.tup ps)
  | ktup {a : Addr} {xs : List V} {ps : List PV} (h : ∀ H', SqT K H' a xs) (hl : xs.length = ps.length) (hi : ∀ (i : Nat) (x : V) (p : PV), xs[i]? = some x → ps[i]? = some p → Rep K M H x p) : Rep K M H (.ref a) (.tup ps)
  | obj {a dx : Addr} {c : Str} {vs : List (Str × V)} {fs : List (Str × PV)} (hm : a ∉ M) (h : H a = some (.ins (He.ga K c) dx vs)) (hn : vs.map Prod.fst = fs.map Prod.fst) (hi : ∀ (i : Nat) (x : Str × V) (p : Str × PV), vs[i]? = some x → fs[i]? = some p → Rep K M H x.2 p.2) : Rep K M H (.ref a) (.obj c fs)
/-- what is not in M stays -/
def Ext (M : List Addr) (H H' : Hp) : Prop := ∀ x o, x ∉ M → NT o → H x = some o → H' x = some o
theorem Ext.refl (M : List Addr) (H : Hp) : Ext M H H := fun _ _ _ _ h => h
theorem Ext.trans {M : List Addr} {H H1 H2 : Hp} (a : Ext M H H1) (b : Ext M H1 H2) : Ext M H H2 := fun x o n t h => b x o n t (a x o n t h)
structure Nxt (M : List Addr) (H : Hp) (M' : List Addr) (H' : Hp) : Prop where
  ext : Ext M H H'
  new : ∀ a ∈ M', a ∈ M ∨ Fresh H a
theorem Nxt.refl (M : List Addr) (H : Hp) : Nxt M H M H := ⟨Ext.refl M H, fun _ h => .inl h⟩
theorem Ext.nxt {M : List Addr} {H H' : Hp} (e : Ext M H H') : Nxt M H M H' := ⟨e, fun _ h => .inl h⟩
theorem Nxt.trans {M M1 M2 : List Addr} {H H1 H2 : Hp} (a : Nxt M H M1 H1) (b : Nxt M1 H1 M2 H2) : Nxt M H M2 H2 := by
  refine ⟨fun x o n t h => b.ext x o (fun hx => ?_) t (a.ext x o n t h), fun x hx => ?_⟩
  · rcases a.new x hx with q | q
    · exact n q
    · exact q o h t
  · rcases b.new x hx with q | q
    · exact a.new x q
    · by_cases hm : x ∈ M
      · exact .inl hm
      · exact .inr fun o e t => q o (a.ext x o hm t e) t
theorem Rep.nxt {K : PySem.W.Frag} {M M' : List Addr} {H H' : Hp} (s : Nxt M H M' H') {v : V} {p : PV} (h : Rep K M H v p) : Rep K M' H' v p := by
  have nm : ∀ {a : Addr} {o : HO}, a ∉ M → NT o → H a = some o → a ∉ M' := fun {a o} n t e z => by
    rcases s.new a z with q | q
    · exact n q
    · exact q o e t
  induction h with
  | non => exact .non
  | bl b => exact .bl b
  | int i => exact .int i
  | str z => exact .str z
  | lst hm h hl hi ih => exact .lst (nm hm NT.lst h) (s.ext _ _ hm NT.lst h) hl ih
  | tup hm h hl hi ih => exact .tup (nm hm NT.tup h) (s.ext _ _ hm NT.tup h) hl ih
  | ktup h hl hi ih => exact .ktup h hl ih
  | obj hm h hn hi ih => exact .obj (nm hm NT.ins h) (s.ext _ _ hm NT.ins h) hn ih
theorem Rep.weak {K : PySem.W.Frag} {M M' : List Addr} {H : Hp} (s : ∀ a ∈ M', a ∈ M) {v : V} {p : PV} (h : Rep K M H v p) : Rep K M' H v p := h.nxt ⟨fun _ _ _ _ e => e, fun a ha => .inl (s a ha)⟩
theorem Rep.ext {K : PySem.W.Frag} {M : List Addr} {H H' : Hp} (s : Ext M H H') {v : V} {p : PV} (h : Rep K M H v p) : Rep K M H' v p := h.nxt s.nxt
theorem Rep.new {K : PySem.W.Frag} {M : List Addr} {H : Hp} {a : Addr} (n : Fresh H a) {v : V} {p : PV} (h : Rep K M H v p) : Rep K (a :: M) H v p := h.nxt ⟨fun _ _ _ _ e => e, fun b hb => by
  rcases List.mem_cons.mp hb with q | q
  · exact .inr (q ▸ n)
  · exact .inl q⟩
def RepL (K : PySem.W.Frag) (M : List Addr) (H : Hp) (xs : List V) (ps : List PV) : Prop := xs.length = ps.length ∧ ∀ (i : Nat) (x : V) (p : PV), xs[i]? = some x → ps[i]? = some p → Rep K M H x p
def RepF (K : PySem.W.Frag) (M : List Addr) (H : Hp) (vs : List (Str × V)) (fs : List (Str × PV)) : Prop := vs.map Prod.fst = fs.map Prod.fst ∧ ∀ (i : Nat) (x : Str × V) (p : Str × PV), vs[i]? = some x → fs[i]? = some p → Rep K M H x.2 p.2
section
variable {K : PySem.W.Frag} {M M' : List Addr} {H H' : Hp} {xs ys : List V} {ps qs : List PV} {x : V} {p : PV} {vs : List (Str × V)} {fs : List (Str × PV)}
theorem RepL.nxt (h : RepL K M H xs ps) (s : Nxt M H M' H') : RepL K M' H' xs ps := ⟨h.1, fun i x p a b => (h.2 i x p a b).nxt s⟩
theorem RepF.nxt (h : RepF K M H vs fs) (s : Nxt M H M' H') : RepF K M' H' vs fs := ⟨h.1, fun i x p a b => (h.2 i x p a b).nxt s⟩
theorem RepL.ext (h : RepL K M H xs ps) (s : Ext M H H') : RepL K M H' xs ps := h.nxt s.nxt
theorem RepL.weak (h : RepL K M H xs ps) (s : ∀ a ∈ M', a ∈ M) : RepL K M' H xs ps := ⟨h.1, fun i x p a b => (h.2 i x p a b).weak s⟩
theorem RepL.new {a : Addr} (h : RepL K M H xs ps) (n : Fresh H a) : RepL K (a :: M) H xs ps := ⟨h.1, fun i x p b c => (h.2 i x p b c).new n⟩
theorem RepF.new {a : Addr} (h : RepF K M H vs fs) (n : Fresh H a) : RepF K (a :: M) H vs fs := ⟨h.1, fun i x p b c => (h.2 i x p b c).new n⟩
theorem RepL.nil : RepL K M H [] [] := ⟨rfl, fun i x p a => by simp at a⟩
theorem RepL.cons (h : Rep K M H x p) (t : RepL K M H xs ps) : RepL K M H (x :: xs) (p :: ps) := by
  refine ⟨by simp [t.1], fun i y q a b => ?_⟩
  cases i with
  | zero => cases a; cases b; exact h
  | succ i => exact t.2 i y q a b
theorem RepL.head (t : RepL K M H (x :: xs) (p :: ps)) : Rep K M H x p := t.2 0 x p rfl rfl
theorem RepL.tail (t : RepL K M H (x :: xs) (p :: ps)) : RepL K M H xs ps := ⟨by simpa using t.1, fun i y q a b => t.2 (i + 1) y q a b⟩
theorem RepL.append (a : RepL K M H xs ps) (b : RepL K M H ys qs) : RepL K M H (xs ++ ys) (ps ++ qs) := by
  refine ⟨by simp [a.1, b.1], fun i y q h1 h2 => ?_⟩
  by_cases hi : i < xs.length
  · rw [List.getElem?_append_left hi] at h1
    rw [List.getElem?_append_left (a.1 ▸ hi)] at h2
    exact a.2 i y q h1 h2
  · rw [List.getElem?_append_right (by omega)] at h1
    rw [List.getElem?_append_right (by have := a.1; omega), ← a.1] at h2
    exact b.2 _ y q h1 h2
theorem RepL.snoc (a : RepL K M H xs ps) (h : Rep K M H x p) : RepL K M H (xs ++ [x]) (ps ++ [p]) := a.append (.cons h .nil)
theorem RepL.set (a : RepL K M H xs ps) (h : Rep K M H x p) (k : Nat) : RepL K M H (xs.set k x) (ps.set k p) := by
  refine ⟨by simp [a.1], fun i y q h1 h2 => ?_⟩
  by_cases e : k = i
  · subst e
    by_cases hk : k < xs.length
    · rw [List.getElem?_set_self hk] at h1
      rw [List.getElem?_set_self (a.1 ▸ hk)] at h2
      cases h1; cases h2; exact h
    · rw [List.getElem?_eq_none (by simpa using hk)] at h1; cases h1
  · rw [List.getElem?_set_ne e] at h1
    rw [List.getElem?_set_ne e] at h2
    exact a.2 i y q h1 h2
theorem RepL.sub {f : {α : Type} → List α → List α} (a : RepL K M H xs ps) (hl : (f xs).length = (f ps).length) (g : Nat → Nat) (h1 : ∀ (i : Nat) (y : V), (f xs)[i]? = some y → xs[g i]? = some y) (h2 : ∀ (i : Nat) (y : PV), (f ps)[i]? = some y → ps[g i]? = some y) : RepL K M H (f xs) (f ps) :=
  ⟨hl, fun i y q e1 e2 => a.2 (g i) y q (h1 i y e1) (h2 i q e2)⟩
theorem RepL.drop (a : RepL K M H xs ps) (n : Nat) : RepL K M H (xs.drop n) (ps.drop n) :=
  ⟨by simp [a.1], fun i y q e1 e2 => a.2 (n + i) y q (by rw [List.getElem?_drop] at e1; exact e1) (by rw [List.getElem?_drop] at e2; exact e2)⟩
theorem RepL.take (a : RepL K M H xs ps) (n : Nat) : RepL K M H (xs.take n) (ps.take n) :=
  ⟨by simp [a.1], fun i y q e1 e2 => a.2 i y q (by rw [List.getElem?_take] at e1; split at e1 <;> first | exact e1 | cases e1) (by rw [List.getElem?_take] at e2; split at e2 <;> first | exact e2 | cases e2)⟩
theorem RepL.get (a : RepL K M H xs ps) {i : Nat} (h : ps[i]? = some p) : ∃ x, xs[i]? = some x ∧ Rep K M H x p := by
  have hi : i < xs.length := by rw [a.1]; exact (List.getElem?_eq_some_iff.mp h).1
  exact ⟨xs[i], by simp [hi], a.2 i _ p (by simp [hi]) h⟩
theorem Rep.lstI {v : V} (h : Rep K M H v (.lst ps)) : ∃ a xs, v = .ref a ∧ a ∉ M ∧ H a = some (.lst xs) ∧ RepL K M H xs ps := by
  cases h with
  | lst hm h hl hi => exact ⟨_, _, rfl, hm, h, ⟨hl, hi⟩⟩
theorem Rep.tupI {v : V} (h : Rep K M H v (.tup ps)) : ∃ a xs, v = .ref a ∧ SqT K H a xs ∧ RepL K M H xs ps ∧ (∀ H', Ext M H H' → SqT K H' a xs) := by
  cases h with
  | tup hm h hl hi => exact ⟨_, _, rfl, SqT.of h, ⟨hl, hi⟩, fun H' e => SqT.of (e _ _ hm NT.tup h)⟩
  | ktup h hl hi => exact ⟨_, _, rfl, h _, ⟨hl, hi⟩, fun H' e => h _⟩
theorem RepF.lookup {f : Str} : ∀ {vs : List (Str × V)} {fs : List (Str × PV)}, RepF K M H vs fs → ∀ {p : PV}, fs.lookup f = some p → ∃ v, vs.lookup f = some v ∧ Rep K M H v p
  | [], [], _, p, e => by cases e
  | [], q :: fs, h, p, e => by cases h.1
  | v :: vs, [], h, p, e => by cases h.1
  | v :: vs, q :: fs, h, p, e => by
    obtain ⟨h1, h2⟩ := h
    have hn : v.1 = q.1 := by simpa using (List.cons.inj h1).1
    obtain ⟨vn, vv⟩ := v
    obtain ⟨qn, qq⟩ := q
    cases hn
    rw [List.lookup_cons] at e ⊢
    by_cases hf : (f == vn) = true
    · rw [hf] at e ⊢
      cases e
      exact ⟨vv, rfl, h2 0 _ _ rfl rfl⟩
    · rw [Bool.not_eq_true] at hf
      rw [hf] at e ⊢
      exact RepF.lookup (fs := fs) ⟨(List.cons.inj h1).2, fun i x p a b => h2 (i + 1) x p a b⟩ e
end
/-! ### the bag -/
def BagAt (a c : Addr) (H : Hp) : Prop := ∃ (cs : List Int) (i r m n d6 : Int), H a = some (.lst [.ref c, .int i, .int r, .int m, .int n, .int d6]) ∧ c ≠ a ∧ H c = some (.lst (cs.map V.int)) ∧ 0 ≤ i ∧ 0 ≤ r ∧ 0 ≤ m ∧ m < 2147483648
theorem BagAt.some {a c : Addr} {H : Hp} (b : BagAt a c H) : ∃ xs, H a = some (.lst xs) := by obtain ⟨_, _, _, _, _, _, h, _⟩ := b; exact ⟨_, h⟩
theorem BagAt.mut {a c p : Addr} {H : Hp} {o : HO} (b : BagAt a c H) (n : a ≠ p) (m : c ≠ p) : BagAt a c (upd H p o) := by
  obtain ⟨cs, i, r, m, k, d6, h, nc, hc, x⟩ := b
  exact ⟨cs, i, r, m, k, d6, upd_at n h, nc, upd_at (by assumption) hc, x⟩
theorem BagAt.na {a c p : Addr} {H : Hp} (b : BagAt a c H) (n : H p = none) : a ≠ p := by obtain ⟨_, h⟩ := b.some; exact ne_of_none h n
theorem BagAt.nc {a c p : Addr} {H : Hp} (b : BagAt a c H) (n : H p = none) : c ≠ p := by
  obtain ⟨cs, i, r, m, k, d6, h, nc, hc, x⟩ := b; exact ne_of_none hc n
theorem BagAt.new {a c p : Addr} {H : Hp} {o : HO} (b : BagAt a c H) (n : H p = none) : BagAt a c (upd H p o) := b.mut (b.na n) (b.nc n)
theorem ne_bag {a b c : Addr} {H : Hp} (g : BagAt a c H) (n : H b = none) : b ≠ a := (g.na n).symm
theorem ne_bagT {a b c : Addr} {H : Hp} {xs : List V} (g : BagAt a c H) (n : H b = some (.tup xs)) : b ≠ a := by obtain ⟨_, h⟩ := g.some; exact ne_tl n h
/-! ### states -/
inductive SV where
  | un | fz (p : PV) | own (ps : List PV) | bag | ob (c : Str) (fs : List (Str × PV)) | scr (ns : List Int) | ref (a : Addr)
structure Cfg where
  K : PySem.W.Frag
  T : List (Addr × Str)
  H0 : Hp
  m : List Addr
  M0 : List Addr
  B : Option (Addr × Addr)
/-- the script stands at a -/
def ScrAt (K : PySem.W.Frag) (M : List Addr) (H : Hp) (a : Addr) (xs : List V) : Prop := (a ∉ M ∧ Rd H a (.lst xs)) ∨ ∀ H', SqL K H' a xs
theorem ScrAt.nxt {K : PySem.W.Frag} {M M' : List Addr} {H H' : Hp} {a : Addr} {xs : List V} (h : ScrAt K M H a xs) (s : Nxt M H M' H') : ScrAt K M' H' a xs := by
  rcases h with ⟨n, h⟩ | h
  · have key : ∀ o, NT o → H a = some o → a ∉ M' := fun o nt e z => by
      rcases s.new a z with q | q
      · exact n q
      · exact q o e nt
    rcases h with h | ⟨o, h⟩
    · exact .inl ⟨key _ NT.lst h, .inl (s.ext _ _ n NT.lst h)⟩
    · exact .inl ⟨key _ NT.frz h, .inr ⟨o, s.ext _ _ n NT.frz h⟩⟩
  · exact .inr h
theorem ScrAt.sq {K : PySem.W.Frag} {M : List Addr} {H : Hp} {a : Addr} {xs : List V} (h : ScrAt K M H a xs) : SqL K H a xs := by
  rcases h with ⟨_, h⟩ | h
  · exact .inl h
  · exact h H
theorem ScrAt.of {K : PySem.W.Frag} {H : Hp} {a : Addr} {xs : List V} (h : SqL K H a xs) : ScrAt K [] H a xs := by
  rcases h with h | h
  · exact .inl ⟨by simp, h⟩
  · exact .inr fun H' => .inr h
/-- what is so of one slot -/
inductive SlR (c : Cfg) (M : List Addr) (H : Hp) : Option V → SV → Prop where
  | un {o : Option V} : SlR c M H o .un
  | fz {v : V} {p : PV} (h : Rep c.K M H v p) : SlR c M H (some v) (.fz p)
  | own {a : Addr} {vs : List V} {ps : List PV} (hm : a ∈ M) (hb : ∀ x y, c.B = some (x, y) → a ≠ x ∧ a ≠ y) (h0 : Fresh c.H0 a) (h : H a = some (.lst vs)) (hi : RepL c.K M H vs ps) : SlR c M H (some (.ref a)) (.own ps)
  | bag {a b : Addr} (h : c.B = some (a, b)) : SlR c M H (some (.ref a)) .bag
  | ob {a dx : Addr} {C : Str} {vs : List (Str × V)} {fs : List (Str × PV)} (hm : a ∈ M) (hb : ∀ x y, c.B = some (x, y) → a ≠ x ∧ a ≠ y) (h0 : a ∈ c.m) (h : H a = some (.ins (He.ga c.K C) dx vs)) (hi : RepF c.K M H vs fs) : SlR c M H (some (.ref a)) (.ob C fs)
  | scr {a : Addr} {ns : List Int} (h : ScrAt c.K M H a (ns.map V.int)) : SlR c M H (some (.ref a)) (.scr ns)
  | ref {a : Addr} : SlR c M H (some (.ref a)) (.ref a)
def SV.isOwn : SV → Bool
  | .own _ => true
  | .ob _ _ => true
  | _ => false
structure StR (c : Cfg) (M : List Addr) (σ : St) (H : Hp) (ρ : List SV) : Prop where
  fr : ∀ x o, x ∉ c.m → NT o → c.H0 x = some o → H x = some o
  dom : ∀ a ∈ M, ∃ o, H a = some o ∧ NT o
  sub : ∀ a ∈ c.M0, a ∈ M
  mm : ∀ a ∈ c.m, a ∈ c.M0
  d0 : ∀ a ∈ c.M0, ∃ o, c.H0 a = some o ∧ NT o
  tabs : LamX.Tabs c.T H
  bag : ∀ a b, c.B = some (a, b) → BagAt a b H ∧ a ∈ M ∧ b ∈ M ∧ (a ∈ c.m ∨ Fresh c.H0 a)
  len : σ.length = ρ.length
  slots : ∀ (i : Nat) (o : Option V) (s : SV), σ[i]? = some o → ρ[i]? = some s → SlR c M H o s
  uniq : ∀ (i j : Nat) (a : Addr) (s t : SV), σ[i]? = some (some (.ref a)) → σ[j]? = some (some (.ref a)) → ρ[i]? = some s → ρ[j]? = some t → s.isOwn = true → t.isOwn = true → i = j
/-- a step that leaves all but the bag and the tables -/
structure Stp (c : Cfg) (H H' : Hp) : Prop where
  keep : ∀ x o, (∀ a b, c.B = some (a, b) → x ≠ a) → NT o → H x = some o → H' x = some o
  tabs : LamX.Tabs c.T H'
  bag : ∀ a b, c.B = some (a, b) → BagAt a b H'
theorem Stp.trans {c : Cfg} {H H1 H2 : Hp} (a : Stp c H H1) (b : Stp c H1 H2) : Stp c H H2 := ⟨fun x o n t h => b.keep x o n t (a.keep x o n t h), b.tabs, b.bag⟩
theorem bag_cell {a b : Addr} {H : Hp} (h : BagAt a b H) : ∃ xs, H b = some (.lst xs) := by
  obtain ⟨cs, i, r, m, n, d6, h1, h2, h3, h4⟩ := h
  exact ⟨_, h3⟩
section
variable {c : Cfg} {M M' : List Addr} {σ : St} {H H' : Hp} {ρ : List SV}
theorem Stp.refl (s : StR c M σ H ρ) : Stp c H H := ⟨fun _ _ _ _ h => h, s.tabs, fun a b e => (s.bag a b e).1⟩
theorem StR.ext (s : StR c M σ H ρ) (t : Stp c H H') : Ext M H H' := fun x o n nt h => t.keep x o (fun a b e z => n (z ▸ (s.bag a b e).2.1)) nt h
theorem SlR.stp (s : StR c M σ H ρ) (t : Stp c H H') {o : Option V} {q : SV} (h : SlR c M H o q) : SlR c M H' o q := by
  cases h with
  | un => exact .un
  | fz h => exact .fz (h.ext (s.ext t))
  | own hm hb h0 h hi => exact .own hm hb h0 (t.keep _ _ (fun a b e => (hb a b e).1) NT.lst h) (hi.ext (s.ext t))
  | bag h => exact .bag h
  | ob hm hb h0 h hi => exact .ob hm hb h0 (t.keep _ _ (fun a b e => (hb a b e).1) NT.ins h) (hi.nxt (s.ext t).nxt)
  | scr h => exact .scr (h.nxt (s.ext t).nxt)
  | ref => exact .ref
theorem StR.stp (s : StR c M σ H ρ) (t : Stp c H H') : StR c M σ H' ρ where
  fr := fun x o n nt h => t.keep x o (fun a b e z => by
    rcases (s.bag a b e).2.2.2 with q | q
    · exact n (z ▸ q)
    · exact q o (z ▸ h) nt) nt (s.fr x o n nt h)
  dom := fun a ha => by
    obtain ⟨o, h, nt⟩ := s.dom a ha
    by_cases hb : ∃ b, c.B = some (a, b)
    · obtain ⟨b, hb⟩ := hb
      obtain ⟨cs, i, r, m, n, d6, h1, _⟩ := t.bag a b hb
      exact ⟨_, h1, NT.lst⟩
    · exact ⟨o, t.keep a o (fun a' b e z => hb ⟨b, z ▸ e⟩) nt h, nt⟩
  sub := s.sub
  mm := s.mm
  d0 := s.d0
  tabs := t.tabs
  bag := fun a b e => ⟨t.bag a b e, (s.bag a b e).2⟩
  len := s.len
  slots := fun i o q h1 h2 => (s.slots i o q h1 h2).stp s t
  uniq := s.uniq
theorem Stp.new {p : Addr} {o : HO} (s : StR c M σ H ρ) (t : Stp c H H') (h : H' p = none) : Stp c H (upd H' p o) := by
  refine ⟨fun x u n nt e => ?_, fun q hq => ?_, fun a b e => ?_⟩
  · rw [upd_ne (ne_of_none (t.keep x u n nt e) h)]; exact t.keep x u n nt e
  · exact (t.tabs.ext (fun b u e => by rw [upd_ne (ne_of_none e h)]; exact e)) q hq
  · exact (t.bag a b e).new h
/-- fresh for the def -/
theorem StR.fresh0 (s : StR c M σ H ρ) {a : Addr} (h : Fresh H a) : Fresh c.H0 a := by
  by_cases hm : a ∈ c.m
  · obtain ⟨o, e, nt⟩ := s.dom a (s.sub a (s.mm a hm))
    exact absurd nt (h o e)
  · exact fun o e nt => h o (s.fr a o hm nt e) nt
theorem StR.notIn (s : StR c M σ H ρ) {a : Addr} (h : Fresh H a) : a ∉ M := fun z => by
  obtain ⟨o, e, nt⟩ := s.dom a z
  exact h o e nt
/-- reading a slot -/
theorem StR.get (s : StR c M σ H ρ) {i : Nat} {q : SV} (h : ρ[i]? = some q) : ∃ o, σ[i]? = some o ∧ SlR c M H o q := by
  have hi : i < σ.length := by rw [s.len]; exact (List.getElem?_eq_some_iff.mp h).1
  exact ⟨σ[i], by simp [hi], s.slots i _ q (by simp [hi]) h⟩
theorem StR.fz (s : StR c M σ H ρ) {i : Nat} {p : PV} (h : ρ[i]? = some (.fz p)) : ∃ v, σ[i]? = some (some v) ∧ Rep c.K M H v p := by
  obtain ⟨o, h1, h2⟩ := s.get h
  cases h2 with
  | fz r => exact ⟨_, h1, r⟩
/-- a slot set to what is frozen -/
theorem StR.set (s : StR c M σ H ρ) (i : Nat) {o : Option V} {q : SV} (h : SlR c M H o q) (hq : q.isOwn = false) : StR c M (σ.set i o) H (ρ.set i q) where
  fr := s.fr
  dom := s.dom
  sub := s.sub
  mm := s.mm
  d0 := s.d0
  tabs := s.tabs
  bag := s.bag
  len := by simp [s.len]
  slots := fun j u t h1 h2 => by
    by_cases e : i = j
    · subst e
      by_cases hi : i < σ.length
      · rw [List.getElem?_set_self hi] at h1
        rw [List.getElem?_set_self (s.len ▸ hi)] at h2
        cases h1; cases h2; exact h
      · rw [List.getElem?_eq_none (by simpa using hi)] at h1; cases h1
    · rw [List.getElem?_set_ne e] at h1
      rw [List.getElem?_set_ne e] at h2
      exact s.slots j u t h1 h2
  uniq := fun j k a t u h1 h2 h3 h4 h5 h6 => by
    by_cases e : i = j
    · subst e
      by_cases hi : i < ρ.length
      · rw [List.getElem?_set_self hi] at h3
        cases h3; rw [hq] at h5; cases h5
      · rw [List.getElem?_eq_none (by simpa using hi)] at h3; cases h3
    · by_cases e2 : i = k
      · subst e2
        by_cases hi : i < ρ.length
        · rw [List.getElem?_set_self hi] at h4
          cases h4; rw [hq] at h6; cases h6
        · rw [List.getElem?_eq_none (by simpa using hi)] at h4; cases h4
      · rw [List.getElem?_set_ne e] at h1 h3
        rw [List.getElem?_set_ne e2] at h2 h4
        exact s.uniq j k a t u h1 h2 h3 h4 h5 h6
end
end My
end

section
set_option Elab.async false
set_option maxRecDepth 100000
set_option maxHeartbeats 4000000
set_option linter.all false
namespace My
open PySem L2
/-! ### judgements -/
inductive Res (α : Type) where
  | ok (a : α) | er (c : Str) (fs : List (Str × PV))
/-- what is so where a def is left -/
structure Lv (c : Cfg) (H : Hp) : Prop where
  fr : ∀ x o, x ∉ c.m → NT o → c.H0 x = some o → H x = some o
  tabs : LamX.Tabs c.T H
  bag : ∀ a b, c.B = some (a, b) → BagAt a b H
theorem StR.lv {c : Cfg} {M : List Addr} {σ : L2.St} {H : Hp} {ρ : List SV} (s : StR c M σ H ρ) : Lv c H := ⟨s.fr, s.tabs, fun a b e => (s.bag a b e).1⟩
def ErW (c : Cfg) (E : XK) (post : Str → List (Str × PV) → Prop) : Prop := ∀ H' cn fs dd vs, Lv c H' → H' dd = some (.xd vs) → RepF c.K c.M0 H' vs fs → post cn fs → E (.ref (He.ga c.K cn)) (some dd) H'
abbrev WE : Type := List SV → (Res PV → Prop) → Prop
abbrev WA : Type := List SV → (Res (List PV) → Prop) → Prop
abbrev WT : Type := List SV → (Res Bool → Prop) → Prop
abbrev WC : Type := List SV → (Res (List SV) → Prop) → Prop
def EvE (K : PySem.W.Frag) (T : List (Addr × Str)) (E : XK) (te : TE) (w : WE) : Prop := ∀ (c : Cfg) (M : List Addr) (σ : L2.St) (H : Hp) (ρ : List SV) (post : Res PV → Prop) (Q : VK), c.K = K → c.T = T → StR c M σ H ρ → w ρ post →
  (∀ H' x p, Stp c H H' → Rep K M H' x p → post (.ok p) → Q x H') → ErW c E (fun cn fs => post (.er cn fs)) → te σ H Q
/-- a value that is looked at: an own list may be read so -/
inductive Bor (c : Cfg) (M : List Addr) (H : Hp) : V → PV → Prop where
  | lst {a : Addr} {xs : List V} {ps : List PV} (h : ∀ H', Stp c H H' → H' a = some (.lst xs)) (h0 : H a = some (.lst xs)) (hi : RepL c.K M H xs ps) : Bor c M H (.ref a) (.lst ps)
  | rep {v : V} {p : PV} (h : Rep c.K M H v p) : Bor c M H v p
def EvB (K : PySem.W.Frag) (T : List (Addr × Str)) (E : XK) (te : TE) (w : WE) : Prop := ∀ (c : Cfg) (M : List Addr) (σ : L2.St) (H : Hp) (ρ : List SV) (post : Res PV → Prop) (Q : VK), c.K = K → c.T = T → StR c M σ H ρ → w ρ post →
  (∀ H' x p, Stp c H H' → Bor c M H' x p → post (.ok p) → Q x H') → ErW c E (fun cn fs => post (.er cn fs)) → te σ H Q
def EvO (K : PySem.W.Frag) (T : List (Addr × Str)) (E : XK) (te : TE) (w : WA) : Prop := ∀ (c : Cfg) (M : List Addr) (σ : L2.St) (H : Hp) (ρ : List SV) (post : Res (List PV) → Prop) (Q : VK), c.K = K → c.T = T → StR c M σ H ρ → w ρ post →
  (∀ H' a vs ps, Stp c H H' → Fresh H a → H' a = some (.lst vs) → RepL K (a :: M) H' vs ps → post (.ok ps) → Q (.ref a) H') → ErW c E (fun cn fs => post (.er cn fs)) → te σ H Q
def EvA (K : PySem.W.Frag) (T : List (Addr × Str)) (E : XK) (ta : TA) (w : WA) : Prop := ∀ (c : Cfg) (M : List Addr) (σ : L2.St) (H : Hp) (ρ : List SV) (post : Res (List PV) → Prop) (Q : List V → Hp → Prop), c.K = K → c.T = T → StR c M σ H ρ → w ρ post →
  (∀ H' xs ps, Stp c H H' → RepL K M H' xs ps → post (.ok ps) → Q xs H') → ErW c E (fun cn fs => post (.er cn fs)) → ta σ H Q
def EvT (K : PySem.W.Frag) (T : List (Addr × Str)) (E : XK) (tt : TT) (w : WT) : Prop := ∀ (c : Cfg) (M : List Addr) (σ : L2.St) (H : Hp) (ρ : List SV) (post : Res Bool → Prop) (Q : Bool → Hp → Prop), c.K = K → c.T = T → StR c M σ H ρ → w ρ post →
  (∀ H' b, Stp c H H' → post (.ok b) → Q b H') → ErW c E (fun cn fs => post (.er cn fs)) → tt σ H Q
/-- arguments of a call -/
structure ArR (c : Cfg) (M : List Addr) (H : Hp) (vs : List V) (as : List SV) : Prop where
  len : vs.length = as.length
  at_ : ∀ (i : Nat) (v : V) (s : SV), vs[i]? = some v → as[i]? = some s → SlR c M H (some v) s ∧ s.isOwn = false
def EvC (K : PySem.W.Frag) (T : List (Addr × Str)) (E : XK) (n : Nat) (ta : TA) (w : WC) : Prop := ∀ (c : Cfg) (M : List Addr) (σ : L2.St) (H : Hp) (ρ : List SV) (post : Res (List SV) → Prop) (Q : List V → Hp → Prop), c.K = K → c.T = T → StR c M σ H ρ → w ρ post →
  (∀ H' xs ps, Stp c H H' → ArR c M H' xs ps → xs.length = n → post (.ok ps) → Q xs H') → ErW c E (fun cn fs => post (.er cn fs)) → ta σ H Q
section
variable {c : Cfg} {M : List Addr} {σ : L2.St} {H H' : Hp} {ρ : List SV} {K : PySem.W.Frag} {T : List (Addr × Str)} {E : XK} {te tf : TE} {w wa wb : WE} {i : Nat} {p : PV} {v : V}
theorem StR.rep (s : StR c M σ H ρ) (t : Stp c H H') (h : Rep c.K M H v p) : Rep c.K M H' v p := h.ext (s.ext t)
theorem StR.repL {xs : List V} {ps : List PV} (s : StR c M σ H ρ) (t : Stp c H H') (h : RepL c.K M H xs ps) : RepL c.K M H' xs ps := h.ext (s.ext t)
theorem StR.bor (s : StR c M σ H ρ) (t : Stp c H H') (h : Bor c M H v p) : Bor c M H' v p := by
  cases h with
  | lst h h0 hi => exact .lst (fun H2 t2 => h H2 (t.trans t2)) (h H' t) (s.repL t hi)
  | rep h => exact .rep (s.rep t h)
theorem Bor.lstI {ps : List PV} (s : StR c M σ H ρ) (h : Bor c M H v (.lst ps)) : ∃ a xs, v = .ref a ∧ H a = some (.lst xs) ∧ RepL c.K M H xs ps ∧ ∀ H', Stp c H H' → H' a = some (.lst xs) := by
  cases h with
  | lst h h0 hi => exact ⟨_, _, rfl, h0, hi, h⟩
  | rep h =>
    obtain ⟨a, xs, rfl, hm, h, hi⟩ := h.lstI
    exact ⟨a, xs, rfl, h, hi, fun H' t => s.ext t _ _ hm NT.lst h⟩
theorem Bor.tupI {ps : List PV} (s : StR c M σ H ρ) (h : Bor c M H v (.tup ps)) : ∃ a xs, v = .ref a ∧ SqT c.K H a xs ∧ RepL c.K M H xs ps ∧ ∀ H', Stp c H H' → SqT c.K H' a xs := by
  cases h with
  | rep h =>
    obtain ⟨a, xs, rfl, h, hi, hx⟩ := h.tupI
    exact ⟨a, xs, rfl, h, hi, fun H' t => hx H' (s.ext t)⟩
theorem ErW.imp {f g : Str → List (Str × PV) → Prop} (h : ErW c E f) (k : ∀ a b, g a b → f a b) : ErW c E g := fun H' cn fs dd vs a b d e => h H' cn fs dd vs a b d (k _ _ e)
/-! ### simple values -/
def pVar (i : Nat) : WE := fun ρ post => match ρ[i]? with
  | some (.fz p) => post (.ok p)
  | _ => False
theorem ev_var : EvE K T E (tVar i) (pVar i) := by
  rintro c M σ H ρ post Q rfl rfl s h q e
  unfold pVar at h
  split at h
  · rename_i p hp
    obtain ⟨v, h1, h2⟩ := s.fz hp
    exact ⟨v, h1, q H v p (.refl s) h2 h⟩
  · exact h.elim
def pVarB (i : Nat) : WE := fun ρ post => match ρ[i]? with
  | some (.fz p) => post (.ok p)
  | some (.own ps) => post (.ok (.lst ps))
  | _ => False
theorem eb_var : EvB K T E (tVar i) (pVarB i) := by
  rintro c M σ H ρ post Q rfl rfl s h q e
  unfold pVarB at h
  split at h
  · rename_i p hp
    obtain ⟨v, h1, h2⟩ := s.fz hp
    exact ⟨v, h1, q H v p (.refl s) (.rep h2) h⟩
  · rename_i ps hp
    obtain ⟨o, h1, h2⟩ := s.get hp
    cases h2 with
    | own hm hb h0 hh hi => exact ⟨_, h1, q H _ _ (.refl s) (.lst (fun H' t => t.keep _ _ (fun a b e => (hb a b e).1) NT.lst hh) hh hi) h⟩
  · exact h.elim
theorem EvE.b (h : EvE K T E te w) : EvB K T E te w := by
  rintro c M σ H ρ post Q rfl rfl s hw q e
  exact h c M σ H ρ post Q rfl rfl s hw (fun H' x p t r => q H' x p t (.rep r)) e
def pC (p : PV) : WE := fun _ post => post (.ok p)
theorem ev_c (h : ∀ M H, Rep K M H v p) : EvE K T E (tC v) (pC p) := by
  rintro c M σ H ρ post Q rfl rfl s hw q e
  exact q H v p (.refl s) (h M H) hw
theorem ev_int {n : Int} : EvE K T E (tC (.int n)) (pC (.int n)) := ev_c fun _ _ => .int n
theorem ev_bl {b : Bool} : EvE K T E (tC (.bl b)) (pC (.bl b)) := ev_c fun _ _ => .bl b
theorem ev_str {z : Str} : EvE K T E (tC (.str z)) (pC (.str z)) := ev_c fun _ _ => .str z
theorem ev_non : EvE K T E (tC .non) (pC .non) := ev_c fun _ _ => .non
/-! ### two operands -/
def bindR {α β : Type} (w : List SV → (Res α → Prop) → Prop) (k : α → (Res β → Prop) → Prop) : List SV → (Res β → Prop) → Prop := fun ρ post => w ρ fun r => match r with
  | .ok a => k a post
  | .er cn fs => post (.er cn fs)
def pOp (q : PV → PV → (Res PV → Prop) → Prop) (wa wb : WE) : WE := fun ρ => bindR wa (fun a => bindR wb (fun b => q a b) ρ) ρ
/-- an operator on values -/
def VOp (K : PySem.W.Frag) (r : R2) (q : PV → PV → (Res PV → Prop) → Prop) : Prop := ∀ (c : Cfg) (M : List Addr) (σ : L2.St) (H : Hp) (ρ : List SV) (x y : V) (a b : PV) (post : Res PV → Prop) (Q : VK), c.K = K → StR c M σ H ρ → Bor c M H x a → Bor c M H y b → q a b post →
  (∀ H' x p, Stp c H H' → Rep K M H' x p → post (.ok p) → Q x H') → r x y H Q
theorem ev_op {r : R2} {q : PV → PV → (Res PV → Prop) → Prop} (h : VOp K r q) (ha : EvB K T E te wa) (hb : EvB K T E tf wb) : EvE K T E (tOp r te tf) (pOp q wa wb) := by
  rintro c M σ H ρ post Q rfl rfl s hw k e
  refine ha c M σ H ρ _ _ rfl rfl s hw (fun H1 x a t1 r1 h1 => ?_) (e.imp fun _ _ z => z)
  have s1 := s.stp t1
  refine hb c M σ H1 ρ _ _ rfl rfl s1 h1 (fun H2 y b t2 r2 h2 => ?_) (e.imp fun _ _ z => z)
  exact h c M σ H2 ρ x y a b post Q rfl (s1.stp t2) (s1.bor t2 r1) r2 h2 (fun H' x p t => k H' x p (t1.trans (t2.trans t)))
theorem Bor.intI {i : Int} (h : Bor c M H v (.int i)) : v = .int i := by
  cases h with
  | rep h => cases h; rfl
theorem Bor.strI {z : Str} (h : Bor c M H v (.str z)) : v = .str z := by
  cases h with
  | rep h => cases h; rfl
theorem Bor.blI {b : Bool} (h : Bor c M H v (.bl b)) : v = .bl b := by
  cases h with
  | rep h => cases h; rfl
theorem Bor.nonI (h : Bor c M H v .non) : v = .non := by
  cases h with
  | rep h => cases h; rfl
/-- ints in -/
def qI (C : Int → Int → Prop) (g : Int → Int → PV) : PV → PV → (Res PV → Prop) → Prop := fun a b post => match a, b with
  | .int i, .int j => C i j ∧ post (.ok (g i j))
  | _, _ => False
theorem vop_I {C : Int → Int → Prop} {g : Int → Int → V} {g' : Int → Int → PV} (hg : ∀ i j M H, Rep K M H (g i j) (g' i j)) : VOp K (rI C g) (qI C g') := by
  rintro c M σ H ρ x y a b post Q rfl s ra rb h k
  unfold qI at h
  split at h
  · cases ra.intI
    cases rb.intI
    exact ⟨_, _, rfl, rfl, h.1, k H _ _ (.refl s) (hg _ _ M H) h.2⟩
  · exact h.elim
def qI0 (g : Int → Int → PV) : PV → PV → (Res PV → Prop) → Prop := fun a b post => match a, b with
  | .int i, .int j => post (.ok (g i j))
  | _, _ => False
theorem vop_I0 {g : Int → Int → V} {g' : Int → Int → PV} (hg : ∀ i j M H, Rep K M H (g i j) (g' i j)) : VOp K (rI0 g) (qI0 g') := by
  rintro c M σ H ρ x y a b post Q rfl s ra rb h k
  unfold qI0 at h
  split at h
  · cases ra.intI
    cases rb.intI
    exact ⟨_, _, rfl, rfl, k H _ _ (.refl s) (hg _ _ M H) h⟩
  · exact h.elim
def qPlus := qI0 fun i j => .int (i + j)
def qMinus := qI0 fun i j => .int (i - j)
def qTimes := qI CMul fun i j => .int (i * j)
def qModP := qI (fun _ j => 0 < j) fun i j => .int (i % j)
def qFdivN := qI CDivN fun i j => .int (i.fdiv j)
def qPow0 := qI CPow fun i j => .int (i ^ j.toNat)
def qLt0 := qI0 fun i j => .bl (decide (i < j))
def qLe0 := qI0 fun i j => .bl (decide (i ≤ j))
def qGt0 := qI0 fun i j => .bl (decide (j < i))
def qGe0 := qI0 fun i j => .bl (decide (j ≤ i))
theorem v_Plus : VOp K rPlus qPlus := vop_I0 fun _ _ _ _ => .int _
theorem v_Minus : VOp K rMinus qMinus := vop_I0 fun _ _ _ _ => .int _
theorem v_Times : VOp K rTimes qTimes := vop_I fun _ _ _ _ => .int _
theorem v_ModP : VOp K rModP qModP := vop_I fun _ _ _ _ => .int _
theorem v_FdivN : VOp K rFdivN qFdivN := vop_I fun _ _ _ _ => .int _
theorem v_Pow0 : VOp K rPow0 qPow0 := vop_I fun _ _ _ _ => .int _
theorem v_Lt0 : VOp K rLt0 qLt0 := vop_I0 fun _ _ _ _ => .bl _
theorem v_Le0 : VOp K rLe0 qLe0 := vop_I0 fun _ _ _ _ => .bl _
theorem v_Gt0 : VOp K rGt0 qGt0 := vop_I0 fun _ _ _ _ => .bl _
theorem v_Ge0 : VOp K rGe0 qGe0 := vop_I0 fun _ _ _ _ => .bl _
/-- flat values -/
def eqF : PV → PV → Option Bool
  | .non, .non => some true
  | .non, .int _ => some false | .int _, .non => some false | .non, .bl _ => some false | .bl _, .non => some false | .non, .str _ => some false | .str _, .non => some false
  | .int i, .int j => some (decide (i = j))
  | .bl i, .bl j => some (decide (i = j))
  | .str i, .str j => some (decide (i = j))
  | .int _, .str _ => some false | .str _, .int _ => some false | .bl _, .str _ => some false | .str _, .bl _ => some false
  | _, _ => none
def qEq : PV → PV → (Res PV → Prop) → Prop := fun a b post => match eqF a b with
  | some d => post (.ok (.bl d))
  | none => False
def qNe : PV → PV → (Res PV → Prop) → Prop := fun a b post => match eqF a b with
  | some d => post (.ok (.bl (!d)))
  | none => False
theorem eqF_ok {x y : V} {a b : PV} {d : Bool} (ra : Bor c M H x a) (rb : Bor c M H y b) (h : eqF a b = some d) : scal x y = true ∧ decide (x = y) = d := by
  unfold eqF at h
  split at h <;> first
    | (cases h; first | cases ra.intI | cases ra.strI | cases ra.blI | cases ra.nonI)
    | cases h
  all_goals first | cases rb.intI | cases rb.strI | cases rb.blI | cases rb.nonI
  all_goals refine ⟨rfl, ?_⟩
  all_goals first
    | rfl
    | exact dec_int
    | exact dec_bl
    | exact dec_str
    | exact decide_eq_false (fun z => nomatch z)
theorem v_Eq : VOp K rEq qEq := by
  rintro c M σ H ρ x y a b post Q rfl s ra rb h k
  unfold qEq at h
  split at h
  · rename_i d hd
    obtain ⟨h1, h2⟩ := eqF_ok ra rb hd
    exact ⟨h1, h2 ▸ k H _ _ (.refl s) (.bl _) h⟩
  · exact h.elim
theorem v_Ne : VOp K rNe qNe := by
  rintro c M σ H ρ x y a b post Q rfl s ra rb h k
  unfold qNe at h
  split at h
  · rename_i d hd
    obtain ⟨h1, h2⟩ := eqF_ok ra rb hd
    exact ⟨h1, h2 ▸ k H _ _ (.refl s) (.bl _) h⟩
  · exact h.elim
def PV.isNon : PV → Bool
  | .non => true
  | _ => false
theorem Bor.isNon {x : V} {a : PV} (ra : Bor c M H x a) : decide (x = V.non) = a.isNon := by
  cases ra with
  | lst _ _ _ => exact decide_eq_false (fun z => nomatch z)
  | rep h => cases h <;> first | exact decide_eq_true rfl | exact decide_eq_false (fun z => nomatch z)
def qIsN0 : PV → PV → (Res PV → Prop) → Prop := fun a b post => match b with
  | .non => post (.ok (.bl a.isNon))
  | _ => False
def qNotN0 : PV → PV → (Res PV → Prop) → Prop := fun a b post => match b with
  | .non => post (.ok (.bl (!a.isNon)))
  | _ => False
theorem v_IsN0 : VOp K rIsN0 qIsN0 := by
  rintro c M σ H ρ x y a b post Q rfl s ra rb h k
  unfold qIsN0 at h
  split at h
  · exact ⟨rb.nonI, ra.isNon ▸ k H _ _ (.refl s) (.bl _) h⟩
  · exact h.elim
theorem v_NotN0 : VOp K rNotN0 qNotN0 := by
  rintro c M σ H ρ x y a b post Q rfl s ra rb h k
  unfold qNotN0 at h
  split at h
  · exact ⟨rb.nonI, ra.isNon ▸ k H _ _ (.refl s) (.bl _) h⟩
  · exact h.elim
def qInS : PV → PV → (Res PV → Prop) → Prop := fun a b post => match a, b with
  | .str x, .str z => ∃ n, x = ⟨#[n]⟩ ∧ post (.ok (.bl (decide (n ∈ z.cps.toList))))
  | _, _ => False
def qNotInS : PV → PV → (Res PV → Prop) → Prop := fun a b post => match a, b with
  | .str x, .str z => ∃ n, x = ⟨#[n]⟩ ∧ post (.ok (.bl (!decide (n ∈ z.cps.toList))))
  | _, _ => False
theorem v_InS : VOp K rInS qInS := by
  rintro c M σ H ρ x y a b post Q rfl s ra rb h k
  unfold qInS at h
  split at h
  · obtain ⟨n, rfl, h⟩ := h
    cases ra.strI
    cases rb.strI
    exact ⟨_, _, rfl, rfl, k H _ _ (.refl s) (.bl _) h⟩
  · exact h.elim
theorem v_NotInS : VOp K rNotInS qNotInS := by
  rintro c M σ H ρ x y a b post Q rfl s ra rb h k
  unfold qNotInS at h
  split at h
  · obtain ⟨n, rfl, h⟩ := h
    cases ra.strI
    cases rb.strI
    exact ⟨_, _, rfl, rfl, k H _ _ (.refl s) (.bl _) h⟩
  · exact h.elim
def qAddS : PV → PV → (Res PV → Prop) → Prop := fun a b post => match a, b with
  | .str x, .str z => x.length + z.length ≤ 1000000 ∧ post (.ok (.str (x ++ z)))
  | _, _ => False
theorem szM {n : Nat} (h : n ≤ 1000000) : n ≤ sizeLine := Nat.le_trans h (by decide)
theorem szMl {n : Nat} (h : n ≤ 1000000) : n < sizeLine := Nat.lt_of_le_of_lt h (by decide)
theorem v_AddS : VOp K rAddS qAddS := by
  rintro c M σ H ρ x y a b post Q rfl s ra rb h k
  unfold qAddS at h
  split at h
  · cases ra.strI
    cases rb.strI
    exact ⟨_, _, rfl, rfl, szM h.1, k H _ _ (.refl s) (.str _) h.2⟩
  · exact h.elim
/-- x in a list or tuple of flat items -/
def flatP : PV → Option V
  | .non => some .non
  | .bl b => some (.bl b)
  | .int i => some (.int i)
  | .str z => some (.str z)
  | _ => none
theorem Rep.flat {v : V} {p : PV} {x : V} (h : Rep K M H v p) (e : flatP p = some x) : v = x := by
  cases h <;> first | (cases e; done) | (cases e; rfl)
theorem flatP_V {p : PV} {x : V} (e : flatP p = some x) : flatV x = true := by
  cases p <;> first | (cases e; done) | (cases e; rfl)
def flatL : List PV → Option (List V)
  | [] => some []
  | p :: ps => match flatP p, flatL ps with
    | some x, some xs => some (x :: xs)
    | _, _ => none
theorem RepL.flat : ∀ {xs : List V} {ps : List PV} {ys : List V}, RepL K M H xs ps → flatL ps = some ys → xs = ys ∧ ys.all flatV = true
  | [], [], ys, h, e => by cases e; exact ⟨rfl, rfl⟩
  | [], p :: ps, ys, h, e => by cases h.1
  | x :: xs, [], ys, h, e => by cases h.1
  | x :: xs, p :: ps, ys, h, e => by
    unfold flatL at e
    split at e
    · rename_i y zs e1 e2
      cases e
      obtain ⟨h1, h2⟩ := RepL.flat h.tail e2
      rw [h.head.flat e1, h1]
      exact ⟨rfl, by rw [List.all_cons, flatP_V e1, h2]; rfl⟩
    · cases e
def qInG (neg : Bool) : PV → PV → (Res PV → Prop) → Prop := fun a b post => match b with
  | .lst ps | .tup ps => ∃ x xs, flatP a = some x ∧ flatL ps = some xs ∧ post (.ok (.bl (if neg then !inV x xs else inV x xs)))
  | _ => False
theorem v_InG {neg : Bool} : VOp K (rIn K neg) (qInG neg) := by
  rintro c M σ H ρ x y a b post Q rfl s ra rb h k
  have hx : ∀ u, flatP a = some u → x = u ∧ flatV u = true := fun u e => by
    cases ra with
    | lst _ _ _ => cases e
    | rep h => exact ⟨h.flat e, flatP_V e⟩
  unfold qInG at h
  split at h
  · obtain ⟨u, us, h1, h2, h⟩ := h
    obtain ⟨p, xs, rfl, hp, hi, _⟩ := rb.lstI s
    obtain ⟨rfl, z2⟩ := hi.flat h2
    obtain ⟨rfl, z1⟩ := hx u h1
    exact ⟨p, _, rfl, .inl (SqL.of hp), z1, z2, k H _ _ (.refl s) (.bl _) h⟩
  · obtain ⟨u, us, h1, h2, h⟩ := h
    obtain ⟨p, xs, rfl, hp, hi, _⟩ := rb.tupI s
    obtain ⟨rfl, z2⟩ := hi.flat h2
    obtain ⟨rfl, z1⟩ := hx u h1
    exact ⟨p, _, rfl, .inr hp, z1, z2, k H _ _ (.refl s) (.bl _) h⟩
  · exact h.elim
/-- xs[i] -/
def qIxL : PV → PV → (Res PV → Prop) → Prop := fun a b post => match a, b with
  | .lst ps, .int i => ∃ p, atI ps i = some p ∧ post (.ok p)
  | _, _ => False
def qIxT : PV → PV → (Res PV → Prop) → Prop := fun a b post => match a, b with
  | .tup ps, .int i => ∃ p, atI ps i = some p ∧ post (.ok p)
  | _, _ => False
theorem RepL.atI {xs : List V} {ps : List PV} {i : Int} {p : PV} (h : RepL K M H xs ps) (e : atI ps i = some p) : ∃ x, L2.atI xs i = some x ∧ Rep K M H x p := by
  unfold L2.atI at e ⊢
  rw [h.1]
  cases hj : ixN ps.length i with
  | none => rw [hj] at e; cases e
  | some j =>
    rw [hj] at e
    exact h.get e
theorem v_IxL : VOp K (rIxL K) qIxL := by
  rintro c M σ H ρ x y a b post Q rfl s ra rb h k
  unfold qIxL at h
  split at h
  · obtain ⟨p, h1, h⟩ := h
    cases rb.intI
    obtain ⟨q, xs, rfl, hp, hi, _⟩ := ra.lstI s
    obtain ⟨x, h2, h3⟩ := hi.atI h1
    exact ⟨q, xs, _, x, rfl, rfl, SqL.of hp, h2, k H _ _ (.refl s) h3 h⟩
  · exact h.elim
theorem v_IxT : VOp K (rIxT K) qIxT := by
  rintro c M σ H ρ x y a b post Q rfl s ra rb h k
  unfold qIxT at h
  split at h
  · obtain ⟨p, h1, h⟩ := h
    cases rb.intI
    obtain ⟨q, xs, rfl, hp, hi, _⟩ := ra.tupI s
    obtain ⟨x, h2, h3⟩ := hi.atI h1
    exact ⟨q, xs, _, x, rfl, rfl, hp, h2, k H _ _ (.refl s) h3 h⟩
  · exact h.elim
def qIx : PV → PV → (Res PV → Prop) → Prop := fun a b post => match a, b with
  | .lst ps, .int i => ∃ p, atI ps i = some p ∧ post (.ok p)
  | .tup ps, .int i => ∃ p, atI ps i = some p ∧ post (.ok p)
  | _, _ => False
theorem v_Ix : VOp K (rIx K) qIx := by
  rintro c M σ H ρ x y a b post Q rfl s ra rb h k
  unfold qIx at h
  split at h
  · exact .inl (v_IxL c M σ H ρ x y _ _ post Q rfl s ra rb h k)
  · exact .inr (.inl (v_IxT c M σ H ρ x y _ _ post Q rfl s ra rb h k))
  · exact h.elim
def qItemS : PV → PV → (Res PV → Prop) → Prop := fun a b post => match a, b with
  | .str z, .int i => 0 ≤ i ∧ z.length ≤ 1000000 ∧ ∃ n, z.cps[i.toNat]? = some n ∧ post (.ok (.str ⟨#[n]⟩))
  | _, _ => False
theorem v_ItemS : VOp K rItemS qItemS := by
  rintro c M σ H ρ x y a b post Q rfl s ra rb h k
  unfold qItemS at h
  split at h
  · obtain ⟨h0, hz, n, h1, h⟩ := h
    cases rb.intI
    cases ra.strI
    rename_i z i
    have hi : i.toNat < z.length := (Array.getElem?_eq_some_iff.mp h1).1
    exact r_itemS h0 (by omega) (szM hz) h1 (k H _ _ (.refl s) (.str _) h)
  · exact h.elim
/-- D[z], D written at the top -/
def qIxK (f : Str → Option PV) : PV → (Res PV → Prop) → Prop := fun a post => match a with
  | .str z => ∃ p, f z = some p ∧ post (.ok p)
  | _ => False
def pIxK (f : Str → Option PV) (wb : WE) : WE := fun ρ => bindR wb (fun a => qIxK f a) ρ
theorem ev_ixK {a : Addr} {f : Str → Option PV} (hf : ∀ z p, f z = some p → ∃ v, KGet K a z v ∧ ∀ M H, Rep K M H v p) (hb : EvE K T E tf wb) : EvE K T E (tOp (rIxK K a) (tC (.ref a)) tf) (pIxK f wb) := by
  rintro c M σ H ρ post Q rfl rfl s hw k e
  refine hb c M σ H ρ _ _ rfl rfl s hw (fun H1 x p t1 r1 h1 => ?_) (e.imp fun _ _ z => z)
  unfold qIxK at h1
  dsimp only at h1
  split at h1
  · obtain ⟨p, h2, h⟩ := h1
    obtain ⟨v, h3, h4⟩ := hf _ _ h2
    cases r1
    exact r_ixK h3 (k H1 v p t1 (h4 M H1) h)
  · exact h1.elim
/-- -x -/
def pNeg (wa : WE) : WE := fun ρ => bindR wa (fun a post => match a with
  | .int i => post (.ok (.int (-i)))
  | _ => False) ρ
theorem ev_neg (ha : EvE K T E te wa) : EvE K T E (tUn uNeg te) (pNeg wa) := by
  rintro c M σ H ρ post Q rfl rfl s hw k e
  refine ha c M σ H ρ _ _ rfl rfl s hw (fun H1 x p t1 r1 h1 => ?_) (e.imp fun _ _ z => z)
  dsimp only at h1
  split at h1
  · cases r1
    exact r_neg (k H1 _ _ t1 (.int _) h1)
  · exact h1.elim
end
end My
end

section
set_option Elab.async false
set_option maxRecDepth 100000
set_option maxHeartbeats 4000000
set_option linter.all false
namespace My
open PySem L2
section
variable {c : Cfg} {M : List Addr} {σ : L2.St} {H H' : Hp} {ρ : List SV} {K : PySem.W.Frag} {T : List (Addr × Str)} {E : XK} {te tf tg : TE} {w wa wb wc : WE} {tt tu : TT} {vt vu : WT} {ta tb : TA} {va vb : WA} {i : Nat} {p : PV} {v : V}
/-! ### tests -/
def pTest (w : WE) : WT := fun ρ => bindR w (fun a post => match a with
  | .bl b => post (.ok b)
  | _ => False) ρ
theorem et_test (h : EvE K T E te w) : EvT K T E (tTest te) (pTest w) := by
  rintro c M σ H ρ post Q rfl rfl s hw k e
  refine h c M σ H ρ _ _ rfl rfl s hw (fun H1 x p t1 r1 h1 => ?_) (e.imp fun _ _ z => z)
  dsimp only at h1
  split at h1
  · cases r1
    exact ⟨_, rfl, k H1 _ t1 h1⟩
  · exact h1.elim
theorem et_b (h : EvE K T E te w) : EvT K T E (tB te) (pTest w) := et_test h
def pAnd (a b : WT) : WT := fun ρ => bindR a (fun d post => if d = true then b ρ post else post (.ok false)) ρ
def pOr (a b : WT) : WT := fun ρ => bindR a (fun d post => if d = true then post (.ok true) else b ρ post) ρ
def pNot (a : WT) : WT := fun ρ => bindR a (fun d post => post (.ok (!d))) ρ
theorem et_and (h : EvT K T E tt vt) (g : EvT K T E tu vu) : EvT K T E (tAnd tt tu) (pAnd vt vu) := by
  rintro c M σ H ρ post Q rfl rfl s hw k e
  refine h c M σ H ρ _ _ rfl rfl s hw (fun H1 d t1 h1 => ?_) (e.imp fun _ _ z => z)
  cases d with
  | true => exact g c M σ H1 ρ post Q rfl rfl (s.stp t1) h1 (fun H' b t => k H' b (t1.trans t)) e
  | false => exact k H1 false t1 h1
theorem et_or (h : EvT K T E tt vt) (g : EvT K T E tu vu) : EvT K T E (tOr tt tu) (pOr vt vu) := by
  rintro c M σ H ρ post Q rfl rfl s hw k e
  refine h c M σ H ρ _ _ rfl rfl s hw (fun H1 d t1 h1 => ?_) (e.imp fun _ _ z => z)
  cases d with
  | false => exact g c M σ H1 ρ post Q rfl rfl (s.stp t1) h1 (fun H' b t => k H' b (t1.trans t)) e
  | true => exact k H1 true t1 h1
theorem et_not (h : EvT K T E tt vt) : EvT K T E (tNot tt) (pNot vt) := by
  rintro c M σ H ρ post Q rfl rfl s hw k e
  exact h c M σ H ρ _ _ rfl rfl s hw (fun H1 d t1 h1 => k H1 _ t1 h1) (e.imp fun _ _ z => z)
def pYes : WT := fun _ post => post (.ok true)
theorem et_yes : EvT K T E tYes pYes := by
  rintro c M σ H ρ post Q rfl rfl s hw k e
  exact k H true (.refl s) hw
def truP : PV → Option Bool
  | .non => some false
  | .bl b => some b
  | .int i => some (i != 0)
  | .str z => if z.length ≤ 1000000 then some ((z.length : Int) != 0) else none
  | .lst ps => some (!ps.isEmpty)
  | .tup ps => some (!ps.isEmpty)
  | .obj _ _ => none
theorem isEmpty_len {α β : Type} {xs : List α} {ys : List β} (h : xs.length = ys.length) : xs.isEmpty = ys.isEmpty := by
  cases xs <;> cases ys <;> first | rfl | cases h
theorem Bor.tru {d : Bool} (s : StR c M σ H ρ) (h : Bor c M H v p) (e : truP p = some d) : TruV c.K v H d := by
  cases p with
  | non => cases h.nonI; cases e; rfl
  | bl b => cases h.blI; cases e; rfl
  | int i => cases h.intI; cases e; rfl
  | str z =>
    cases h.strI
    have e : (if z.length ≤ 1000000 then some ((z.length : Int) != 0) else none) = some d := e
    split at e
    · rename_i hz; cases e; exact ⟨szM hz, rfl⟩
    · cases e
  | lst ps =>
    obtain ⟨a, xs, rfl, h1, h2, _⟩ := h.lstI s
    cases e
    exact .inl ⟨xs, SqL.of h1, by rw [isEmpty_len h2.1]⟩
  | tup ps =>
    obtain ⟨a, xs, rfl, h1, h2, _⟩ := h.tupI s
    cases e
    exact .inr (.inl ⟨xs, h1, by rw [isEmpty_len h2.1]⟩)
  | obj a b => cases e
def pTru (w : WE) : WT := fun ρ => bindR w (fun a post => match truP a with
  | some d => post (.ok d)
  | none => False) ρ
theorem et_tru (h : EvB K T E te w) : EvT K T E (tTru K te) (pTru w) := by
  rintro c M σ H ρ post Q rfl rfl s hw k e
  refine h c M σ H ρ _ _ rfl rfl s hw (fun H1 x p t1 r1 h1 => ?_) (e.imp fun _ _ z => z)
  dsimp only at h1
  split at h1
  · rename_i d hd
    exact ⟨d, r1.tru (s.stp t1) hd, k H1 d t1 h1⟩
  · exact h1.elim
/-! ### by a test -/
def pIf (vt : WT) (wa wb : WE) : WE := fun ρ => bindR vt (fun d post => if d = true then wa ρ post else wb ρ post) ρ
theorem ev_if (h : EvT K T E tt vt) (ha : EvE K T E te wa) (hb : EvE K T E tf wb) : EvE K T E (tIf tt te tf) (pIf vt wa wb) := by
  rintro c M σ H ρ post Q rfl rfl s hw k e
  refine h c M σ H ρ _ _ rfl rfl s hw (fun H1 d t1 h1 => ?_) (e.imp fun _ _ z => z)
  cases d with
  | true => exact ha c M σ H1 ρ post Q rfl rfl (s.stp t1) h1 (fun H' x p t => k H' x p (t1.trans t)) e
  | false => exact hb c M σ H1 ρ post Q rfl rfl (s.stp t1) h1 (fun H' x p t => k H' x p (t1.trans t)) e
def pAndV (wa wb : WE) : WE := fun ρ => bindR wa (fun a post => match a with
  | .bl d => if d = true then wb ρ post else post (.ok (.bl false))
  | _ => False) ρ
def pOrV (wa wb : WE) : WE := fun ρ => bindR wa (fun a post => match a with
  | .bl d => if d = true then post (.ok (.bl true)) else wb ρ post
  | _ => False) ρ
def pNotV (wa : WE) : WE := fun ρ => bindR wa (fun a post => match a with
  | .bl d => post (.ok (.bl (!d)))
  | _ => False) ρ
theorem ev_andV (ha : EvE K T E te wa) (hb : EvE K T E tf wb) : EvE K T E (tAndV te tf) (pAndV wa wb) := by
  rintro c M σ H ρ post Q rfl rfl s hw k e
  refine ha c M σ H ρ _ _ rfl rfl s hw (fun H1 x p t1 r1 h1 => ?_) (e.imp fun _ _ z => z)
  dsimp only at h1
  split at h1
  · rename_i d
    cases r1
    refine ⟨d, rfl, ?_⟩
    cases d with
    | true => exact hb c M σ H1 ρ post Q rfl rfl (s.stp t1) h1 (fun H' x p t => k H' x p (t1.trans t)) e
    | false => exact k H1 _ _ t1 (.bl _) h1
  · exact h1.elim
theorem ev_orV (ha : EvE K T E te wa) (hb : EvE K T E tf wb) : EvE K T E (tOrV te tf) (pOrV wa wb) := by
  rintro c M σ H ρ post Q rfl rfl s hw k e
  refine ha c M σ H ρ _ _ rfl rfl s hw (fun H1 x p t1 r1 h1 => ?_) (e.imp fun _ _ z => z)
  dsimp only at h1
  split at h1
  · rename_i d
    cases r1
    refine ⟨d, rfl, ?_⟩
    cases d with
    | false => exact hb c M σ H1 ρ post Q rfl rfl (s.stp t1) h1 (fun H' x p t => k H' x p (t1.trans t)) e
    | true => exact k H1 _ _ t1 (.bl _) h1
  · exact h1.elim
theorem ev_notV (ha : EvE K T E te wa) : EvE K T E (tNotV te) (pNotV wa) := by
  rintro c M σ H ρ post Q rfl rfl s hw k e
  refine ha c M σ H ρ _ _ rfl rfl s hw (fun H1 x p t1 r1 h1 => ?_) (e.imp fun _ _ z => z)
  dsimp only at h1
  split at h1
  · rename_i d
    cases r1
    exact ⟨d, rfl, k H1 _ _ t1 (.bl _) h1⟩
  · exact h1.elim
/-! ### lists of values -/
def pNil : WA := fun _ post => post (.ok [])
def pCons (wa : WE) (vb : WA) : WA := fun ρ => bindR wa (fun a => bindR vb (fun ps post => post (.ok (a :: ps))) ρ) ρ
theorem ea_nil : EvA K T E tNil pNil := by
  rintro c M σ H ρ post Q rfl rfl s hw k e
  exact k H _ _ (.refl s) .nil hw
theorem ea_cons (ha : EvE K T E te wa) (hb : EvA K T E tb vb) : EvA K T E (tCons te tb) (pCons wa vb) := by
  rintro c M σ H ρ post Q rfl rfl s hw k e
  refine ha c M σ H ρ _ _ rfl rfl s hw (fun H1 x a t1 r1 h1 => ?_) (e.imp fun _ _ z => z)
  have s1 := s.stp t1
  refine hb c M σ H1 ρ _ _ rfl rfl s1 h1 (fun H2 xs ps t2 r2 h2 => ?_) (e.imp fun _ _ z => z)
  exact k H2 _ _ (t1.trans t2) (.cons (s1.rep t2 r1) r2) h2
def pTup (va : WA) : WE := fun ρ => bindR va (fun ps post => ps.length ≤ 1000000 ∧ post (.ok (.tup ps))) ρ
theorem ev_tup (ha : EvA K T E ta va) : EvE K T E (tTup ta) (pTup va) := by
  rintro c M σ H ρ post Q rfl rfl s hw k e
  refine ha c M σ H ρ _ _ rfl rfl s hw (fun H1 xs ps t1 r1 h1 => ?_) (e.imp fun _ _ z => z)
  refine ⟨szM (r1.1 ▸ h1.1), fun q hq => ?_⟩
  have t2 := t1.new (o := .tup xs) s hq
  have s1 := s.stp t1
  have r2 := r1.ext (H' := upd H1 q (.tup xs)) (fun x o _ _ e => by rw [upd_ne (ne_of_none e hq)]; exact e)
  exact k _ _ _ t2 (.tup (s1.notIn (.none hq)) upd_same r2.1 r2.2) h1.2
def pLst (va : WA) : WA := fun ρ => bindR va (fun ps post => ps.length ≤ 1000000 ∧ post (.ok ps)) ρ
/-- a new list -/
theorem new_lst {xs : List V} {ps : List PV} {Q : VK} {post : Res (List PV) → Prop} (s : StR c M σ H ρ) (r1 : RepL c.K M H xs ps) (h : post (.ok ps))
    (k : ∀ H' a vs ps, Stp c H H' → Fresh H a → H' a = some (.lst vs) → RepL c.K (a :: M) H' vs ps → post (.ok ps) → Q (.ref a) H') : ∀ q, H q = none → Q (.ref q) (upd H q (.lst xs)) := fun q hq => by
  have t2 := (Stp.refl s).new (o := .lst xs) s hq
  have r2 := r1.ext (H' := upd H q (.lst xs)) (fun x o _ _ e => by rw [upd_ne (ne_of_none e hq)]; exact e)
  refine k _ q _ _ t2 (.none hq) upd_same ⟨r2.1, fun i x p a b => ?_⟩ h
  exact (r1.2 i x p a b).nxt ⟨fun x o _ _ e => by rw [upd_ne (ne_of_none e hq)]; exact e, fun b hb => by
    rcases List.mem_cons.mp hb with z | z
    · exact .inr (z ▸ .none hq)
    · exact .inl z⟩
theorem Fresh.back (s : StR c M σ H ρ) (t : Stp c H H') {a : Addr} (h : Fresh H' a) : Fresh H a := fun o e nt => by
  by_cases hb : ∃ b, c.B = some (a, b)
  · obtain ⟨b, hb⟩ := hb
    obtain ⟨cs, i, r, m, n, d6, h1, _⟩ := t.bag a b hb
    exact h _ h1 NT.lst
  · exact h o (t.keep a o (fun x y e2 z => hb ⟨y, z ▸ e2⟩) nt e) nt
theorem eo_lst (ha : EvA K T E ta va) : EvO K T E (tLst ta) (pLst va) := by
  rintro c M σ H ρ post Q rfl rfl s hw k e
  refine ha c M σ H ρ _ _ rfl rfl s hw (fun H1 xs ps t1 r1 h1 => ?_) (e.imp fun _ _ z => z)
  exact ⟨szM (r1.1 ▸ h1.1), new_lst (s.stp t1) r1 h1.2 fun H' a vs ps t f h r q => k H' a vs ps (t1.trans t) (f.back s t1) h r q⟩
/-- a new list is frozen -/
def pFrz (va : WA) : WE := fun ρ => bindR va (fun ps post => post (.ok (.lst ps))) ρ
theorem ev_frz (h : EvO K T E te va) : EvE K T E te (pFrz va) := by
  rintro c M σ H ρ post Q rfl rfl s hw k e
  refine h c M σ H ρ _ _ rfl rfl s hw (fun H1 a vs ps t1 f h1 r1 h2 => ?_) (e.imp fun _ _ z => z)
  have r2 := r1.weak (M' := M) (fun b hb => List.mem_cons_of_mem _ hb)
  exact k H1 _ _ t1 (.lst (s.notIn f) h1 r2.1 r2.2) h2
/-! ### slices -/
abbrev WO : Type := List SV → (Res (Option Int) → Prop) → Prop
def EvP (K : PySem.W.Frag) (T : List (Addr × Str)) (E : XK) (tp : TO) (w : WO) : Prop := ∀ (c : Cfg) (M : List Addr) (σ : L2.St) (H : Hp) (ρ : List SV) (post : Res (Option Int) → Prop) (Q : Option Int → Hp → Prop), c.K = K → c.T = T → StR c M σ H ρ → w ρ post →
  (∀ H' b, Stp c H H' → post (.ok b) → Q b H') → ErW c E (fun cn fs => post (.er cn fs)) → tp σ H Q
def pNoPart : WO := fun _ post => post (.ok none)
def pPart (w : WE) : WO := fun ρ => bindR w (fun a post => match a with
  | .int i => post (.ok (some i))
  | _ => False) ρ
theorem ep_no : EvP K T E tNoPart pNoPart := by
  rintro c M σ H ρ post Q rfl rfl s hw k e
  exact k H none (.refl s) hw
theorem ep_part (h : EvE K T E te w) : EvP K T E (tPart te) (pPart w) := by
  rintro c M σ H ρ post Q rfl rfl s hw k e
  refine h c M σ H ρ _ _ rfl rfl s hw (fun H1 x p t1 r1 h1 => ?_) (e.imp fun _ _ z => z)
  dsimp only at h1
  split at h1
  · cases r1
    exact ⟨_, rfl, k H1 _ t1 h1⟩
  · exact h1.elim
def pSlS (w : WE) (wl wh : WO) : WE := fun ρ => bindR w (fun a => bindR wl (fun l => bindR wh (fun h post => match a with
  | .str z => z.length ≤ 1000000 ∧ post (.ok (.str (cutS z l h)))
  | _ => False) ρ) ρ) ρ
def cutP (xs : List PV) (lo hi : Option Int) : List PV := (xs.drop (HT.sIx xs.length 0 lo)).take (HT.sIx xs.length xs.length hi - HT.sIx xs.length 0 lo)
def pSlL (w : WE) (wl wh : WO) : WA := fun ρ => bindR w (fun a => bindR wl (fun l => bindR wh (fun h post => match a with
  | .lst ps => post (.ok (cutP ps l h))
  | _ => False) ρ) ρ) ρ
theorem ev_slS {tl th : TO} {wl wh : WO} (h : EvE K T E te w) (hl : EvP K T E tl wl) (hh : EvP K T E th wh) : EvE K T E (tSl rSlS te tl th) (pSlS w wl wh) := by
  rintro c M σ H ρ post Q rfl rfl s hw k e
  refine h c M σ H ρ _ _ rfl rfl s hw (fun H1 x p t1 r1 h1 => ?_) (e.imp fun _ _ z => z)
  have s1 := s.stp t1
  refine hl c M σ H1 ρ _ _ rfl rfl s1 h1 (fun H2 l t2 h2 => ?_) (e.imp fun _ _ z => z)
  have s2 := s1.stp t2
  refine hh c M σ H2 ρ _ _ rfl rfl s2 h2 (fun H3 u t3 h3 => ?_) (e.imp fun _ _ z => z)
  dsimp only at h3
  split at h3
  · cases r1
    exact ⟨_, rfl, szM h3.1, k H3 _ _ (t1.trans (t2.trans t3)) (.str _) h3.2⟩
  · exact h3.elim
theorem eo_slL {tl th : TO} {wl wh : WO} (h : EvB K T E te w) (hl : EvP K T E tl wl) (hh : EvP K T E th wh) : EvO K T E (tSl (rSlL K) te tl th) (pSlL w wl wh) := by
  rintro c M σ H ρ post Q rfl rfl s hw k e
  refine h c M σ H ρ _ _ rfl rfl s hw (fun H1 x p t1 r1 h1 => ?_) (e.imp fun _ _ z => z)
  have s1 := s.stp t1
  refine hl c M σ H1 ρ _ _ rfl rfl s1 h1 (fun H2 l t2 h2 => ?_) (e.imp fun _ _ z => z)
  have s2 := s1.stp t2
  refine hh c M σ H2 ρ _ _ rfl rfl s2 h2 (fun H3 u t3 h3 => ?_) (e.imp fun _ _ z => z)
  have s3 := s2.stp t3
  dsimp only at h3
  split at h3
  · obtain ⟨a, xs, rfl, e1, r2, _⟩ := (s2.bor t3 (s1.bor t2 r1)).lstI s3
    refine ⟨a, xs, rfl, SqL.of e1, new_lst (post := post) s3 (?_ : RepL c.K M H3 _ (cutP _ l u)) h3 fun H' a vs ps t f h r q => k H' a vs ps (t1.trans (t2.trans (t3.trans t))) (((f.back s2 t3).back s1 t2).back s t1) h r q⟩
    unfold cutV cutP
    rw [r2.1]
    exact (r2.drop _).take _
  · exact h3.elim
/-! ### built-ins -/
def pLen (w : WE) : WE := fun ρ => bindR w (fun a post => match a with
  | .lst ps | .tup ps => post (.ok (.int (ps.length : Int)))
  | _ => False) ρ
theorem ev_len (h : EvB K T E te w) : EvE K T E (tCB (bLen K) (tCons te tNil)) (pLen w) := by
  rintro c M σ H ρ post Q rfl rfl s hw k e
  refine h c M σ H ρ _ _ rfl rfl s hw (fun H1 x p t1 r1 h1 => ?_) (e.imp fun _ _ z => z)
  dsimp only at h1
  split at h1
  · obtain ⟨a, xs, rfl, e1, r2, _⟩ := r1.lstI (s.stp t1)
    exact ⟨a, xs, rfl, .inl (SqL.of e1), k H1 _ _ t1 (r2.1 ▸ .int _) h1⟩
  · obtain ⟨a, xs, rfl, e1, r2, _⟩ := r1.tupI (s.stp t1)
    exact ⟨a, xs, rfl, .inr e1, k H1 _ _ t1 (r2.1 ▸ .int _) h1⟩
  · exact h1.elim
def p1 (q : PV → (Res PV → Prop) → Prop) (w : WE) : WE := fun ρ => bindR w q ρ
def qLenS : PV → (Res PV → Prop) → Prop := fun a post => match a with
  | .str z => z.length ≤ 1000000 ∧ post (.ok (.int (z.length : Int)))
  | _ => False
theorem ev_lenS (h : EvE K T E te w) : EvE K T E (tCB bLenS (tCons te tNil)) (p1 qLenS w) := by
  rintro c M σ H ρ post Q rfl rfl s hw k e
  refine h c M σ H ρ _ _ rfl rfl s hw (fun H1 x p t1 r1 h1 => ?_) (e.imp fun _ _ z => z)
  unfold qLenS at h1
  dsimp only at h1
  split at h1
  · cases r1
    exact ⟨_, rfl, szM h1.1, k H1 _ _ t1 (.int _) h1.2⟩
  · exact h1.elim
def qInt : PV → (Res PV → Prop) → Prop := fun a post => match a with
  | .int i => post (.ok (.int i))
  | .bl b => post (.ok (.int (if b then 1 else 0)))
  | _ => False
theorem ev_bint (h : EvE K T E te w) : EvE K T E (tCB bInt (tCons te tNil)) (p1 qInt w) := by
  rintro c M σ H ρ post Q rfl rfl s hw k e
  refine h c M σ H ρ _ _ rfl rfl s hw (fun H1 x p t1 r1 h1 => ?_) (e.imp fun _ _ z => z)
  unfold qInt at h1
  dsimp only at h1
  split at h1
  · cases r1
    exact .inl ⟨_, rfl, k H1 _ _ t1 (.int _) h1⟩
  · cases r1
    exact .inr ⟨_, rfl, k H1 _ _ t1 (.int _) h1⟩
  · exact h1.elim
def qStr : PV → (Res PV → Prop) → Prop := fun a post => match a with
  | .int i => i.natAbs.log2 < 1920 ∧ post (.ok (.str (Str.ofString (toString i))))
  | _ => False
theorem ev_bstr (h : EvE K T E te w) : EvE K T E (tCB bStr (tCons te tNil)) (p1 qStr w) := by
  rintro c M σ H ρ post Q rfl rfl s hw k e
  refine h c M σ H ρ _ _ rfl rfl s hw (fun H1 x p t1 r1 h1 => ?_) (e.imp fun _ _ z => z)
  unfold qStr at h1
  dsimp only at h1
  split at h1
  · cases r1
    exact ⟨_, rfl, h1.1, k H1 _ _ t1 (.str _) h1.2⟩
  · exact h1.elim
def qAbs : PV → (Res PV → Prop) → Prop := fun a post => match a with
  | .int i => post (.ok (.int (if i < 0 then -i else i)))
  | _ => False
theorem ev_babs (h : EvE K T E te w) : EvE K T E (tCB bAbs (tCons te tNil)) (p1 qAbs w) := by
  rintro c M σ H ρ post Q rfl rfl s hw k e
  refine h c M σ H ρ _ _ rfl rfl s hw (fun H1 x p t1 r1 h1 => ?_) (e.imp fun _ _ z => z)
  unfold qAbs at h1
  dsimp only at h1
  split at h1
  · cases r1
    exact ⟨_, rfl, k H1 _ _ t1 (.int _) h1⟩
  · exact h1.elim
def p2 (q : PV → PV → (Res PV → Prop) → Prop) (wa wb : WE) : WE := fun ρ => bindR wa (fun a => bindR wb (fun b => q a b) ρ) ρ
def qMax2 := qI0 fun i j => .int (if j > i then j else i)
def qMin2 := qI0 fun i j => .int (if j < i then j else i)
theorem ev_max2 (ha : EvE K T E te wa) (hb : EvE K T E tf wb) : EvE K T E (tCB bMax2 (tCons te (tCons tf tNil))) (p2 qMax2 wa wb) := by
  rintro c M σ H ρ post Q rfl rfl s hw k e
  refine ha c M σ H ρ _ _ rfl rfl s hw (fun H1 x a t1 r1 h1 => ?_) (e.imp fun _ _ z => z)
  refine hb c M σ H1 ρ _ _ rfl rfl (s.stp t1) h1 (fun H2 y b t2 r2 h2 => ?_) (e.imp fun _ _ z => z)
  unfold qMax2 qI0 at h2
  dsimp only at h2
  split at h2
  · cases r1; cases r2
    exact b_max2 (k H2 _ _ (t1.trans t2) (.int _) h2)
  · exact h2.elim
theorem ev_min2 (ha : EvE K T E te wa) (hb : EvE K T E tf wb) : EvE K T E (tCB bMin2 (tCons te (tCons tf tNil))) (p2 qMin2 wa wb) := by
  rintro c M σ H ρ post Q rfl rfl s hw k e
  refine ha c M σ H ρ _ _ rfl rfl s hw (fun H1 x a t1 r1 h1 => ?_) (e.imp fun _ _ z => z)
  refine hb c M σ H1 ρ _ _ rfl rfl (s.stp t1) h1 (fun H2 y b t2 r2 h2 => ?_) (e.imp fun _ _ z => z)
  unfold qMin2 qI0 at h2
  dsimp only at h2
  split at h2
  · cases r1; cases r2
    exact b_min2 (k H2 _ _ (t1.trans t2) (.int _) h2)
  · exact h2.elim
/-- list(x) -/
def pListO (w : WE) : WA := fun ρ => bindR w (fun a post => match a with
  | .lst ps | .tup ps => post (.ok ps)
  | _ => False) ρ
theorem eo_list (h : EvB K T E te w) : EvO K T E (tCB (bList K) (tCons te tNil)) (pListO w) := by
  rintro c M σ H ρ post Q rfl rfl s hw k e
  refine h c M σ H ρ _ _ rfl rfl s hw (fun H1 x p t1 r1 h1 => ?_) (e.imp fun _ _ z => z)
  dsimp only at h1
  split at h1
  · obtain ⟨a, xs, rfl, e1, r2, _⟩ := r1.lstI (s.stp t1)
    exact ⟨a, xs, rfl, .inl (SqL.of e1), new_lst (s.stp t1) r2 h1 fun H' a vs ps t f h r q => k H' a vs ps (t1.trans t) (f.back s t1) h r q⟩
  · obtain ⟨a, xs, rfl, e1, r2, _⟩ := r1.tupI (s.stp t1)
    exact ⟨a, xs, rfl, .inr e1, new_lst (s.stp t1) r2 h1 fun H' a vs ps t f h r q => k H' a vs ps (t1.trans t) (f.back s t1) h r q⟩
  · exact h1.elim
/-- a + b of lists -/
def pCat (wa wb : WE) : WA := fun ρ => bindR wa (fun a => bindR wb (fun b post => match a, b with
  | .lst ps, .lst qs => ps.length + qs.length ≤ 1000000 ∧ post (.ok (ps ++ qs))
  | _, _ => False) ρ) ρ
theorem eo_cat (ha : EvB K T E te wa) (hb : EvB K T E tf wb) : EvO K T E (tOp rCat te tf) (pCat wa wb) := by
  rintro c M σ H ρ post Q rfl rfl s hw k e
  refine ha c M σ H ρ _ _ rfl rfl s hw (fun H1 x a t1 r1 h1 => ?_) (e.imp fun _ _ z => z)
  have s1 := s.stp t1
  refine hb c M σ H1 ρ _ _ rfl rfl s1 h1 (fun H2 y b t2 r2 h2 => ?_) (e.imp fun _ _ z => z)
  have s2 := s1.stp t2
  dsimp only at h2
  split at h2
  · obtain ⟨l, xs, rfl, e1, ra, _⟩ := (s1.bor t2 r1).lstI s2
    obtain ⟨m, ys, rfl, e2, rb, _⟩ := r2.lstI s2
    exact r_cat e1 e2 (szM (by rw [ra.1, rb.1]; exact h2.1)) (new_lst s2 (ra.append rb) h2.2 fun H' a vs ps t f h r q => k H' a vs ps (t1.trans (t2.trans t)) ((f.back s1 t2).back s t1) h r q)
  · exact h2.elim
/-- a text's pieces joined -/
def strL : List PV → Option (List Str)
  | [] => some []
  | .str z :: ps => (strL ps).map (z :: ·)
  | _ :: _ => none
theorem RepL.strs : ∀ {xs : List V} {ps : List PV} {zs : List Str}, RepL K M H xs ps → strL ps = some zs → xs = zs.map V.str
  | [], [], zs, h, e => by cases e; rfl
  | [], p :: ps, zs, h, e => by cases h.1
  | x :: xs, [], zs, h, e => by cases h.1
  | x :: xs, p :: ps, zs, h, e => by
    unfold strL at e
    split at e
    · rename_i eq; cases eq
    · rename_i z qs eq
      cases eq
      cases e2 : strL ps with
      | none => rw [e2] at e; cases e
      | some ys =>
        rw [e2] at e
        cases e
        rw [RepL.strs h.tail e2]
        have := h.head
        cases this
        rfl
    · cases e
def qJoin : Str → PV → (Res PV → Prop) → Prop := fun z b post => match b with
  | .lst ps => ∃ zs, strL ps = some zs ∧ (zs.map (·.length)).sum + zs.length * z.length ≤ 16777216 ∧ post (.ok (.str (Txt.join z zs)))
  | _ => False
def pJoin (wa wb : WE) : WE := fun ρ => bindR wa (fun a post => match a with
  | .str z => bindR wb (fun b => qJoin z b) ρ post
  | _ => False) ρ
theorem ev_join (ha : EvE K T E te wa) (hb : EvB K T E tf wb) : EvE K T E (tBM K "str" (mJoin K) te (tCons tf tNil)) (pJoin wa wb) := by
  rintro c M σ H ρ post Q rfl rfl s hw k e
  refine ha c M σ H ρ _ _ rfl rfl s hw (fun H1 x a t1 r1 h1 => ?_) (e.imp fun _ _ z => z)
  have s1 := s.stp t1
  dsimp only at h1
  split at h1
  · cases r1
    refine ⟨rfl, ?_⟩
    refine hb c M σ H1 ρ _ _ rfl rfl s1 h1 (fun H2 y b t2 r2 h2 => ?_) (e.imp fun _ _ z => z)
    have s2 := s1.stp t2
    unfold qJoin at h2
    dsimp only at h2
    split at h2
    · obtain ⟨zs, e1, e2, h2⟩ := h2
      obtain ⟨l, xs, rfl, e3, ra, _⟩ := r2.lstI s2
      obtain rfl := ra.strs e1
      exact ⟨_, l, zs, rfl, rfl, .inl (SqL.of e3), e2, k H2 _ _ (t1.trans t2) (.str _) h2⟩
    · exact h2.elim
  · exact h1.elim
end
end My
end

section
set_option Elab.async false
set_option maxRecDepth 100000
set_option maxHeartbeats 4000000
set_option linter.all false
namespace My
open PySem L2
/-! ### what is walked -/
def RB (b : Bool) (c : Cfg) (H : Hp) : Hp → Prop := fun H1 => b = true → Stp c H H1
def ItR (b : Bool) (c : Cfg) (M : List Addr) (H : Hp) (J : It) (items : List PV) : Prop := ∃ (G : Hp → Prop) (Y : Nat → Hp → V → Hp → Prop), Walk J items.length G Y ∧ ∀ M' H1, Nxt M H M' H1 → RB b c H H1 → (G H1 ∧
  ((∀ a ∈ M', ∃ o, H1 a = some o ∧ NT o) → ∀ i x H2, i < items.length → Y i H1 x H2 → ∃ p, items[i]? = some p ∧ Same H1 H2 ∧ Rep c.K M' H2 x p))
def EvI (b : Bool) (K : PySem.W.Frag) (T : List (Addr × Str)) (E : XK) (wi : TI) (w : WA) : Prop := ∀ (c : Cfg) (M : List Addr) (σ : L2.St) (H : Hp) (ρ : List SV) (post : Res (List PV) → Prop) (R : It → Hp → Prop), c.K = K → c.T = T → StR c M σ H ρ → w ρ post →
  (∀ H' J items, Stp c H H' → ItR b c M H' J items → post (.ok items) → R J H') → ErW c E (fun cn fs => post (.er cn fs)) → wi σ H R
section
variable {c : Cfg} {M : List Addr} {σ : L2.St} {H H' : Hp} {ρ : List SV} {K : PySem.W.Frag} {T : List (Addr × Str)} {E : XK} {te tf tg : TE} {w wa wb wc : WE} {tt tu : TT} {vt vu : WT} {ta tb : TA} {va vb : WA} {i : Nat} {p : PV} {v : V} {b : Bool}
theorem nodom {M : List Addr} {H : Hp} {q : Addr} (d : ∀ a ∈ M, ∃ o, H a = some o ∧ NT o) (h : H q = none) : q ∉ M := fun z => by
  obtain ⟨o, e, _⟩ := d q z
  rw [h] at e; cases e
theorem it_list {a : Addr} {xs : List V} {ps : List PV} (h0 : H a = some (.lst xs)) (hx : ∀ M' H1, Nxt M H M' H1 → RB b c H H1 → H1 a = some (.lst xs)) (r : RepL c.K M H xs ps) : ItR b c M H (Itl c.K a) ps := by
  refine ⟨_, _, r.1 ▸ walk_list (K := c.K) (a := a) (xs := xs), fun M' H1 n q => ⟨SqL.of (hx M' H1 n q), fun d i x H2 hil y => ?_⟩⟩
  obtain ⟨rfl, hi⟩ := y
  have hl : i < ps.length := by rw [← r.1]; exact (List.getElem?_eq_some_iff.mp hi).1
  exact ⟨ps[i], by simp [hl], fun _ _ e => e, (r.2 i x _ hi (by simp [hl])).nxt n⟩
def pItL (w : WE) : WA := fun ρ => bindR w (fun a post => match a with
  | .lst ps => post (.ok ps)
  | _ => False) ρ
def pItT (w : WE) : WA := fun ρ => bindR w (fun a post => match a with
  | .tup ps => post (.ok ps)
  | _ => False) ρ
theorem ei_list (h : EvE K T E te w) : EvI b K T E (iList K te) (pItL w) := by
  rintro c M σ H ρ post R rfl rfl s hw k e
  refine h c M σ H ρ _ _ rfl rfl s hw (fun H1 x p t1 r1 h1 => ?_) (e.imp fun _ _ z => z)
  dsimp only at h1
  split at h1
  · obtain ⟨a, xs, rfl, hm, ha, r⟩ := r1.lstI
    exact ⟨a, rfl, ⟨xs, SqL.of ha⟩, k H1 _ _ t1 (it_list ha (fun M' H2 n _ => n.ext _ _ hm NT.lst ha) r) h1⟩
  · exact h1.elim
theorem ei_listB (h : EvB K T E te w) : EvI true K T E (iList K te) (pItL w) := by
  rintro c M σ H ρ post R rfl rfl s hw k e
  refine h c M σ H ρ _ _ rfl rfl s hw (fun H1 x p t1 r1 h1 => ?_) (e.imp fun _ _ z => z)
  dsimp only at h1
  split at h1
  · obtain ⟨a, xs, rfl, ha, r, hx⟩ := r1.lstI (s.stp t1)
    exact ⟨a, rfl, ⟨xs, SqL.of ha⟩, k H1 _ _ t1 (it_list ha (fun M' H2 n q => hx _ (q rfl)) r) h1⟩
  · exact h1.elim
theorem ei_tup (h : EvE K T E te w) : EvI b K T E (iTup K te) (pItT w) := by
  rintro c M σ H ρ post R rfl rfl s hw k e
  refine h c M σ H ρ _ _ rfl rfl s hw (fun H1 x p t1 r1 h1 => ?_) (e.imp fun _ _ z => z)
  dsimp only at h1
  split at h1
  · rename_i ps
    have hx : ∃ a xs, x = .ref a ∧ SqT c.K H1 a xs ∧ RepL c.K M H1 xs ps ∧ ∀ M' H2, Nxt M H1 M' H2 → SqT c.K H2 a xs := by
      cases r1 with
      | tup hm h hl hi => exact ⟨_, _, rfl, SqT.of h, ⟨hl, hi⟩, fun M' H2 n => SqT.of (n.ext _ _ hm NT.tup h)⟩
      | ktup h hl hi => exact ⟨_, _, rfl, h _, ⟨hl, hi⟩, fun M' H2 n => h _⟩
    obtain ⟨a, xs, rfl, ha, r, hx⟩ := hx
    refine ⟨a, rfl, ⟨xs, ha⟩, k H1 _ _ t1 ?_ h1⟩
    refine ⟨_, _, r.1 ▸ walk_tup (K := c.K) (a := a) (xs := xs), fun M' H2 n q => ⟨hx M' H2 n, fun d i x H3 hil y => ?_⟩⟩
    obtain ⟨rfl, hi⟩ := y
    have hl : i < ps.length := by rw [← r.1]; exact (List.getElem?_eq_some_iff.mp hi).1
    exact ⟨ps[i], by simp [hl], fun _ _ e => e, (r.2 i x _ hi (by simp [hl])).nxt n⟩
  · exact h1.elim
/-- a text's signs -/
def chars (z : Str) : List PV := z.cps.toList.map fun n => .str ⟨#[n]⟩
def pItS (w : WE) : WA := fun ρ => bindR w (fun a post => match a with
  | .str z => post (.ok (chars z))
  | _ => False) ρ
theorem chars_len (z : Str) : (chars z).length = z.cps.size := by unfold chars; rw [List.length_map, Array.length_toList]
theorem ei_str (h : EvE K T E te w) : EvI b K T E (iStr te) (pItS w) := by
  rintro c M σ H ρ post R rfl rfl s hw k e
  refine h c M σ H ρ _ _ rfl rfl s hw (fun H1 x p t1 r1 h1 => ?_) (e.imp fun _ _ z => z)
  dsimp only at h1
  split at h1
  · rename_i z
    cases r1
    refine ⟨z, rfl, k H1 _ _ t1 ?_ h1⟩
    refine ⟨_, _, (chars_len z).symm ▸ walk_str, fun M' H2 n q => ⟨trivial, fun d i x H3 hil y => ?_⟩⟩
    obtain ⟨rfl, ch, hc, rfl⟩ := y
    refine ⟨_, ?_, fun _ _ e => e, .str _⟩
    unfold chars
    rw [List.getElem?_map, Array.getElem?_toList, hc]
    rfl
  · exact h1.elim
/-- ranges -/
def rgP (lo st : Int) (n : Nat) : List PV := (List.range n).map fun i : Nat => .int (lo + (i : Int) * st)
theorem rgP_len (lo st : Int) (n : Nat) : (rgP lo st n).length = n := by unfold rgP; rw [List.length_map, List.length_range]
theorem rgP_at {lo st : Int} {n i : Nat} (h : i < n) : (rgP lo st n)[i]? = some (.int (lo + (i : Int) * st)) := by
  unfold rgP
  rw [List.getElem?_map, List.getElem?_range h]; rfl
theorem it_range {lo : Int} {n : Nat} : ItR b c M H (Itr lo n) (rgP lo 1 n) := by
  refine ⟨_, _, by rw [rgP_len]; exact walk_range, fun M' H2 m q => ⟨trivial, fun d i x H3 hil y => ?_⟩⟩
  obtain ⟨rfl, rfl⟩ := y
  rw [rgP_len] at hil
  exact ⟨.int (lo + (i : Int) * 1), rgP_at hil, fun _ _ e => e, by rw [Int.mul_one]; exact .int _⟩
theorem it_rangeC {lo st : Int} {n : Nat} : ItR b c M H (Itc lo st n) (rgP lo st n) := by
  refine ⟨_, _, by rw [rgP_len]; exact walk_rangeC, fun M' H2 m q => ⟨trivial, fun d i x H3 hil y => ?_⟩⟩
  obtain ⟨rfl, rfl⟩ := y
  rw [rgP_len] at hil
  exact ⟨.int (lo + (i : Int) * st), rgP_at hil, fun _ _ e => e, .int _⟩
def inB (i : Int) : Prop := -(2 ^ 62) ≤ i ∧ i < 2 ^ 62
def pRng1 (w : WE) : WA := fun ρ => bindR w (fun a post => match a with
  | .int j => inB j ∧ post (.ok (rgP 0 1 j.toNat))
  | _ => False) ρ
def pRng2 (wa wb : WE) : WA := fun ρ => bindR wa (fun a => bindR wb (fun b post => match a, b with
  | .int i, .int j => inB i ∧ inB j ∧ post (.ok (rgP i 1 (j - i).toNat))
  | _, _ => False) ρ) ρ
theorem ei_rng1 (h : EvE K T E te w) : EvI b K T E (iRng1 (tCons te tNil)) (pRng1 w) := by
  rintro c M σ H ρ post R rfl rfl s hw k e
  refine h c M σ H ρ _ _ rfl rfl s hw (fun H1 x p t1 r1 h1 => ?_) (e.imp fun _ _ z => z)
  dsimp only at h1
  split at h1
  · cases r1
    exact ⟨_, rfl, h1.1.1, h1.1.2, k H1 _ _ t1 it_range h1.2⟩
  · exact h1.elim
theorem ei_rng2 (ha : EvE K T E te wa) (hb : EvE K T E tf wb) : EvI b K T E (iRng2 (tCons te (tCons tf tNil))) (pRng2 wa wb) := by
  rintro c M σ H ρ post R rfl rfl s hw k e
  refine ha c M σ H ρ _ _ rfl rfl s hw (fun H1 x p t1 r1 h1 => ?_) (e.imp fun _ _ z => z)
  refine hb c M σ H1 ρ _ _ rfl rfl (s.stp t1) h1 (fun H2 y q t2 r2 h2 => ?_) (e.imp fun _ _ z => z)
  dsimp only at h2
  split at h2
  · cases r1; cases r2
    exact ⟨_, _, rfl, ⟨h2.1.1, h2.1.2, h2.2.1.1, h2.2.1.2⟩, k H2 _ _ (t1.trans t2) it_range h2.2.2⟩
  · exact h2.elim
def pRev2 (wa wb : WE) : WA := fun ρ => bindR wa (fun a => bindR wb (fun b post => match a, b with
  | .int i, .int j => inB i ∧ inB j ∧ post (.ok (rgP (i + (((j - i).toNat : Nat) : Int) - 1) (-1) (j - i).toNat))
  | _, _ => False) ρ) ρ
def pRev1 (wa : WE) : WA := fun ρ => bindR wa (fun a post => match a with
  | .int j => inB j ∧ post (.ok (rgP (0 + (((j - 0).toNat : Nat) : Int) - 1) (-1) (j - 0).toNat))
  | _ => False) ρ
theorem ei_rev1 (h : EvE K T E te w) : EvI b K T E (iRevR (tRg1 te)) (pRev1 w) := by
  rintro c M σ H ρ post R rfl rfl s hw k e
  refine h c M σ H ρ _ _ rfl rfl s hw (fun H1 x p t1 r1 h1 => ?_) (e.imp fun _ _ z => z)
  dsimp only at h1
  split at h1
  · cases r1
    exact ⟨_, rfl, by omega, by omega, h1.1.1, h1.1.2, k H1 _ _ t1 it_rangeC h1.2⟩
  · exact h1.elim
theorem ei_rev2 (ha : EvE K T E te wa) (hb : EvE K T E tf wb) : EvI b K T E (iRevR (tRg2 te tf)) (pRev2 wa wb) := by
  rintro c M σ H ρ post R rfl rfl s hw k e
  refine ha c M σ H ρ _ _ rfl rfl s hw (fun H1 x p t1 r1 h1 => ?_) (e.imp fun _ _ z => z)
  refine hb c M σ H1 ρ _ _ rfl rfl (s.stp t1) h1 (fun H2 y q t2 r2 h2 => ?_) (e.imp fun _ _ z => z)
  dsimp only at h2
  split at h2
  · cases r1; cases r2
    exact ⟨_, _, rfl, rfl, h2.1.1, h2.1.2, h2.2.1.1, h2.2.1.2, k H2 _ _ (t1.trans t2) it_rangeC h2.2.2⟩
  · exact h2.elim
/-- list(range(..)) -/
theorem rgV_P (a b : Int) : RepL K M H (rgV a b) (rgP a 1 (b - a).toNat) := by
  refine ⟨by rw [rgV_length, rgP_len], fun i x p h1 h2 => ?_⟩
  unfold rgV at h1
  have hi : i < (b - a).toNat := by have := (List.getElem?_eq_some_iff.mp h2).1; rw [rgP_len] at this; exact this
  rw [rgP_at hi] at h2
  rw [List.getElem?_map, List.getElem?_range hi] at h1
  cases h1; cases h2
  rw [Int.mul_one]; exact .int _
def szB (i j : Int) : Prop := 0 ≤ i ∧ i ≤ 1000000 ∧ 0 ≤ j ∧ j ≤ 1000000
def pLRg1 (w : WE) : WA := fun ρ => bindR w (fun a post => match a with
  | .int j => szB 0 j ∧ post (.ok (rgP 0 1 j.toNat))
  | _ => False) ρ
def pLRg2 (wa wb : WE) : WA := fun ρ => bindR wa (fun a => bindR wb (fun b post => match a, b with
  | .int i, .int j => szB i j ∧ post (.ok (rgP i 1 (j - i).toNat))
  | _, _ => False) ρ) ρ
theorem eo_lrg1 (h : EvE K T E te w) : EvO K T E (tLstRg (tRg1 te)) (pLRg1 w) := by
  rintro c M σ H ρ post Q rfl rfl s hw k e
  refine h c M σ H ρ _ _ rfl rfl s hw (fun H1 x p t1 r1 h1 => ?_) (e.imp fun _ _ z => z)
  dsimp only at h1
  split at h1
  · rename_i j
    cases r1
    obtain ⟨⟨z1, z2, z3, z4⟩, h1⟩ := h1
    refine ⟨j, rfl, RgOk.of_le (by omega) (by omega) (by omega) (by omega), new_lst (s.stp t1) (?_ : RepL c.K M H1 _ (rgP 0 1 j.toNat)) h1 fun H' a vs ps t f h r q => k H' a vs ps (t1.trans t) (f.back s t1) h r q⟩
    have := rgV_P (K := c.K) (M := M) (H := H1) 0 j
    rw [Int.sub_zero] at this
    exact this
  · exact h1.elim
theorem eo_lrg2 (ha : EvE K T E te wa) (hb : EvE K T E tf wb) : EvO K T E (tLstRg (tRg2 te tf)) (pLRg2 wa wb) := by
  rintro c M σ H ρ post Q rfl rfl s hw k e
  refine ha c M σ H ρ _ _ rfl rfl s hw (fun H1 x p t1 r1 h1 => ?_) (e.imp fun _ _ z => z)
  have s1 := s.stp t1
  refine hb c M σ H1 ρ _ _ rfl rfl s1 h1 (fun H2 y q t2 r2 h2 => ?_) (e.imp fun _ _ z => z)
  dsimp only at h2
  split at h2
  · cases r1; cases r2
    obtain ⟨⟨z1, z2, z3, z4⟩, h2⟩ := h2
    exact ⟨_, _, rfl, rfl, RgOk.of_le (by omega) (by omega) (by omega) (by omega), new_lst (s1.stp t2) (rgV_P _ _) h2 fun H' a vs ps t f h r q => k H' a vs ps (t1.trans (t2.trans t)) ((f.back s1 t2).back s t1) h r q⟩
  · exact h2.elim
/-- pairs -/
theorem it_pair {J : It} {f g : Nat → Option V} {ps : List PV} {G : Hp → Prop} (w : Walk J ps.length G (YPair f g)) (hG : ∀ M' H1, Nxt M H M' H1 → RB b c H H1 → G H1)
    (hp : ∀ i x y, i < ps.length → f i = some x → g i = some y → ∃ p q, ps[i]? = some (.tup [p, q]) ∧ Rep c.K M H x p ∧ Rep c.K M H y q) : ItR b c M H J ps := by
  refine ⟨G, _, w, fun M' H1 n q => ⟨hG M' H1 n q, fun d i x H3 hil y => ?_⟩⟩
  obtain ⟨A, x, y, rfl, h2, rfl, h4, h5⟩ := y
  obtain ⟨p, q, h6, r1, r2⟩ := hp i x y hil h4 h5
  have sm : Same H1 (upd H1 A (.tup [x, y])) := fun z o e => by rw [upd_ne (ne_of_none e h2)]; exact e
  have n2 : Nxt M H M' (upd H1 A (.tup [x, y])) := n.trans ⟨fun z o _ _ e => sm z o e, fun a ha => .inl ha⟩
  have rl : RepL c.K M' (upd H1 A (.tup [x, y])) [x, y] [p, q] := .cons (r1.nxt n2) (.cons (r2.nxt n2) .nil)
  exact ⟨_, h6, sm, .tup (nodom d h2) upd_same rl.1 rl.2⟩
def enumP (k : Int) : List PV → List PV
  | [] => []
  | p :: ps => .tup [.int k, p] :: enumP (k + 1) ps
theorem enumP_at : ∀ {ps : List PV} {k : Int} {i : Nat} {p : PV}, ps[i]? = some p → (enumP k ps)[i]? = some (.tup [.int (k + (i : Int)), p])
  | q :: ps, k, 0, p, h => by cases h; unfold enumP; rw [show k + ((0 : Nat) : Int) = k by omega]; rfl
  | q :: ps, k, i + 1, p, h => by
    unfold enumP
    rw [List.getElem?_cons_succ, enumP_at (p := p) (by simpa using h), show k + 1 + (i : Int) = k + ((i + 1 : Nat) : Int) by omega]
theorem enumP_len : ∀ (ps : List PV) (k : Int), (enumP k ps).length = ps.length
  | [], _ => rfl
  | _ :: ps, k => by unfold enumP; rw [List.length_cons, enumP_len ps]; rfl
def pEnum (w : WE) : WA := fun ρ => bindR w (fun a post => match a with
  | .lst ps => post (.ok (enumP 0 ps))
  | _ => False) ρ
theorem ei_enum (h : EvE K T E te w) : EvI b K T E (iEnum K (tCons te tNil)) (pEnum w) := by
  rintro c M σ H ρ post R rfl rfl s hw k e
  refine h c M σ H ρ _ _ rfl rfl s hw (fun H1 x p t1 r1 h1 => ?_) (e.imp fun _ _ z => z)
  dsimp only at h1
  split at h1
  · rename_i ps
    obtain ⟨a, xs, rfl, hm, ha, r⟩ := r1.lstI
    refine ⟨a, xs, rfl, SqL.of ha, k H1 _ _ t1 (it_pair (ps := enumP 0 ps) (by rw [enumP_len, ← r.1]; exact walk_enum) (fun M' H2 n _ => SqL.of (n.ext _ _ hm NT.lst ha)) (fun i x y hi e1 e2 => ?_)) h1⟩
    cases e1
    have hi : i < ps.length := by rw [enumP_len] at hi; exact hi
    exact ⟨.int (0 + (i : Int)), ps[i], enumP_at (by simp [hi]), by rw [Int.zero_add]; exact .int _, r.2 i y _ e2 (by simp [hi])⟩
  · exact h1.elim
theorem it_enumS {z : Str} {k0 : Int} : ItR b c M H (Ites z k0) (enumP k0 (chars z)) := by
  refine ⟨fun _ => True, _, ⟨fun i H hi _ => ?_, fun H _ => ?_, fun i H x H' _ _ y => y⟩, fun M' H1 n q => ⟨trivial, fun d i x H3 hil y => ?_⟩⟩
  · rw [enumP_len, chars_len] at hi; exact hi
  · rw [enumP_len, chars_len]; rfl
  · obtain ⟨A, ch, rfl, h2, rfl, h4⟩ := y
    have sm : Same H1 (upd H1 A (.tup [.int (k0 + (i : Nat)), .str ⟨#[ch]⟩])) := fun z o e => by rw [upd_ne (ne_of_none e h2)]; exact e
    have rl : RepL c.K M' (upd H1 A (.tup [.int (k0 + (i : Nat)), .str ⟨#[ch]⟩])) [.int (k0 + (i : Nat)), .str ⟨#[ch]⟩] [.int (k0 + (i : Int)), .str ⟨#[ch]⟩] := .cons (.int _) (.cons (.str _) .nil)
    exact ⟨_, enumP_at (p := .str ⟨#[ch]⟩) (by unfold chars; rw [List.getElem?_map, Array.getElem?_toList, h4]; rfl), sm, .tup (nodom d h2) upd_same rl.1 rl.2⟩
def pEnumS (w : WE) : WA := fun ρ => bindR w (fun a post => match a with
  | .str z => post (.ok (enumP 0 (chars z)))
  | _ => False) ρ
def pEnumSK (wa wb : WE) : WA := fun ρ => bindR wa (fun a => bindR wb (fun b post => match a, b with
  | .str z, .int k0 => inB k0 ∧ post (.ok (enumP k0 (chars z)))
  | _, _ => False) ρ) ρ
theorem ei_enumS (h : EvE K T E te w) : EvI b K T E (iEnumS (tCons te tNil)) (pEnumS w) := by
  rintro c M σ H ρ post R rfl rfl s hw k e
  refine h c M σ H ρ _ _ rfl rfl s hw (fun H1 x p t1 r1 h1 => ?_) (e.imp fun _ _ z => z)
  dsimp only at h1
  split at h1
  · cases r1
    exact ⟨_, rfl, k H1 _ _ t1 it_enumS h1⟩
  · exact h1.elim
theorem ei_enumSK (ha : EvE K T E te wa) (hb : EvE K T E tf wb) : EvI b K T E (iEnumSK (tCons te tNil) (tCons tf tNil)) (pEnumSK wa wb) := by
  rintro c M σ H ρ post R rfl rfl s hw k e
  refine ha c M σ H ρ _ _ rfl rfl s hw (fun H1 x p t1 r1 h1 => ?_) (e.imp fun _ _ z => z)
  refine hb c M σ H1 ρ _ _ rfl rfl (s.stp t1) h1 (fun H2 y q t2 r2 h2 => ?_) (e.imp fun _ _ z => z)
  dsimp only at h2
  split at h2
  · cases r1; cases r2
    obtain ⟨⟨z1, z2⟩, h2⟩ := h2
    exact ⟨_, _, rfl, rfl, by omega, by omega, k H2 _ _ (t1.trans t2) it_enumS h2⟩
  · exact h2.elim
/-- zip -/
def zipP : List PV → List PV → List PV
  | p :: ps, q :: qs => .tup [p, q] :: zipP ps qs
  | _, _ => []
theorem zipP_len : ∀ (ps qs : List PV), (zipP ps qs).length = min ps.length qs.length
  | [], qs => by simp [zipP]
  | p :: ps, [] => by simp [zipP]
  | p :: ps, q :: qs => by unfold zipP; rw [List.length_cons, zipP_len ps qs, List.length_cons, List.length_cons]; omega
theorem zipP_at : ∀ {ps qs : List PV} {i : Nat} {p q : PV}, ps[i]? = some p → qs[i]? = some q → (zipP ps qs)[i]? = some (.tup [p, q])
  | p' :: ps, q' :: qs, 0, p, q, h1, h2 => by cases h1; cases h2; rfl
  | p' :: ps, q' :: qs, i + 1, p, q, h1, h2 => by
    unfold zipP
    rw [List.getElem?_cons_succ]
    exact zipP_at (by simpa using h1) (by simpa using h2)
  | [], _, _, p, q, h1, h2 => by simp at h1
  | _ :: _, [], _, p, q, h1, h2 => by simp at h2
def pZip (wa wb : WE) : WA := fun ρ => bindR wa (fun a => bindR wb (fun b post => match a, b with
  | .lst ps, .lst qs => post (.ok (zipP ps qs))
  | .tup ps, .tup qs => post (.ok (zipP ps qs))
  | _, _ => False) ρ) ρ
theorem ei_zip (ha : EvE K T E te wa) (hb : EvE K T E tf wb) : EvI b K T E (RZ.iZipA K (tCons te (tCons tf tNil))) (pZip wa wb) := by
  rintro c M σ H ρ post R rfl rfl s hw k e
  refine ha c M σ H ρ _ _ rfl rfl s hw (fun H1 x p t1 r1 h1 => ?_) (e.imp fun _ _ z => z)
  have s1 := s.stp t1
  refine hb c M σ H1 ρ _ _ rfl rfl s1 h1 (fun H2 y q t2 r2 h2 => ?_) (e.imp fun _ _ z => z)
  dsimp only at h2
  split at h2
  · rename_i ps qs
    obtain ⟨u, xs, rfl, hm, ha, r⟩ := (s1.rep t2 r1).lstI
    obtain ⟨v, ys, rfl, hm2, hb, r'⟩ := r2.lstI
    refine ⟨u, v, xs, ys, rfl, .inl ⟨SqL.of ha, SqL.of hb, k H2 _ _ (t1.trans t2) (it_pair (ps := zipP ps qs) (walk_zip (K := c.K) (a := u) (b := v) (xs := xs) (ys := ys) (by rw [zipP_len, r.1, r'.1])) (fun M' H3 n _ => ⟨SqL.of (n.ext _ _ hm NT.lst ha), SqL.of (n.ext _ _ hm2 NT.lst hb)⟩) (fun i x y hi e1 e2 => ?_)) h2⟩⟩
    rw [zipP_len] at hi
    have i1 : i < ps.length := by omega
    have i2 : i < qs.length := by omega
    exact ⟨ps[i], qs[i], zipP_at (by simp [i1]) (by simp [i2]), r.2 i x _ e1 (by simp [i1]), r'.2 i y _ e2 (by simp [i2])⟩
  · rename_i ps qs
    have tx : ∀ {x : V} {ps : List PV}, Rep c.K M H2 x (.tup ps) → ∃ a xs, x = .ref a ∧ SqT c.K H2 a xs ∧ RepL c.K M H2 xs ps ∧ ∀ M' H3, Nxt M H2 M' H3 → SqT c.K H3 a xs := fun r1 => by
      cases r1 with
      | tup hm h hl hi => exact ⟨_, _, rfl, SqT.of h, ⟨hl, hi⟩, fun M' H2 n => SqT.of (n.ext _ _ hm NT.tup h)⟩
      | ktup h hl hi => exact ⟨_, _, rfl, h _, ⟨hl, hi⟩, fun M' H2 n => h _⟩
    obtain ⟨u, xs, rfl, ha, r, hx⟩ := tx (s1.rep t2 r1)
    obtain ⟨v, ys, rfl, hb, r', hy⟩ := tx r2
    refine ⟨u, v, xs, ys, rfl, .inr ⟨ha, hb, k H2 _ _ (t1.trans t2) (it_pair (ps := zipP ps qs) (walk_zipT (K := c.K) (a := u) (b := v) (xs := xs) (ys := ys) (by rw [zipP_len, r.1, r'.1])) (fun M' H3 n _ => ⟨hx M' H3 n, hy M' H3 n⟩) (fun i x y hi e1 e2 => ?_)) h2⟩⟩
    rw [zipP_len] at hi
    have i1 : i < ps.length := by omega
    have i2 : i < qs.length := by omega
    exact ⟨ps[i], qs[i], zipP_at (by simp [i1]) (by simp [i2]), r.2 i x _ e1 (by simp [i1]), r'.2 i y _ e2 (by simp [i2])⟩
  · exact h2.elim
/-- reversed(list) -/
def pItRev (w : WE) : WA := fun ρ => bindR w (fun a post => match a with
  | .lst ps => post (.ok ps.reverse)
  | _ => False) ρ
theorem ei_rev (h : EvE K T E te w) : EvI b K T E (iRev K (tCons te tNil)) (pItRev w) := by
  rintro c M σ H ρ post R rfl rfl s hw k e
  refine h c M σ H ρ _ _ rfl rfl s hw (fun H1 x p t1 r1 h1 => ?_) (e.imp fun _ _ z => z)
  dsimp only at h1
  split at h1
  · rename_i ps
    obtain ⟨a, xs, rfl, hm, ha, r⟩ := r1.lstI
    refine ⟨a, xs, rfl, SqL.of ha, k H1 _ _ t1 ?_ h1⟩
    refine ⟨_, _, by rw [List.length_reverse, ← r.1]; exact walk_rev (K := c.K) (a := a) (xs := xs), fun M' H2 n q => ⟨SqL.of (n.ext _ _ hm NT.lst ha), fun d i x H3 hil y => ?_⟩⟩
    obtain ⟨rfl, hi⟩ := y
    rw [List.length_reverse] at hil
    have hl : xs.length - 1 - i < ps.length := by rw [← r.1] at hil ⊢; omega
    exact ⟨ps[xs.length - 1 - i], by rw [List.getElem?_reverse hil, ← r.1]; simp [hl], fun _ _ e => e, (r.2 _ x _ hi (by simp [hl])).nxt n⟩
  · exact h1.elim
end
end My
end

section
set_option Elab.async false
set_option maxRecDepth 100000
set_option maxHeartbeats 4000000
set_option linter.all false
namespace My
open PySem L2
abbrev WG : Type := PV → List SV → (Res (List SV) → Prop) → Prop
/-- a target: the slots ss are set -/
def EvG (K : PySem.W.Frag) (ss : List Nat) (g : TG) (w : WG) : Prop := ∀ (c : Cfg) (M : List Addr) (σ : L2.St) (H : Hp) (ρ : List SV) (v : V) (p : PV) (post : Res (List SV) → Prop) (R : L2.St → Hp → Prop), c.K = K → StR c M σ H ρ → Rep c.K M H v p → w p ρ post →
  (∀ σ' ρ', StR c M σ' H ρ' → σ'.length = σ.length → (∀ i, i ∉ ss → σ'[i]? = σ[i]?) → post (.ok ρ') → R σ' H) → g v σ H R
abbrev WGs : Type := List PV → List SV → (Res (List SV) → Prop) → Prop
def EvGs (K : PySem.W.Frag) (ss : List Nat) (g : TGs) (w : WGs) : Prop := ∀ (c : Cfg) (M : List Addr) (σ : L2.St) (H : Hp) (ρ : List SV) (vs : List V) (ps : List PV) (post : Res (List SV) → Prop) (R : L2.St → Hp → Prop), c.K = K → StR c M σ H ρ → RepL c.K M H vs ps → w ps ρ post →
  (∀ σ' ρ', StR c M σ' H ρ' → σ'.length = σ.length → (∀ i, i ∉ ss → σ'[i]? = σ[i]?) → post (.ok ρ') → R σ' H) → g vs σ H R
section
variable {c : Cfg} {M : List Addr} {σ : L2.St} {H H' : Hp} {ρ : List SV} {K : PySem.W.Frag} {T : List (Addr × Str)} {E : XK} {te tf tg : TE} {w wa wb wc : WE} {tt tu : TT} {vt vu : WT} {ta tb : TA} {va vb : WA} {i : Nat} {p : PV} {v : V} {b : Bool} {g : TG} {gs : TGs} {wg : WG} {wgs : WGs} {ss us : List Nat}
def gpName (i : Nat) : WG := fun p ρ post => post (.ok (ρ.set i (.fz p)))
theorem eg_name : EvG K [i] (gName i) (gpName i) := by
  rintro c M σ H ρ v p post R rfl s r h k
  exact k _ _ (s.set i (.fz r) rfl) (by simp) (fun j hj => List.getElem?_set_ne (fun z => hj (by simp [z]))) h
def gpNil : WGs := fun ps ρ post => ps = [] ∧ post (.ok ρ)
def gpCons (wg : WG) (wgs : WGs) : WGs := fun ps ρ post => match ps with
  | p :: qs => wg p ρ fun r => match r with
    | .ok ρ' => wgs qs ρ' post
    | .er cn fs => post (.er cn fs)
  | [] => False
theorem eg_nil : EvGs K [] gNil gpNil := by
  rintro c M σ H ρ vs ps post R rfl s r h k
  obtain ⟨rfl, h⟩ := h
  cases vs with
  | nil => exact ⟨rfl, k _ _ s rfl (fun _ _ => rfl) h⟩
  | cons v vs => cases r.1
theorem eg_cons (h1 : EvG K ss g wg) (h2 : EvGs K us gs wgs) : EvGs K (ss ++ us) (gCons g gs) (gpCons wg wgs) := by
  rintro c M σ H ρ vs ps post R rfl s r h k
  cases ps with
  | nil => exact h.elim
  | cons p ps =>
    cases vs with
    | nil => cases r.1
    | cons v vs =>
      refine ⟨v, vs, rfl, h1 c M σ H ρ v p _ _ rfl s r.head h fun σ1 ρ1 s1 l1 e1 h1 => ?_⟩
      exact h2 c M σ1 H ρ1 vs ps post _ rfl s1 r.tail h1 fun σ2 ρ2 s2 l2 e2 h2 => k σ2 ρ2 s2 (l2.trans l1) (fun j hj => (e2 j (fun z => hj (List.mem_append_right _ z))).trans (e1 j (fun z => hj (List.mem_append_left _ z)))) h2
def gpTup (n : Nat) (wgs : WGs) : WG := fun p ρ post => match p with
  | .tup ps => ps.length = n ∧ wgs ps ρ post
  | _ => False
def gpUnl (n : Nat) (wgs : WGs) : WG := fun p ρ post => match p with
  | .lst ps => ps.length = n ∧ wgs ps ρ post
  | _ => False
theorem eg_tup {n : Nat} (h : EvGs K ss gs wgs) : EvG K ss (gTup K n gs) (gpTup n wgs) := by
  rintro c M σ H ρ v p post R rfl s r h1 k
  unfold gpTup at h1
  split at h1
  · obtain ⟨a, xs, rfl, ha, hi, _⟩ := r.tupI
    exact ⟨a, xs, rfl, ha, hi.1.trans h1.1, h c M σ H ρ xs _ post R rfl s hi h1.2 k⟩
  · exact h1.elim
theorem eg_unl {n : Nat} (h : EvGs K ss gs wgs) : EvG K ss (gUnl K n gs) (gpUnl n wgs) := by
  rintro c M σ H ρ v p post R rfl s r h1 k
  unfold gpUnl at h1
  split at h1
  · obtain ⟨a, xs, rfl, hm, ha, hi⟩ := r.lstI
    exact ⟨a, xs, rfl, SqL.of ha, hi.1.trans h1.1, h c M σ H ρ xs _ post R rfl s hi h1.2 k⟩
  · exact h1.elim
/-! ### list comprehensions -/
def wipeP (ρ : List SV) : List Nat → List SV
  | [] => ρ
  | v :: vs => (wipeP ρ vs).set v .un
theorem StR.wipe (s : StR c M σ H ρ) : ∀ vs : List Nat, StR c M (wipe σ vs) H (wipeP ρ vs)
  | [] => s
  | v :: vs => (s.wipe vs).set v .un rfl
theorem wipe_at {σ : L2.St} {i : Nat} : ∀ {vs : List Nat}, i ∉ vs → (wipe σ vs)[i]? = σ[i]?
  | [], _ => rfl
  | v :: vs, h => by
    unfold wipe
    rw [List.getElem?_set_ne (fun z => h (by simp [z])), wipe_at (fun z => h (List.mem_cons_of_mem _ z))]
theorem wipe_in {σ : L2.St} {i : Nat} (hi : i < σ.length) : ∀ {vs : List Nat}, i ∈ vs → (wipe σ vs)[i]? = some none
  | v :: vs, h => by
    unfold wipe
    by_cases e : v = i
    · subst e
      rw [List.getElem?_set_self (by rw [wipe_length]; exact hi)]
    · rw [List.getElem?_set_ne e]
      rcases List.mem_cons.mp h with z | z
      · exact absurd z.symm e
      · exact wipe_in hi z
theorem wipe_eq {σ σ2 : L2.St} {vs : List Nat} (hl : σ2.length = (wipe σ vs).length) (h : ∀ i, i ∉ vs → σ2[i]? = (wipe σ vs)[i]?) : wipe σ2 vs = wipe σ vs := by
  apply List.ext_getElem?
  intro i
  rw [wipe_length] at hl
  by_cases hi : i ∈ vs
  · by_cases h2 : i < σ.length
    · rw [wipe_in h2 hi, wipe_in (hl ▸ h2) hi]
    · rw [List.getElem?_eq_none (by rw [wipe_length]; omega), List.getElem?_eq_none (by rw [wipe_length]; omega)]
  · rw [wipe_at hi, h i hi, wipe_at hi]
def lcW (wg : WG) (vt : WT) (we : WE) : List PV → List PV → List SV → (Res (List PV) → Prop) → Prop
  | acc, [], ρ, post => post (.ok acc)
  | acc, x :: xs, ρ, post => wg x ρ fun r => match r with
    | .er cn fs => post (.er cn fs)
    | .ok ρ2 => vt ρ2 fun r2 => match r2 with
      | .er cn fs => post (.er cn fs)
      | .ok d => if d = true then we ρ2 fun r3 => match r3 with
          | .er cn fs => post (.er cn fs)
          | .ok y => acc.length ≤ 1000000 ∧ lcW wg vt we (acc ++ [y]) xs ρ post
        else lcW wg vt we acc xs ρ post
def pLc (va : WA) (wg : WG) (vt : WT) (we : WE) (vs : List Nat) : WA := fun ρ => bindR va (fun items post => lcW wg vt we [] items (wipeP ρ vs) post) ρ
theorem upd_tabs {T : List (Addr × Str)} {D : Addr} {o : HO} (h : LamX.Tabs T H) (n : Fresh H D ∨ ∃ xs, H D = some (.lst xs)) (hn : H D = none ∨ ∃ xs, H D = some (.lst xs)) : LamX.Tabs T (upd H D o) := by
  intro q hq
  obtain ⟨ps, h1, h2, h3⟩ := h q hq
  have ne : ∀ x u, H x = some u → (∀ xs, u ≠ .lst xs) → x ≠ D := fun x u e nt z => by
    subst z
    rcases hn with q | ⟨xs, q⟩
    · rw [q] at e; cases e
    · rw [q] at e; cases e; exact nt _ rfl
  refine ⟨ps, (upd_ne (ne _ _ h1 (fun _ z => by cases z))).trans h1, h2, fun pos cv hc => ?_⟩
  obtain ⟨c', e1, e2⟩ := h3 pos cv hc
  exact ⟨c', e1, (upd_ne (ne _ _ e2 (fun _ z => by unfold LamX.CodeO at z; cases z))).trans e2⟩
theorem eo_lc {wi : TI} {vs : List Nat} (hi : EvI true K T E wi va) (hg : EvG K vs g wg) (ht : EvT K T E tt vt) (he : EvE K T E te w) : EvO K T E (tLc wi g tt te vs) (pLc va wg vt w vs) := by
  rintro c M σ H ρ post Q rfl rfl s hw k e
  refine hi c M σ H ρ _ _ rfl rfl s hw (fun H1 J items t1 it h1 => ?_) (e.imp fun _ _ z => z)
  intro D hD
  have s1 := s.stp t1
  obtain ⟨G, Y, wk, hG⟩ := it
  have fD : Fresh H1 D := .none hD
  have nD : D ∉ M := s1.notIn fD
  have bD : ∀ x y, c.B = some (x, y) → D ≠ x ∧ D ≠ y := fun x y e => by
    obtain ⟨h, _⟩ := s1.bag x y e
    exact ⟨(h.na hD).symm, (h.nc hD).symm⟩
  -- the state within
  have inn : ∀ {H2 : Hp} {acc : List V}, Stp c H1 H2 → H2 D = some (.lst acc) → StR c (D :: M) (wipe σ vs) H2 (wipeP ρ vs) := fun {H2 acc} t2 hd => by
    have s2 := s1.stp t2
    have n2 : Nxt M H1 (D :: M) H2 := ⟨s1.ext t2, fun a ha => by
      rcases List.mem_cons.mp ha with z | z
      · exact .inr (z ▸ fD)
      · exact .inl z⟩
    have s3 : StR c (D :: M) σ H2 ρ := ⟨s2.fr, fun a ha => by
        rcases List.mem_cons.mp ha with z | z
        · exact ⟨_, z ▸ hd, NT.lst⟩
        · exact s2.dom a z, fun a ha => List.mem_cons_of_mem _ (s2.sub a ha), s2.mm, s2.d0, s2.tabs, fun a b e => ⟨(s2.bag a b e).1, List.mem_cons_of_mem _ (s2.bag a b e).2.1, List.mem_cons_of_mem _ (s2.bag a b e).2.2.1, (s2.bag a b e).2.2.2⟩, s2.len, fun i o q h1' h2' => ?_, s2.uniq⟩
    · exact s3.wipe vs
    · have z := s1.slots i o q h1' h2'
      have z2 := s2.slots i o q h1' h2'
      cases z2 with
      | un => exact .un
      | fz h =>
        cases z with
        | fz h' => exact .fz (h'.nxt n2)
      | own hm hb h0 h hi =>
        cases z with
        | own hm' hb' h0' h' hi' =>
          have e3 := t2.keep _ _ (fun a b e => (hb' a b e).1) NT.lst h'
          rw [h] at e3
          cases e3
          exact .own (List.mem_cons_of_mem _ hm) hb h0 h (hi'.nxt n2)
      | bag h => exact .bag h
      | ob hm hb h0 h hi =>
        cases z with
        | ob hm' hb' h0' h' hi' =>
          have e3 := t2.keep _ _ (fun a b e => (hb' a b e).1) NT.ins h'
          rw [h] at e3
          cases e3
          exact .ob (List.mem_cons_of_mem _ hm) hb h0 h (hi'.nxt n2)
      | scr h =>
        cases z with
        | scr h' => exact .scr (h'.nxt n2)
      | ref => exact .ref
  have stD : ∀ {H2 : Hp} {u : HO}, Stp c H1 H2 → (H2 D = none ∨ ∃ xs, H2 D = some (.lst xs)) → Stp c H1 (upd H2 D u) := fun {H2 u} t2 hd =>
    ⟨fun x o n nt ex => by
        have : x ≠ D := fun z => by subst z; rw [hD] at ex; cases ex
        rw [upd_ne this]; exact t2.keep x o n nt ex,
      upd_tabs t2.tabs (by rcases hd with z | z; exact .inl (.none z); exact .inr z) hd, fun a b e => (t2.bag a b e).mut (bD a b e).1.symm (bD a b e).2.symm⟩
  have ndD : ∀ {H2 : Hp} {u : HO} {acc : List V} {xs : List V} {ps : List PV}, H2 D = some (.lst acc) → RepL c.K (D :: M) H2 xs ps → RepL c.K (D :: M) (upd H2 D u) xs ps := fun {H2 u acc xs ps} hd r => r.ext (fun x o n nt ex => by
    rw [upd_ne (fun z => n (by simp [z]))]; exact ex)
  refine lc_it wk (fun i H2 => Stp c H1 H2 ∧ ∃ acc ps, H2 D = some (.lst acc) ∧ RepL c.K (D :: M) H2 acc ps ∧ lcW wg vt w ps (items.drop i) (wipeP ρ vs) post)
    ⟨stD (Stp.refl s1) (.inl hD), [], [], upd_same, .nil, h1⟩ ?_ ?_ ?_
  · rintro i H2 hil ⟨t2, _⟩
    exact (hG M H2 ((s1.ext t2).nxt) (fun _ => t2)).1
  · rintro i x H2 H3 hil ⟨t2, acc, ps, hd, r, hl⟩ y
    have s2 := inn t2 hd
    have n2 : Nxt M H1 (D :: M) H2 := ⟨s1.ext t2, fun a ha => by
      rcases List.mem_cons.mp ha with z | z
      · exact .inr (z ▸ fD)
      · exact .inl z⟩
    obtain ⟨p, hp, sm, rp⟩ := (hG (D :: M) H2 n2 (fun _ => t2)).2 s2.dom i x H3 hil y
    have t3 : Stp c H2 H3 := ⟨fun x o _ _ e => sm x o e, (s2.tabs).ext (fun b u e => sm b u e), fun a b e => by
      obtain ⟨cs, i, r, m, n, d6, z1, z2, z3, z4⟩ := t2.bag a b e
      exact ⟨cs, i, r, m, n, d6, sm _ _ z1, z2, sm _ _ z3, z4⟩⟩
    have s3 := s2.stp t3
    have hd3 := sm _ _ hd
    have e4 : items.drop i = p :: items.drop (i + 1) := by
      rw [List.drop_eq_getElem_cons hil]
      congr 1
      rw [List.getElem?_eq_getElem hil] at hp
      exact Option.some.inj hp
    rw [e4] at hl
    unfold lcW at hl
    refine hg c (D :: M) (L2.wipe σ vs) H3 (wipeP ρ vs) x p _ _ rfl s3 rp hl fun σ2 ρ2 s4 l4 e4 hl => ⟨wipe_eq l4 e4, ?_⟩
    dsimp only at hl
    have r3 := s2.repL t3 r
    refine ht c (D :: M) σ2 H3 ρ2 _ _ rfl rfl s4 hl (fun H4 d t4 hl => ?_) (e.imp fun _ _ z => z)
    have s5 := s4.stp t4
    have t14 : Stp c H1 H4 := t2.trans (t3.trans t4)
    have r4 := s3.repL t4 r3
    have hd4 : H4 D = some (.lst acc) := t4.keep D _ (fun a b e => (bD a b e).1) NT.lst hd3
    dsimp only at hl
    cases d with
    | false =>
      rw [if_neg Bool.false_ne_true] at hl ⊢
      exact ⟨t14, acc, ps, hd4, r4, hl⟩
    | true =>
      rw [if_pos rfl] at hl ⊢
      refine he c (D :: M) σ2 H4 ρ2 _ _ rfl rfl s5 hl (fun H5 y q t5 r5 hl => ?_) (e.imp fun _ _ z => z)
      dsimp only at hl
      have hd5 : H5 D = some (.lst acc) := t5.keep D _ (fun a b e => (bD a b e).1) NT.lst hd4
      have r6 := s5.repL t5 r4
      refine ⟨acc, hd5, szMl (by rw [r6.1]; exact hl.1), stD (t14.trans t5) (.inr ⟨_, hd5⟩), acc ++ [y], ps ++ [q], upd_same, ndD hd5 (r6.snoc r5), hl.2⟩
  · rintro H2 ⟨t2, acc, ps, hd, r, hl⟩
    rw [List.drop_eq_nil_of_le (Nat.le_refl _)] at hl
    exact k H2 D acc ps (t1.trans t2) (fD.back s t1) hd r hl
end
end My
end

section
set_option Elab.async false
set_option maxRecDepth 100000
set_option maxHeartbeats 4000000
set_option linter.all false
namespace My
open PySem L2
inductive RV where
  | fz (p : PV) | own (ps : List PV)
/-- what a def does, by values -/
abbrev WD : Type := List SV → (Res RV → Prop) → Prop
structure RtW (c : Cfg) (Q : VK) (post : Res RV → Prop) : Prop where
  fz : ∀ H' x p, Lv c H' → Rep c.K c.M0 H' x p → post (.ok (.fz p)) → Q x H'
  own : ∀ H' a vs ps, Lv c H' → Fresh c.H0 a → H' a = some (.lst vs) → RepL c.K (a :: c.M0) H' vs ps → post (.ok (.own ps)) → Q (.ref a) H'
/-- how a def is entered -/
structure Ent (c : Cfg) (H : Hp) (vs : List V) (as : List SV) : Prop where
  h0 : c.H0 = H
  tabs : LamX.Tabs c.T H
  dom : ∀ a ∈ c.M0, ∃ o, H a = some o ∧ NT o
  bag : ∀ a b, c.B = some (a, b) → BagAt a b H ∧ a ∈ c.M0 ∧ b ∈ c.M0 ∧ a ∈ c.m
  m : ∀ a ∈ c.m, ∃ b, c.B = some (a, b)
  args : ArR c c.M0 H vs as
/-- a def's promise: it does as w says; n parameters -/
def SpP (K : PySem.W.Frag) (T : List (Addr × Str)) (n : Nat) (w : WD) : Sp := fun vs H Q E => ∃ (c : Cfg) (as : List SV) (post : Res RV → Prop), c.K = K ∧ c.T = T ∧ vs.length = n ∧ Ent c H vs as ∧ w as post ∧ RtW c Q post ∧ ErW c E (fun cn fs => post (.er cn fs))
section
variable {c : Cfg} {M : List Addr} {σ : L2.St} {H H' : Hp} {ρ : List SV} {K : PySem.W.Frag} {T : List (Addr × Str)} {E E' : XK} {te tf tg : TE} {w wa wb wc : WE} {tt tu : TT} {vt vu : WT} {ta tb : TA} {va vb : WA} {ca cb : WC} {i j n : Nat} {p : PV} {v : V} {b : Bool} {wd : WD} {dvs : List V} {ds : List PV}
/-! ### arguments of calls -/
def cpNil : WC := fun _ post => post (.ok [])
def cpCons (w : WE) (cb : WC) : WC := fun ρ => bindR w (fun a => bindR cb (fun ps post => post (.ok (.fz a :: ps))) ρ) ρ
def cpBag (i : Nat) (cb : WC) : WC := fun ρ post => match ρ[i]? with
  | some .bag => bindR cb (fun ps post => post (.ok (.bag :: ps))) ρ post
  | some (.scr ns) => bindR cb (fun ps post => post (.ok (.scr ns :: ps))) ρ post
  | _ => False
theorem ArR.nil : ArR c M H [] [] := ⟨rfl, fun i v s h => by simp at h⟩
theorem ArR.cons {q : SV} {vs : List V} {as : List SV} (h : SlR c M H (some v) q) (hq : q.isOwn = false) (r : ArR c M H vs as) : ArR c M H (v :: vs) (q :: as) := by
  refine ⟨by simp [r.len], fun i y s e1 e2 => ?_⟩
  cases i with
  | zero => cases e1; cases e2; exact ⟨h, hq⟩
  | succ i => exact r.at_ i y s e1 e2
theorem ec_nil : EvC K T E 0 tNil cpNil := by
  rintro c M σ H ρ post Q rfl rfl s hw k e
  exact k H _ _ (.refl s) .nil rfl hw
theorem ec_cons (ha : EvE K T E te w) (hb : EvC K T E n tb cb) : EvC K T E (n + 1) (tCons te tb) (cpCons w cb) := by
  rintro c M σ H ρ post Q rfl rfl s hw k e
  refine ha c M σ H ρ _ _ rfl rfl s hw (fun H1 x a t1 r1 h1 => ?_) (e.imp fun _ _ z => z)
  have s1 := s.stp t1
  refine hb c M σ H1 ρ _ _ rfl rfl s1 h1 (fun H2 xs ps t2 r2 hn h2 => ?_) (e.imp fun _ _ z => z)
  exact k H2 _ _ (t1.trans t2) (.cons (.fz (s1.rep t2 r1)) rfl r2) (by rw [List.length_cons, hn]) h2
theorem ec_bag (hb : EvC K T E n tb cb) : EvC K T E (n + 1) (tCons (tVar i) tb) (cpBag i cb) := by
  rintro c M σ H ρ post Q rfl rfl s hw k e
  unfold cpBag at hw
  split at hw
  · rename_i hp
    obtain ⟨o, h1, h2⟩ := s.get hp
    cases h2 with
    | bag h =>
      refine ⟨_, h1, hb c M σ H ρ _ _ rfl rfl s hw (fun H2 xs ps t2 r2 hn h2 => ?_) (e.imp fun _ _ z => z)⟩
      exact k H2 _ _ t2 (.cons (.bag h) rfl r2) (by rw [List.length_cons, hn]) h2
  · rename_i ns hp
    obtain ⟨o, h1, h2⟩ := s.get hp
    cases h2 with
    | scr h =>
      refine ⟨_, h1, hb c M σ H ρ _ _ rfl rfl s hw (fun H2 xs ps t2 r2 hn h2 => ?_) (e.imp fun _ _ z => z)⟩
      exact k H2 _ _ t2 (.cons (.scr (h.nxt (s.ext t2).nxt)) rfl r2) (by rw [List.length_cons, hn]) h2
  · exact hw.elim
/-! ### the state of a call -/
/-- what a callee gets -/
def Cfg.sub (c : Cfg) (M : List Addr) (H : Hp) : Cfg := ⟨c.K, c.T, H, (match c.B with | some (a, _) => [a] | none => []), M, c.B⟩
theorem sub_m {c : Cfg} {M : List Addr} {H : Hp} {a : Addr} : a ∈ (c.sub M H).m ↔ ∃ b, c.B = some (a, b) := by
  unfold Cfg.sub
  cases hB : c.B with
  | none => simp
  | some q => obtain ⟨x, y⟩ := q; simp only [List.mem_singleton]; exact ⟨fun z => ⟨y, by rw [z]⟩, fun ⟨b, z⟩ => by cases z; rfl⟩
theorem StR.ent {vs : List V} {as : List SV} (s : StR c M σ H ρ) (r : ArR c M H vs as) : Ent (c.sub M H) H vs as where
  h0 := rfl
  tabs := s.tabs
  dom := s.dom
  bag := fun a b e => ⟨(s.bag a b e).1, (s.bag a b e).2.1, (s.bag a b e).2.2.1, sub_m.mpr ⟨b, e⟩⟩
  m := fun a h => sub_m.mp h
  args := ⟨r.len, fun i v q h1 h2 => by
    obtain ⟨z, hq⟩ := r.at_ i v q h1 h2
    refine ⟨?_, hq⟩
    cases z with
    | un => exact .un
    | fz h => exact .fz h
    | own _ _ _ _ _ => cases hq
    | bag h => exact .bag h
    | ob _ _ _ _ _ => cases hq
    | scr h => exact .scr h
    | ref => exact .ref⟩
theorem StR.left (s : StR c M σ H ρ) (l : Lv (c.sub M H) H') : Stp c H H' :=
  ⟨fun x o n nt h => l.fr x o (fun z => by obtain ⟨b, e⟩ := sub_m.mp z; exact n x b e rfl) nt h, l.tabs, l.bag⟩
theorem RepF.weak {M' : List Addr} {vs : List (Str × V)} {fs : List (Str × PV)} (h : RepF K M H vs fs) (s : ∀ a ∈ M', a ∈ M) : RepF K M' H vs fs := ⟨h.1, fun i x p a b => (h.2 i x p a b).weak s⟩
/-- an error out of a callee -/
theorem StR.err {post : Str → List (Str × PV) → Prop} (s : StR c M σ H ρ) (e : ErW c E post) : ErW (c.sub M H) E post := fun H' cn fs dd vs l hd r h => e H' cn fs dd vs (s.stp (s.left l)).lv hd (r.weak s.sub) h
theorem Ent.more {vs : List V} {as : List SV} {c : Cfg} {H : Hp} (r : ArR c M H vs as) (hd : ∀ M H, RepL c.K M H dvs ds) : ArR c M H (vs ++ dvs) (as ++ ds.map .fz) := by
  refine ⟨by simp [r.len, (hd M H).1], fun i v q h1 h2 => ?_⟩
  by_cases hi : i < vs.length
  · rw [List.getElem?_append_left hi] at h1
    rw [List.getElem?_append_left (r.len ▸ hi)] at h2
    exact r.at_ i v q h1 h2
  · rw [List.getElem?_append_right (by omega)] at h1
    rw [List.getElem?_append_right (by have := r.len; omega), ← r.len, List.getElem?_map] at h2
    cases hp : ds[i - vs.length]? with
    | none => rw [hp] at h2; cases h2
    | some p => rw [hp] at h2; cases h2; exact ⟨.fz ((hd M H).2 _ v p h1 hp), rfl⟩
/-- the callee's end by values -/
def frzR (post : Res PV → Prop) : Res RV → Prop
  | .ok (.fz p) => post (.ok p)
  | .ok (.own ps) => post (.ok (.lst ps))
  | .er cn fs => post (.er cn fs)
def ownR (post : Res (List PV) → Prop) : Res RV → Prop
  | .ok (.fz _) => False
  | .ok (.own ps) => post (.ok ps)
  | .er cn fs => post (.er cn fs)
def pCall (wd : WD) (ds : List PV) (ca : WC) : WE := fun ρ => bindR ca (fun as post => wd (as ++ ds.map .fz) (frzR post)) ρ
def pCallO (wd : WD) (ds : List PV) (ca : WC) : WA := fun ρ => bindR ca (fun as post => wd (as ++ ds.map .fz) (ownR post)) ρ
/-- nothing is raised -/
def noR {α : Type} (post : Res α → Prop) : Res α → Prop
  | .ok a => post (.ok a)
  | .er _ _ => False
def pCall0 (wd : WD) (ds : List PV) (ca : WC) : WE := fun ρ => bindR ca (fun as post => wd (as ++ ds.map .fz) (frzR (noR post))) ρ
def pCallO0 (wd : WD) (ds : List PV) (ca : WC) : WA := fun ρ => bindR ca (fun as post => wd (as ++ ds.map .fz) (ownR (noR post))) ρ
theorem call_fz {vs : List V} {as : List SV} {post : Res PV → Prop} {Q : VK} (s : StR c M σ H ρ) (r : ArR c M H vs as) (hn : vs.length = n) (h : wd as (frzR post)) (k : ∀ H' x p, Stp c H H' → Rep c.K M H' x p → post (.ok p) → Q x H') (e : ErW (c.sub M H) E (fun cn fs => post (.er cn fs))) : SpP c.K c.T n wd vs H Q E :=
  ⟨c.sub M H, as, frzR post, rfl, rfl, hn, s.ent r, h, ⟨fun H' x p l r h => k H' x p (s.left l) r h, fun H' a xs ps l f hx r h => k H' _ _ (s.left l) (.lst (s.notIn f) hx r.1 (fun i x p a b => (r.2 i x p a b).weak fun b hb => List.mem_cons_of_mem _ hb)) h⟩, e⟩
theorem call_own {vs : List V} {as : List SV} {post : Res (List PV) → Prop} {Q : VK} (s : StR c M σ H ρ) (r : ArR c M H vs as) (hn : vs.length = n) (h : wd as (ownR post)) (k : ∀ H' a vs ps, Stp c H H' → Fresh H a → H' a = some (.lst vs) → RepL c.K (a :: M) H' vs ps → post (.ok ps) → Q (.ref a) H') (e : ErW (c.sub M H) E (fun cn fs => post (.er cn fs))) : SpP c.K c.T n wd vs H Q E :=
  ⟨c.sub M H, as, ownR post, rfl, rfl, hn, s.ent r, h, ⟨fun H' x p l r h => h.elim, fun H' a xs ps l f hx r h => k H' a xs ps (s.left l) f hx r h⟩, e⟩
theorem ev_call (hd : ∀ M H, RepL K M H dvs ds) (hn : j + dvs.length = n) (ha : EvC K T E j ta ca) : EvE K T E (tCall (SpP K T n wd) dvs E ta) (pCall wd ds ca) := by
  rintro c M σ H ρ post Q rfl rfl s hw k e
  refine ha c M σ H ρ _ _ rfl rfl s hw (fun H1 xs as t1 r1 hl h1 => ?_) (e.imp fun _ _ z => z)
  have s1 := s.stp t1
  have r2 := Ent.more r1 hd
  exact call_fz s1 r2 (by rw [List.length_append, hl, hn]) h1 (fun H' x p t r h => k H' x p (t1.trans t) r h) (s1.err e)
theorem eo_call (hd : ∀ M H, RepL K M H dvs ds) (hn : j + dvs.length = n) (ha : EvC K T E j ta ca) : EvO K T E (tCall (SpP K T n wd) dvs E ta) (pCallO wd ds ca) := by
  rintro c M σ H ρ post Q rfl rfl s hw k e
  refine ha c M σ H ρ _ _ rfl rfl s hw (fun H1 xs as t1 r1 hl h1 => ?_) (e.imp fun _ _ z => z)
  have s1 := s.stp t1
  have r2 := Ent.more r1 hd
  exact call_own s1 r2 (by rw [List.length_append, hl, hn]) h1 (fun H' a vs ps t f hx r h => k H' a vs ps (t1.trans t) (f.back s t1) hx r h) (s1.err e)
theorem ev_call0 (hd : ∀ M H, RepL K M H dvs ds) (hn : j + dvs.length = n) (ha : EvC K T E j ta ca) : EvE K T E (tCall (SpP K T n wd) dvs E' ta) (pCall0 wd ds ca) := by
  rintro c M σ H ρ post Q rfl rfl s hw k e
  refine ha c M σ H ρ _ _ rfl rfl s hw (fun H1 xs as t1 r1 hl h1 => ?_) (e.imp fun _ _ z => z)
  have s1 := s.stp t1
  have r2 := Ent.more r1 hd
  exact call_fz (post := noR post) s1 r2 (by rw [List.length_append, hl, hn]) h1 (fun H' x p t r h => k H' x p (t1.trans t) r h) (fun _ _ _ _ _ _ _ _ h => h.elim)
theorem eo_call0 (hd : ∀ M H, RepL K M H dvs ds) (hn : j + dvs.length = n) (ha : EvC K T E j ta ca) : EvO K T E (tCall (SpP K T n wd) dvs E' ta) (pCallO0 wd ds ca) := by
  rintro c M σ H ρ post Q rfl rfl s hw k e
  refine ha c M σ H ρ _ _ rfl rfl s hw (fun H1 xs as t1 r1 hl h1 => ?_) (e.imp fun _ _ z => z)
  have s1 := s.stp t1
  have r2 := Ent.more r1 hd
  exact call_own (post := noR post) s1 r2 (by rw [List.length_append, hl, hn]) h1 (fun H' a vs ps t f hx r h => k H' a vs ps (t1.trans t) (f.back s t1) hx r h) (fun _ _ _ _ _ _ _ _ h => h.elim)
end
end My
end

section
set_option Elab.async false
set_option maxRecDepth 100000
set_option maxHeartbeats 4000000
set_option linter.all false
namespace My
open PySem L2
/-- an own class's __init__: what the fields are in the end -/
abbrev WN : Type := List SV → (Res (List (Str × PV)) → Prop) → Prop
def SpN (K : PySem.W.Frag) (T : List (Addr × Str)) (C : Str) (n : Nat) (w : WN) : Sp := fun vs H Q E => ∃ (c : Cfg) (as : List SV) (post : Res (List (Str × PV)) → Prop) (x dx : Addr) (us : List V), c.K = K ∧ c.T = T ∧ vs = .ref x :: us ∧ us.length = n ∧
  c.H0 = H ∧ LamX.Tabs c.T H ∧ (∀ a ∈ c.M0, ∃ o, H a = some o ∧ NT o) ∧ c.B = none ∧ c.m = [x] ∧ x ∈ c.M0 ∧ H x = some (.ins (He.ga K C) dx []) ∧ ArR c c.M0 H us as ∧ w as post ∧
  (∀ H' dx' vs fs, Lv c H' → H' x = some (.ins (He.ga K C) dx' vs) → RepF c.K c.M0 H' vs fs → post (.ok fs) → Q .non H') ∧ ErW c E (fun cn fs => post (.er cn fs))
section
variable {c : Cfg} {M : List Addr} {σ : L2.St} {H H' : Hp} {ρ : List SV} {K : PySem.W.Frag} {T : List (Addr × Str)} {E E' : XK} {te tf tg : TE} {w wa wb wc : WE} {tt tu : TT} {vt vu : WT} {ta tb : TA} {va vb : WA} {ca cb : WC} {i j n : Nat} {p : PV} {v : V} {b : Bool} {wd : WD} {dvs : List V} {ds : List PV}
/-! ### fields -/
def KAt (K : PySem.W.Frag) (at_ : List (Str × Str)) : Prop := ∀ q ∈ at_, Cls K (He.ga K q.1) ∧ NoAttr K (He.ga K q.1) q.2
def pFld (at_ : List (Str × Str)) (f : Str) (w : WE) : WE := fun ρ => bindR w (fun a post => match a with
  | .obj cn fs => (cn, f) ∈ at_ ∧ ∃ p, fs.lookup f = some p ∧ post (.ok p)
  | _ => False) ρ
theorem Rep.objI {cn : Str} {fs : List (Str × PV)} (h : Rep K M H v (.obj cn fs)) : ∃ a dx vs, v = .ref a ∧ a ∉ M ∧ H a = some (.ins (He.ga K cn) dx vs) ∧ RepF K M H vs fs := by
  cases h with
  | obj hm h hn hi => exact ⟨_, _, _, rfl, hm, h, ⟨hn, hi⟩⟩
theorem ev_fld {at_ : List (Str × Str)} {f : Str} (ka : KAt K at_) (h : EvE K T E te w) : EvE K T E (tFld K te f) (pFld at_ f w) := by
  rintro c M σ H ρ post Q rfl rfl s hw k e
  refine h c M σ H ρ _ _ rfl rfl s hw (fun H1 x p t1 r1 h1 => ?_) (e.imp fun _ _ z => z)
  dsimp only at h1
  split at h1
  · obtain ⟨hin, q, hq, h1⟩ := h1
    obtain ⟨a, dx, vs, rfl, hm, ha, rf⟩ := r1.objI
    obtain ⟨u, hu, ru⟩ := rf.lookup hq
    obtain ⟨k1, k2⟩ := ka _ hin
    exact ⟨a, _, dx, vs, u, rfl, ha, k1, k2, hu, k H1 _ _ t1 ru h1⟩
  · exact h1.elim
/-! ### f-strings -/
def pFmt (w : WE) : WE := fun ρ => bindR w (fun a post => match a with
  | .str z => z.length ≤ 1000000 ∧ post (.ok (.str z))
  | .int i => i.natAbs.log2 < 1920 ∧ post (.ok (.str (Str.ofString (toString i))))
  | _ => False) ρ
theorem ev_fmt (h : EvE K T E te w) : EvE K T E (tFmt te) (pFmt w) := by
  rintro c M σ H ρ post Q rfl rfl s hw k e
  refine h c M σ H ρ _ _ rfl rfl s hw (fun H1 x p t1 r1 h1 => ?_) (e.imp fun _ _ z => z)
  dsimp only at h1
  split at h1
  · cases r1
    exact .inl ⟨_, rfl, szM h1.1, k H1 _ _ t1 (.str _) h1.2⟩
  · cases r1
    exact .inr ⟨_, rfl, h1.1, k H1 _ _ t1 (.str _) h1.2⟩
  · exact h1.elim
abbrev WJ : Type := Str → List SV → (Res Str → Prop) → Prop
def EvJ (K : PySem.W.Frag) (T : List (Addr × Str)) (E : XK) (ts : List TE) (w : WJ) : Prop := ∀ (acc : Str) (c : Cfg) (M : List Addr) (σ : L2.St) (H : Hp) (ρ : List SV) (post : Res Str → Prop) (Q : Str → Hp → Prop), c.K = K → c.T = T → StR c M σ H ρ → w acc ρ post →
  (∀ H' z, Stp c H H' → post (.ok z) → Q z H') → ErW c E (fun cn fs => post (.er cn fs)) → tJs ts acc σ H Q
def pJ0 : WJ := fun acc _ post => post (.ok acc)
def pJ1 (w : WE) (wj : WJ) : WJ := fun acc ρ => bindR w (fun a post => match a with
  | .str z => (acc ++ z).length ≤ 1000000 ∧ wj (acc ++ z) ρ post
  | _ => False) ρ
theorem ej_nil : EvJ K T E [] pJ0 := by
  rintro acc c M σ H ρ post Q rfl rfl s hw k e
  exact j_nil (k H acc (.refl s) hw)
theorem ej_cons {ts : List TE} {wj : WJ} (h : EvE K T E te w) (g : EvJ K T E ts wj) : EvJ K T E (te :: ts) (pJ1 w wj) := by
  rintro acc c M σ H ρ post Q rfl rfl s hw k e
  refine j_cons (h c M σ H ρ _ _ rfl rfl s hw (fun H1 x p t1 r1 h1 => ?_) (e.imp fun _ _ z => z))
  dsimp only at h1
  split at h1
  · cases r1
    exact ⟨_, rfl, szM h1.1, g _ c M σ H1 ρ post _ rfl rfl (s.stp t1) h1.2 (fun H' z t => k H' z (t1.trans t)) e⟩
  · exact h1.elim
def pFS (wj : WJ) : WE := fun ρ => bindR (wj Str.empty) (fun z post => post (.ok (.str z))) ρ
theorem ev_fs {ts : List TE} {wj : WJ} (g : EvJ K T E ts wj) : EvE K T E (My.tJoin ts) (pFS wj) := by
  rintro c M σ H ρ post Q rfl rfl s hw k e
  exact e_join (g _ c M σ H ρ _ _ rfl rfl s hw (fun H1 z t1 h1 => k H1 _ _ t1 (.str _) h1) (e.imp fun _ _ z => z))
/-! ### a new object -/
def objR (C : Str) (post : Res PV → Prop) : Res (List (Str × PV)) → Prop
  | .ok fs => post (.ok (.obj C fs))
  | .er cn fs => post (.er cn fs)
def pMake (C : Str) (wn : WN) (ca : WC) : WE := fun ρ => bindR ca (fun as post => wn as (objR C post)) ρ
def ArR.noBag (as : List SV) : Prop := ∀ a ∈ as, (∃ p, a = SV.fz p)
def pMake' (C : Str) (wn : WN) (ca : WC) : WE := fun ρ => bindR ca (fun as post => ArR.noBag as ∧ wn as (objR C post)) ρ
theorem ev_make {C : Str} {wn : WN} (ha : EvC K T E n ta ca) : EvE K T E (tMake (He.ga K C) (SpN K T C n wn) [] E ta) (pMake' C wn ca) := by
  rintro c M σ H ρ post Q rfl rfl s hw k e
  refine ha c M σ H ρ _ _ rfl rfl s hw (fun H1 xs as t1 r1 hl h1 => ?_) (e.imp fun _ _ z => z)
  have s1 := s.stp t1
  intro x dx hx hdx hne
  have t2 := (Stp.refl s1).new (o := .own x) s1 hdx
  have hx2 : upd H1 dx (.own x) x = none := (upd_ne (Ne.symm hne)).trans hx
  have t3 := t2.new (o := .ins (He.ga c.K C) dx []) s1 hx2
  have s3 := s1.stp t3
  have hx3 : upd (upd H1 dx (.own x)) x (.ins (He.ga c.K C) dx []) x = some (.ins (He.ga c.K C) dx []) := upd_same
  revert t3 s3 hx3
  generalize upd (upd H1 dx (.own x)) x (.ins (He.ga c.K C) dx []) = H3
  intro t3 s3 hx3
  have n3 : Nxt M H1 (x :: M) H3 := ⟨s1.ext t3, fun b hb => by
    rcases List.mem_cons.mp hb with z | z
    · exact .inr (z ▸ .none hx)
    · exact .inl z⟩
  have nx : x ∉ M := s1.notIn (.none hx)
  refine ⟨⟨c.K, c.T, H3, [x], x :: M, none⟩, as, objR C post, x, dx, xs, rfl, rfl, by rw [List.append_nil], hl, rfl, s3.tabs, fun a ha => ?_, rfl, rfl, List.mem_cons_self, hx3, ⟨r1.len, fun i v q e1 e2 => ?_⟩, h1.2, fun H' dx' vs fs l hx' rf h => ?_, fun H' cn fs dd vs l hd r h => ?_⟩
  · rcases List.mem_cons.mp ha with z | z
    · exact ⟨_, z ▸ hx3, NT.ins⟩
    · exact s3.dom a z
  · obtain ⟨z, hq⟩ := r1.at_ i v q e1 e2
    obtain ⟨p, rfl⟩ := h1.1 q (List.mem_of_getElem? e2)
    cases z with
    | fz h => exact ⟨.fz (h.nxt n3), rfl⟩
  · have t4 : Stp c H1 H' := ⟨fun y o n nt ey => by
        have ny : y ≠ x := fun z => by rw [z, hx] at ey; cases ey
        exact l.fr y o (by simpa using ny) nt (t3.keep y o n nt ey), l.tabs, fun a b eb => ?_⟩
    · refine ⟨rfl, k H' _ _ (t1.trans t4) (.obj nx hx' rf.1 (fun i x p a b => (rf.2 i x p a b).weak fun b hb => List.mem_cons_of_mem _ hb)) h⟩
    · obtain ⟨cs, i, r, m, n, d6, z1, z2, z3, z4⟩ := t3.bag a b eb
      have fx : ∀ y o, H3 y = some o → NT o → y ≠ x → H' y = some o := fun y o e1 e2 e3 => l.fr y o (by simpa using e3) e2 e1
      refine ⟨cs, i, r, m, n, d6, fx _ _ z1 NT.lst (fun z => by rw [z, hx3] at z1; cases z1), z2, fx _ _ z3 NT.lst (fun z => by rw [z, hx3] at z3; cases z3), z4⟩
  · have t4 : Stp c H1 H' := ⟨fun y o n nt ey => by
        have ny : y ≠ x := fun z => by rw [z, hx] at ey; cases ey
        exact l.fr y o (by simpa using ny) nt (t3.keep y o n nt ey), l.tabs, fun a b eb => ?_⟩
    · exact e H' cn fs dd vs (s1.stp t4).lv hd (r.weak fun a ha => List.mem_cons_of_mem _ (s.sub a ha)) h
    · obtain ⟨cs, i, r, m, n, d6, z1, z2, z3, z4⟩ := t3.bag a b eb
      have fx : ∀ y o, H3 y = some o → NT o → y ≠ x → H' y = some o := fun y o e1 e2 e3 => l.fr y o (by simpa using e3) e2 e1
      refine ⟨cs, i, r, m, n, d6, fx _ _ z1 NT.lst (fun z => by rw [z, hx3] at z1; cases z1), z2, fx _ _ z3 NT.lst (fun z => by rw [z, hx3] at z3; cases z3), z4⟩
def pMake0 (C : Str) (wn : WN) (ca : WC) : WE := fun ρ => bindR ca (fun as post => ArR.noBag as ∧ wn as (objR C (noR post))) ρ
theorem ev_make0 {C : Str} {wn : WN} (ha : EvC K T E n ta ca) : EvE K T E (tMake (He.ga K C) (SpN K T C n wn) [] E' ta) (pMake0 C wn ca) := by
  rintro c M σ H ρ post Q rfl rfl s hw k e
  refine ha c M σ H ρ _ _ rfl rfl s hw (fun H1 xs as t1 r1 hl h1 => ?_) (e.imp fun _ _ z => z)
  have s1 := s.stp t1
  intro x dx hx hdx hne
  have t2 := (Stp.refl s1).new (o := .own x) s1 hdx
  have hx2 : upd H1 dx (.own x) x = none := (upd_ne (Ne.symm hne)).trans hx
  have t3 := t2.new (o := .ins (He.ga c.K C) dx []) s1 hx2
  have s3 := s1.stp t3
  have hx3 : upd (upd H1 dx (.own x)) x (.ins (He.ga c.K C) dx []) x = some (.ins (He.ga c.K C) dx []) := upd_same
  revert t3 s3 hx3
  generalize upd (upd H1 dx (.own x)) x (.ins (He.ga c.K C) dx []) = H3
  intro t3 s3 hx3
  have n3 : Nxt M H1 (x :: M) H3 := ⟨s1.ext t3, fun b hb => by
    rcases List.mem_cons.mp hb with z | z
    · exact .inr (z ▸ .none hx)
    · exact .inl z⟩
  have nx : x ∉ M := s1.notIn (.none hx)
  refine ⟨⟨c.K, c.T, H3, [x], x :: M, none⟩, as, objR C (noR post), x, dx, xs, rfl, rfl, by rw [List.append_nil], hl, rfl, s3.tabs, fun a ha => ?_, rfl, rfl, List.mem_cons_self, hx3, ⟨r1.len, fun i v q e1 e2 => ?_⟩, h1.2, fun H' dx' vs fs l hx' rf h => ?_, fun H' cn fs dd vs l hd r h => h.elim⟩
  · rcases List.mem_cons.mp ha with z | z
    · exact ⟨_, z ▸ hx3, NT.ins⟩
    · exact s3.dom a z
  · obtain ⟨z, hq⟩ := r1.at_ i v q e1 e2
    obtain ⟨p, rfl⟩ := h1.1 q (List.mem_of_getElem? e2)
    cases z with
    | fz h => exact ⟨.fz (h.nxt n3), rfl⟩
  · have t4 : Stp c H1 H' := ⟨fun y o n nt ey => by
        have ny : y ≠ x := fun z => by rw [z, hx] at ey; cases ey
        exact l.fr y o (by simpa using ny) nt (t3.keep y o n nt ey), l.tabs, fun a b eb => ?_⟩
    · refine ⟨rfl, k H' _ _ (t1.trans t4) (.obj nx hx' rf.1 (fun i x p a b => (rf.2 i x p a b).weak fun b hb => List.mem_cons_of_mem _ hb)) h⟩
    · obtain ⟨cs, i, r, m, n, d6, z1, z2, z3, z4⟩ := t3.bag a b eb
      have fx : ∀ y o, H3 y = some o → NT o → y ≠ x → H' y = some o := fun y o e1 e2 e3 => l.fr y o (by simpa using e3) e2 e1
      refine ⟨cs, i, r, m, n, d6, fx _ _ z1 NT.lst (fun z => by rw [z, hx3] at z1; cases z1), z2, fx _ _ z3 NT.lst (fun z => by rw [z, hx3] at z3; cases z3), z4⟩
/-! ### methods -/
theorem RepF.noLook {f : Str} {vs : List (Str × V)} {fs : List (Str × PV)} (h : RepF K M H vs fs) (e : fs.lookup f = none) : vs.lookup f = none := by
  obtain ⟨h1, h2⟩ := h
  induction vs generalizing fs with
  | nil => rfl
  | cons v vs ih =>
    cases fs with
    | nil => cases h1
    | cons q fs =>
      obtain ⟨vn, vv⟩ := v
      obtain ⟨qn, qq⟩ := q
      have hn : vn = qn := by simpa using (List.cons.inj h1).1
      cases hn
      rw [List.lookup_cons] at e ⊢
      cases hf : f == vn with
      | true => rw [hf] at e; cases e
      | false => simp only [hf] at e ⊢; exact ih e (List.cons.inj h1).2 fun i x p a b => h2 (i + 1) x p a b
def pMeth (C m : Str) (wd : WD) (ds : List PV) (w : WE) (ca : WC) : WE := fun ρ => bindR w (fun a => bindR ca (fun as post => match a with
  | .obj cn fs => cn = C ∧ fs.lookup m = none ∧ wd (.fz a :: (as ++ ds.map .fz)) (frzR post)
  | _ => False) ρ) ρ
/-- the object is looked at first -/
def pMethA (C m : Str) (wd : WD) (ds : List PV) (w : WE) (ca : WC) : WE := fun ρ => bindR w (fun a post => match a with
  | .obj cn fs => cn = C ∧ fs.lookup m = none ∧ bindR ca (fun as post => wd (.fz (.obj cn fs) :: (as ++ ds.map .fz)) (frzR post)) ρ post
  | _ => False) ρ
def pMethA0 (C m : Str) (wd : WD) (ds : List PV) (w : WE) (ca : WC) : WE := fun ρ => bindR w (fun a post => match a with
  | .obj cn fs => cn = C ∧ fs.lookup m = none ∧ bindR ca (fun as post => wd (.fz (.obj cn fs) :: (as ++ ds.map .fz)) (frzR (noR post))) ρ post
  | _ => False) ρ
theorem ev_meth {C m : Str} (hd : ∀ M H, RepL K M H dvs ds) (hn : j + dvs.length + 1 = n) (h : EvE K T E te w) (ha : EvC K T E j ta ca) : EvE K T E (tMeth (He.ga K C) m (SpP K T n wd) dvs E te ta) (pMethA C m wd ds w ca) := by
  rintro c M σ H ρ post Q rfl rfl s hw k e
  refine h c M σ H ρ _ _ rfl rfl s hw (fun H1 x p t1 r1 h1 => ?_) (e.imp fun _ _ z => z)
  dsimp only at h1
  split at h1
  · obtain ⟨rfl, hl, h1⟩ := h1
    have s1 := s.stp t1
    obtain ⟨a, dx, vs, rfl, hm, hx, rf⟩ := id r1.objI
    refine ⟨a, dx, vs, rfl, hx, rf.noLook hl, ?_⟩
    refine ha c M σ H1 ρ _ _ rfl rfl s1 h1 (fun H2 xs as t2 r2 hl2 h2 => ?_) (e.imp fun _ _ z => z)
    have s2 := s1.stp t2
    have r3 := ArR.cons (.fz (s1.rep t2 r1)) rfl (Ent.more r2 hd)
    exact call_fz s2 r3 (by rw [List.length_cons, List.length_append, hl2, hn]) h2 (fun H' x p t r h => k H' x p (t1.trans (t2.trans t)) r h) (s2.err e)
  · exact h1.elim
theorem ev_meth0 {C m : Str} (hd : ∀ M H, RepL K M H dvs ds) (hn : j + dvs.length + 1 = n) (h : EvE K T E te w) (ha : EvC K T E j ta ca) : EvE K T E (tMeth (He.ga K C) m (SpP K T n wd) dvs E' te ta) (pMethA0 C m wd ds w ca) := by
  rintro c M σ H ρ post Q rfl rfl s hw k e
  refine h c M σ H ρ _ _ rfl rfl s hw (fun H1 x p t1 r1 h1 => ?_) (e.imp fun _ _ z => z)
  dsimp only at h1
  split at h1
  · obtain ⟨rfl, hl, h1⟩ := h1
    have s1 := s.stp t1
    obtain ⟨a, dx, vs, rfl, hm, hx, rf⟩ := id r1.objI
    refine ⟨a, dx, vs, rfl, hx, rf.noLook hl, ?_⟩
    refine ha c M σ H1 ρ _ _ rfl rfl s1 h1 (fun H2 xs as t2 r2 hl2 h2 => ?_) (e.imp fun _ _ z => z)
    have s2 := s1.stp t2
    have r3 := ArR.cons (.fz (s1.rep t2 r1)) rfl (Ent.more r2 hd)
    exact call_fz (post := noR post) s2 r3 (by rw [List.length_cons, List.length_append, hl2, hn]) h2 (fun H' x p t r h => k H' x p (t1.trans (t2.trans t)) r h) (fun _ _ _ _ _ _ _ _ h => h.elim)
  · exact h1.elim
/-- C.m(..), a staticmethod -/
theorem ev_smeth {C : Addr} (hn : j = n) (ha : EvC K T E j ta ca) : EvE K T E (tSMeth C (SpP K T n wd) E (tC (.ref C)) ta) (pCall wd [] ca) := by
  rintro c M σ H ρ post Q rfl rfl s hw k e
  refine ⟨rfl, ha c M σ H ρ _ _ rfl rfl s hw (fun H1 xs as t1 r1 hl h1 => ?_) (e.imp fun _ _ z => z)⟩
  have s1 := s.stp t1
  have r2 := Ent.more (dvs := []) (ds := []) r1 (fun _ _ => .nil)
  exact call_fz s1 r2 (by rw [List.append_nil, hl, hn]) h1 (fun H' x p t r h => k H' x p (t1.trans t) r h) (s1.err e)
theorem ev_smeth0 {C : Addr} (hn : j = n) (ha : EvC K T E j ta ca) : EvE K T E (tSMeth C (SpP K T n wd) E' (tC (.ref C)) ta) (pCall0 wd [] ca) := by
  rintro c M σ H ρ post Q rfl rfl s hw k e
  refine ⟨rfl, ha c M σ H ρ _ _ rfl rfl s hw (fun H1 xs as t1 r1 hl h1 => ?_) (e.imp fun _ _ z => z)⟩
  have s1 := s.stp t1
  have r2 := Ent.more (dvs := []) (ds := []) r1 (fun _ _ => .nil)
  exact call_fz (post := noR post) s1 r2 (by rw [List.append_nil, hl, hn]) h1 (fun H' x p t r h => k H' x p (t1.trans t) r h) (fun _ _ _ _ _ _ _ _ h => h.elim)
/-- len of an instance -/
def lenR (post : Res PV → Prop) : Res RV → Prop
  | .ok (.fz (.int n)) => 0 ≤ n ∧ n < 2 ^ 63 ∧ post (.ok (.int n))
  | _ => False
def pLenC (C : Str) (wd : WD) (w : WE) : WE := fun ρ => bindR w (fun a post => match a with
  | .obj cn fs => cn = C ∧ wd [.fz (.obj cn fs)] (lenR post)
  | _ => False) ρ
theorem ev_lenC {C : Str} (h : EvE K T E te w) : EvE K T E (tCB (rLenOwn (He.ga K C) (SpP K T 1 wd)) (tCons te tNil)) (pLenC C wd w) := by
  rintro c M σ H ρ post Q rfl rfl s hw k e
  refine h c M σ H ρ _ _ rfl rfl s hw (fun H1 x p t1 r1 h1 => ?_) (e.imp fun _ _ z => z)
  dsimp only at h1
  split at h1
  · obtain ⟨rfl, h1⟩ := h1
    have s1 := s.stp t1
    obtain ⟨a, dx, vs, rfl, hm, hx, rf⟩ := id r1.objI
    refine ⟨a, dx, vs, rfl, hx, ?_⟩
    refine ⟨c.sub M H1, _, lenR post, rfl, rfl, rfl, s1.ent (.cons (.fz r1) rfl .nil), h1, ⟨fun H' x p l r h => ?_, fun H' a xs ps l f hx r h => h.elim⟩, fun _ _ _ _ _ _ _ _ h => h.elim⟩
    cases p with
    | int n => cases r; exact ⟨n, rfl, h.1, h.2.1, k H' _ _ (t1.trans (s1.left l)) (.int _) h.2.2⟩
    | _ => exact h.elim
  · exact h1.elim
/-! ### lists of numbers -/
def intL : List PV → Option (List Int)
  | [] => some []
  | .int z :: ps => (intL ps).map (z :: ·)
  | _ :: _ => none
theorem RepL.ints : ∀ {xs : List V} {ps : List PV} {zs : List Int}, RepL K M H xs ps → intL ps = some zs → xs = zs.map V.int
  | [], [], zs, h, e => by cases e; rfl
  | [], p :: ps, zs, h, e => by cases h.1
  | x :: xs, [], zs, h, e => by cases h.1
  | x :: xs, p :: ps, zs, h, e => by
    unfold intL at e
    split at e
    · rename_i eq; cases eq
    · rename_i z qs eq
      cases eq
      cases e2 : intL ps with
      | none => rw [e2] at e; cases e
      | some ys =>
        rw [e2] at e
        cases e
        rw [RepL.ints h.tail e2]
        have := h.head
        cases this
        rfl
    · cases e
def pSum (w : WE) : WE := fun ρ => bindR w (fun a post => match a with
  | .lst ps => ∃ ns, intL ps = some ns ∧ post (.ok (.int ns.sum))
  | _ => False) ρ
def pMaxL (w : WE) : WE := fun ρ => bindR w (fun a post => match a with
  | .lst ps => ∃ ns, intL ps = some ns ∧ 0 < ns.length ∧ ∀ m, m ∈ ns → (∀ y ∈ ns, y ≤ m) → post (.ok (.int m))
  | _ => False) ρ
def pMinL (w : WE) : WE := fun ρ => bindR w (fun a post => match a with
  | .lst ps => ∃ ns, intL ps = some ns ∧ 0 < ns.length ∧ ∀ m, m ∈ ns → (∀ y ∈ ns, m ≤ y) → post (.ok (.int m))
  | _ => False) ρ
theorem ev_sum (h : EvB K T E te w) : EvE K T E (tCB (rSum K) (tCons te tNil)) (pSum w) := by
  rintro c M σ H ρ post Q rfl rfl s hw k e
  refine h c M σ H ρ _ _ rfl rfl s hw (fun H1 x p t1 r1 h1 => ?_) (e.imp fun _ _ z => z)
  dsimp only at h1
  split at h1
  · obtain ⟨ns, e1, h1⟩ := h1
    obtain ⟨a, xs, rfl, ha, r, _⟩ := r1.lstI (s.stp t1)
    obtain rfl := r.ints e1
    exact ⟨a, ns, rfl, SqL.of ha, k H1 _ _ t1 (.int _) h1⟩
  · exact h1.elim
theorem ev_maxL (h : EvB K T E te w) : EvE K T E (tCB (rMax K) (tCons te tNil)) (pMaxL w) := by
  rintro c M σ H ρ post Q rfl rfl s hw k e
  refine h c M σ H ρ _ _ rfl rfl s hw (fun H1 x p t1 r1 h1 => ?_) (e.imp fun _ _ z => z)
  dsimp only at h1
  split at h1
  · obtain ⟨ns, e1, h0, h1⟩ := h1
    obtain ⟨a, xs, rfl, ha, r, _⟩ := r1.lstI (s.stp t1)
    obtain rfl := r.ints e1
    exact ⟨a, ns, rfl, SqL.of ha, h0, fun m h2 h3 => k H1 _ _ t1 (.int _) (h1 m h2 h3)⟩
  · exact h1.elim
theorem ev_minL (h : EvB K T E te w) : EvE K T E (tCB (rMin K) (tCons te tNil)) (pMinL w) := by
  rintro c M σ H ρ post Q rfl rfl s hw k e
  refine h c M σ H ρ _ _ rfl rfl s hw (fun H1 x p t1 r1 h1 => ?_) (e.imp fun _ _ z => z)
  dsimp only at h1
  split at h1
  · obtain ⟨ns, e1, h0, h1⟩ := h1
    obtain ⟨a, xs, rfl, ha, r, _⟩ := r1.lstI (s.stp t1)
    obtain rfl := r.ints e1
    exact ⟨a, ns, rfl, SqL.of ha, h0, fun m h2 h3 => k H1 _ _ t1 (.int _) (h1 m h2 h3)⟩
  · exact h1.elim
def blL : List PV → Option (List Bool)
  | [] => some []
  | .bl z :: ps => (blL ps).map (z :: ·)
  | _ :: _ => none
theorem RepL.bls : ∀ {xs : List V} {ps : List PV} {zs : List Bool}, RepL K M H xs ps → blL ps = some zs → xs = zs.map V.bl
  | [], [], zs, h, e => by cases e; rfl
  | [], p :: ps, zs, h, e => by cases h.1
  | x :: xs, [], zs, h, e => by cases h.1
  | x :: xs, p :: ps, zs, h, e => by
    unfold blL at e
    split at e
    · rename_i eq; cases eq
    · rename_i z qs eq
      cases eq
      cases e2 : blL ps with
      | none => rw [e2] at e; cases e
      | some ys =>
        rw [e2] at e
        cases e
        rw [RepL.bls h.tail e2]
        have := h.head
        cases this
        rfl
    · cases e
def pAll (w : WE) : WE := fun ρ => bindR w (fun a post => match a with
  | .lst ps => ∃ ns, blL ps = some ns ∧ post (.ok (.bl (ns.all id)))
  | _ => False) ρ
def pAny (w : WE) : WE := fun ρ => bindR w (fun a post => match a with
  | .lst ps => ∃ ns, blL ps = some ns ∧ post (.ok (.bl (ns.any id)))
  | _ => False) ρ
theorem ev_all (h : EvB K T E te w) : EvE K T E (tCB (rAll K) (tCons te tNil)) (pAll w) := by
  rintro c M σ H ρ post Q rfl rfl s hw k e
  refine h c M σ H ρ _ _ rfl rfl s hw (fun H1 x p t1 r1 h1 => ?_) (e.imp fun _ _ z => z)
  dsimp only at h1
  split at h1
  · obtain ⟨ns, e1, h1⟩ := h1
    obtain ⟨a, xs, rfl, ha, r, _⟩ := r1.lstI (s.stp t1)
    obtain rfl := r.bls e1
    exact ⟨a, ns, rfl, SqL.of ha, k H1 _ _ t1 (.bl _) h1⟩
  · exact h1.elim
theorem ev_any (h : EvB K T E te w) : EvE K T E (tCB (rAny K) (tCons te tNil)) (pAny w) := by
  rintro c M σ H ρ post Q rfl rfl s hw k e
  refine h c M σ H ρ _ _ rfl rfl s hw (fun H1 x p t1 r1 h1 => ?_) (e.imp fun _ _ z => z)
  dsimp only at h1
  split at h1
  · obtain ⟨ns, e1, h1⟩ := h1
    obtain ⟨a, xs, rfl, ha, r, _⟩ := r1.lstI (s.stp t1)
    obtain rfl := r.bls e1
    exact ⟨a, ns, rfl, SqL.of ha, k H1 _ _ t1 (.bl _) h1⟩
  · exact h1.elim
/-! ### turned lists, lists by a number -/
theorem RepL.rev {xs : List V} {ps : List PV} (a : RepL K M H xs ps) : RepL K M H xs.reverse ps.reverse := by
  refine ⟨by simp [a.1], fun i y q h1 h2 => ?_⟩
  have hi : i < xs.length := by have := (List.getElem?_eq_some_iff.mp h1).1; simpa using this
  rw [List.getElem?_reverse hi] at h1
  rw [List.getElem?_reverse (a.1 ▸ hi)] at h2
  exact a.2 _ y q h1 (a.1 ▸ h2)
def pRevL (w : WE) : WA := fun ρ => bindR w (fun a post => match a with
  | .lst ps => post (.ok ps.reverse)
  | _ => False) ρ
def pRevL2 (w : WE) : WA := fun ρ => bindR w (fun a post => match a with
  | .lst ps => post (.ok ps.dropLast.reverse)
  | _ => False) ρ
theorem eo_revL (h : EvB K T E te w) : EvO K T E (tRevL K te) (pRevL w) := by
  rintro c M σ H ρ post Q rfl rfl s hw k e
  refine h c M σ H ρ _ _ rfl rfl s hw (fun H1 x p t1 r1 h1 => ?_) (e.imp fun _ _ z => z)
  dsimp only at h1
  split at h1
  · obtain ⟨a, xs, rfl, e1, r2, _⟩ := r1.lstI (s.stp t1)
    exact ⟨a, xs, rfl, SqL.of e1, new_lst (s.stp t1) r2.rev h1 fun H' a vs ps t f h r q => k H' a vs ps (t1.trans t) (f.back s t1) h r q⟩
  · exact h1.elim
theorem eo_revL2 (h : EvB K T E te w) : EvO K T E (tRevL2 K te) (pRevL2 w) := by
  rintro c M σ H ρ post Q rfl rfl s hw k e
  refine h c M σ H ρ _ _ rfl rfl s hw (fun H1 x p t1 r1 h1 => ?_) (e.imp fun _ _ z => z)
  dsimp only at h1
  split at h1
  · rename_i ps
    obtain ⟨a, xs, rfl, e1, r2, _⟩ := r1.lstI (s.stp t1)
    refine ⟨a, xs, rfl, SqL.of e1, new_lst (s.stp t1) (?_ : RepL c.K M H1 _ ps.dropLast.reverse) h1 fun H' a vs ps t f h r q => k H' a vs ps (t1.trans t) (f.back s t1) h r q⟩
    rw [List.dropLast_eq_take, List.dropLast_eq_take, ← r2.1]
    exact (r2.take _).rev
  · exact h1.elim
theorem RepL.flatRep {xs : List V} {ps : List PV} (a : RepL K M H xs ps) : ∀ n : Nat, RepL K M H (List.replicate n xs).flatten (List.replicate n ps).flatten
  | 0 => .nil
  | n + 1 => by
    rw [List.replicate_succ, List.replicate_succ, List.flatten_cons, List.flatten_cons]
    exact a.append (a.flatRep n)
def pRep (wa wb : WE) : WA := fun ρ => bindR wa (fun a => bindR wb (fun b post => match a, b with
  | .lst ps, .int k => k ≤ 1000000 ∧ -1000000 ≤ k ∧ ps.length * k.toNat ≤ 1000000 ∧ post (.ok (List.replicate k.toNat ps).flatten)
  | _, _ => False) ρ) ρ
theorem eo_rep (ha : EvB K T E te wa) (hb : EvE K T E tf wb) : EvO K T E (tOp rRep te tf) (pRep wa wb) := by
  rintro c M σ H ρ post Q rfl rfl s hw k e
  refine ha c M σ H ρ _ _ rfl rfl s hw (fun H1 x a t1 r1 h1 => ?_) (e.imp fun _ _ z => z)
  have s1 := s.stp t1
  refine hb c M σ H1 ρ _ _ rfl rfl s1 h1 (fun H2 y b t2 r2 h2 => ?_) (e.imp fun _ _ z => z)
  have s2 := s1.stp t2
  dsimp only at h2
  split at h2
  · obtain ⟨l, xs, rfl, e1, ra, _⟩ := (s1.bor t2 r1).lstI s2
    cases r2
    obtain ⟨z1, z2, z3, h2⟩ := h2
    exact ⟨l, _, xs, rfl, rfl, e1, by omega, by omega, szM (by rw [ra.1]; exact z3), new_lst s2 (ra.flatRep _) h2 fun H' a vs ps t f h r q => k H' a vs ps (t1.trans (t2.trans t)) ((f.back s1 t2).back s t1) h r q⟩
  · exact h2.elim
/-! ### f(.., k = v) -/
/-- where a parameter's value comes from: an argument (in the order that they are written), or a default -/
inductive KI where
  | arg (i : Nat) | dfl (j : Nat)
def KI.atG {α : Type} (z : α) (ds xs : List α) : KI → α
  | .arg i => xs.getD i z
  | .dfl j => ds.getD j z
def kV (dvs : List V) (ix : List KI) : List V → List V → List V := fun vs zs => ix.map fun k => k.atG .non dvs (vs ++ zs)
def kOk (n m : Nat) (ix : List KI) : Bool := ix.all fun k => match k with
  | .arg i => decide (i < n)
  | .dfl j => decide (j < m)
theorem ArR.append {vs us : List V} {as bs : List SV} (a : ArR c M H vs as) (b : ArR c M H us bs) : ArR c M H (vs ++ us) (as ++ bs) := by
  refine ⟨by simp [a.len, b.len], fun i y q h1 h2 => ?_⟩
  by_cases hi : i < vs.length
  · rw [List.getElem?_append_left hi] at h1
    rw [List.getElem?_append_left (a.len ▸ hi)] at h2
    exact a.at_ i y q h1 h2
  · rw [List.getElem?_append_right (by omega)] at h1
    rw [List.getElem?_append_right (by have := a.len; omega), ← a.len] at h2
    exact b.at_ _ y q h1 h2
theorem getD_at {α : Type} {z : α} {xs : List α} {m : Nat} (h : m < xs.length) : xs[m]? = some (xs.getD m z) := by rw [List.getD_eq_getElem?_getD, List.getElem?_eq_getElem h]; rfl
theorem ArR.pick {vs : List V} {as : List SV} {ix : List KI} (a : ArR c M H vs as) (hd : ∀ M H, RepL c.K M H dvs ds) (ok : kOk vs.length dvs.length ix = true) : ArR c M H (ix.map fun k => k.atG .non dvs vs) (ix.map fun k => k.atG .un (ds.map .fz) as) := by
  refine ⟨by simp, fun i y q h1 h2 => ?_⟩
  rw [List.getElem?_map] at h1 h2
  cases hk : ix[i]? with
  | none => rw [hk] at h1; cases h1
  | some kk =>
    rw [hk] at h1 h2
    cases h1; cases h2
    have := List.all_eq_true.mp ok kk (List.mem_of_getElem? hk)
    cases kk with
    | arg m =>
      have hm : m < vs.length := of_decide_eq_true this
      exact a.at_ m _ _ (getD_at hm) (getD_at (a.len ▸ hm))
    | dfl m =>
      have hm : m < dvs.length := of_decide_eq_true this
      have hm2 : m < ds.length := (hd M H).1 ▸ hm
      have e : (ds.map SV.fz).getD m .un = .fz (ds.getD m .non) := by
        rw [List.getD_eq_getElem?_getD, List.getElem?_map, List.getElem?_eq_getElem hm2, List.getD_eq_getElem?_getD, List.getElem?_eq_getElem hm2]; rfl
      show SlR c M H (some (dvs.getD m .non)) ((ds.map SV.fz).getD m .un) ∧ ((ds.map SV.fz).getD m .un).isOwn = false
      rw [e]
      exact ⟨.fz ((hd M H).2 m _ _ (getD_at hm) (getD_at hm2)), rfl⟩
def pCallK (wd : WD) (ds : List PV) (ix : List KI) (ca cb : WC) : WE := fun ρ => bindR ca (fun as => bindR cb (fun bs post => wd (ix.map fun k => k.atG .un (ds.map .fz) (as ++ bs)) (frzR post)) ρ) ρ
def pCallK0 (wd : WD) (ds : List PV) (ix : List KI) (ca cb : WC) : WE := fun ρ => bindR ca (fun as => bindR cb (fun bs post => wd (ix.map fun k => k.atG .un (ds.map .fz) (as ++ bs)) (frzR (noR post))) ρ) ρ
theorem ArR.stp {vs : List V} {as : List SV} (s : StR c M σ H ρ) (t : Stp c H H') (a : ArR c M H vs as) : ArR c M H' vs as := ⟨a.len, fun i v q h1 h2 => ⟨(a.at_ i v q h1 h2).1.stp s t, (a.at_ i v q h1 h2).2⟩⟩
theorem ev_callK {ix : List KI} {l : Nat} (hd : ∀ M H, RepL K M H dvs ds) (ok : kOk (j + l) dvs.length ix = true) (hn : ix.length = n) (ha : EvC K T E j ta ca) (hb : EvC K T E l tb cb) : EvE K T E (tCallN j l (SpP K T n wd) (kV dvs ix) E ta tb) (pCallK wd ds ix ca cb) := by
  rintro c M σ H ρ post Q rfl rfl s hw k e
  refine ha c M σ H ρ _ _ rfl rfl s hw (fun H1 xs as t1 r1 hl1 h1 => ?_) (e.imp fun _ _ z => z)
  have s1 := s.stp t1
  refine hb c M σ H1 ρ _ _ rfl rfl s1 h1 (fun H2 ys bs t2 r2 hl2 h2 => ?_) (e.imp fun _ _ z => z)
  have s2 := s1.stp t2
  have r3 := ArR.pick (ix := ix) ((r1.stp s1 t2).append r2) hd (by rw [List.length_append, hl1, hl2]; exact ok)
  exact ⟨hl1, hl2, call_fz s2 r3 (by unfold kV; rw [List.length_map, hn]) h2 (fun H' x p t r h => k H' x p (t1.trans (t2.trans t)) r h) (s2.err e)⟩
theorem ev_callK0 {ix : List KI} {l : Nat} (hd : ∀ M H, RepL K M H dvs ds) (ok : kOk (j + l) dvs.length ix = true) (hn : ix.length = n) (ha : EvC K T E j ta ca) (hb : EvC K T E l tb cb) : EvE K T E (tCallN j l (SpP K T n wd) (kV dvs ix) E' ta tb) (pCallK0 wd ds ix ca cb) := by
  rintro c M σ H ρ post Q rfl rfl s hw k e
  refine ha c M σ H ρ _ _ rfl rfl s hw (fun H1 xs as t1 r1 hl1 h1 => ?_) (e.imp fun _ _ z => z)
  have s1 := s.stp t1
  refine hb c M σ H1 ρ _ _ rfl rfl s1 h1 (fun H2 ys bs t2 r2 hl2 h2 => ?_) (e.imp fun _ _ z => z)
  have s2 := s1.stp t2
  have r3 := ArR.pick (ix := ix) ((r1.stp s1 t2).append r2) hd (by rw [List.length_append, hl1, hl2]; exact ok)
  exact ⟨hl1, hl2, call_fz (post := noR post) s2 r3 (by unfold kV; rw [List.length_map, hn]) h2 (fun H' x p t r h => k H' x p (t1.trans (t2.trans t)) r h) (fun _ _ _ _ _ _ _ _ h => h.elim)⟩
end
end My
end

section
set_option Elab.async false
set_option maxRecDepth 100000
set_option maxHeartbeats 4000000
set_option linter.all false
namespace My
open PySem L2
inductive Out where
  | nx (ρ : List SV) | bk (ρ : List SV) | ct (ρ : List SV) | rt (r : RV) | er (c : Str) (fs : List (Str × PV))
abbrev WS : Type := List SV → (Out → Prop) → Prop
structure CEx (c c' : Cfg) : Prop where
  K : c'.K = c.K
  T : c'.T = c.T
  H0 : c'.H0 = c.H0
  m : c'.m = c.m
  M0 : c'.M0 = c.M0
  B : ∀ q, c.B = some q → c'.B = some q
theorem CEx.refl (c : Cfg) : CEx c c := ⟨rfl, rfl, rfl, rfl, rfl, fun _ h => h⟩
theorem CEx.trans {c c1 c2 : Cfg} (a : CEx c c1) (b : CEx c1 c2) : CEx c c2 := ⟨b.K.trans a.K, b.T.trans a.T, b.H0.trans a.H0, b.m.trans a.m, b.M0.trans a.M0, fun q h => b.B q (a.B q h)⟩
theorem Lv.back {c c' : Cfg} {H : Hp} (x : CEx c c') (l : Lv c' H) : Lv c H := ⟨fun y o n nt e => l.fr y o (x.m ▸ n) nt (x.H0 ▸ e), x.T ▸ l.tabs, fun a b e => l.bag a b (x.B _ e)⟩
/-- what is wanted behind a statement, by values -/
structure Dn (c : Cfg) (M : List Addr) (H : Hp) (post : Out → Prop) (D : Ends) (E : XK) : Prop where
  nx : ∀ c' M' σ' H' ρ', CEx c c' → StR c' M' σ' H' ρ' → Nxt M H M' H' → post (.nx ρ') → D.nx σ' H'
  bk : ∀ c' M' σ' H' ρ', CEx c c' → StR c' M' σ' H' ρ' → Nxt M H M' H' → post (.bk ρ') → D.bk σ' H'
  ct : ∀ c' M' σ' H' ρ', CEx c c' → StR c' M' σ' H' ρ' → Nxt M H M' H' → post (.ct ρ') → D.ct σ' H'
  rt : RtW c D.rt (fun r => match r with | .ok q => post (.rt q) | .er _ _ => False)
  er : ErW c E (fun cn fs => post (.er cn fs))
def EvS (K : PySem.W.Frag) (T : List (Addr × Str)) (E : XK) (ts : TS) (w : WS) : Prop := ∀ (c : Cfg) (M : List Addr) (σ : L2.St) (H : Hp) (ρ : List SV) (post : Out → Prop) (D : Ends), c.K = K → c.T = T → StR c M σ H ρ → w ρ post → Dn c M H post D E → ts D σ H
theorem ErW.ex {c c' : Cfg} {E : XK} {post : Str → List (Str × PV) → Prop} (x : CEx c c') (e : ErW c E post) : ErW c' E post := fun H' cn fs dd vs l hd r h => by
  have := e H' cn fs dd vs (l.back x) hd (by rw [← x.K, ← x.M0]; exact r) h
  rw [x.K]; exact this
theorem RtW.ex {c c' : Cfg} {Q : VK} {post : Res RV → Prop} (x : CEx c c') (e : RtW c Q post) : RtW c' Q post :=
  ⟨fun H' v p l r h => e.fz H' v p (l.back x) (by rw [← x.K, ← x.M0]; exact r) h, fun H' a vs ps l f hx r h => e.own H' a vs ps (l.back x) (by rw [← x.H0]; exact f) hx (by rw [← x.K, ← x.M0]; exact r) h⟩
section
variable {c : Cfg} {M : List Addr} {σ : L2.St} {H H' : Hp} {ρ : List SV} {K : PySem.W.Frag} {T : List (Addr × Str)} {E E' : XK} {te tf tg : TE} {w wa wb wc : WE} {tt tu : TT} {vt vu : WT} {ta tb : TA} {va vb : WA} {ca cb : WC} {i j n : Nat} {p : PV} {v : V} {b : Bool} {wd : WD} {ts us : TS} {ws wu : WS} {g : TG} {wg : WG} {ss : List Nat}
def erO (post : Out → Prop) {α : Type} (f : α → Prop) : Res α → Prop
  | .ok a => f a
  | .er cn fs => post (.er cn fs)
theorem StR.nxt (s : StR c M σ H ρ) (t : Stp c H H') : Nxt M H M H' := (s.ext t).nxt
/-- a later state: what was wanted is wanted -/
theorem Dn.later {M1 : List Addr} {H1 : Hp} {c1 : Cfg} {post : Out → Prop} {D : Ends} (d : Dn c M H post D E) (x : CEx c c1) (n : Nxt M H M1 H1) : Dn c1 M1 H1 post D E :=
  ⟨fun c' M' σ' H' ρ' y s k h => d.nx c' M' σ' H' ρ' (x.trans y) s (n.trans k) h, fun c' M' σ' H' ρ' y s k h => d.bk c' M' σ' H' ρ' (x.trans y) s (n.trans k) h, fun c' M' σ' H' ρ' y s k h => d.ct c' M' σ' H' ρ' (x.trans y) s (n.trans k) h, d.rt.ex x, d.er.ex x⟩
def sNext : WS := fun ρ post => post (.nx ρ)
theorem es_next : EvS K T E tNext sNext := by
  rintro c M σ H ρ post D rfl rfl s hw d
  exact d.nx c M σ H ρ (.refl c) s (.refl M H) hw
def sSeq (a b : WS) : WS := fun ρ post => a ρ fun o => match o with
  | .nx ρ' => b ρ' post
  | o => post o
theorem seq_ok (ha : EvS K T E ts ws) (hb : EvS K T E us wu) : EvS K T E (tSeq ts us) (sSeq ws wu) := by
  rintro c M σ H ρ post D rfl rfl s hw d
  refine ha c M σ H ρ _ _ rfl rfl s hw ⟨fun c' M' σ' H' ρ' x s' n h => ?_, fun c' M' σ' H' ρ' x s' n h => d.bk c' M' σ' H' ρ' x s' n h, fun c' M' σ' H' ρ' x s' n h => d.ct c' M' σ' H' ρ' x s' n h, ?_, d.er⟩
  · exact hb c' M' σ' H' ρ' post D x.K x.T s' h (d.later x n)
  · exact d.rt
theorem cut_ok (ha : EvS K T E ts ws) (hb : EvS K T E us wu) : EvS K T E (C8.tCut ts us) (sSeq ws wu) := by
  rintro c M σ H ρ post D rfl rfl s hw d
  refine ⟨fun σ' H' => ∃ c' M' ρ', CEx c c' ∧ StR c' M' σ' H' ρ' ∧ Nxt M H M' H' ∧ wu ρ' post, ?_, fun σ' H' ⟨c', M', ρ', x, s', n, h⟩ => hb c' M' σ' H' ρ' post D x.K x.T s' h (d.later x n)⟩
  exact ha c M σ H ρ _ _ rfl rfl s hw ⟨fun c' M' σ' H' ρ' x s' n h => ⟨c', M', ρ', x, s', n, h⟩, fun c' M' σ' H' ρ' x s' n h => d.bk c' M' σ' H' ρ' x s' n h, fun c' M' σ' H' ρ' x s' n h => d.ct c' M' σ' H' ρ' x s' n h, d.rt, d.er⟩
def sIf (vt : WT) (a b : WS) : WS := fun ρ post => vt ρ (erO post fun d => if d = true then a ρ post else b ρ post)
theorem es_if (h : EvT K T E tt vt) (ha : EvS K T E ts ws) (hb : EvS K T E us wu) : EvS K T E (tIfS tt ts us) (sIf vt ws wu) := by
  rintro c M σ H ρ post D rfl rfl s hw d
  refine h c M σ H ρ _ _ rfl rfl s hw (fun H1 q t1 h1 => ?_) d.er
  have s1 := s.stp t1
  have d1 := d.later (.refl c) (s.nxt t1)
  have h1 : if q = true then ws ρ post else wu ρ post := h1
  cases q with
  | true => exact ha c M σ H1 ρ post D rfl rfl s1 h1 d1
  | false => exact hb c M σ H1 ρ post D rfl rfl s1 h1 d1
def sRet (w : WE) : WS := fun ρ post => w ρ (erO post fun p => post (.rt (.fz p)))
theorem es_ret (h : EvE K T E te w) : EvS K T E (tRet te) (sRet w) := by
  rintro c M σ H ρ post D rfl rfl s hw d
  exact h c M σ H ρ _ _ rfl rfl s hw (fun H1 x p t1 r1 h1 => d.rt.fz H1 x p (s.stp t1).lv (r1.weak s.sub) h1) d.er
def sRetO (w : WA) : WS := fun ρ post => w ρ (erO post fun ps => post (.rt (.own ps)))
theorem es_retO (h : EvO K T E te va) : EvS K T E (tRet te) (sRetO va) := by
  rintro c M σ H ρ post D rfl rfl s hw d
  refine h c M σ H ρ _ _ rfl rfl s hw (fun H1 a vs ps t1 f e1 r1 h1 => ?_) d.er
  refine d.rt.own H1 a vs ps (s.stp t1).lv ?_ e1 (r1.weak fun b hb => ?_) h1
  · exact s.fresh0 f
  · rcases List.mem_cons.mp hb with z | z
    · exact z ▸ List.mem_cons_self
    · exact List.mem_cons_of_mem _ (s.sub b z)
def sRetN : WS := fun ρ post => post (.rt (.fz .non))
theorem es_retN : EvS K T E tRetN sRetN := by
  rintro c M σ H ρ post D rfl rfl s hw d
  exact d.rt.fz H _ _ s.lv .non hw

def sDrop (w : WE) : WS := fun ρ post => w ρ (erO post fun _ => post (.nx ρ))
theorem es_drop (h : EvE K T E te w) : EvS K T E (tDrop te) (sDrop w) := by
  rintro c M σ H ρ post D rfl rfl s hw d
  exact h c M σ H ρ _ _ rfl rfl s hw (fun H1 x p t1 r1 h1 => d.nx c M σ H1 ρ (.refl c) (s.stp t1) (s.nxt t1) h1) d.er
def sBreak : WS := fun ρ post => post (.bk ρ)
def sCont : WS := fun ρ post => post (.ct ρ)
theorem es_break : EvS K T E tBreak sBreak := by
  rintro c M σ H ρ post D rfl rfl s hw d
  exact d.bk c M σ H ρ (.refl c) s (.refl M H) hw
theorem es_cont : EvS K T E tCont sCont := by
  rintro c M σ H ρ post D rfl rfl s hw d
  exact d.ct c M σ H ρ (.refl c) s (.refl M H) hw
def sNever : WS := fun _ _ => False
theorem es_never : EvS K T E tNever sNever := by
  rintro c M σ H ρ post D rfl rfl s hw d
  exact hw.elim
/-- x = e, what is stored is frozen -/
def sAsg (w : WE) (wg : WG) : WS := fun ρ post => w ρ (erO post fun p => wg p ρ (erO post fun ρ' => post (.nx ρ')))
theorem es_asg (h : EvE K T E te w) (hg : EvG K ss g wg) : EvS K T E (tAsg te g) (sAsg w wg) := by
  rintro c M σ H ρ post D rfl rfl s hw d
  refine h c M σ H ρ _ _ rfl rfl s hw (fun H1 x p t1 r1 h1 => ?_) d.er
  exact hg c M σ H1 ρ x p _ _ rfl (s.stp t1) r1 h1 fun σ' ρ' s' _ _ h2 => d.nx c M σ' H1 ρ' (.refl c) s' (s.nxt t1) h2
/-- a new list that is the slot's own: it is no other slot's -/
theorem StR.uniqO (s : StR c M σ H ρ) (i : Nat) {a : Addr} {q : SV} (nm : a ∉ M) : ∀ (j k : Nat) (b : Addr) (t u : SV), (σ.set i (some (.ref a)))[j]? = some (some (.ref b)) → (σ.set i (some (.ref a)))[k]? = some (some (.ref b)) → (ρ.set i q)[j]? = some t → (ρ.set i q)[k]? = some u → t.isOwn = true → u.isOwn = true → j = k := fun j k b t u h1 h2 h3 h4 h5 h6 => by
  have key : ∀ (m : Nat) (t : SV), m ≠ i → σ[m]? = some (some (.ref a)) → ρ[m]? = some t → t.isOwn = true → False := fun m t hm e1 e2 e3 => by
    cases s.slots m _ t e1 e2 with
    | own hm _ _ _ _ => exact nm hm
    | ob hm _ _ _ _ => exact nm hm
    | un => cases e3
    | fz _ => cases e3
    | bag _ => cases e3
    | scr _ => cases e3
    | ref => cases e3
  by_cases e : i = j
  · subst e
    by_cases e2 : i = k
    · exact e2
    · by_cases hi : i < σ.length
      · rw [List.getElem?_set_self hi] at h1
        cases h1
        rw [List.getElem?_set_ne e2] at h2 h4
        exact (key k u (fun z => e2 z.symm) h2 h4 h6).elim
      · rw [List.getElem?_eq_none (by simpa using hi)] at h1; cases h1
  · by_cases e2 : i = k
    · subst e2
      by_cases hi : i < σ.length
      · rw [List.getElem?_set_self hi] at h2
        cases h2
        rw [List.getElem?_set_ne e] at h1 h3
        exact (key j t (fun z => e z.symm) h1 h3 h5).elim
      · rw [List.getElem?_eq_none (by simpa using hi)] at h2; cases h2
    · rw [List.getElem?_set_ne e] at h1 h3
      rw [List.getElem?_set_ne e2] at h2 h4
      exact s.uniq j k b t u h1 h2 h3 h4 h5 h6
def sAsgO (w : WA) (i : Nat) : WS := fun ρ post => w ρ (erO post fun ps => post (.nx (ρ.set i (.own ps))))
theorem es_asgO (h : EvO K T E te va) : EvS K T E (tAsg te (gName i)) (sAsgO va i) := by
  rintro c M σ H ρ post D rfl rfl s hw d
  refine h c M σ H ρ _ _ rfl rfl s hw (fun H1 a vs ps t1 f e1 r1 h1 => ?_) d.er
  have s1 := s.stp t1
  have nm : a ∉ M := s.notIn f
  have n1 : Nxt M H (a :: M) H1 := ⟨s.ext t1, fun b hb => by
    rcases List.mem_cons.mp hb with z | z
    · exact .inr (z ▸ f)
    · exact .inl z⟩
  have fB : ∀ x y, c.B = some (x, y) → a ≠ x ∧ a ≠ y := fun x y e => ⟨fun z => nm (z ▸ (s.bag x y e).2.1), fun z => nm (z ▸ (s.bag x y e).2.2.1)⟩
  -- what stood before is not at a
  have s2 : StR c (a :: M) (σ.set i (some (.ref a))) H1 (ρ.set i (.own ps)) := by
    refine ⟨s1.fr, fun b hb => ?_, fun b hb => List.mem_cons_of_mem _ (s.sub b hb), s.mm, s.d0, s1.tabs, fun x y e => ⟨(s1.bag x y e).1, List.mem_cons_of_mem _ (s1.bag x y e).2.1, List.mem_cons_of_mem _ (s1.bag x y e).2.2.1, (s1.bag x y e).2.2.2⟩, by simp [s.len], fun j u t h1' h2' => ?_, ?_⟩
    · rcases List.mem_cons.mp hb with z | z
      · exact ⟨_, z ▸ e1, NT.lst⟩
      · exact s1.dom b z
    · by_cases e : i = j
      · subst e
        by_cases hi : i < σ.length
        · rw [List.getElem?_set_self hi] at h1'
          rw [List.getElem?_set_self (s.len ▸ hi)] at h2'
          cases h1'; cases h2'
          exact .own List.mem_cons_self fB (s.fresh0 f) e1 r1
        · rw [List.getElem?_eq_none (by simpa using hi)] at h1'; cases h1'
      · rw [List.getElem?_set_ne e] at h1'
        rw [List.getElem?_set_ne e] at h2'
        have z := s.slots j u t h1' h2'
        have z2 := s1.slots j u t h1' h2'
        cases z2 with
        | un => exact .un
        | fz h => cases z with | fz h' => exact .fz (h'.nxt n1)
        | own hm hb h0 h hi =>
          cases z with
          | own hm' hb' h0' h' hi' =>
            have e3 := t1.keep _ _ (fun a b e => (hb' a b e).1) NT.lst h'
            rw [h] at e3; cases e3
            exact .own (List.mem_cons_of_mem _ hm) hb h0 h (hi'.nxt n1)
        | bag h => exact .bag h
        | ob hm hb h0 h hi =>
          cases z with
          | ob hm' hb' h0' h' hi' =>
            have e3 := t1.keep _ _ (fun a b e => (hb' a b e).1) NT.ins h'
            rw [h] at e3; cases e3
            exact .ob (List.mem_cons_of_mem _ hm) hb h0 h (hi'.nxt n1)
        | scr h =>
          cases z with
          | scr h' => exact .scr (h'.nxt n1)
        | ref => exact .ref
    · exact s.uniqO i nm
  exact d.nx c (a :: M) _ H1 _ (.refl c) s2 n1 h1
end
end My
end

section
set_option Elab.async false
set_option maxRecDepth 100000
set_option maxHeartbeats 4000000
set_option linter.all false
namespace My
open PySem L2
section
variable {c : Cfg} {M : List Addr} {σ : L2.St} {H H' : Hp} {ρ : List SV} {K : PySem.W.Frag} {T : List (Addr × Str)} {E E' : XK} {te tf tg : TE} {w wa wb wc : WE} {tt tu : TT} {vt vu : WT} {ta tb : TA} {va vb : WA} {ca cb : WC} {i j n : Nat} {p : PV} {v : V} {b : Bool} {wd : WD} {ts us : TS} {ws wu : WS} {g : TG} {wg : WG} {ss : List Nat}
/-! ### own lists -/
/-- the own list of slot i is changed -/
theorem StR.mut (s : StR c M σ H ρ) {i : Nat} {a : Addr} {ps qs : List PV} {xs ys : List V} (h1 : ρ[i]? = some (.own ps)) (h2 : σ[i]? = some (some (.ref a))) (ha : H a = some (.lst xs)) (hm : a ∈ M) (hb : ∀ x y, c.B = some (x, y) → a ≠ x ∧ a ≠ y) (h0 : Fresh c.H0 a) (r : RepL c.K M H ys qs) :
    StR c M σ (upd H a (.lst ys)) (ρ.set i (.own qs)) ∧ Nxt M H M (upd H a (.lst ys)) := by
  have ex : Ext M H (upd H a (.lst ys)) := fun x o n _ e => by rw [upd_ne (fun z => n (by rw [z]; exact hm))]; exact e
  refine ⟨⟨fun x o n nt e => ?_, fun y hy => ?_, s.sub, s.mm, s.d0, upd_tabs s.tabs (.inr ⟨_, ha⟩) (.inr ⟨_, ha⟩), fun x y e => ⟨(s.bag x y e).1.mut (hb x y e).1.symm (hb x y e).2.symm, (s.bag x y e).2⟩, by simp [s.len], fun j u t e1 e2 => ?_, fun j k b t u e1 e2 e3 e4 e5 e6 => ?_⟩, ex.nxt⟩
  · rw [upd_ne (fun z => h0 o (by rw [← z]; exact e) nt)]; exact s.fr x o n nt e
  · by_cases z : y = a
    · subst z; exact ⟨_, upd_same, NT.lst⟩
    · obtain ⟨o, e, nt⟩ := s.dom y hy
      exact ⟨o, (upd_ne z).trans e, nt⟩
  · by_cases e : i = j
    · subst e
      have hi : i < ρ.length := (List.getElem?_eq_some_iff.mp h1).1
      rw [List.getElem?_set_self hi] at e2
      rw [h2] at e1
      cases e1; cases e2
      exact .own hm hb h0 upd_same (r.ext ex)
    · rw [List.getElem?_set_ne e] at e2
      cases s.slots j u t e1 e2 with
      | un => exact .un
      | fz h => exact .fz (h.ext ex)
      | own hm' hb' h0' h hi =>
        rename_i a' vs' ps'
        have na : a' ≠ a := fun z => e (s.uniq i j a _ _ h2 (z ▸ e1) h1 e2 rfl rfl)
        exact .own hm' hb' h0' ((upd_ne na).trans h) (hi.ext ex)
      | bag h => exact .bag h
      | ob hm' hb' h0' h hi =>
        rename_i a' dx C vs' ps'
        have na : a' ≠ a := fun z => e (s.uniq i j a _ _ h2 (z ▸ e1) h1 e2 rfl rfl)
        exact .ob hm' hb' h0' ((upd_ne na).trans h) (hi.nxt ex.nxt)
      | scr h => exact .scr (h.nxt ex.nxt)
      | ref => exact .ref
  · have tr : ∀ (m : Nat) (t : SV), (ρ.set i (.own qs))[m]? = some t → t.isOwn = true → ∃ t', ρ[m]? = some t' ∧ t'.isOwn = true := fun m t q1 q2 => by
      by_cases z : i = m
      · subst z; exact ⟨_, h1, rfl⟩
      · rw [List.getElem?_set_ne z] at q1; exact ⟨t, q1, q2⟩
    obtain ⟨t', q1, q2⟩ := tr j t e3 e5
    obtain ⟨u', q3, q4⟩ := tr k u e4 e6
    exact s.uniq j k b t' u' e1 e2 q1 q3 q2 q4
theorem StR.ownAt (s : StR c M σ H ρ) {i : Nat} {ps : List PV} (h : ρ[i]? = some (.own ps)) : ∃ a xs, σ[i]? = some (some (.ref a)) ∧ H a = some (.lst xs) ∧ a ∈ M ∧ (∀ x y, c.B = some (x, y) → a ≠ x ∧ a ≠ y) ∧ Fresh c.H0 a ∧ RepL c.K M H xs ps := by
  obtain ⟨o, h1, h2⟩ := s.get h
  cases h2 with
  | own hm hb h0 hh hi => exact ⟨_, _, h1, hh, hm, hb, h0, hi⟩
theorem StR.ownStp (s : StR c M σ H ρ) (t : Stp c H H') {a : Addr} {xs : List V} (hb : ∀ x y, c.B = some (x, y) → a ≠ x ∧ a ≠ y) (h : H a = some (.lst xs)) : H' a = some (.lst xs) := t.keep _ _ (fun x y e => (hb x y e).1) NT.lst h
/-- x.append(e) -/
def sApp (i : Nat) (w : WE) : WS := fun ρ post => match ρ[i]? with
  | some (.own ps) => w ρ (erO post fun p => ps.length ≤ 1000000 ∧ post (.nx (ρ.set i (.own (ps ++ [p])))))
  | _ => False
theorem es_app (h : EvE K T E te w) : EvS K T E (tDrop (tBM K "list" rAppend (tVar i) (tCons te tNil))) (sApp i w) := by
  rintro c M σ H ρ post D rfl rfl s hw d
  unfold sApp at hw
  split at hw
  · rename_i ps hp
    obtain ⟨a, xs, h1, ha, hm, hb, h0, hi⟩ := s.ownAt hp
    refine ⟨_, h1, ty_list (SqL.of ha), h c M σ H ρ _ _ rfl rfl s hw (fun H1 x p t1 r1 h1' => ?_) d.er⟩
    have s1 := s.stp t1
    have ha1 := s.ownStp t1 hb ha
    have r2 := (s.repL t1 hi).snoc r1
    obtain ⟨s3, n3⟩ := s1.mut hp h1 ha1 hm hb h0 r2
    exact r_app (Q := fun _ H1 => D.nx σ H1) ha1 (szMl (by rw [hi.1]; exact h1'.1)) (d.nx c M σ _ _ (.refl c) s3 ((s.nxt t1).trans n3) h1'.2)
  · exact hw.elim
/-- x[i] = e -/
def sSetI (i : Nat) (w wix : WE) : WS := fun ρ post => w ρ (erO post fun p => match ρ[i]? with
  | some (.own ps) => wix ρ (erO post fun q => match q with
    | .int k => ∃ j, ixN ps.length k = some j ∧ post (.nx (ρ.set i (.own (ps.set j p))))
    | _ => False)
  | _ => False)
theorem es_setI (h : EvE K T E te w) (hx : EvE K T E tf wb) : EvS K T E (tAsg te (gSub (tVar i) tf rSetL)) (sSetI i w wb) := by
  rintro c M σ H ρ post D rfl rfl s hw d
  refine h c M σ H ρ _ _ rfl rfl s hw (fun H1 x p t1 r1 h1 => ?_) d.er
  have s1 := s.stp t1
  dsimp only [erO] at h1
  split at h1
  · rename_i ps hp
    obtain ⟨a, xs, e1, ha, hm, hb, h0, hi⟩ := s1.ownAt hp
    refine ⟨_, e1, hx c M σ H1 ρ _ _ rfl rfl s1 h1 (fun H2 y q t2 r2 h2 => ?_) d.er⟩
    have s2 := s1.stp t2
    dsimp only [erO] at h2
    split at h2
    · obtain ⟨k, hk, h2⟩ := h2
      cases r2
      have ha2 := s1.ownStp t2 hb ha
      have r3 := (s1.repL t2 hi).set (s1.rep t2 r1) k
      obtain ⟨s3, n3⟩ := s2.mut hp e1 ha2 hm hb h0 r3
      exact ⟨a, xs, _, k, rfl, rfl, ha2, by rw [hi.1]; exact hk, d.nx c M σ _ _ (.refl c) s3 ((s.nxt t1).trans ((s1.nxt t2).trans n3)) h2⟩
    · exact h2.elim
  · exact h1.elim
/-- x.extend(e) -/
def sExt (i : Nat) (w : WE) : WS := fun ρ post => match ρ[i]? with
  | some (.own ps) => w ρ (erO post fun p => match p with
    | .lst qs => ps.length + qs.length ≤ 1000000 ∧ post (.nx (ρ.set i (.own (ps ++ qs))))
    | _ => False)
  | _ => False
theorem es_ext (h : EvB K T E te w) : EvS K T E (tDrop (tBM K "list" rExtend (tVar i) (tCons te tNil))) (sExt i w) := by
  rintro c M σ H ρ post D rfl rfl s hw d
  unfold sExt at hw
  split at hw
  · rename_i ps hp
    obtain ⟨a, xs, h1, ha, hm, hb, h0, hi⟩ := s.ownAt hp
    refine ⟨_, h1, ty_list (SqL.of ha), h c M σ H ρ _ _ rfl rfl s hw (fun H1 x p t1 r1 h1' => ?_) d.er⟩
    have s1 := s.stp t1
    have ha1 := s.ownStp t1 hb ha
    dsimp only [erO] at h1'
    split at h1'
    · obtain ⟨l, ys, rfl, e2, rb, _⟩ := r1.lstI s1
      obtain ⟨s3, n3⟩ := s1.mut hp h1 ha1 hm hb h0 ((s.repL t1 hi).append rb)
      exact r_ext (Q := fun _ H1 => D.nx σ H1) ha1 e2 (szM (by rw [hi.1, rb.1]; exact h1'.1)) (d.nx c M σ _ _ (.refl c) s3 ((s.nxt t1).trans n3) h1'.2)
    · exact h1'.elim
  · exact hw.elim
/-- return of a slot -/
def sRetV (i : Nat) : WS := fun ρ post => match ρ[i]? with
  | some (.fz p) => post (.rt (.fz p))
  | some (.own ps) => post (.rt (.own ps))
  | _ => False
theorem es_retV : EvS K T E (tRet (tVar i)) (sRetV i) := by
  rintro c M σ H ρ post D rfl rfl s hw d
  unfold sRetV at hw
  split at hw
  · rename_i p hp
    obtain ⟨v, h1, h2⟩ := s.fz hp
    exact ⟨v, h1, d.rt.fz H v p s.lv (h2.weak s.sub) hw⟩
  · rename_i ps hp
    obtain ⟨a, xs, h1, ha, hm, hb, h0, hi⟩ := s.ownAt hp
    refine ⟨_, h1, d.rt.own H a xs ps s.lv h0 ha (hi.weak fun b hb => ?_) hw⟩
    rcases List.mem_cons.mp hb with z | z
    · exact z ▸ hm
    · exact s.sub b z
  · exact hw.elim
/-- an own list is frozen from here on -/
def sFreeze (i : Nat) (w : WS) : WS := fun ρ post => match ρ[i]? with
  | some (.own ps) => w (ρ.set i (.fz (.lst ps))) post
  | _ => w ρ post
/-- a is no longer an own list's -/
theorem StR.freeze (s : StR c M σ H ρ) {i : Nat} {ps : List PV} (h : ρ[i]? = some (.own ps)) : ∃ M', StR c M' σ H (ρ.set i (.fz (.lst ps))) ∧ (∀ b ∈ M', b ∈ M) := by
  obtain ⟨a, xs, h1, ha, hm, hb, h0, hi⟩ := s.ownAt h
  have hM : a ∉ c.M0 := fun z => by
    obtain ⟨o, e, nt⟩ := s.d0 a z
    exact h0 o e nt
  refine ⟨M.filter fun b => decide (b ≠ a), ⟨s.fr, fun b hb => s.dom b (List.mem_filter.mp hb).1, fun b hb => List.mem_filter.mpr ⟨s.sub b hb, decide_eq_true fun z => hM (z ▸ hb)⟩, s.mm, s.d0, s.tabs, fun x y e => ⟨(s.bag x y e).1, List.mem_filter.mpr ⟨(s.bag x y e).2.1, decide_eq_true (hb x y e).1.symm⟩, List.mem_filter.mpr ⟨(s.bag x y e).2.2.1, decide_eq_true (hb x y e).2.symm⟩, (s.bag x y e).2.2.2⟩, by simp [s.len], fun j u t e1 e2 => ?_, fun j k b t u e1 e2 e3 e4 e5 e6 => ?_⟩, fun b hb => (List.mem_filter.mp hb).1⟩
  · have wk : ∀ b ∈ M.filter (fun b => decide (b ≠ a)), b ∈ M := fun b hb => (List.mem_filter.mp hb).1
    by_cases e : i = j
    · subst e
      have hil : i < ρ.length := (List.getElem?_eq_some_iff.mp h).1
      rw [List.getElem?_set_self hil] at e2
      rw [h1] at e1
      cases e1; cases e2
      have r := hi.weak wk
      exact .fz (.lst (fun z => by have := (List.mem_filter.mp z).2; simp at this) ha r.1 r.2)
    · rw [List.getElem?_set_ne e] at e2
      cases s.slots j u t e1 e2 with
      | un => exact .un
      | fz h => exact .fz (h.weak wk)
      | own hm' hb' h0' h' hi' =>
        rename_i a' vs' ps'
        have na : a' ≠ a := fun z => e (s.uniq i j a _ _ h1 (z ▸ e1) h e2 rfl rfl)
        exact .own (List.mem_filter.mpr ⟨hm', decide_eq_true na⟩) hb' h0' h' (hi'.weak wk)
      | bag h => exact .bag h
      | ob hm' hb' h0' h' hi' =>
        rename_i a' dx C vs' ps'
        have na : a' ≠ a := fun z => e (s.uniq i j a _ _ h1 (z ▸ e1) h e2 rfl rfl)
        exact .ob (List.mem_filter.mpr ⟨hm', decide_eq_true na⟩) hb' h0' h' (hi'.weak wk)
      | scr h' => exact .scr (h'.nxt ⟨fun _ _ _ _ e => e, fun b hb => .inl (wk b hb)⟩)
      | ref => exact .ref
  · have tr : ∀ (m : Nat) (t : SV), (ρ.set i (.fz (.lst ps)))[m]? = some t → t.isOwn = true → ρ[m]? = some t := fun m t q1 q2 => by
      by_cases z : i = m
      · subst z
        by_cases hil : i < ρ.length
        · rw [List.getElem?_set_self hil] at q1; cases q1; cases q2
        · rw [List.getElem?_eq_none (by simpa using hil)] at q1; cases q1
      · rw [List.getElem?_set_ne z] at q1; exact q1
    exact s.uniq j k b t u e1 e2 (tr j t e3 e5) (tr k u e4 e6) e5 e6
theorem es_freeze (h : EvS K T E ts ws) : EvS K T E ts (sFreeze i ws) := by
  rintro c M σ H ρ post D rfl rfl s hw d
  unfold sFreeze at hw
  split at hw
  · rename_i ps hp
    obtain ⟨M', s', hM⟩ := s.freeze hp
    exact h c M' σ H _ post D rfl rfl s' hw (d.later (.refl c) ⟨fun _ _ _ _ e => e, fun a ha => .inl (hM a ha)⟩)
  · exact h c M σ H ρ post D rfl rfl s hw d
/-- an own list handed to a call whose answer is flat -/
def looseK (post : Res PV → Prop) : Res PV → Prop
  | .ok p => (flatP p).isSome = true ∧ post (.ok p)
  | .er cn fs => post (.er cn fs)
def pLoose (i : Nat) (w : WE) : WE := fun ρ post => match ρ[i]? with
  | some (.own ps) => w (ρ.set i (.fz (.lst ps))) (looseK post)
  | _ => w ρ post
theorem Rep.flatAny {M M' : List Addr} {v : V} {p : PV} (h : Rep K M H v p) (e : (flatP p).isSome = true) : Rep K M' H v p := by
  cases h with
  | non => exact .non
  | bl b => exact .bl b
  | int i => exact .int i
  | str z => exact .str z
  | lst _ _ _ _ => cases e
  | tup _ _ _ _ => cases e
  | ktup _ _ _ => cases e
  | obj _ _ _ _ => cases e
theorem ev_loose (h : EvE K T E te w) : EvE K T E te (pLoose i w) := by
  rintro c M σ H ρ post Q rfl rfl s hw k e
  unfold pLoose at hw
  split at hw
  · rename_i ps hp
    obtain ⟨M', s', hM⟩ := s.freeze hp
    exact h c M' σ H _ _ _ rfl rfl s' hw (fun H' x p t r q => k H' x p t (r.flatAny q.1) q.2) (e.imp fun _ _ z => z)
  · exact h c M σ H ρ post Q rfl rfl s hw k e
end
end My
end

section
set_option Elab.async false
set_option maxRecDepth 100000
set_option maxHeartbeats 4000000
set_option linter.all false
namespace My
open PySem L2
/-- a tuple of values raised, by class -/
def sp_err (K : PySem.W.Frag) (cn : Str) (names : List Str) (ok : List V → Prop) : Sp := fun vs H Q _ => ∃ (a : Addr) (us : List V), vs = .ref a :: us ∧ us.length = names.length ∧ ok us ∧ H a = some (exo a (He.ga K cn) none) ∧
  ∀ dx, H dx = none → dx ≠ a → Q .non (upd (upd H dx (exd dx (names.zip us))) a (exo a (He.ga K cn) (some dx)))
section
variable {c : Cfg} {M : List Addr} {σ : L2.St} {H H' : Hp} {ρ : List SV} {K : PySem.W.Frag} {T : List (Addr × Str)} {E E' : XK} {te tf tg : TE} {w wa wb wc : WE} {tt tu : TT} {vt vu : WT} {ta tb : TA} {va vb : WA} {ca cb : WC} {i j n : Nat} {p : PV} {v : V} {b : Bool} {wd : WD} {ts us : TS} {ws wu : WS} {g : TG} {wg : WG} {ss : List Nat}
/-! ### x, y = e, f -/
def sPar (i j : Nat) (wa wb : WE) : WS := fun ρ post => wa ρ (erO post fun a => wb ρ (erO post fun b => post (.nx ((ρ.set i (.fz a)).set j (.fz b)))))
theorem es_par (ha : EvE K T E te wa) (hb : EvE K T E tf wb) : EvS K T E (tPar i j (tCons te (tCons tf tNil))) (sPar i j wa wb) := by
  rintro c M σ H ρ post D rfl rfl s hw d
  refine ha c M σ H ρ _ _ rfl rfl s hw (fun H1 x p t1 r1 h1 => ?_) d.er
  have s1 := s.stp t1
  refine hb c M σ H1 ρ _ _ rfl rfl s1 h1 (fun H2 y q t2 r2 h2 => ?_) d.er
  have s2 := s1.stp t2
  refine ⟨x, y, rfl, d.nx c M _ H2 _ (.refl c) ((s2.set i (.fz (s1.rep t2 r1)) rfl).set j (.fz r2) rfl) ((s.nxt t1).trans (s1.nxt t2)) h2⟩
/-! ### loops -/
def forW (wg : WG) (ws : WS) : List PV → List SV → (Out → Prop) → Prop
  | [], ρ, post => post (.nx ρ)
  | x :: xs, ρ, post => wg x ρ (erO post fun ρ1 => ws ρ1 fun o => match o with
    | .nx ρ2 => forW wg ws xs ρ2 post
    | .ct ρ2 => forW wg ws xs ρ2 post
    | .bk ρ2 => post (.nx ρ2)
    | .rt r => post (.rt r)
    | .er cn fs => post (.er cn fs))
def sFor (va : WA) (wg : WG) (ws : WS) : WS := fun ρ post => va ρ (erO post fun items => forW wg ws items ρ post)
theorem Stp.sameR (s : StR c M σ H ρ) (sm : Same H H') : Stp c H H' := ⟨fun x o _ _ e => sm x o e, s.tabs.ext (fun b u e => sm b u e), fun a b e => by
  obtain ⟨cs, i, r, m, n, d6, z1, z2, z3, z4⟩ := (s.bag a b e).1
  exact ⟨cs, i, r, m, n, d6, sm _ _ z1, z2, sm _ _ z3, z4⟩⟩
theorem es_for {wi : TI} (hi : EvI false K T E wi va) (hg : EvG K ss g wg) (hb : EvS K T E ts ws) : EvS K T E (tFor wi g ts) (sFor va wg ws) := by
  rintro c M σ H ρ post D rfl rfl s hw d
  refine hi c M σ H ρ _ _ rfl rfl s hw (fun H1 J items t1 it h1 => ?_) d.er
  obtain ⟨G, Y, wk, hG⟩ := it
  have s1 := s.stp t1
  have d1 := d.later (.refl c) (s.nxt t1)
  have rb : ∀ H2, RB false c H1 H2 := fun H2 z => by cases z
  refine for_it wk (fun i σ' H' => ∃ c' M' ρ', CEx c c' ∧ StR c' M' σ' H' ρ' ∧ Nxt M H1 M' H' ∧ forW wg ws (items.drop i) ρ' post) ⟨c, M, ρ, .refl c, s1, .refl M H1, h1⟩ ?_ ?_ ?_
  · rintro i σ2 H2 hil ⟨c', M', ρ', x, s', n', h⟩
    exact (hG M' H2 n' (rb H2)).1
  · rintro i x σ2 H2 H3 hil ⟨c', M', ρ', xc, s', n', h⟩ y
    obtain ⟨p, hp, sm, rp⟩ := (hG M' H2 n' (rb H2)).2 s'.dom i x H3 hil y
    have t3 := Stp.sameR s' sm
    have s3 := s'.stp t3
    have n3 := n'.trans (s'.nxt t3)
    have e4 : items.drop i = p :: items.drop (i + 1) := by
      rw [List.drop_eq_getElem_cons hil]
      congr 1
      rw [List.getElem?_eq_getElem hil] at hp
      exact Option.some.inj hp
    rw [e4] at h
    unfold forW at h
    refine hg c' M' σ2 H3 ρ' x p _ _ xc.K s3 (by rw [xc.K]; exact rp) h fun σ4 ρ4 s4 _ _ h4 => ?_
    dsimp only [erO] at h4
    refine hb c' M' σ4 H3 ρ4 _ _ xc.K xc.T s4 h4 ⟨?_, ?_, ?_, d1.rt.ex xc, d1.er.ex xc⟩
    · exact fun c5 M5 σ5 H5 ρ5 x5 s5 n5 h5 => ⟨c5, M5, ρ5, xc.trans x5, s5, n3.trans n5, h5⟩
    · exact fun c5 M5 σ5 H5 ρ5 x5 s5 n5 h5 => d1.nx c5 M5 σ5 H5 ρ5 (xc.trans x5) s5 (n3.trans n5) h5
    · exact fun c5 M5 σ5 H5 ρ5 x5 s5 n5 h5 => ⟨c5, M5, ρ5, xc.trans x5, s5, n3.trans n5, h5⟩
  · rintro σ2 H2 ⟨c', M', ρ', x, s', n', h⟩
    rw [List.drop_eq_nil_of_le (Nat.le_refl _)] at h
    exact d1.nx c' M' σ2 H2 ρ' x s' n' h
def whW (vt : WT) (ws : WS) : Nat → List SV → (Out → Prop) → Prop
  | 0, _, _ => False
  | n + 1, ρ, post => vt ρ (erO post fun d => if d = true then ws ρ (fun o => match o with
      | .nx ρ2 => whW vt ws n ρ2 post
      | .ct ρ2 => whW vt ws n ρ2 post
      | .bk ρ2 => post (.nx ρ2)
      | .rt r => post (.rt r)
      | .er cn fs => post (.er cn fs)) else post (.nx ρ))
def sWhile (vt : WT) (ws : WS) : WS := fun ρ post => ∃ n, whW vt ws n ρ post
theorem es_while (ht : EvT K T E tt vt) (hb : EvS K T E ts ws) : EvS K T E (tWhile tt ts) (sWhile vt ws) := by
  rintro c M σ H ρ post D rfl rfl s ⟨n, hw⟩ d
  refine ⟨fun m σ' H' => ∃ c' M' ρ', CEx c c' ∧ StR c' M' σ' H' ρ' ∧ Nxt M H M' H' ∧ whW vt ws m ρ' post, ⟨n, c, M, ρ, .refl c, s, .refl M H, hw⟩, ?_⟩
  rintro m σ2 H2 ⟨c', M', ρ', xc, s', n', h⟩
  cases m with
  | zero => exact h.elim
  | succ m =>
    unfold whW at h
    refine ht c' M' σ2 H2 ρ' _ _ xc.K xc.T s' h (fun H3 q t3 h3 => ?_) (d.er.ex xc)
    dsimp only [erO] at h3
    have s3 := s'.stp t3
    have n3 := n'.trans (s'.nxt t3)
    cases q with
    | false =>
      rw [if_neg Bool.false_ne_true] at h3 ⊢
      exact d.nx c' M' σ2 H3 ρ' xc s3 n3 h3
    | true =>
      rw [if_pos rfl] at h3 ⊢
      refine ⟨fun σ4 H4 => ∃ c' M' ρ', CEx c c' ∧ StR c' M' σ4 H4 ρ' ∧ Nxt M H M' H4 ∧ whW vt ws m ρ' post, fun σ4 H4 z => ⟨m, Nat.lt_succ_self m, z⟩, ?_⟩
      refine hb c' M' σ2 H3 ρ' _ _ xc.K xc.T s3 h3 ⟨?_, ?_, ?_, d.rt.ex xc, d.er.ex xc⟩
      · exact fun c5 M5 σ5 H5 ρ5 x5 s5 n5 h5 => ⟨c5, M5, ρ5, xc.trans x5, s5, n3.trans n5, h5⟩
      · exact fun c5 M5 σ5 H5 ρ5 x5 s5 n5 h5 => d.nx c5 M5 σ5 H5 ρ5 (xc.trans x5) s5 (n3.trans n5) h5
      · exact fun c5 M5 σ5 H5 ρ5 x5 s5 n5 h5 => ⟨c5, M5, ρ5, xc.trans x5, s5, n3.trans n5, h5⟩
/-! ### raise -/
theorem RepF.zip {xs : List V} {ps : List PV} : ∀ {names : List Str} {xs : List V} {ps : List PV}, RepL K M H xs ps → RepF K M H (names.zip xs) (names.zip ps)
  | [], _, _, _ => ⟨rfl, fun i x p h => by simp at h⟩
  | n :: ns, [], [], _ => ⟨rfl, fun i x p h => by simp at h⟩
  | n :: ns, [], p :: ps, h => by cases h.1
  | n :: ns, x :: xs, [], h => by cases h.1
  | n :: ns, x :: xs, p :: ps, h => by
    obtain ⟨e1, e2⟩ := RepF.zip (xs := xs) (ps := ps) (names := ns) h.tail
    refine ⟨by rw [List.zip_cons_cons, List.zip_cons_cons, List.map_cons, List.map_cons, e1], fun i y q h1 h2 => ?_⟩
    rw [List.zip_cons_cons] at h1 h2
    cases i with
    | zero => cases h1; cases h2; exact h.head
    | succ i => exact e2 i y q h1 h2
def sRaise (cn : Str) (names : List Str) (okP : List PV → Prop) (va : WA) : WS := fun ρ post => va ρ (erO post fun ps => ps.length = names.length ∧ ps.length ≤ 1000 ∧ okP ps ∧ post (.er cn (names.zip ps)))
theorem es_raise {cn : Str} {names : List Str} {ok : List V → Prop} {okP : List PV → Prop} (hok : ∀ M H xs ps, RepL K M H xs ps → okP ps → ok xs) (ha : EvA K T E ta va) : EvS K T E (tRaise (He.ga K cn) (sp_err K cn names ok) E ta) (sRaise cn names okP va) := by
  rintro c M σ H ρ post D rfl rfl s hw d
  refine ha c M σ H ρ _ _ rfl rfl s hw (fun H1 xs ps t1 r1 h1 => ?_) d.er
  obtain ⟨hl, hz, hokp, h1⟩ := h1
  have s1 := s.stp t1
  refine ⟨by rw [r1.1]; exact hz, fun a ha => ⟨a, xs, by rw [List.append_nil], r1.1.trans hl, hok _ _ _ _ r1 hokp, upd_same, fun dx hd hne => ⟨rfl, dx, names.zip xs, upd_same, (upd_ne hne).trans upd_same, (upd_ne hne).symm.trans hd, ?_⟩⟩⟩
  have hd' : H1 dx = none := (upd_ne hne).symm.trans hd
  have e : upd (del (upd (upd (upd H1 a (exo a (He.ga c.K cn) none)) dx (exd dx (names.zip xs))) a (exo a (He.ga c.K cn) (some dx))) a) dx (.xd (names.zip xs)) = upd H1 dx (.xd (names.zip xs)) := by
    funext b
    by_cases h1 : b = dx
    · rw [h1, upd_same, upd_same]
    · rw [upd_ne h1, upd_ne h1]
      by_cases h2 : b = a
      · rw [h2, del_same, ha]
      · rw [del_ne h2, upd_ne h2, upd_ne h1, upd_ne h2]
  rw [e]
  have t2 := t1.new (o := .xd (names.zip xs)) s hd'
  have rz := RepF.zip (names := names) (xs := xs) (ps := ps) r1
  refine d.er _ cn _ dx _ (s.stp t2).lv upd_same ((rz.nxt ⟨fun x o _ _ ex => by rw [upd_ne (ne_of_none ex hd')]; exact ex, fun b hb => .inl hb⟩).weak s.sub) h1
/-! ### self.f = e in an __init__ -/
def putP (f : Str) (v : PV) : List (Str × PV) → List (Str × PV)
  | [] => [(f, v)]
  | (g, x) :: r => if g = f then (g, v) :: r else (g, x) :: putP f v r
theorem RepF.put {f : Str} {x : V} {p : PV} (h : Rep K M H x p) : ∀ {vs : List (Str × V)} {fs : List (Str × PV)}, RepF K M H vs fs → RepF K M H (putF f x vs) (putP f p fs)
  | [], [], _ => ⟨rfl, fun i y q h1 h2 => by
      cases i with
      | zero => cases h1; cases h2; exact h
      | succ i => simp [putF] at h1⟩
  | [], q :: fs, r => by cases r.1
  | v :: vs, [], r => by cases r.1
  | (vn, vv) :: vs, (qn, qq) :: fs, r => by
    obtain ⟨r1, r2⟩ := r
    have hn : vn = qn := by simpa using (List.cons.inj r1).1
    cases hn
    have rt : RepF K M H vs fs := ⟨(List.cons.inj r1).2, fun i y q a b => r2 (i + 1) y q a b⟩
    unfold putF putP
    by_cases hf : vn = f
    · rw [if_pos hf, if_pos hf]
      refine ⟨by rw [List.map_cons, List.map_cons, rt.1], fun i y q h1 h2 => ?_⟩
      cases i with
      | zero => cases h1; cases h2; exact h
      | succ i => exact rt.2 i y q h1 h2
    · rw [if_neg hf, if_neg hf]
      obtain ⟨e1, e2⟩ := RepF.put h rt
      refine ⟨by rw [List.map_cons, List.map_cons, e1], fun i y q h1 h2 => ?_⟩
      cases i with
      | zero => cases h1; cases h2; exact r2 0 _ _ rfl rfl
      | succ i => exact e2 i y q h1 h2
def sFldW (at_ : List (Str × Str)) (i : Nat) (w : WE) (f : Str) : WS := fun ρ post => w ρ (erO post fun p => match ρ[i]? with
  | some (.ob C fs) => (C, f) ∈ at_ ∧ fs.length < 1000 ∧ post (.nx (ρ.set i (.ob C (putP f p fs))))
  | _ => False)
theorem es_fld {at_ : List (Str × Str)} {f : Str} (ka : KAt K at_) (h : EvE K T E te w) : EvS K T E (sFld K (tVar i) te f) (sFldW at_ i w f) := by
  rintro c M σ H ρ post D rfl rfl s hw d
  refine h c M σ H ρ _ _ rfl rfl s hw (fun H1 y p t1 r1 h1 => ?_) d.er
  have s1 := s.stp t1
  dsimp only [erO] at h1
  split at h1
  · rename_i C fs hp
    obtain ⟨hin, hl, h1⟩ := h1
    obtain ⟨o, e1, e2⟩ := s1.get hp
    cases e2 with
    | ob hm hb h0 hh hi =>
      rename_i a dx vs
      obtain ⟨k1, k2⟩ := ka _ hin
      have ex : Ext M H1 (upd H1 a (.ins (He.ga c.K C) dx (putF f y vs))) := fun x o n _ e => by rw [upd_ne (fun z => n (by rw [z]; exact hm))]; exact e
      refine ⟨_, e1, a, _, dx, vs, rfl, hh, k1, k2, by have := congrArg List.length hi.1; simp at this; omega, d.nx c M _ _ _ (.refl c) ?_ ((s.nxt t1).trans ex.nxt) h1⟩
      have i0 := hp
      refine ⟨fun x o n nt e => ?_, fun y hy => ?_, s1.sub, s1.mm, s1.d0, fun q hq => ?_, fun x y e => ⟨(s1.bag x y e).1.mut (hb x y e).1.symm (hb x y e).2.symm, (s1.bag x y e).2⟩, by simp [s1.len], fun j u t e3 e4 => ?_, fun j k b t u q1 q2 q3 q4 q5 q6 => ?_⟩
      · rw [upd_ne (fun z => n (by rw [z]; exact h0))]; exact s1.fr x o n nt e
      · by_cases z : y = a
        · subst z; exact ⟨_, upd_same, NT.ins⟩
        · obtain ⟨o, e, nt⟩ := s1.dom y hy
          exact ⟨o, (upd_ne z).trans e, nt⟩
      · obtain ⟨ps, z1, z2, z3⟩ := s1.tabs q hq
        refine ⟨ps, (upd_ne (fun z => by rw [z, hh] at z1; cases z1)).trans z1, z2, fun pos cv hc => ?_⟩
        obtain ⟨c', z4, z5⟩ := z3 pos cv hc
        exact ⟨c', z4, (upd_ne (fun z => by rw [z, hh] at z5; unfold LamX.CodeO at z5; cases z5)).trans z5⟩
      · by_cases e : i = j
        · subst e
          have hil : i < ρ.length := (List.getElem?_eq_some_iff.mp hp).1
          rw [List.getElem?_set_self hil] at e4
          rw [e1] at e3
          cases e3; cases e4
          exact .ob hm hb h0 upd_same ((RepF.put r1 hi).nxt ex.nxt)
        · rw [List.getElem?_set_ne e] at e4
          cases s1.slots j u t e3 e4 with
          | un => exact .un
          | fz h => exact .fz (h.ext ex)
          | own hm' hb' h0' h hi =>
            rename_i a' vs' ps'
            have na : a' ≠ a := fun z => e (s1.uniq i j a _ _ e1 (z ▸ e3) hp e4 rfl rfl)
            exact .own hm' hb' h0' ((upd_ne na).trans h) (hi.ext ex)
          | bag h => exact .bag h
          | ob hm' hb' h0' h hi =>
            rename_i a' dx C vs' ps'
            have na : a' ≠ a := fun z => e (s1.uniq i j a _ _ e1 (z ▸ e3) hp e4 rfl rfl)
            exact .ob hm' hb' h0' ((upd_ne na).trans h) (hi.nxt ex.nxt)
          | scr h => exact .scr (h.nxt ex.nxt)
          | ref => exact .ref
      · have tr : ∀ (m : Nat) (t : SV), (ρ.set i (.ob C (putP f p fs)))[m]? = some t → t.isOwn = true → ∃ t', ρ[m]? = some t' ∧ t'.isOwn = true := fun m t q1 q2 => by
          by_cases z : i = m
          · subst z; exact ⟨_, hp, rfl⟩
          · rw [List.getElem?_set_ne z] at q1; exact ⟨t, q1, q2⟩
        obtain ⟨t', z1, z2⟩ := tr j t q3 q5
        obtain ⟨u', z3, z4⟩ := tr k u q4 q6
        exact s1.uniq j k b t' u' q1 q2 z1 z3 z2 z4
  · exact h1.elim
/-! ### whole defs -/
def retD (post : Res RV → Prop) : Out → Prop
  | .rt r => post (.ok r)
  | .nx _ => post (.ok (.fz .non))
  | .er cn fs => post (.er cn fs)
  | _ => False
def bodyW (m : Nat) (w : WS) : WD := fun as post => w (as ++ List.replicate (m - as.length) .un) (retD post)
theorem ent_st {c : Cfg} {H : Hp} {vs : List V} {as : List SV} {N : List Str} (e : Ent c H vs as) : StR c c.M0 (L2.start N vs) H (as ++ List.replicate (N.length - as.length) .un) where
  fr := fun x o _ _ h => by rw [← e.h0]; exact h
  dom := e.dom
  sub := fun _ h => h
  mm := fun a h => by obtain ⟨b, hb⟩ := e.m a h; exact (e.bag a b hb).2.1
  d0 := fun a h => by rw [e.h0]; exact e.dom a h
  tabs := e.tabs
  bag := fun a b h => ⟨(e.bag a b h).1, (e.bag a b h).2.1, (e.bag a b h).2.2.1, .inl (e.bag a b h).2.2.2⟩
  len := by unfold L2.start; simp [e.args.len]
  slots := fun i o s h1 h2 => by
    by_cases hi : i < as.length
    · rw [List.getElem?_append_left hi] at h2
      unfold L2.start at h1
      rw [List.getElem?_append_left (by rw [List.length_map, e.args.len]; exact hi), List.getElem?_map] at h1
      cases hv : vs[i]? with
      | none => rw [hv] at h1; cases h1
      | some v => rw [hv] at h1; cases h1; exact (e.args.at_ i v s hv h2).1
    · rw [List.getElem?_append_right (by omega)] at h2
      have := List.mem_of_getElem? h2
      rw [List.mem_replicate] at this
      rw [this.2]; exact .un
  uniq := fun j k b t u h1 h2 h3 h4 h5 h6 => by
    have no : ∀ (m : Nat) (t : SV), (as ++ List.replicate (N.length - as.length) SV.un)[m]? = some t → t.isOwn = true → False := fun m t q1 q2 => by
      by_cases hi : m < as.length
      · rw [List.getElem?_append_left hi] at q1
        have := (e.args.at_ m (vs[m]'(by rw [e.args.len]; exact hi)) t (by simp) q1).2
        rw [this] at q2; cases q2
      · rw [List.getElem?_append_right (by omega)] at q1
        have := List.mem_of_getElem? q1
        rw [List.mem_replicate] at this
        rw [this.2] at q2; cases q2
    exact (no j t h3 h5).elim
theorem spP_run {N : List Str} {vs : List V} {Q : VK} (hS : EvS K T E ts ws) (h : SpP K T n (bodyW N.length ws) vs H Q E) : ts { nx := fun _ H' => Q .non H', rt := Q } (L2.start N vs) H := by
  obtain ⟨c, as, post, rfl, rfl, hl, e, hw, rt, er⟩ := h
  refine hS c c.M0 (L2.start N vs) H _ (retD post) _ rfl rfl (ent_st e) hw ⟨?_, fun c' M' σ' H' ρ' x s k h => h.elim, fun c' M' σ' H' ρ' x s k h => h.elim, ?_, er⟩
  · exact fun c' M' σ' H' ρ' x s k h => rt.fz H' _ _ (s.lv.back x) .non h
  · exact ⟨fun H' v p l r h => rt.fz H' v p l r h, fun H' a vs ps l f hx r h => rt.own H' a vs ps l f hx r h⟩
theorem spP_len {N : List Str} {vs : List V} {Q : VK} (h : SpP K T n wd vs H Q E) : vs.length = n := by obtain ⟨c, as, post, _, _, h, _⟩ := h; exact h
/-- an __init__ -/
def bodyN (C : Str) (m : Nat) (w : WS) : WN := fun as post => w (SV.ob C [] :: as ++ List.replicate (m - (as.length + 1)) SV.un) fun o => match o with
  | .nx ρ => match ρ[0]? with
    | some (SV.ob C' fs) => C' = C ∧ post (.ok fs)
    | _ => False
  | .er cn fs => post (.er cn fs)
  | _ => False
theorem spN_run {C : Str} {N : List Str} {vs : List V} {Q : VK} (hS : EvS K T E ts ws) (h : SpN K T C n (bodyN C N.length ws) vs H Q E) : ts { nx := fun _ H' => Q .non H', rt := Q } (L2.start N vs) H := by
  obtain ⟨c, as, post, x, dx, us, rfl, rfl, rfl, hl, h0, tb, dom, hB, hm, hx0, hx, ar, hw, rt, er⟩ := h
  have st : StR c c.M0 (L2.start N (.ref x :: us)) H (SV.ob C [] :: as ++ List.replicate (N.length - (as.length + 1)) SV.un) := by
    refine ⟨fun x o _ _ h => by rw [← h0]; exact h, dom, fun _ h => h, fun a h => by rw [hm] at h; rw [List.mem_singleton.mp h]; exact hx0, fun a h => by rw [h0]; exact dom a h, tb, fun a b e => (by rw [hB] at e; cases e), by unfold L2.start; simp [ar.len], fun i o s h1 h2 => ?_, fun j k b t u h1 h2 h3 h4 h5 h6 => ?_⟩
    · cases i with
      | zero =>
        cases h1; cases h2
        exact .ob hx0 (fun a b e => by rw [hB] at e; cases e) (by rw [hm]; exact List.mem_singleton.mpr rfl) hx ⟨rfl, fun i y q h => by simp at h⟩
      | succ i =>
        have h2 : (as ++ List.replicate (N.length - (as.length + 1)) SV.un)[i]? = some s := h2
        have h1 : (us.map some ++ List.replicate (N.length - (us.length + 1)) none)[i]? = some o := h1
        by_cases hi : i < as.length
        · rw [List.getElem?_append_left hi] at h2
          rw [List.getElem?_append_left (by rw [List.length_map, ar.len]; exact hi), List.getElem?_map] at h1
          cases hv : us[i]? with
          | none => rw [hv] at h1; cases h1
          | some v => rw [hv] at h1; cases h1; exact (ar.at_ i v s hv h2).1
        · rw [List.getElem?_append_right (by omega)] at h2
          have := List.mem_of_getElem? h2
          rw [List.mem_replicate] at this
          rw [this.2]; exact .un
    · have no : ∀ (m : Nat) (t : SV), (SV.ob C [] :: as ++ List.replicate (N.length - (as.length + 1)) SV.un : List SV)[m]? = some t → t.isOwn = true → m = 0 := fun m t q1 q2 => by
        cases m with
        | zero => rfl
        | succ m =>
          have q1 : (as ++ List.replicate (N.length - (as.length + 1)) SV.un)[m]? = some t := q1
          by_cases hi : m < as.length
          · rw [List.getElem?_append_left hi] at q1
            have := (ar.at_ m (us[m]'(by rw [ar.len]; exact hi)) t (by simp) q1).2
            rw [this] at q2; cases q2
          · rw [List.getElem?_append_right (by omega)] at q1
            have := List.mem_of_getElem? q1
            rw [List.mem_replicate] at this
            rw [this.2] at q2; cases q2
      rw [no j t h3 h5, no k u h4 h6]
  refine hS c c.M0 _ H _ _ _ rfl rfl st hw ⟨?_, fun c' M' σ' H' ρ' x s k h => h.elim, fun c' M' σ' H' ρ' x s k h => h.elim, ⟨fun _ _ _ _ _ h => h.elim, fun _ _ _ _ _ _ _ _ h => h.elim⟩, er⟩
  intro c' M' σ' H' ρ' y s k h
  dsimp only at h
  split at h
  · rename_i C' fs hp
    obtain ⟨rfl, h⟩ := h
    obtain ⟨o, e1, e2⟩ := s.get hp
    cases e2 with
    | ob hm' hb h0' hh hi =>
      rw [y.m, hm] at h0'
      have := List.mem_singleton.mp h0'
      subst this
      rw [y.K] at hh hi
      exact rt H' _ _ fs (s.lv.back y) hh (hi.weak fun b hb => s.sub b (by rw [y.M0]; exact hb)) h
  · exact h.elim
theorem spN_len {C : Str} {wn : WN} {vs : List V} {Q : VK} (h : SpN K T C n wn vs H Q E) : vs.length = n + 1 := by obtain ⟨c, as, post, x, dx, us, _, _, rfl, h, _⟩ := h; rw [List.length_cons, h]
end
end My
end

section
set_option Elab.async false
set_option maxRecDepth 100000
set_option maxHeartbeats 4000000
set_option linter.all false
namespace My
open PySem L2
section
variable {c : Cfg} {M : List Addr} {σ : L2.St} {H H' : Hp} {ρ : List SV} {K : PySem.W.Frag} {T : List (Addr × Str)} {E E' : XK} {te tf tg : TE} {w wa wb wc : WE} {tt tu : TT} {vt vu : WT} {ta tb : TA} {va vb : WA} {ca cb : WC} {i j n : Nat} {p : PV} {v : V} {b : Bool} {wd : WD} {ts us : TS} {ws wu : WS} {g : TG} {wg : WG} {ss : List Nat}
/-! ### isinstance, built-in classes -/
def tyP : PV → Option String
  | .non => some "NoneType"
  | .bl _ => some "bool"
  | .int _ => some "int"
  | .str _ => some "str"
  | .lst _ => some "list"
  | .tup _ => some "tuple"
  | .obj _ _ => none
theorem Bor.ty {t : String} (s : StR c M σ H ρ) (h : Bor c M H v p) (e : tyP p = some t) : TyX c.K H v (.type t) := by
  cases p with
  | non => cases h.nonI; cases e; exact .base .non
  | bl b => cases h.blI; cases e; exact .base (.bl _)
  | int i => cases h.intI; cases e; exact .base (.int _)
  | str z => cases h.strI; cases e; exact .base (.str _)
  | lst ps =>
    obtain ⟨a, xs, rfl, h1, _⟩ := h.lstI s
    cases e; exact .base (.lst h1)
  | tup ps =>
    cases h with
    | rep h =>
      cases h with
      | tup hm h hl hi => cases e; exact .base (.tup h)
      | ktup h hl hi =>
        cases e
        rcases h (fun _ => none) with z | ⟨o, its, n, z1, z2, _⟩
        · rcases z with z | ⟨_, z⟩ <;> cases z
        · exact .kTuple z1 z2
  | obj a b => cases e
def tys : List String := ["NoneType", "bool", "int", "str", "list", "tuple"]
def isTy (t u : String) : Bool := t == u || (t == "bool" && u == "int")
theorem kit_ty : ∀ t ∈ tys, ∀ u ∈ tys, PySem.W.kitOne K (.type t) (.type u) = some (isTy t u) := by
  intro t ht u hu
  simp only [tys, List.mem_cons, List.not_mem_nil, or_false] at ht hu
  rcases ht with rfl | rfl | rfl | rfl | rfl | rfl <;> rcases hu with rfl | rfl | rfl | rfl | rfl | rfl <;> rfl
theorem tyP_mem {t : String} (h : tyP p = some t) : t ∈ tys := by
  cases p <;> first | (cases h; done) | (cases h; decide)
def pIsi (u : String) (w : WE) : WE := fun ρ => bindR w (fun a post => match tyP a with
  | some t => post (.ok (.bl (isTy t u)))
  | none => False) ρ
theorem ev_isi {u : String} (hu : u ∈ tys) (h : EvB K T E te w) : EvE K T E (tCB (rIsi K) (tCons te (tCons (tC (.ty u)) tNil))) (pIsi u w) := by
  rintro c M σ H ρ post Q rfl rfl s hw k e
  refine h c M σ H ρ _ _ rfl rfl s hw (fun H1 x p t1 r1 h1 => ?_) (e.imp fun _ _ z => z)
  dsimp only at h1
  split at h1
  · rename_i t ht
    exact x_isi (ClsV.ty u) (r1.ty (s.stp t1) ht) (kit_ty t (tyP_mem ht) u hu) (k H1 _ _ t1 (.bl _) h1)
  · exact h1.elim
/-! ### a lambda whose error is told -/
def SV.hide : SV → SV
  | .own _ => .un
  | .ob _ _ => .un
  | s => s
theorem StR.inner (s : StR c M σ H ρ) : StR (c.sub M H) M σ H (ρ.map SV.hide) where
  fr := fun _ _ _ _ h => h
  dom := s.dom
  sub := fun _ h => h
  mm := fun a h => by obtain ⟨b, e⟩ := sub_m.mp h; exact (s.bag a b e).2.1
  d0 := s.dom
  tabs := s.tabs
  bag := fun a b e => ⟨(s.bag a b e).1, (s.bag a b e).2.1, (s.bag a b e).2.2.1, .inl (sub_m.mpr ⟨b, e⟩)⟩
  len := by rw [List.length_map]; exact s.len
  slots := fun i o q h1 h2 => by
    rw [List.getElem?_map] at h2
    cases hq : ρ[i]? with
    | none => rw [hq] at h2; cases h2
    | some q0 =>
      rw [hq] at h2
      cases h2
      cases s.slots i o q0 h1 hq with
      | un => exact .un
      | fz h => exact .fz h
      | own _ _ _ _ _ => exact .un
      | bag h => exact .bag h
      | ob _ _ _ _ _ => exact .un
      | scr h => exact .scr h
      | ref => exact .ref
  uniq := fun j k b t u h1 h2 h3 h4 h5 h6 => by
    rw [List.getElem?_map] at h3
    cases hq : ρ[j]? with
    | none => rw [hq] at h3; cases h3
    | some q0 => rw [hq] at h3; cases h3; cases q0 <;> cases h5
/-- what is told of an error -/
abbrev ErTab : Type := Str → List (Str × PV) → Option PV
def pSaid (et : ErTab) (w : WE) : WE := fun ρ post => w (ρ.map SV.hide) fun r => match r with
  | .ok p => post (.ok (.lst [.str "told", p]))
  | .er cn fs => ∃ l, et cn fs = some l ∧ post (.ok l)
/-- how the def that tells an error is known -/
def TellX (K : PySem.W.Frag) (cs : List Value) (spX : SpX) (et : ErTab) : Prop := ∀ cn fs l, et cn fs = some l → PySem.W.exmAny K (.ref (He.ga K cn)) cs = some true ∧
  ∀ (M : List Addr) (H : Hp) (a dd : Addr) (vs : List (Str × V)) (Q : VK), (∀ b ∈ M, ∃ o, H b = some o ∧ NT o) → H dd = some (.xd vs) → RepF K M H vs fs → H a = none → (∀ H' x, Same H H' → Rep K M H' x l → Q x H') → spX a (.ref (He.ga K cn)) (some dd) [.ref a] H Q C8.E0
theorem ev_said {cs : List Value} {spX : SpX} {et : ErTab} {t : XK → TE} (tx : TellX K cs spX et) (h : ∀ E, EvE K T E (t E) w) : EvE K T E (LamX.tLam T (TSaid K cs spX) t) (pSaid et w) := by
  rintro c M σ H ρ post Q rfl rfl s hw k e
  refine ⟨s.tabs, fun H1 x1 tb1 => ?_⟩
  have t1 : Stp c H H1 := ⟨fun x o _ nt ex => x1 x o ex nt, tb1, fun a b eb => by
    obtain ⟨cs, i, r, m, n, d6, z1, z2, z3, z4⟩ := (s.bag a b eb).1
    exact ⟨cs, i, r, m, n, d6, x1 _ _ z1 NT.lst, z2, x1 _ _ z3 NT.lst, z4⟩⟩
  have s1 := s.stp t1
  have s2 := s1.inner
  refine ⟨fun cls d H' => ∃ cn fs l dd vs, cls = .ref (He.ga c.K cn) ∧ d = some dd ∧ et cn fs = some l ∧ Stp c H1 H' ∧ H' dd = some (.xd vs) ∧ RepF c.K M H' vs fs ∧ post (.ok l), ?_, ?_⟩
  · rintro cls d H' ⟨cn, fs, l, dd, vs, rfl, rfl, el, t2, hd, rf, hp⟩
    obtain ⟨x2, x3⟩ := tx cn fs l el
    have s3 := s1.stp t2
    refine ⟨x2, fun a ha => x3 M H' a dd vs Q s3.dom hd rf ha fun H2 x sm r => ?_⟩
    exact k H2 x l (t1.trans (t2.trans (Stp.sameR s3 sm))) r hp
  · refine h _ (c.sub M H1) M σ H1 _ _ _ rfl rfl s2 hw (fun H2 x p t2 r h2 => ?_) (fun H' cn fs dd vs l hd rf h2 => ?_)
    · have t3 : Stp c H1 H2 := s1.left (s2.stp t2).lv
      have s3 := s1.stp t3
      refine ⟨szM (by show 2 ≤ 1000000; decide), fun q hq => ?_⟩
      have t4 := (Stp.refl s3).new (o := .lst [.str "told", x]) s3 hq
      have r2 : RepL c.K M H2 [.str "told", x] [.str "told", p] := .cons (.str _) (.cons r .nil)
      have r3 := r2.ext (H' := upd H2 q (.lst [.str "told", x])) (fun x o _ _ ex => by rw [upd_ne (ne_of_none ex hq)]; exact ex)
      exact k _ _ _ (t1.trans (t3.trans t4)) (.lst (s3.notIn (.none hq)) upd_same r3.1 r3.2) h2
    · obtain ⟨l', h3, h4⟩ := h2
      exact ⟨cn, fs, l', dd, vs, rfl, rfl, h3, s1.left l, hd, rf, h4⟩
/-! ### what is drawn -/
def wDraw : WD := fun as post => match as with
  | [.bag, .fz (.int L)] => 0 < L ∧ L < 1073741824 ∧ ∀ d, 0 ≤ d → d < L → post (.ok (.fz (.int d)))
  | _ => False
theorem tabs_sbP {T : List (Addr × Str)} {b c : Addr} {H H' : Hp} (h : LamX.Tabs T H) (g : BagAt b c H) (s : Sb b H H') : LamX.Tabs T H' := by
  obtain ⟨_, _, _, _, _, _, g1, _⟩ := g
  intro p hp
  obtain ⟨ps, h1, h2, h3⟩ := h p hp
  refine ⟨ps, s _ _ (fun e => by rw [e, g1] at h1; cases h1) h1, h2, fun pos cv hc => ?_⟩
  obtain ⟨c', e1, e2⟩ := h3 pos cv hc
  refine ⟨c', e1, s _ _ (fun e => ?_) e2⟩
  rw [e, g1] at e2
  have z : HO.lst _ = HO.ext _ := Option.some.inj e2
  cases z
def sp__law_bag (K : PySem.W.Frag) : Sp := fun vs H Q _ => ∃ (s : Addr) (ns : List Int), vs = [.ref s] ∧ SqL K H s (ns.map V.int) ∧ ns.length ≤ 63 ∧ ∀ H' a c, H a = none → H c = none → Same H H' → BagAt a c H' → Q (.ref a) H'
def sm__law_draw (K : PySem.W.Frag) : Sp := fun vs H Q _ => ∃ a c L, vs = [.ref a, .int L] ∧ BagAt a c H ∧ 0 < L ∧ L < 1073741824 ∧ ∀ H' d, Sb a H H' → BagAt a c H' → 0 ≤ d → d < L → Q (.int d) H'
theorem draw_imp {vs : List V} {Q : VK} {E' : XK} (h : SpP K T 2 wDraw vs H Q E) : sm__law_draw K vs H Q E' := by
  obtain ⟨c, as, post, rfl, rfl, hl, e, hw, rt, er⟩ := h
  unfold wDraw at hw
  split at hw
  · rename_i L
    obtain ⟨L0, L1, hw⟩ := hw
    match vs, hl with
    | [x, y], _ =>
      have a1 := (e.args.at_ 0 x _ rfl rfl).1
      have a2 := (e.args.at_ 1 y _ rfl rfl).1
      cases a2 with
      | fz r =>
        cases r
        have hx : ∃ a b, c.B = some (a, b) ∧ x = .ref a := by
          cases a1 with
          | bag hB => exact ⟨_, _, hB, rfl⟩
        · obtain ⟨a, b, hB, rfl⟩ := hx
          obtain ⟨bg, m1, m2, m3⟩ := e.bag a b hB
          refine ⟨a, b, L, rfl, bg, L0, L1, fun H' d sb bg' d0 d1 => rt.fz H' _ _ ⟨fun x o n nt ex => sb x o (fun z => n (by rw [z]; exact m3)) (e.h0 ▸ ex), tabs_sbP e.tabs bg sb, fun a' b' eb => ?_⟩ (.int _) (hw d d0 d1)⟩
          rw [hB] at eb
          cases eb
          exact bg'
  · exact hw.elim
/-- law: the bag is made first -/
theorem law_bag {N : List Str} {a : Addr} {ns : List Int} {Q : VK} (hN : N.length = n + 2) (hS : EvS K T E0 ts ws) (hs : SqL K H a (ns.map V.int)) (hl : ns.length ≤ 63) (tb : LamX.Tabs T H)
    (hw : ws (.scr ns :: .bag :: List.replicate n .un) (fun o => match o with | .rt (.fz p) => p = .bl true | _ => False)) (q : ∀ H', Q (.bl true) H') :
    tSeq (tAsg (tCall (sp__law_bag K) [] E0 (tCons (tVar 0) tNil)) (gName 1)) ts { nx := fun _ H' => Q .non H', rt := Q } (L2.start N [.ref a]) H := by
  refine s_seq (s_asg (e_call (a_cons ⟨.ref a, rfl, a_nil ⟨a, ns, rfl, hs, hl, fun H1 x y hx hy sm bg => g_name ?_⟩⟩)))
  have e0 : (L2.start N [V.ref a]).set 1 (some (.ref x)) = some (.ref a) :: some (.ref x) :: List.replicate n none := by
    unfold L2.start
    rw [hN]
    rfl
  rw [e0]
  have scr0 := ScrAt.of hs
  have n1 : Nxt [] H [x, y] H1 := ⟨fun z o _ _ e => sm z o e, fun z hz => by
    rcases List.mem_cons.mp hz with q | q
    · exact .inr (q ▸ .none hx)
    · rw [List.mem_singleton.mp q]; exact .inr (.none hy)⟩
  have st : StR ⟨K, T, H, [], [], some (x, y)⟩ [x, y] (some (.ref a) :: some (.ref x) :: List.replicate n none) H1 (.scr ns :: .bag :: List.replicate n .un) := by
    refine ⟨fun z o _ _ e => sm z o e, fun z hz => ?_, fun _ h => (by simp at h), fun _ h => (by simp at h), fun _ h => (by simp at h), tb.ext (fun b u e => sm b u e), fun u v e => ?_, by simp, fun i o s h1 h2 => ?_, fun j k b t u h1 h2 h3 h4 h5 h6 => ?_⟩
    · obtain ⟨cs, i, r, m, n, d6, z1, z2, z3, z4⟩ := bg
      rcases List.mem_cons.mp hz with q | q
      · exact ⟨_, q ▸ z1, NT.lst⟩
      · rw [List.mem_singleton.mp q]; exact ⟨_, z3, NT.lst⟩
    · cases e; exact ⟨bg, by simp, by simp, .inr (.none hx)⟩
    · match i with
      | 0 => cases h1; cases h2; exact .scr (scr0.nxt n1)
      | 1 => cases h1; cases h2; exact .bag rfl
      | i + 2 =>
        have h2 : (List.replicate n SV.un)[i]? = some s := h2
        have := List.mem_of_getElem? h2
        rw [List.mem_replicate] at this
        rw [this.2]; exact .un
    · match j with
      | 0 => cases h3; cases h5
      | 1 => cases h3; cases h5
      | j + 2 =>
        have h3 : (List.replicate n SV.un)[j]? = some t := h3
        have := List.mem_of_getElem? h3
        rw [List.mem_replicate] at this
        rw [this.2] at h5; cases h5
  refine hS _ [x, y] _ H1 _ _ _ rfl rfl st hw ⟨fun c' M' σ' H' ρ' x s k h => h.elim, fun c' M' σ' H' ρ' x s k h => h.elim, fun c' M' σ' H' ρ' x s k h => h.elim, ⟨fun H' v p l r h => ?_, fun H' a vs ps l f hx r h => h.elim⟩, fun _ _ _ _ _ _ _ _ h => h.elim⟩
  have h : p = .bl true := h
  subst h
  cases r
  exact q H'
end
end My
end

section
set_option Elab.async false
set_option maxRecDepth 100000
set_option maxHeartbeats 4000000
set_option linter.all false
/-! calls: every def may raise (its context is L2.CX) -/
namespace My
open PySem PySem.Spec PySem.Calls PyProof.Rows L2
structure CalZ (P : Program) (w : World) (K : PySem.W.Frag) (mg : Str → Option Value) (base : Heap) (k : Nat) (x : Str) (ps : List Str) (dvs : List V) (sp : Sp) : Prop where
  ex : ∃ f fd ds, FnOk P w K mg base (L2.CX P w) k f fd ps sp ∧ mg x = some (.ref f) ∧ PySem.W.keepIn K (.ref f) = true ∧ Binds K fd ps ds ∧ Vals dvs ds
structure CalZK (P : Program) (w : World) (K : PySem.W.Frag) (mg : Str → Option Value) (base : Heap) (k : Nat) (x : Str) (ps : List Str) (n : Nat) (ks : List Str) (gV : List V → List V → List V) (sp : Sp) : Prop where
  ex : ∃ f fd g, FnOk P w K mg base (L2.CX P w) k f fd ps sp ∧ mg x = some (.ref f) ∧ PySem.W.keepIn K (.ref f) = true ∧ KBn K fd ps n ks g gV
structure CalZM (P : Program) (w : World) (K : PySem.W.Frag) (mg : Str → Option Value) (base : Heap) (k : Nat) (C : Addr) (m : Str) (ps : List Str) (dvs : List V) (sp : Sp) : Prop where
  ex : ∃ f fd ds, Cls K C ∧ Meth K C m f ∧ FnOk P w K mg base (L2.CX P w) k f fd ps sp ∧ Binds K fd ps ds ∧ Vals dvs ds
structure CalZS (P : Program) (w : World) (K : PySem.W.Frag) (mg : Str → Option Value) (base : Heap) (k : Nat) (C : Addr) (m : Str) (ps : List Str) (sp : Sp) : Prop where
  ex : ∃ mc p g fd, ClX.CRead K C mc ∧ SMet K C mc m p g ∧ FnOk P w K mg base (L2.CX P w) k g fd ps sp ∧ Binds K fd ps []
structure CalZI (P : Program) (w : World) (K : PySem.W.Frag) (mg : Str → Option Value) (base : Heap) (k : Nat) (x : Str) (C : Addr) (ps : List Str) (sp : Sp) : Prop where
  ex : ∃ f fd, Mk K C f ∧ FnOk P w K mg base (L2.CX P w) k f fd ps sp ∧ mg x = some (.ref C) ∧ Binds K fd ps []
structure CalZL (P : Program) (w : World) (K : PySem.W.Frag) (mg : Str → Option Value) (base : Heap) (k : Nat) (C : Addr) (sp : Sp) : Prop where
  ex : ∃ f fd ps, LenOwn K C f ∧ FnOk P w K mg base (L2.CX P w) k f fd ps sp ∧ Binds K fd ps []
section
variable {P : Program} {w : World} {K : PySem.W.Frag} {mg : Str → Option Value} {base : Heap} {j k n : Nat} {x m : Str} {C : Addr} {ps ks : List Str} {dvs : List V} {sp : Sp} {gV : List V → List V → List V}
theorem CalZ.mono (c : CalZ P w K mg base j x ps dvs sp) (h : j ≤ k) : CalZ P w K mg base k x ps dvs sp := let ⟨f, fd, ds, F, r⟩ := c.ex; ⟨f, fd, ds, F.mono h, r⟩
theorem CalZK.mono (c : CalZK P w K mg base j x ps n ks gV sp) (h : j ≤ k) : CalZK P w K mg base k x ps n ks gV sp := let ⟨f, fd, g, F, r⟩ := c.ex; ⟨f, fd, g, F.mono h, r⟩
theorem CalZM.mono (c : CalZM P w K mg base j C m ps dvs sp) (h : j ≤ k) : CalZM P w K mg base k C m ps dvs sp := let ⟨f, fd, ds, a, b, F, r⟩ := c.ex; ⟨f, fd, ds, a, b, F.mono h, r⟩
theorem CalZS.mono (c : CalZS P w K mg base j C m ps sp) (h : j ≤ k) : CalZS P w K mg base k C m ps sp := let ⟨mc, p, g, fd, a, b, F, r⟩ := c.ex; ⟨mc, p, g, fd, a, b, F.mono h, r⟩
theorem CalZI.mono (c : CalZI P w K mg base j x C ps sp) (h : j ≤ k) : CalZI P w K mg base k x C ps sp := let ⟨f, fd, a, F, r⟩ := c.ex; ⟨f, fd, a, F.mono h, r⟩
theorem CalZL.mono (c : CalZL P w K mg base j C sp) (h : j ≤ k) : CalZL P w K mg base k C sp := let ⟨f, fd, ps, a, F, r⟩ := c.ex; ⟨f, fd, ps, a, F.mono h, r⟩
end
section
variable {X : Cx} {k n : Nat} {x m : Str} {C : Addr} {ps ks : List Str} {dvs : List V} {sp : Sp} {gV : List V → List V → List V} {E : XK} {p pos apos rpos : Pos} {o e : Expr} {es : List Expr} {ta : TE} {t tk : TA} {kws : List Keyword}
theorem pe_callZ (c : CalZ X.prog X.w X.K X.mg X.base k x ps dvs sp) (hx : Passes (L2.CX X.prog X.w) X E) (hr : Room k X.A) (hg : Gl X x) (ha : PA X (e :: es) t) (hdb : (x == ("__debug__" : Str)) = false := by decide)
    (he : starEach (e :: es) X.env = (false, eval e X.env) :: starEach es X.env := by rfl) (hpl : (backTo pos (starEach es X.env)).any (·.1) = false := by rfl) : PE X (.Call (.Name x p) (e :: es) [] pos) (tCall sp dvs E t) := by
  obtain ⟨f, fd, ds, F, hm, hk, hb, hd⟩ := c.ex
  exact pe_call F hr hg hm hk hb hd hx ha hdb he hpl
theorem pe_callZ0 (c : CalZ X.prog X.w X.K X.mg X.base k x ps dvs sp) (hx : Passes (L2.CX X.prog X.w) X E) (hr : Room k X.A) (hg : Gl X x) (hdb : (x == ("__debug__" : Str)) = false := by decide) : PE X (.Call (.Name x p) [] [] pos) (tCall sp dvs E tNil) := by
  obtain ⟨f, fd, ds, F, hm, hk, hb, hd⟩ := c.ex
  exact pe_call0 F hr hg hm hk hb hd hx hdb
theorem pe_callZK (c : CalZK X.prog X.w X.K X.mg X.base k x ps n ks gV sp) (hx : Passes (L2.CX X.prog X.w) X E) (hr : Room k X.A) (hg : Gl X x) (ha : PA X (e :: es) t) (hkw : PK X kws tk) (hall : (backToKw pos (keywordEach kws X.env)).all (·.1.isSome) = true := by rfl)
    (hks : (backToKw pos (keywordEach kws X.env)).filterMap (·.1) = ks := by rfl) (hdb : (x == ("__debug__" : Str)) = false := by decide) (he : starEach (e :: es) X.env = (false, eval e X.env) :: starEach es X.env := by rfl)
    (hpl : ((backTo pos (starEach (e :: es) X.env)).any (·.1) || (backToKw pos (keywordEach kws X.env)).any (·.1.isNone)) = false := by rfl) : PE X (.Call (.Name x p) (e :: es) kws pos) (tCallN n ks.length sp gV E t tk) := by
  obtain ⟨f, fd, g, F, hm, hk, hb⟩ := c.ex
  exact pe_callN F hr hg hm hk hb hx ha hkw hall hks hdb he hpl
/-- f(k = v, ..) -/
theorem pe_callZK0 (c : CalZK X.prog X.w X.K X.mg X.base k x ps 0 ks gV sp) (hx : Passes (L2.CX X.prog X.w) X E) (hr : Room k X.A) (hg : Gl X x) (hkw : PK X kws tk) (hall : (backToKw pos (keywordEach kws X.env)).all (·.1.isSome) = true := by rfl)
    (hks : (backToKw pos (keywordEach kws X.env)).filterMap (·.1) = ks := by rfl) (hdb : (x == ("__debug__" : Str)) = false := by decide)
    (hpl : ((backTo pos (starEach [] X.env)).any (·.1) || (backToKw pos (keywordEach kws X.env)).any (·.1.isNone)) = false := by rfl) : PE X (.Call (.Name x p) [] kws pos) (tCallN 0 ks.length sp gV E tNil tk) := by
  obtain ⟨f, fd, g, F, hm, hk, hb⟩ := c.ex
  refine ⟨fun pins s σ H Q I h => ?_⟩
  refine wpAny_Call_Name_kw (ld_glob I hg hm ?_ hdb)
  refine PySem.W.callWith_KW0 (h₀ := X.base) I.ok.mod.kin hk hall (thn (hkw.run pos pins s σ H _ I h) fun ws s2 ⟨zs, H2, I2, rz, l1, l2, q2⟩ => ⟨I2.kIn, ?_⟩) hpl
  rw [hks]
  exact run_fnN (us := []) (vs := []) F hr hb hx I2 .nil rz l1 l2 q2
theorem pe_methZ {pl : Sem Bool} (c : CalZM X.prog X.w X.K X.mg X.base k C m ps dvs sp) (hx : Passes (L2.CX X.prog X.w) X E) (hr : Room k X.A) (ho : PE X o ta) (ha : PA X (e :: es) t)
    (hst : starEach (e :: es) X.env = (false, eval e X.env) :: starEach es X.env := by rfl) (hpl : (backTo pos (starEach es X.env)).any (·.1) = false := by rfl)
    (ht : eval (.Call (.Attribute o m apos) (e :: es) [] pos) X.env = (do
      let ov ← eval o X.env
      standAt apos.atName
      let (f, first) ← holding [ov] (getMethod ov m pl)
      callWith pos f first (backTo pos (starEach (e :: es) X.env)) (backToKw pos (keywordEach [] X.env))) := by rfl) :
    PE X (.Call (.Attribute o m apos) (e :: es) [] pos) (tMeth C m sp dvs E ta t) := by
  obtain ⟨f, fd, ds, a, b, F, hb, hd⟩ := c.ex
  exact pe_meth ho a b F hr hb hd hx ha hst hpl ht
theorem pe_methZ0 {pl : Sem Bool} (c : CalZM X.prog X.w X.K X.mg X.base k C m ps dvs sp) (hx : Passes (L2.CX X.prog X.w) X E) (hr : Room k X.A) (ho : PE X o ta)
    (ht : eval (.Call (.Attribute o m apos) [] [] pos) X.env = (do
      let ov ← eval o X.env
      standAt apos.atName
      let (f, first) ← holding [ov] (getMethod ov m pl)
      callWith pos f first (backTo pos (starEach [] X.env)) (backToKw pos (keywordEach [] X.env))) := by rfl) :
    PE X (.Call (.Attribute o m apos) [] [] pos) (tMeth C m sp dvs E ta tNil) := by
  obtain ⟨f, fd, ds, a, b, F, hb, hd⟩ := c.ex
  exact pe_meth0 ho a b F hr hb hd hx ht
theorem pe_smethZ {pl : Sem Bool} (c : CalZS X.prog X.w X.K X.mg X.base k C m ps sp) (hx : Passes (L2.CX X.prog X.w) X E) (hr : Room k X.A) (ho : PE X o ta) (ha : PA X (e :: es) t)
    (hst : starEach (e :: es) X.env = (false, eval e X.env) :: starEach es X.env := by rfl) (hpl : (backTo pos (starEach es X.env)).any (·.1) = false := by rfl)
    (ht : eval (.Call (.Attribute o m apos) (e :: es) [] pos) X.env = (do
      let ov ← eval o X.env
      standAt apos.atName
      let (fn, first) ← holding [ov] (getMethod ov m pl)
      callWith pos fn first (backTo pos (starEach (e :: es) X.env)) (backToKw pos (keywordEach [] X.env))) := by rfl) :
    PE X (.Call (.Attribute o m apos) (e :: es) [] pos) (tSMeth C sp E ta t) := by
  obtain ⟨mc, q, g, fd, a, b, F, d⟩ := c.ex
  exact pe_smeth ho a b F hr d hx ha hst hpl ht
theorem pe_makeZ (c : CalZI X.prog X.w X.K X.mg X.base k x C ps sp) (hx : Passes (L2.CX X.prog X.w) X E) (hr : Room (k + 1) X.A) (hg : Gl X x) (ha : PA X (e :: es) t) (hdb : (x == ("__debug__" : Str)) = false := by decide)
    (he : starEach (e :: es) X.env = (false, eval e X.env) :: starEach es X.env := by rfl) (hpl : (backTo pos (starEach es X.env)).any (·.1) = false := by rfl) : PE X (.Call (.Name x p) (e :: es) [] pos) (tMake C sp [] E t) := by
  obtain ⟨f, fd, M, F, hm, hb⟩ := c.ex
  exact pe_make M F hr hg hm hb .nil hx ha hdb he hpl
theorem call_lenZ {f : Addr} {fd : FuncData} (lo : LenOwn X.K C f) (F : FnOk X.prog X.w X.K X.mg X.base (L2.CX X.prog X.w) k f fd ps sp) (hr : Room (k + 1) X.A) (hb : Binds X.K fd ps []) : CallR X (.builtin "len") (rLenOwn C sp) := by
  intro pins s σ H xs us Q I r h
  obtain ⟨a, dx, fs, rfl, ea, q⟩ := h
  obtain ⟨u, rfl, rx⟩ := vals1 r
  obtain rfl : u = Value.ref a := rx
  obtain ⟨mA, O, rr, _, _, _⟩ := ins_get I.hok ea
  obtain ⟨od, J, hl⟩ := O.look
  have r1 : Vals [V.ref a] [Value.ref a] := .cons rfl .nil
  have body : wpAny (model X.prog X.w) X.A.in1 (call (.ref f) [.ref a]) (EP X pins σ fun y H' => ∃ n : Int, y = .int n ∧ 0 ≤ n ∧ n < 2 ^ 63 ∧ Q (.int n) H') X.xe s := by
    have hlen : ([Value.ref a] ++ []).length = ps.length := by
      have := F.len _ _ _ _ q
      exact this
    refine wpAny_call (codeAny_mono (F.run X.A.in1 X.stack s H ⟨[.ref a], []⟩ ([.ref a] ++ []) [V.ref a] _ L2.E0 hr.in1 I.env0.in1 (hb s [.ref a] I.kIn hlen) r1 q) fun fl s' hq => ?_)
    cases fl with
    | error e => exact pass_none pins σ H s e s' I hq
    | ok fl =>
      cases fl with
      | ret u => exact I.after hq
      | next => exact False.elim hq
      | brk => exact False.elim hq
      | cont => exact False.elim hq
  refine PySem.Calls.call_function_entry PySem.kind_len PySem.plain_len PySem.entry_len (PySem.args_len1 _) ?_
  unfold Builtin.«len»
  refine wpAny_bind (m := oneArg "len" _) (wpAny_pure ?_)
  refine wpAny_bind (m := callSpecial? (.ref a) (Str.ofString "__len__")) (PySem.W.special_fn I.kIn J lo.at_ (beq_iff_eq.mp lo.fn) (wpAny_mono body (fun v s1 hv => ?_) fun _ _ y => y))
  obtain ⟨y, H1, I1, ry, n, rfl, h0, h1, q1⟩ := hv
  obtain ⟨t, rfl⟩ := ry
  refine wpAny_bind (wpAny_holding (wpAny_pure (wpAny_bind (wpAny_letGo ?_))))
  show wpAny _ _ (if n < 0 then _ else _) _ _ _
  rw [if_neg (Int.not_lt.mpr h0)]
  show wpAny _ _ (if n ≥ 2 ^ 63 then _ else _) _ _ _
  rw [if_neg (Int.not_le.mpr h1)]
  exact wpAny_bind (wpAny_mkInt (wpAny_pure ⟨_, rfl, .int n, H1, I1.tok _, ⟨_, rfl⟩, q1⟩))
theorem pe_lenZ (c : CalZL X.prog X.w X.K X.mg X.base k C sp) (hr : Room (k + 1) X.A) (hg : Gl X "len") (hm : X.mg "len" = none) (ha : PA X [e] t)
    (he : starEach [e] X.env = (false, eval e X.env) :: starEach [] X.env := by rfl) : PE X (.Call (.Name "len" p) [e] [] pos) (tCB (rLenOwn C sp) t) := by
  obtain ⟨f, fd, ps, a, F, b⟩ := c.ex
  exact pe_callB (call_lenZ a F hr b) hg hm boot_len ha (he := he)
end
/-! ### how the bundles come -/
section
variable {P : Program} {w : World} {K : PySem.W.Frag} {mg : Str → Option Value} {base : Heap} {k n j : Nat} {x qual : Str} {params : Arguments} {body : List Stmt} {scope : Scope} {dvs : List V} {kws : List (Str × V)} {f : Addr} {fd : FuncData} {ps ks : List Str} {sp : Sp} {ix : List KI}
theorem calZ_of (F : FunD K x qual params body scope dvs kws f fd) (ok : FnOk P w K mg base (L2.CX P w) k f fd ps sp) (hm : mg x = some (.ref f)) (hd : dvs ≠ []) (hn : n + (dvs.length - j) = ps.length)
    (h : ∀ (T : Addr) (kV doc pm : Value) (an : Option Addr) (cdv ct : Value) (us its : List Value), us.length = n → its.length = dvs.length →
      ∃ k, bindArgs (PySem.W.fnOf x qual params body scope (.ref T) kV doc pm an cdv ct) ⟨us, []⟩ = seqItems? (.ref T) >>= k ∧ k (some its.toArray) = pure (ps.zip (us ++ its.drop j))) : CalZ P w K mg base k x ps (dvs.drop j) sp := by
  obtain ⟨ds, hv, hb⟩ := F.binds1 (ps := ps) n j hd hn h
  exact ⟨f, fd, ds, ok, hm, F.kp, hb, hv⟩
theorem calZ_all (F : FunD K x qual params body scope [] kws f fd) (ok : FnOk P w K mg base (L2.CX P w) k f fd ps sp) (hm : mg x = some (.ref f))
    (h : ∀ (kV doc pm : Value) (an : Option Addr) (cdv ct : Value) (us : List Value), us.length = ps.length → bindArgs (PySem.W.fnOf x qual params body scope .none kV doc pm an cdv ct) ⟨us, []⟩ = pure (ps.zip us)) : CalZ P w K mg base k x ps [] sp :=
  ⟨f, fd, [], ok, hm, F.kp, F.bindsN h, .nil⟩
theorem valsGetD {xs : List V} {us : List Value} (r : Vals xs us) (i : Nat) : RelV (xs.getD i .non) (us.getD i .none) := by
  rw [List.getD_eq_getElem?_getD, List.getD_eq_getElem?_getD]
  cases h : xs[i]? with
  | none => rw [Vals.none_of r h]; rfl
  | some v =>
    obtain ⟨u, h1, h2⟩ := r.get h
    rw [h1]; exact h2
theorem valsPick {ds vs : List V} {its us : List Value} (a : Vals ds its) (b : Vals vs us) : ∀ ix : List KI, Vals (ix.map fun k => k.atG .non ds vs) (ix.map fun k => k.atG .none its us)
  | [] => .nil
  | .arg i :: ix => .cons (valsGetD b i) (valsPick a b ix)
  | .dfl i :: ix => .cons (valsGetD a i) (valsPick a b ix)
/-- f(.., k = v): without defaults, with -/
theorem calZK_0 (F : FunD K x qual params body scope [] kws f fd) (ok : FnOk P w K mg base (L2.CX P w) k f fd ps sp) (hm : mg x = some (.ref f)) (n : Nat) (ks : List Str) (ix : List KI)
    (h : ∀ (kV doc pm : Value) (an : Option Addr) (cdv ct : Value) (us ws : List Value), us.length = n → ws.length = ks.length → bindArgs (PySem.W.fnOf x qual params body scope .none kV doc pm an cdv ct) ⟨us, ks.zip ws⟩ = pure (ps.zip (ix.map fun k => k.atG .none [] (us ++ ws)))) :
    CalZK P w K mg base k x ps n ks (kV [] ix) sp := by
  obtain ⟨oc, od, dV, kV', doc, pm, an, cdv, ct, osl, rfl, lk, hcd, hD, hK⟩ := F.ex
  refine ⟨f, _, (fun (us ws : List Value) => ix.map fun k => k.atG Value.none ([] : List Value) (us ++ ws)), ok, hm, F.kp, ⟨fun s us ws X l1 l2 => ?_, fun r1 r2 => by unfold kV; exact valsPick .nil (r1.append r2) ix⟩⟩
  rcases hD with ⟨_, rfl⟩ | ⟨e, _⟩
  · exact .of_eq (h kV' doc pm an cdv ct us ws l1 l2)
  · exact absurd rfl e
theorem calZK_1 (F : FunD K x qual params body scope dvs kws f fd) (ok : FnOk P w K mg base (L2.CX P w) k f fd ps sp) (hm : mg x = some (.ref f)) (hd : dvs ≠ []) (n : Nat) (ks : List Str) (ix : List KI)
    (h : ∀ (T : Addr) (kV doc pm : Value) (an : Option Addr) (cdv ct : Value) (us its ws : List Value), us.length = n → its.length = dvs.length → ws.length = ks.length →
      ∃ k, bindArgs (PySem.W.fnOf x qual params body scope (.ref T) kV doc pm an cdv ct) ⟨us, ks.zip ws⟩ = seqItems? (.ref T) >>= k ∧ k (some its.toArray) = pure (ps.zip (ix.map fun k => k.atG .none its (us ++ ws)))) :
    CalZK P w K mg base k x ps n ks (kV dvs ix) sp := by
  obtain ⟨oc, od, dV, kV', doc, pm, an, cdv, ct, osl, rfl, lk, hcd, hD, hK⟩ := F.ex
  rcases hD with ⟨e, _⟩ | ⟨_, T, o, its, m, rfl, lT, oT, rT⟩
  · exact absurd e hd
  · refine ⟨f, _, (fun (us ws : List Value) => ix.map fun k => k.atG Value.none its (us ++ ws)), ok, hm, F.kp, ⟨fun s us ws X l1 l2 => ?_, fun r1 r2 => by unfold kV; exact valsPick rT (r1.append r2) ix⟩⟩
    obtain ⟨kk, e1, e2⟩ := h T kV' doc pm an cdv ct us its ws l1 rT.length.symm l2
    refine BindsTo.of_looks fun M => ?_
    rw [e1]
    exact looks_items X lT oT (PySem.W.Looks.of_pure e2)
end
end My
end

section
set_option Elab.async false
set_option maxRecDepth 100000
set_option maxHeartbeats 4000000
set_option linter.all false
/-! steps of meanings -/
namespace My
open PySem L2
def sqK (b : WS) (post : Out → Prop) : Out → Prop := fun o => match o with
  | .nx ρ' => b ρ' post
  | o => post o
def bk {α β : Type} (k : α → (Res β → Prop) → Prop) (post : Res β → Prop) : Res α → Prop := fun r => match r with
  | .ok a => k a post
  | .er cn fs => post (.er cn fs)
def loopK (wg : WG) (ws : WS) (xs : List PV) (post : Out → Prop) : Out → Prop := fun o => match o with
  | .nx ρ2 => forW wg ws xs ρ2 post
  | .ct ρ2 => forW wg ws xs ρ2 post
  | .bk ρ2 => post (.nx ρ2)
  | .rt r => post (.rt r)
  | .er cn fs => post (.er cn fs)
def whK (vt : WT) (ws : WS) (n : Nat) (post : Out → Prop) : Out → Prop := fun o => match o with
  | .nx ρ2 => whW vt ws n ρ2 post
  | .ct ρ2 => whW vt ws n ρ2 post
  | .bk ρ2 => post (.nx ρ2)
  | .rt r => post (.rt r)
  | .er cn fs => post (.er cn fs)
def testK : PV → (Res Bool → Prop) → Prop := fun a post => match a with
  | .bl b => post (.ok b)
  | _ => False
def truK : PV → (Res Bool → Prop) → Prop := fun a post => match truP a with
  | some d => post (.ok d)
  | none => False
def partK : PV → (Res (Option Int) → Prop) → Prop := fun a post => match a with
  | .int i => post (.ok (some i))
  | _ => False
section
variable {α β : Type} {ρ ρ' : List SV} {post : Out → Prop} {pE : Res PV → Prop} {pB : Res Bool → Prop} {pL : Res (List PV) → Prop} {pS : Res (List SV) → Prop} {pV : Res RV → Prop} {pI : Res (Option Int) → Prop} {pQ : Res β → Prop} {a b : WS} {w wa wb : WE} {va vb : WA} {vt vu : WT} {ca cb : WC} {wg : WG} {wgs : WGs} {i j n : Nat} {p q : PV} {ps qs : List PV} {r : RV} {cn : Str} {fs : List (Str × PV)} {x y : α} {k : α → (Res β → Prop) → Prop} {f : α → Prop} {bw : List SV → (Res α → Prop) → Prop} {wd : WD} {ds : List PV}
/-! continuations -/
theorem sqK_nx (h : b ρ' post) : sqK b post (.nx ρ') := h
theorem sqK_rt (h : post (.rt r)) : sqK b post (.rt r) := h
theorem sqK_bk (h : post (.bk ρ')) : sqK b post (.bk ρ') := h
theorem sqK_ct (h : post (.ct ρ')) : sqK b post (.ct ρ') := h
theorem sqK_er (h : post (.er cn fs)) : sqK b post (.er cn fs) := h
theorem bk_ok (h : k x pQ) : bk k pQ (.ok x) := h
theorem bk_er (h : pQ (.er cn fs)) : bk k pQ (.er cn fs) := h
theorem erO_ok (h : f x) : erO post f (.ok x) := h
theorem erO_er (h : post (.er cn fs)) : erO post f (.er cn fs) := h
theorem testK_ok {d : Bool} (h : pB (.ok d)) : testK (.bl d) pB := h
theorem partK_ok {d : Int} (h : pI (.ok (some d))) : partK (.int d) pI := h
theorem frz_fz (h : pE (.ok p)) : frzR pE (.ok (.fz p)) := h
theorem frz_own (h : pE (.ok (.lst ps))) : frzR pE (.ok (.own ps)) := h
theorem frz_er (h : pE (.er cn fs)) : frzR pE (.er cn fs) := h
theorem own_own (h : pL (.ok ps)) : ownR pL (.ok (.own ps)) := h
theorem own_er (h : pL (.er cn fs)) : ownR pL (.er cn fs) := h
theorem noR_ok {pA : Res α → Prop} (h : pA (.ok x)) : noR pA (.ok x) := h
theorem retD_rt (h : pV (.ok r)) : retD pV (.rt r) := h
theorem retD_nx (h : pV (.ok (.fz .non))) : retD pV (.nx ρ') := h
theorem retD_er (h : pV (.er cn fs)) : retD pV (.er cn fs) := h
theorem loopK_nx {wg : WG} {ws : WS} {xs : List PV} (h : forW wg ws xs ρ' post) : loopK wg ws xs post (.nx ρ') := h
theorem loopK_ct {wg : WG} {ws : WS} {xs : List PV} (h : forW wg ws xs ρ' post) : loopK wg ws xs post (.ct ρ') := h
theorem loopK_bk {wg : WG} {ws : WS} {xs : List PV} (h : post (.nx ρ')) : loopK wg ws xs post (.bk ρ') := h
theorem loopK_rt {wg : WG} {ws : WS} {xs : List PV} (h : post (.rt r)) : loopK wg ws xs post (.rt r) := h
theorem loopK_er {wg : WG} {ws : WS} {xs : List PV} (h : post (.er cn fs)) : loopK wg ws xs post (.er cn fs) := h
theorem objR_ok {C : Str} (h : pE (.ok (.obj C fs))) : objR C pE (.ok fs) := h
theorem objR_er {C : Str} (h : pE (.er cn fs)) : objR C pE (.er cn fs) := h
theorem lenR_ok {n : Int} (h0 : 0 ≤ n) (h1 : n < 2 ^ 63) (h : pE (.ok (.int n))) : lenR pE (.ok (.fz (.int n))) := ⟨h0, h1, h⟩
/-! statements -/
theorem q_seq (h : a ρ (sqK b post)) : sSeq a b ρ post := h
theorem q_next (h : post (.nx ρ)) : sNext ρ post := h
theorem q_retN (h : post (.rt (.fz .non))) : sRetN ρ post := h
theorem q_break (h : post (.bk ρ)) : sBreak ρ post := h
theorem q_cont (h : post (.ct ρ)) : sCont ρ post := h
theorem q_if (h : vt ρ (erO post fun d => if d = true then a ρ post else b ρ post)) : sIf vt a b ρ post := h
theorem q_ret (h : w ρ (erO post fun p => post (.rt (.fz p)))) : sRet w ρ post := h
theorem q_retO (h : va ρ (erO post fun ps => post (.rt (.own ps)))) : sRetO va ρ post := h
theorem q_drop (h : w ρ (erO post fun _ => post (.nx ρ))) : sDrop w ρ post := h
theorem q_asg (h : w ρ (erO post fun p => wg p ρ (erO post fun ρ' => post (.nx ρ')))) : sAsg w wg ρ post := h
theorem q_asgO (h : va ρ (erO post fun ps => post (.nx (ρ.set i (.own ps))))) : sAsgO va i ρ post := h
theorem q_app (e : ρ[i]? = some (.own ps)) (h : w ρ (erO post fun p => ps.length ≤ 1000000 ∧ post (.nx (ρ.set i (.own (ps ++ [p])))))) : sApp i w ρ post := by unfold sApp; rw [e]; exact h
theorem q_setI (h : w ρ (erO post fun p => match ρ[i]? with
  | some (.own ps) => wb ρ (erO post fun q => match q with
    | .int k => ∃ j, ixN ps.length k = some j ∧ post (.nx (ρ.set i (.own (ps.set j p))))
    | _ => False)
  | _ => False)) : sSetI i w wb ρ post := h
theorem q_retV (e : ρ[i]? = some (.fz p)) (h : post (.rt (.fz p))) : sRetV i ρ post := by unfold sRetV; rw [e]; exact h
theorem q_retVo (e : ρ[i]? = some (.own ps)) (h : post (.rt (.own ps))) : sRetV i ρ post := by unfold sRetV; rw [e]; exact h
theorem q_frz (e : ρ[i]? = some (.own ps)) (h : a (ρ.set i (.fz (.lst ps))) post) : sFreeze i a ρ post := by unfold sFreeze; rw [e]; exact h
theorem q_frz0 (e : ρ[i]? = some (.fz p)) (h : a ρ post) : sFreeze i a ρ post := by unfold sFreeze; rw [e]; exact h
theorem q_par (h : wa ρ (erO post fun a => wb ρ (erO post fun b => post (.nx ((ρ.set i (.fz a)).set j (.fz b)))))) : sPar i j wa wb ρ post := h
theorem q_for (h : va ρ (erO post fun items => forW wg a items ρ post)) : sFor va wg a ρ post := h
theorem q_while (n : Nat) (h : whW vt a n ρ post) : sWhile vt a ρ post := ⟨n, h⟩
theorem q_whS (h : vt ρ (erO post fun d => if d = true then a ρ (whK vt a n post) else post (.nx ρ))) : whW vt a (n + 1) ρ post := h
theorem whK_nx (h : whW vt a n ρ' post) : whK vt a n post (.nx ρ') := h
theorem whK_ct (h : whW vt a n ρ' post) : whK vt a n post (.ct ρ') := h
theorem whK_bk (h : post (.nx ρ')) : whK vt a n post (.bk ρ') := h
theorem whK_rt (h : post (.rt r)) : whK vt a n post (.rt r) := h
theorem whK_er (h : post (.er cn fs)) : whK vt a n post (.er cn fs) := h
theorem q_forN (h : post (.nx ρ)) : forW wg a [] ρ post := h
theorem q_forC (h : wg p ρ (erO post fun ρ1 => a ρ1 (loopK wg a ps post))) : forW wg a (p :: ps) ρ post := h
theorem q_raise {names : List Str} {okP : List PV → Prop} (h : va ρ (erO post fun ps => ps.length = names.length ∧ ps.length ≤ 1000 ∧ okP ps ∧ post (.er cn (names.zip ps)))) : sRaise cn names okP va ρ post := h
theorem q_fldW {at_ : List (Str × Str)} {f : Str} (h : w ρ (erO post fun p => match ρ[i]? with
  | some (.ob C fs) => (C, f) ∈ at_ ∧ fs.length < 1000 ∧ post (.nx (ρ.set i (.ob C (putP f p fs))))
  | _ => False)) : sFldW at_ i w f ρ post := h
/-! targets -/
theorem q_name (h : pS (.ok (ρ.set i (.fz p)))) : gpName i p ρ pS := h
theorem q_gtup (e : ps.length = n) (h : wgs ps ρ pS) : gpTup n wgs (.tup ps) ρ pS := ⟨e, h⟩
theorem q_gunl (e : ps.length = n) (h : wgs ps ρ pS) : gpUnl n wgs (.lst ps) ρ pS := ⟨e, h⟩
def gcK (wgs : WGs) (qs : List PV) (pS : Res (List SV) → Prop) : Res (List SV) → Prop := fun r => match r with
    | .ok ρ' => wgs qs ρ' pS
    | .er cn fs => pS (.er cn fs)
theorem q_gcons (h : wg p ρ (gcK wgs qs pS)) : gpCons wg wgs (p :: qs) ρ pS := h
theorem gcK_ok (h : wgs qs ρ' pS) : gcK wgs qs pS (.ok ρ') := h
theorem q_gnil (h : pS (.ok ρ)) : gpNil [] ρ pS := ⟨rfl, h⟩
/-! expressions -/
theorem q_bind (h : bw ρ (bk k pQ)) : bindR bw k ρ pQ := h
theorem q_var (e : ρ[i]? = some (.fz p)) (h : pE (.ok p)) : pVar i ρ pE := by unfold pVar; rw [e]; exact h
theorem q_varB (e : ρ[i]? = some (.fz p)) (h : pE (.ok p)) : pVarB i ρ pE := by unfold pVarB; rw [e]; exact h
theorem q_varBo (e : ρ[i]? = some (.own ps)) (h : pE (.ok (.lst ps))) : pVarB i ρ pE := by unfold pVarB; rw [e]; exact h
theorem q_c (h : pE (.ok p)) : pC p ρ pE := h
theorem q_op {f : PV → PV → (Res PV → Prop) → Prop} (h : wa ρ (bk (fun a => bindR wb (fun b => f a b) ρ) pE)) : pOp f wa wb ρ pE := h
theorem q_p2 {f : PV → PV → (Res PV → Prop) → Prop} (h : wa ρ (bk (fun a => bindR wb (fun b => f a b) ρ) pE)) : p2 f wa wb ρ pE := h
theorem q_p1 {f : PV → (Res PV → Prop) → Prop} (h : w ρ (bk f pE)) : p1 f w ρ pE := h
theorem q_ixK {f : Str → Option PV} (h : w ρ (bk (fun a => qIxK f a) pE)) : pIxK f w ρ pE := h
theorem q_neg (h : w ρ (bk (fun a post => match a with | .int i => post (.ok (.int (-i))) | _ => False) pE)) : pNeg w ρ pE := h
theorem q_pif (h : vt ρ (bk (fun d post => if d = true then wa ρ post else wb ρ post) pE)) : pIf vt wa wb ρ pE := h
theorem q_test (h : w ρ (bk testK pB)) : pTest w ρ pB := h
theorem q_tand (h : vt ρ (bk (fun d post => if d = true then vu ρ post else post (.ok false)) pB)) : pAnd vt vu ρ pB := h
theorem q_tor (h : vt ρ (bk (fun d post => if d = true then post (.ok true) else vu ρ post) pB)) : pOr vt vu ρ pB := h
theorem q_tnot (h : vt ρ (bk (fun d post => post (.ok (!d))) pB)) : pNot vt ρ pB := h
theorem q_yes (h : pB (.ok true)) : pYes ρ pB := h
theorem q_tru (h : w ρ (bk truK pB)) : pTru w ρ pB := h
theorem truK_bl {d : Bool} (h : pB (.ok d)) : truK (.bl d) pB := h
theorem truK_int {d : Int} (h : pB (.ok (d != 0))) : truK (.int d) pB := h
theorem truK_lst (h : pB (.ok (!ps.isEmpty))) : truK (.lst ps) pB := h
theorem truK_tup (h : pB (.ok (!ps.isEmpty))) : truK (.tup ps) pB := h
theorem truK_str {z : Str} (hz : z.length ≤ 1000000) (h : pB (.ok ((z.length : Int) != 0))) : truK (.str z) pB := by
  have e : truP (.str z) = some ((z.length : Int) != 0) := if_pos hz
  unfold truK; rw [e]; exact h
def andVK (ρ : List SV) (wb : WE) : PV → (Res PV → Prop) → Prop := fun a post => match a with
  | .bl d => if d = true then wb ρ post else post (.ok (.bl false))
  | _ => False
def orVK (ρ : List SV) (wb : WE) : PV → (Res PV → Prop) → Prop := fun a post => match a with
  | .bl d => if d = true then post (.ok (.bl true)) else wb ρ post
  | _ => False
def notVK : PV → (Res PV → Prop) → Prop := fun a post => match a with
  | .bl d => post (.ok (.bl (!d)))
  | _ => False
theorem q_andV (h : wa ρ (bk (andVK ρ wb) pE)) : pAndV wa wb ρ pE := h
theorem q_orV (h : wa ρ (bk (orVK ρ wb) pE)) : pOrV wa wb ρ pE := h
theorem q_notV (h : wa ρ (bk notVK pE)) : pNotV wa ρ pE := h
theorem andVK_ok {d : Bool} (h : if d = true then wb ρ pE else pE (.ok (.bl false))) : andVK ρ wb (.bl d) pE := h
theorem orVK_ok {d : Bool} (h : if d = true then pE (.ok (.bl true)) else wb ρ pE) : orVK ρ wb (.bl d) pE := h
theorem notVK_ok {d : Bool} (h : pE (.ok (.bl (!d)))) : notVK (.bl d) pE := h
theorem q_anil (h : pL (.ok [])) : pNil ρ pL := h
theorem q_acons (h : w ρ (bk (fun a => bindR vb (fun ps post => post (.ok (a :: ps))) ρ) pL)) : pCons w vb ρ pL := h
theorem q_tup (h : va ρ (bk (fun ps post => ps.length ≤ 1000000 ∧ post (.ok (.tup ps))) pE)) : pTup va ρ pE := h
theorem q_lst (h : va ρ (bk (fun ps post => ps.length ≤ 1000000 ∧ post (.ok ps)) pL)) : pLst va ρ pL := h
theorem q_pfrz (h : va ρ (bk (fun ps post => post (.ok (.lst ps))) pE)) : pFrz va ρ pE := h
theorem q_nopart (h : pI (.ok none)) : pNoPart ρ pI := h
theorem q_part (h : w ρ (bk partK pI)) : pPart w ρ pI := h
def slSK (ρ : List SV) (wl wh : WO) : PV → (Res PV → Prop) → Prop := fun a => bindR wl (fun l => bindR wh (fun h post => match a with
  | .str z => z.length ≤ 1000000 ∧ post (.ok (.str (cutS z l h)))
  | _ => False) ρ) ρ
theorem q_slS {wl wh : WO} (h : w ρ (bk (slSK ρ wl wh) pE)) : pSlS w wl wh ρ pE := h
def slSK2 (z : Str) (l : Option Int) : Option Int → (Res PV → Prop) → Prop := fun h post => z.length ≤ 1000000 ∧ post (.ok (.str (cutS z l h)))
theorem slSK_ok {z : Str} {wl wh : WO} (h : wl ρ (bk (fun l => bindR wh (slSK2 z l) ρ) pE)) : slSK ρ wl wh (.str z) pE := h
theorem slSK2_ok {z : Str} {l u : Option Int} (hz : z.length ≤ 1000000) (h : pE (.ok (.str (cutS z l u)))) : slSK2 z l u pE := ⟨hz, h⟩
def slLK (ρ : List SV) (wl wh : WO) : PV → (Res (List PV) → Prop) → Prop := fun a => bindR wl (fun l => bindR wh (fun h post => match a with
  | .lst ps => post (.ok (cutP ps l h))
  | _ => False) ρ) ρ
theorem q_slL {wl wh : WO} (h : w ρ (bk (slLK ρ wl wh) pL)) : pSlL w wl wh ρ pL := h
def slLK2 (ps : List PV) (l : Option Int) : Option Int → (Res (List PV) → Prop) → Prop := fun h post => post (.ok (cutP ps l h))
theorem slLK_ok {wl wh : WO} (h : wl ρ (bk (fun l => bindR wh (slLK2 ps l) ρ) pL)) : slLK ρ wl wh (.lst ps) pL := h
theorem slLK2_ok {l u : Option Int} (h : pL (.ok (cutP ps l u))) : slLK2 ps l u pL := h
def lenK : PV → (Res PV → Prop) → Prop := fun a post => match a with
  | .lst ps | .tup ps => post (.ok (.int (ps.length : Int)))
  | _ => False
theorem q_len (h : w ρ (bk lenK pE)) : pLen w ρ pE := h
theorem lenK_l (h : pE (.ok (.int (ps.length : Int)))) : lenK (.lst ps) pE := h
theorem lenK_t (h : pE (.ok (.int (ps.length : Int)))) : lenK (.tup ps) pE := h
def seqK : PV → (Res (List PV) → Prop) → Prop := fun a post => match a with
  | .lst ps | .tup ps => post (.ok ps)
  | _ => False
theorem q_listO (h : w ρ (bk seqK pL)) : pListO w ρ pL := h
theorem seqK_l (h : pL (.ok ps)) : seqK (.lst ps) pL := h
theorem seqK_t (h : pL (.ok ps)) : seqK (.tup ps) pL := h
def catK : PV → PV → (Res (List PV) → Prop) → Prop := fun a b post => match a, b with
  | .lst ps, .lst qs => ps.length + qs.length ≤ 1000000 ∧ post (.ok (ps ++ qs))
  | _, _ => False
theorem q_cat (h : wa ρ (bk (fun a => bindR wb (fun b => catK a b) ρ) pL)) : pCat wa wb ρ pL := h
theorem catK_ok (hz : ps.length + qs.length ≤ 1000000) (h : pL (.ok (ps ++ qs))) : catK (.lst ps) (.lst qs) pL := ⟨hz, h⟩
def repK : PV → PV → (Res (List PV) → Prop) → Prop := fun a b post => match a, b with
  | .lst ps, .int k => k ≤ 1000000 ∧ -1000000 ≤ k ∧ ps.length * k.toNat ≤ 1000000 ∧ post (.ok (List.replicate k.toNat ps).flatten)
  | _, _ => False
theorem q_rep (h : wa ρ (bk (fun a => bindR wb (fun b => repK a b) ρ) pL)) : pRep wa wb ρ pL := h
theorem repK_ok {k : Int} (h : k ≤ 1000000 ∧ -1000000 ≤ k ∧ ps.length * k.toNat ≤ 1000000 ∧ pL (.ok (List.replicate k.toNat ps).flatten)) : repK (.lst ps) (.int k) pL := h
def joinK (ρ : List SV) (wb : WE) : PV → (Res PV → Prop) → Prop := fun a post => match a with
  | .str z => bindR wb (fun b => qJoin z b) ρ post
  | _ => False
theorem q_join (h : wa ρ (bk (joinK ρ wb) pE)) : pJoin wa wb ρ pE := h
theorem joinK_ok {z : Str} (h : wb ρ (bk (fun b => qJoin z b) pE)) : joinK ρ wb (.str z) pE := h
theorem qJoin_ok {z : Str} {zs : List Str} (e : strL ps = some zs) (hz : (zs.map (·.length)).sum + zs.length * z.length ≤ 16777216) (h : pE (.ok (.str (Txt.join z zs)))) : qJoin z (.lst ps) pE := ⟨zs, e, hz, h⟩
def itLK : PV → (Res (List PV) → Prop) → Prop := fun a post => match a with
  | .lst ps => post (.ok ps)
  | _ => False
def itTK : PV → (Res (List PV) → Prop) → Prop := fun a post => match a with
  | .tup ps => post (.ok ps)
  | _ => False
def itSK : PV → (Res (List PV) → Prop) → Prop := fun a post => match a with
  | .str z => post (.ok (chars z))
  | _ => False
theorem q_itL (h : w ρ (bk itLK pL)) : pItL w ρ pL := h
theorem q_itT (h : w ρ (bk itTK pL)) : pItT w ρ pL := h
theorem q_itS (h : w ρ (bk itSK pL)) : pItS w ρ pL := h
theorem itLK_ok (h : pL (.ok ps)) : itLK (.lst ps) pL := h
theorem itTK_ok (h : pL (.ok ps)) : itTK (.tup ps) pL := h
theorem itSK_ok {z : Str} (h : pL (.ok (chars z))) : itSK (.str z) pL := h
def rg1K : PV → (Res (List PV) → Prop) → Prop := fun a post => match a with
  | .int j => inB j ∧ post (.ok (rgP 0 1 j.toNat))
  | _ => False
theorem q_rng1 (h : w ρ (bk rg1K pL)) : pRng1 w ρ pL := h
theorem rg1K_ok {j : Int} (hb : inB j) (h : pL (.ok (rgP 0 1 j.toNat))) : rg1K (.int j) pL := ⟨hb, h⟩
def rg2K : PV → PV → (Res (List PV) → Prop) → Prop := fun a b post => match a, b with
  | .int i, .int j => inB i ∧ inB j ∧ post (.ok (rgP i 1 (j - i).toNat))
  | _, _ => False
theorem q_rng2 (h : wa ρ (bk (fun a => bindR wb (fun b => rg2K a b) ρ) pL)) : pRng2 wa wb ρ pL := h
theorem rg2K_ok {i j : Int} (hi : inB i) (hb : inB j) (h : pL (.ok (rgP i 1 (j - i).toNat))) : rg2K (.int i) (.int j) pL := ⟨hi, hb, h⟩
def rv1K : PV → (Res (List PV) → Prop) → Prop := fun a post => match a with
  | .int j => inB j ∧ post (.ok (rgP (0 + (((j - 0).toNat : Nat) : Int) - 1) (-1) (j - 0).toNat))
  | _ => False
theorem q_rev1 (h : w ρ (bk rv1K pL)) : pRev1 w ρ pL := h
theorem rv1K_ok {j : Int} (hb : inB j) (h : pL (.ok (rgP (0 + (((j - 0).toNat : Nat) : Int) - 1) (-1) (j - 0).toNat))) : rv1K (.int j) pL := ⟨hb, h⟩
def lrg1K : PV → (Res (List PV) → Prop) → Prop := fun a post => match a with
  | .int j => szB 0 j ∧ post (.ok (rgP 0 1 j.toNat))
  | _ => False
theorem q_lrg1 (h : w ρ (bk lrg1K pL)) : pLRg1 w ρ pL := h
theorem lrg1K_ok {j : Int} (hb : szB 0 j) (h : pL (.ok (rgP 0 1 j.toNat))) : lrg1K (.int j) pL := ⟨hb, h⟩
def lrg2K : PV → PV → (Res (List PV) → Prop) → Prop := fun a b post => match a, b with
  | .int i, .int j => szB i j ∧ post (.ok (rgP i 1 (j - i).toNat))
  | _, _ => False
theorem q_lrg2 (h : wa ρ (bk (fun a => bindR wb (fun b => lrg2K a b) ρ) pL)) : pLRg2 wa wb ρ pL := h
theorem lrg2K_ok {i j : Int} (hb : szB i j) (h : pL (.ok (rgP i 1 (j - i).toNat))) : lrg2K (.int i) (.int j) pL := ⟨hb, h⟩
def enK : PV → (Res (List PV) → Prop) → Prop := fun a post => match a with
  | .lst ps => post (.ok (enumP 0 ps))
  | _ => False
def enSK : PV → (Res (List PV) → Prop) → Prop := fun a post => match a with
  | .str z => post (.ok (enumP 0 (chars z)))
  | _ => False
def enSKK : PV → PV → (Res (List PV) → Prop) → Prop := fun a b post => match a, b with
  | .str z, .int k0 => inB k0 ∧ post (.ok (enumP k0 (chars z)))
  | _, _ => False
theorem q_enum (h : w ρ (bk enK pL)) : pEnum w ρ pL := h
theorem q_enumS (h : w ρ (bk enSK pL)) : pEnumS w ρ pL := h
theorem q_enumSK (h : wa ρ (bk (fun a => bindR wb (fun b => enSKK a b) ρ) pL)) : pEnumSK wa wb ρ pL := h
theorem enK_ok (h : pL (.ok (enumP 0 ps))) : enK (.lst ps) pL := h
theorem enSK_ok {z : Str} (h : pL (.ok (enumP 0 (chars z)))) : enSK (.str z) pL := h
theorem enSKK_ok {z : Str} {k0 : Int} (hb : inB k0) (h : pL (.ok (enumP k0 (chars z)))) : enSKK (.str z) (.int k0) pL := ⟨hb, h⟩
def zipK : PV → PV → (Res (List PV) → Prop) → Prop := fun a b post => match a, b with
  | .lst ps, .lst qs => post (.ok (zipP ps qs))
  | .tup ps, .tup qs => post (.ok (zipP ps qs))
  | _, _ => False
theorem q_zip (h : wa ρ (bk (fun a => bindR wb (fun b => zipK a b) ρ) pL)) : pZip wa wb ρ pL := h
theorem zipK_l (h : pL (.ok (zipP ps qs))) : zipK (.lst ps) (.lst qs) pL := h
theorem zipK_t (h : pL (.ok (zipP ps qs))) : zipK (.tup ps) (.tup qs) pL := h
def revK : PV → (Res (List PV) → Prop) → Prop := fun a post => match a with
  | .lst ps => post (.ok ps.reverse)
  | _ => False
theorem q_itRev (h : w ρ (bk revK pL)) : pItRev w ρ pL := h
theorem q_revL (h : w ρ (bk revK pL)) : pRevL w ρ pL := h
theorem revK_ok (h : pL (.ok ps.reverse)) : revK (.lst ps) pL := h
def rev2K : PV → (Res (List PV) → Prop) → Prop := fun a post => match a with
  | .lst ps => post (.ok ps.dropLast.reverse)
  | _ => False
theorem q_revL2 (h : w ρ (bk rev2K pL)) : pRevL2 w ρ pL := h
theorem rev2K_ok (h : pL (.ok ps.dropLast.reverse)) : rev2K (.lst ps) pL := h
/-! calls -/
theorem q_cnil {pC' : Res (List SV) → Prop} (h : pC' (.ok [])) : cpNil ρ pC' := h
theorem q_ccons {pC' : Res (List SV) → Prop} (h : w ρ (bk (fun a => bindR cb (fun ps post => post (.ok (.fz a :: ps))) ρ) pC')) : cpCons w cb ρ pC' := h
theorem q_cbag {pC' : Res (List SV) → Prop} (e : ρ[i]? = some .bag) (h : cb ρ (bk (fun ps post => post (.ok (.bag :: ps))) pC')) : cpBag i cb ρ pC' := by unfold cpBag; rw [e]; exact h
theorem q_call (h : ca ρ (bk (fun as post => wd (as ++ ds.map .fz) (frzR post)) pE)) : pCall wd ds ca ρ pE := h
theorem q_call0 (h : ca ρ (bk (fun as post => wd (as ++ ds.map .fz) (frzR (noR post))) pE)) : pCall0 wd ds ca ρ pE := h
theorem q_callO (h : ca ρ (bk (fun as post => wd (as ++ ds.map .fz) (ownR post)) pL)) : pCallO wd ds ca ρ pL := h
theorem q_callO0 (h : ca ρ (bk (fun as post => wd (as ++ ds.map .fz) (ownR (noR post))) pL)) : pCallO0 wd ds ca ρ pL := h
theorem q_callK {ix : List KI} (h : ca ρ (bk (fun as => bindR cb (fun bs post => wd (ix.map fun k => k.atG .un (ds.map .fz) (as ++ bs)) (frzR post)) ρ) pE)) : pCallK wd ds ix ca cb ρ pE := h
theorem q_callK0 {ix : List KI} (h : ca ρ (bk (fun as => bindR cb (fun bs post => wd (ix.map fun k => k.atG .un (ds.map .fz) (as ++ bs)) (frzR (noR post))) ρ) pE)) : pCallK0 wd ds ix ca cb ρ pE := h
theorem q_make {C : Str} {wn : WN} (h : ca ρ (bk (fun as post => ArR.noBag as ∧ wn as (objR C post)) pE)) : pMake' C wn ca ρ pE := h
theorem q_make0 {C : Str} {wn : WN} (h : ca ρ (bk (fun as post => ArR.noBag as ∧ wn as (objR C (noR post))) pE)) : pMake0 C wn ca ρ pE := h
def methK (C m : Str) (wd : WD) (ds : List PV) (ρ : List SV) (ca : WC) (g : (Res PV → Prop) → (Res PV → Prop)) : PV → (Res PV → Prop) → Prop := fun a post => match a with
  | .obj cn fs => cn = C ∧ fs.lookup m = none ∧ bindR ca (fun as post => wd (.fz (.obj cn fs) :: (as ++ ds.map .fz)) (frzR (g post))) ρ post
  | _ => False
theorem q_meth {C m : Str} (h : w ρ (bk (methK C m wd ds ρ ca id) pE)) : pMethA C m wd ds w ca ρ pE := h
theorem q_meth0 {C m : Str} (h : w ρ (bk (methK C m wd ds ρ ca noR) pE)) : pMethA0 C m wd ds w ca ρ pE := h
theorem methK_ok {C m : Str} (e : fs.lookup m = none) (h : ca ρ (bk (fun as post => wd (.fz (.obj C fs) :: (as ++ ds.map .fz)) (frzR post)) pE)) : methK C m wd ds ρ ca id (.obj C fs) pE := ⟨rfl, e, h⟩
theorem methK_ok0 {C m : Str} (e : fs.lookup m = none) (h : ca ρ (bk (fun as post => wd (.fz (.obj C fs) :: (as ++ ds.map .fz)) (frzR (noR post))) pE)) : methK C m wd ds ρ ca noR (.obj C fs) pE := ⟨rfl, e, h⟩
def lenCK (C : Str) (wd : WD) : PV → (Res PV → Prop) → Prop := fun a post => match a with
  | .obj cn fs => cn = C ∧ wd [.fz (.obj cn fs)] (lenR post)
  | _ => False
theorem q_lenC {C : Str} (h : w ρ (bk (lenCK C wd) pE)) : pLenC C wd w ρ pE := h
theorem lenCK_ok {C : Str} (h : wd [.fz (.obj C fs)] (lenR pE)) : lenCK C wd (.obj C fs) pE := ⟨rfl, h⟩
def fldK (at_ : List (Str × Str)) (f : Str) : PV → (Res PV → Prop) → Prop := fun a post => match a with
  | .obj cn fs => (cn, f) ∈ at_ ∧ ∃ p, fs.lookup f = some p ∧ post (.ok p)
  | _ => False
theorem q_fld {at_ : List (Str × Str)} {f : Str} (h : w ρ (bk (fldK at_ f) pE)) : pFld at_ f w ρ pE := h
theorem fldK_ok {at_ : List (Str × Str)} {f C : Str} (hm : (C, f) ∈ at_) (e : fs.lookup f = some p) (h : pE (.ok p)) : fldK at_ f (.obj C fs) pE := ⟨hm, p, e, h⟩
def isiK (u : String) : PV → (Res PV → Prop) → Prop := fun a post => match tyP a with
  | some t => post (.ok (.bl (isTy t u)))
  | none => False
theorem q_isi {u : String} (h : w ρ (bk (isiK u) pE)) : pIsi u w ρ pE := h
theorem isiK_ok {u t : String} (e : tyP p = some t) (h : pE (.ok (.bl (isTy t u)))) : isiK u p pE := by unfold isiK; rw [e]; exact h
def saidK (et : ErTab) (pE : Res PV → Prop) : Res PV → Prop := fun r => match r with
  | .ok p => pE (.ok (.lst [.str "told", p]))
  | .er cn fs => ∃ l, et cn fs = some l ∧ pE (.ok l)
theorem q_said {et : ErTab} (h : w (ρ.map SV.hide) (saidK et pE)) : pSaid et w ρ pE := h
theorem saidK_er {et : ErTab} {l : PV} (e : et cn fs = some l) (h : pE (.ok l)) : saidK et pE (.er cn fs) := ⟨l, e, h⟩
theorem saidK_ok {et : ErTab} (h : pE (.ok (.lst [.str "told", p]))) : saidK et pE (.ok p) := h
/-! numbers in lists -/
theorem intL_map (ns : List Int) : intL (ns.map .int) = some ns := by
  induction ns with
  | nil => rfl
  | cons n ns ih => show (intL (ns.map .int)).map (n :: ·) = _; rw [ih]; rfl
theorem strL_map (ns : List Str) : strL (ns.map .str) = some ns := by
  induction ns with
  | nil => rfl
  | cons n ns ih => show (strL (ns.map .str)).map (n :: ·) = _; rw [ih]; rfl
theorem blL_map (ns : List Bool) : blL (ns.map .bl) = some ns := by
  induction ns with
  | nil => rfl
  | cons n ns ih => show (blL (ns.map .bl)).map (n :: ·) = _; rw [ih]; rfl
theorem flatL_int (ns : List Int) : flatL (ns.map .int) = some (ns.map .int) := by
  induction ns with
  | nil => rfl
  | cons n ns ih => show (match flatP (.int n), flatL (ns.map .int) with | some x, some xs => some (x :: xs) | _, _ => none) = _; rw [ih]; rfl
/-! operators -/
section
variable {i j : Int} {z y : Str} {c d : Bool}
theorem k_Plus (h : pE (.ok (.int (i + j)))) : qPlus (.int i) (.int j) pE := h
theorem k_Minus (h : pE (.ok (.int (i - j)))) : qMinus (.int i) (.int j) pE := h
theorem k_Times (e : CMul i j) (h : pE (.ok (.int (i * j)))) : qTimes (.int i) (.int j) pE := ⟨e, h⟩
theorem k_ModP (e : 0 < j) (h : pE (.ok (.int (i % j)))) : qModP (.int i) (.int j) pE := ⟨e, h⟩
theorem k_FdivN (e : CDivN i j) (h : pE (.ok (.int (i.fdiv j)))) : qFdivN (.int i) (.int j) pE := ⟨e, h⟩
theorem k_Lt0 (h : pE (.ok (.bl (decide (i < j))))) : qLt0 (.int i) (.int j) pE := h
theorem k_Le0 (h : pE (.ok (.bl (decide (i ≤ j))))) : qLe0 (.int i) (.int j) pE := h
theorem k_Gt0 (h : pE (.ok (.bl (decide (j < i))))) : qGt0 (.int i) (.int j) pE := h
theorem k_Ge0 (h : pE (.ok (.bl (decide (j ≤ i))))) : qGe0 (.int i) (.int j) pE := h
theorem k_EqI (h : pE (.ok (.bl (decide (i = j))))) : qEq (.int i) (.int j) pE := h
theorem k_EqS (h : pE (.ok (.bl (decide (z = y))))) : qEq (.str z) (.str y) pE := h
theorem k_EqB (h : pE (.ok (.bl (decide (c = d))))) : qEq (.bl c) (.bl d) pE := h
theorem k_EqG (e : eqF p q = some c) (h : pE (.ok (.bl c))) : qEq p q pE := by unfold qEq; rw [e]; exact h
theorem k_NeI (h : pE (.ok (.bl (!decide (i = j))))) : qNe (.int i) (.int j) pE := h
theorem k_NeS (h : pE (.ok (.bl (!decide (z = y))))) : qNe (.str z) (.str y) pE := h
theorem k_NeB (h : pE (.ok (.bl (!decide (c = d))))) : qNe (.bl c) (.bl d) pE := h
theorem k_IsN (h : pE (.ok (.bl p.isNon))) : qIsN0 p .non pE := h
theorem k_NotN (h : pE (.ok (.bl (!p.isNon)))) : qNotN0 p .non pE := h
theorem k_InS {n : Nat} (h : pE (.ok (.bl (decide (n ∈ z.cps.toList))))) : qInS (.str ⟨#[n]⟩) (.str z) pE := ⟨n, rfl, h⟩
theorem k_NotInS {n : Nat} (h : pE (.ok (.bl (!decide (n ∈ z.cps.toList))))) : qNotInS (.str ⟨#[n]⟩) (.str z) pE := ⟨n, rfl, h⟩
theorem k_AddS (e : z.length + y.length ≤ 1000000) (h : pE (.ok (.str (z ++ y)))) : qAddS (.str z) (.str y) pE := ⟨e, h⟩
theorem k_IxL (e : L2.atI ps i = some p) (h : pE (.ok p)) : qIxL (.lst ps) (.int i) pE := ⟨p, e, h⟩
theorem k_IxT (e : L2.atI ps i = some p) (h : pE (.ok p)) : qIxT (.tup ps) (.int i) pE := ⟨p, e, h⟩
theorem k_IxaL (e : L2.atI ps i = some p) (h : pE (.ok p)) : qIx (.lst ps) (.int i) pE := ⟨p, e, h⟩
theorem k_IxaT (e : L2.atI ps i = some p) (h : pE (.ok p)) : qIx (.tup ps) (.int i) pE := ⟨p, e, h⟩
theorem k_ItemS {n : Nat} (h0 : 0 ≤ i) (hz : z.length ≤ 1000000) (e : z.cps[i.toNat]? = some n) (h : pE (.ok (.str ⟨#[n]⟩))) : qItemS (.str z) (.int i) pE := ⟨h0, hz, n, e, h⟩
theorem k_IxK {f : Str → Option PV} (e : f z = some p) (h : pE (.ok p)) : qIxK f (.str z) pE := ⟨p, e, h⟩
theorem k_LenS (hz : z.length ≤ 1000000) (h : pE (.ok (.int (z.length : Int)))) : qLenS (.str z) pE := ⟨hz, h⟩
theorem k_Int (h : pE (.ok (.int i))) : qInt (.int i) pE := h
theorem k_IntB (h : pE (.ok (.int (if d then 1 else 0)))) : qInt (.bl d) pE := h
theorem k_Max (h : ∀ m : Int, i ≤ m → j ≤ m → (m = i ∨ m = j) → pE (.ok (.int m))) : qMax2 (.int i) (.int j) pE := by
  show pE (.ok (.int (if j > i then j else i)))
  by_cases e : j > i
  · rw [if_pos e]; exact h j (by omega) (Int.le_refl _) (.inr rfl)
  · rw [if_neg e]; exact h i (Int.le_refl _) (by omega) (.inl rfl)
theorem k_Min (h : ∀ m : Int, m ≤ i → m ≤ j → (m = i ∨ m = j) → pE (.ok (.int m))) : qMin2 (.int i) (.int j) pE := by
  show pE (.ok (.int (if j < i then j else i)))
  by_cases e : j < i
  · rw [if_pos e]; exact h j (by omega) (Int.le_refl _) (.inr rfl)
  · rw [if_neg e]; exact h i (Int.le_refl _) (by omega) (.inl rfl)
theorem q_minL {ns : List Int} (h : w ρ (bk (fun a post => match a with
  | .lst ps => ∃ ns, intL ps = some ns ∧ 0 < ns.length ∧ ∀ m, m ∈ ns → (∀ y ∈ ns, m ≤ y) → post (.ok (.int m))
  | _ => False) pE)) : pMinL w ρ pE := h
theorem q_maxL {ns : List Int} (h : w ρ (bk (fun a post => match a with
  | .lst ps => ∃ ns, intL ps = some ns ∧ 0 < ns.length ∧ ∀ m, m ∈ ns → (∀ y ∈ ns, y ≤ m) → post (.ok (.int m))
  | _ => False) pE)) : pMaxL w ρ pE := h
end
theorem q_loose (e : ρ[i]? = some (.own ps)) (h : w (ρ.set i (.fz (.lst ps))) (looseK pE)) : pLoose i w ρ pE := by unfold pLoose; rw [e]; exact h
theorem looseK_bl {d : Bool} (h : pE (.ok (.bl d))) : looseK pE (.ok (.bl d)) := ⟨rfl, h⟩
theorem looseK_int {d : Int} (h : pE (.ok (.int d))) : looseK pE (.ok (.int d)) := ⟨rfl, h⟩
theorem looseK_str {d : Str} (h : pE (.ok (.str d))) : looseK pE (.ok (.str d)) := ⟨rfl, h⟩
theorem looseK_non (h : pE (.ok .non)) : looseK pE (.ok .non) := ⟨rfl, h⟩
theorem looseK_er (h : pE (.er cn fs)) : looseK pE (.er cn fs) := h
/-! comprehensions -/
theorem q_lc {vs : List Nat} (h : va ρ (bk (fun items post => lcW wg vt w [] items (wipeP ρ vs) post) pL)) : pLc va wg vt w vs ρ pL := h
end
end My
end

section
set_option Elab.async false
set_option maxRecDepth 100000
set_option maxHeartbeats 4000000
set_option linter.all false
/-! loops of meanings by invariants -/
namespace My
open PySem L2
section
variable {ρ : List SV} {post : Out → Prop} {wg : WG} {ws : WS} {vt : WT} {we : WE} {pL : Res (List PV) → Prop}
/-- what is wanted of a loop's body: K stands for what follows -/
structure KOk (Pn : List SV → Prop) (post : Out → Prop) (K : Out → Prop) : Prop where
  nx : ∀ ρ, Pn ρ → K (.nx ρ)
  ct : ∀ ρ, Pn ρ → K (.ct ρ)
  bk : ∀ ρ, post (.nx ρ) → K (.bk ρ)
  rt : ∀ r, post (.rt r) → K (.rt r)
  er : ∀ cn fs, post (.er cn fs) → K (.er cn fs)
theorem forW_inv {items : List PV} (Pv : Nat → List SV → Prop) (h0 : Pv 0 ρ)
    (hs : ∀ i x ρ K, items[i]? = some x → Pv i ρ → KOk (Pv (i + 1)) post K → wg x ρ (erO post fun ρ1 => ws ρ1 K))
    (hd : ∀ ρ, Pv items.length ρ → post (.nx ρ)) : forW wg ws items ρ post := by
  have key : ∀ (n i : Nat) (ρ : List SV), items.length - i = n → i ≤ items.length → Pv i ρ → forW wg ws (items.drop i) ρ post := by
    intro n
    induction n with
    | zero =>
      intro i ρ hn hi hp
      have e : i = items.length := by omega
      subst e
      rw [List.drop_eq_nil_of_le (Nat.le_refl _)]
      exact hd ρ hp
    | succ n ih =>
      intro i ρ hn hi hp
      have hlt : i < items.length := by omega
      rw [List.drop_eq_getElem_cons hlt]
      refine hs i _ ρ _ (by rw [List.getElem?_eq_getElem hlt]) hp ⟨fun ρ2 h => ?_, fun ρ2 h => ?_, fun ρ2 h => h, fun r h => h, fun cn fs h => h⟩
      · exact ih (i + 1) ρ2 (by omega) (by omega) h
      · exact ih (i + 1) ρ2 (by omega) (by omega) h
  have := key items.length 0 ρ (by omega) (by omega) h0
  rw [List.drop_zero] at this
  exact this
def lk3 (acc : List PV) (K : List PV → Prop) (pL : Res (List PV) → Prop) : Res PV → Prop := fun r3 => match r3 with
  | .er cn fs => pL (.er cn fs)
  | .ok y => acc.length ≤ 1000000 ∧ K (acc ++ [y])
def lk2 (we : WE) (ρ2 : List SV) (acc : List PV) (K : List PV → Prop) (pL : Res (List PV) → Prop) : Res Bool → Prop := fun r2 => match r2 with
  | .er cn fs => pL (.er cn fs)
  | .ok d => if d = true then we ρ2 (lk3 acc K pL) else K acc
def lk1 (vt : WT) (we : WE) (acc : List PV) (K : List PV → Prop) (pL : Res (List PV) → Prop) : Res (List SV) → Prop := fun r => match r with
  | .er cn fs => pL (.er cn fs)
  | .ok ρ2 => vt ρ2 (lk2 we ρ2 acc K pL)
theorem lk1_ok {acc : List PV} {K : List PV → Prop} {ρ2 : List SV} (h : vt ρ2 (lk2 we ρ2 acc K pL)) : lk1 vt we acc K pL (.ok ρ2) := h
theorem lk2_b {acc : List PV} {K : List PV → Prop} {ρ2 : List SV} {d : Bool} (h : if d = true then we ρ2 (lk3 acc K pL) else K acc) : lk2 we ρ2 acc K pL (.ok d) := h
theorem lk3_ok {acc : List PV} {K : List PV → Prop} {y : PV} (hl : acc.length ≤ 1000000) (h : K (acc ++ [y])) : lk3 acc K pL (.ok y) := ⟨hl, h⟩
theorem lcW_inv {items : List PV} (Pv : Nat → List PV → Prop) (h0 : Pv 0 [])
    (hs : ∀ i x acc K, items[i]? = some x → Pv i acc → (∀ acc', Pv (i + 1) acc' → K acc') → wg x ρ (lk1 vt we acc K pL))
    (hd : ∀ acc, Pv items.length acc → pL (.ok acc)) : lcW wg vt we [] items ρ pL := by
  have key : ∀ (n i : Nat) (acc : List PV), items.length - i = n → i ≤ items.length → Pv i acc → lcW wg vt we acc (items.drop i) ρ pL := by
    intro n
    induction n with
    | zero =>
      intro i acc hn hi hp
      have e : i = items.length := by omega
      subst e
      rw [List.drop_eq_nil_of_le (Nat.le_refl _)]
      exact hd acc hp
    | succ n ih =>
      intro i acc hn hi hp
      have hlt : i < items.length := by omega
      rw [List.drop_eq_getElem_cons hlt]
      exact hs i _ acc (fun acc' => lcW wg vt we acc' (items.drop (i + 1)) ρ pL) (by rw [List.getElem?_eq_getElem hlt]) hp fun acc' h => ih (i + 1) acc' (by omega) (by omega) h
  have := key items.length 0 [] (by omega) (by omega) h0
  rw [List.drop_zero] at this
  exact this
theorem q_draw {L : Int} {post : Res RV → Prop} (h0 : 0 < L) (h1 : L < 1073741824) (h : ∀ d : Int, 0 ≤ d → d < L → post (.ok (.fz (.int d)))) : wDraw [.bag, .fz (.int L)] post := ⟨h0, h1, h⟩
theorem forL_inv {α : Type} {f : α → PV} {xs : List α} (Pv : Nat → List SV → Prop) (h0 : Pv 0 ρ)
    (hs : ∀ i x ρ K, xs[i]? = some x → Pv i ρ → KOk (Pv (i + 1)) post K → wg (f x) ρ (erO post fun ρ1 => ws ρ1 K))
    (hd : ∀ ρ, Pv xs.length ρ → post (.nx ρ)) : forW wg ws (xs.map f) ρ post := by
  refine forW_inv Pv h0 (fun i x ρ K hx hp hk => ?_) (fun ρ h => hd ρ (by rw [List.length_map] at h; exact h))
  rw [List.getElem?_map] at hx
  cases e : xs[i]? with
  | none => rw [e] at hx; cases hx
  | some y => rw [e] at hx; cases hx; exact hs i y ρ K e hp hk
theorem lcL_inv {α : Type} {f : α → PV} {xs : List α} (Pv : Nat → List PV → Prop) (h0 : Pv 0 [])
    (hs : ∀ i x acc K, xs[i]? = some x → Pv i acc → (∀ acc', Pv (i + 1) acc' → K acc') → wg (f x) ρ (lk1 vt we acc K pL))
    (hd : ∀ acc, Pv xs.length acc → pL (.ok acc)) : lcW wg vt we [] (xs.map f) ρ pL := by
  refine lcW_inv Pv h0 (fun i x ρ K hx hp hk => ?_) (fun ρ h => hd ρ (by rw [List.length_map] at h; exact h))
  rw [List.getElem?_map] at hx
  cases e : xs[i]? with
  | none => rw [e] at hx; cases hx
  | some y => rw [e] at hx; cases hx; exact hs i y ρ K e hp hk
/-- a comprehension that maps -/
theorem lc_map {α : Type} {f : α → PV} {xs : List α} (g : α → PV) (hl : xs.length ≤ 1000000) (hs : ∀ x acc K, x ∈ xs → K (acc ++ [g x]) → acc.length ≤ 1000000 → wg (f x) ρ (lk1 vt we acc K pL))
    (hd : pL (.ok (xs.map g))) : lcW wg vt we [] (xs.map f) ρ pL := by
  refine lcL_inv (fun i acc => acc = (xs.take i).map g) rfl (fun i x acc K hx hp hk => ?_) (fun acc h => ?_)
  · have hi := (List.getElem?_eq_some_iff.mp hx).1
    subst hp
    refine hs x _ K (List.mem_of_getElem? hx) (hk _ ?_) (by simp; omega)
    rw [List.take_succ, hx, List.map_append]; rfl
  · subst h; rw [List.take_length]; exact hd
/-- one that keeps some -/
theorem lc_filter {α : Type} {f : α → PV} {xs : List α} (b : α → Bool) (g : α → PV) (hl : xs.length ≤ 1000000) (hs : ∀ x acc K, x ∈ xs → acc.length ≤ 1000000 → (b x = true → K (acc ++ [g x])) → (b x = false → K acc) → wg (f x) ρ (lk1 vt we acc K pL))
    (hd : pL (.ok ((xs.filter b).map g))) : lcW wg vt we [] (xs.map f) ρ pL := by
  refine lcL_inv (fun i acc => acc = ((xs.take i).filter b).map g) rfl (fun i x acc K hx hp hk => ?_) (fun acc h => ?_)
  · have hi := (List.getElem?_eq_some_iff.mp hx).1
    subst hp
    have hle : (((xs.take i).filter b).map g).length ≤ 1000000 := by
      rw [List.length_map]
      exact Nat.le_trans (List.length_filter_le _ _) (by simp; omega)
    refine hs x _ K (List.mem_of_getElem? hx) hle (fun hb => hk _ ?_) (fun hb => hk _ ?_)
    · rw [List.take_succ, hx, List.filter_append, List.map_append]
      show _ = _ ++ (List.filter b [x]).map g
      rw [List.filter_cons_of_pos hb]; rfl
    · rw [List.take_succ, hx, List.filter_append, List.map_append]
      show _ = _ ++ (List.filter b [x]).map g
      rw [List.filter_cons_of_neg (by rw [hb]; exact Bool.false_ne_true)]; simp
  · subst h; rw [List.take_length]; exact hd
/-- numbers in a range -/
theorem rgP_map (lo st : Int) (n : Nat) : rgP lo st n = (List.range n).map fun i : Nat => .int (lo + (i : Int) * st) := rfl
theorem atI_mapP {α : Type} {f : α → PV} {xs : List α} {i : Int} {x : α} (h0 : 0 ≤ i) (h : xs[i.toNat]? = some x) : L2.atI (xs.map f) i = some (f x) := atI_nn h0 (by rw [List.getElem?_map, h]; rfl)
theorem ixN_ge {n k : Nat} {i : Int} (h0 : 0 ≤ i) (hk : i.toNat = k) (h : k < n) : ixN n i = some k := ixN_nn h0 hk h
end
section
variable {A B : Prop} {i : Int} {z : Str} {d : Bool} {ps : List PV} {C : Str} {fs : List (Str × PV)}
theorem n_int (h : B) : if (PV.int i).isNon = true then A else B := h
theorem n_str (h : B) : if (PV.str z).isNon = true then A else B := h
theorem n_bl (h : B) : if (PV.bl d).isNon = true then A else B := h
theorem n_lst (h : B) : if (PV.lst ps).isNon = true then A else B := h
theorem n_tup (h : B) : if (PV.tup ps).isNon = true then A else B := h
theorem n_obj (h : B) : if (PV.obj C fs).isNon = true then A else B := h
theorem n_non (h : A) : if PV.non.isNon = true then A else B := h
theorem m_int (h : A) : if (!(PV.int i).isNon) = true then A else B := h
theorem m_str (h : A) : if (!(PV.str z).isNon) = true then A else B := h
theorem m_bl (h : A) : if (!(PV.bl d).isNon) = true then A else B := h
theorem m_lst (h : A) : if (!(PV.lst ps).isNon) = true then A else B := h
theorem m_tup (h : A) : if (!(PV.tup ps).isNon) = true then A else B := h
theorem m_obj (h : A) : if (!(PV.obj C fs).isNon) = true then A else B := h
theorem m_non (h : B) : if (!PV.non.isNon) = true then A else B := h
theorem t_bl {P : Bool → Prop} {x : Bool} (h : P x) : P x := h
end
end My
end

section
set_option Elab.async false
set_option maxRecDepth 100000
set_option maxHeartbeats 4000000
set_option linter.all false
/-! more of values: l.index(x) -/
namespace My
open PySem L2
section
variable {c : Cfg} {M : List Addr} {σ : L2.St} {H H' : Hp} {ρ : List SV} {K : PySem.W.Frag} {T : List (Addr × Str)} {E E' : XK} {te tf tg : TE} {w wa wb wc : WE} {pE : Res PV → Prop}
theorem eqIv (a b : Int) : eqV (.int a) (.int b) = decide (a = b) := by
  show (a == b) = _
  by_cases h : a = b
  · rw [h, decide_eq_true rfl]; exact beq_self_eq_true _
  · rw [decide_eq_false h]; exact beq_false_of_ne h
theorem first_idx : ∀ {ns : List Int} {m : Int}, m ∈ ns → ∃ j : Nat, ns[j]? = some m ∧ ∀ (k : Nat) (z : Int), k < j → ns[k]? = some z → z ≠ m
  | n :: ns, m, h => by
    by_cases e : n = m
    · exact ⟨0, by rw [e]; rfl, fun k z hk => absurd hk (Nat.not_lt_zero _)⟩
    · obtain ⟨j, h1, h2⟩ := first_idx (ns := ns) (m := m) (by cases h with | head => exact absurd rfl e | tail _ h => exact h)
      refine ⟨j + 1, h1, fun k z hk hz => ?_⟩
      cases k with
      | zero => have : n = z := Option.some.inj hz
                rw [← this]; exact e
      | succ k => exact h2 k z (by omega) hz
theorem idx_r {p : Addr} {ns : List Int} {m : Int} {Q : VK} (h : SqL K H p (ns.map V.int)) (hm : m ∈ ns) (q : ∀ j : Nat, ns[j]? = some m → (∀ (k : Nat) (z : Int), k < j → ns[k]? = some z → z ≠ m) → Q (.int (j : Int)) H) : rIndex K (.ref p) [.int m] H Q := by
  obtain ⟨j, h1, h2⟩ := first_idx hm
  refine ⟨p, _, .int m, j, .int m, rfl, rfl, h, rfl, by rw [List.all_map]; exact List.all_eq_true.mpr fun _ _ => rfl, by rw [List.getElem?_map, h1]; rfl, by rw [eqIv]; exact decide_eq_true rfl, fun k z hk hz => ?_, q j h1 h2⟩
  rw [List.getElem?_map] at hz
  cases e : ns[k]? with
  | none => rw [e] at hz; cases hz
  | some n =>
    rw [e] at hz
    cases hz
    rw [eqIv]
    exact decide_eq_false (h2 k n hk e)
def qIdx : PV → PV → (Res PV → Prop) → Prop := fun a b post => match a with
  | .lst ps => match b with
    | .int m => ∃ ns, intL ps = some ns ∧ m ∈ ns ∧ ∀ j : Nat, ns[j]? = some m → (∀ (k : Nat) (z : Int), k < j → ns[k]? = some z → z ≠ m) → post (.ok (.int (j : Int)))
    | _ => False
  | _ => False
def pIdx (wa wb : WE) : WE := fun ρ => bindR wa (fun a post => match a with
  | .lst ps => bindR wb (fun b => qIdx (.lst ps) b) ρ post
  | _ => False) ρ
theorem ev_idx (ha : EvB K T E te wa) (hb : EvE K T E tf wb) : EvE K T E (tBM K "list" (rIndex K) te (tCons tf tNil)) (pIdx wa wb) := by
  rintro c M σ H ρ post Q rfl rfl s hw k e
  refine ha c M σ H ρ _ _ rfl rfl s hw (fun H1 x a t1 r1 h1 => ?_) (e.imp fun _ _ z => z)
  have s1 := s.stp t1
  dsimp only at h1
  split at h1
  · obtain ⟨l, xs, rfl, e3, ra, keep⟩ := r1.lstI s1
    refine ⟨ty_list (SqL.of e3), ?_⟩
    refine hb c M σ H1 ρ _ _ rfl rfl s1 h1 (fun H2 y b t2 r2 h2 => ?_) (e.imp fun _ _ z => z)
    unfold qIdx at h2
    dsimp only at h2
    split at h2
    · obtain ⟨ns, e1, hm, h2⟩ := h2
      obtain rfl := ra.ints e1
      cases r2
      exact idx_r (SqL.of (keep _ t2)) hm fun j h3 h4 => k H2 _ _ (t1.trans t2) (.int _) (h2 j h3 h4)
    · exact h2.elim
  · exact h1.elim
def idxK (ρ : List SV) (wb : WE) : PV → (Res PV → Prop) → Prop := fun a post => match a with
  | .lst ps => bindR wb (fun b => qIdx (.lst ps) b) ρ post
  | _ => False
theorem q_idx (h : wa ρ (bk (idxK ρ wb) pE)) : pIdx wa wb ρ pE := h
theorem idxK_ok {ps : List PV} (h : wb ρ (bk (fun b => qIdx (.lst ps) b) pE)) : idxK ρ wb (.lst ps) pE := h
theorem qIdx_ok {ns : List Int} {m : Int} (hm : m ∈ ns) (h : ∀ j : Nat, ns[j]? = some m → (∀ (k : Nat) (z : Int), k < j → ns[k]? = some z → z ≠ m) → pE (.ok (.int (j : Int)))) : qIdx (.lst (ns.map PV.int)) (.int m) pE := ⟨ns, intL_map ns, hm, h⟩
/-! ### text.split(x), int(text) -/
def pSplit (wa wb : WE) : WA := fun ρ => bindR wa (fun a post => match a with
  | .str x => bindR wb (fun b post => match b with
    | .str y => (y.length == 0) = false ∧ x.length ≤ 900000 ∧ post (.ok ((Txt.split x y).map .str))
    | _ => False) ρ post
  | _ => False) ρ
theorem repL_strs {M : List Addr} : ∀ zs : List Str, RepL K M H (zs.map V.str) (zs.map PV.str)
  | [] => .nil
  | _ :: zs => .cons (.str _) (repL_strs zs)
theorem eo_split (ha : EvE K T E te wa) (hb : EvE K T E tf wb) : EvO K T E (tBM K "str" mSplit te (tCons tf tNil)) (pSplit wa wb) := by
  rintro c M σ H ρ post Q rfl rfl s hw k e
  refine ha c M σ H ρ _ _ rfl rfl s hw (fun H1 x a t1 r1 h1 => ?_) (e.imp fun _ _ z => z)
  have s1 := s.stp t1
  dsimp only at h1
  split at h1
  · cases r1
    refine ⟨rfl, ?_⟩
    refine hb c M σ H1 ρ _ _ rfl rfl s1 h1 (fun H2 y b t2 r2 h2 => ?_) (e.imp fun _ _ z => z)
    have s2 := s1.stp t2
    dsimp only at h2
    split at h2
    · cases r2
      obtain ⟨h3, h4, h2⟩ := h2
      exact ⟨_, _, rfl, rfl, h3, szM (by omega), new_lst s2 (repL_strs _) h2 fun H' a vs ps t f h r q => k H' a vs ps (t1.trans (t2.trans t)) ((f.back s1 t2).back s t1) h r q⟩
    · exact h2.elim
  · exact h1.elim
def splitK2 (x : Str) : PV → (Res (List PV) → Prop) → Prop := fun b post => match b with
  | .str y => (y.length == 0) = false ∧ x.length ≤ 900000 ∧ post (.ok ((Txt.split x y).map .str))
  | _ => False
def splitK (ρ : List SV) (wb : WE) : PV → (Res (List PV) → Prop) → Prop := fun a post => match a with
  | .str x => bindR wb (splitK2 x) ρ post
  | _ => False
theorem q_split {pL : Res (List PV) → Prop} (h : wa ρ (bk (splitK ρ wb) pL)) : pSplit wa wb ρ pL := h
theorem splitK_ok {x : Str} {pL : Res (List PV) → Prop} (h : wb ρ (bk (splitK2 x) pL)) : splitK ρ wb (.str x) pL := h
theorem splitK2_ok {x y : Str} {pL : Res (List PV) → Prop} (h1 : (y.length == 0) = false) (h2 : x.length ≤ 900000) (h : pL (.ok ((Txt.split x y).map .str))) : splitK2 x (.str y) pL := ⟨h1, h2, h⟩
theorem k_InGT {a : PV} {x : V} {ps : List PV} {xs : List V} {n : Bool} (hf : flatP a = some x) (hl : flatL ps = some xs) (h : pE (.ok (.bl (if n then !inV x xs else inV x xs)))) : qInG n a (.tup ps) pE := ⟨x, xs, hf, hl, h⟩
/-! f-strings -/
abbrev WJ' : Type := WJ
def jK (wj : WJ) (acc : Str) (ρ : List SV) : PV → (Res Str → Prop) → Prop := fun a post => match a with
  | .str z => (acc ++ z).length ≤ 1000000 ∧ wj (acc ++ z) ρ post
  | _ => False
theorem q_fs {wj : WJ} (h : wj Str.empty ρ (bk (fun z post => post (.ok (.str z))) pE)) : pFS wj ρ pE := h
theorem q_j0 {acc : Str} {pS : Res Str → Prop} (h : pS (.ok acc)) : pJ0 acc ρ pS := h
theorem q_j1 {wj : WJ} {acc : Str} {pS : Res Str → Prop} (h : w ρ (bk (jK wj acc ρ) pS)) : pJ1 w wj acc ρ pS := h
theorem jK_ok {wj : WJ} {acc z : Str} {pS : Res Str → Prop} (hl : (acc ++ z).length ≤ 1000000) (h : wj (acc ++ z) ρ pS) : jK wj acc ρ (.str z) pS := ⟨hl, h⟩
def fmtK : PV → (Res PV → Prop) → Prop := fun a post => match a with
  | .str z => z.length ≤ 1000000 ∧ post (.ok (.str z))
  | .int i => i.natAbs.log2 < 1920 ∧ post (.ok (.str (Str.ofString (toString i))))
  | _ => False
theorem q_fmt (h : w ρ (bk fmtK pE)) : pFmt w ρ pE := h
theorem fmtK_s {z : Str} (hl : z.length ≤ 1000000) (h : pE (.ok (.str z))) : fmtK (.str z) pE := ⟨hl, h⟩
theorem fmtK_i {i : Int} (hl : i.natAbs.log2 < 1920) (h : pE (.ok (.str (Str.ofString (toString i))))) : fmtK (.int i) pE := ⟨hl, h⟩
def qIntS : PV → (Res PV → Prop) → Prop := fun a post => match a with
  | .str z => ∃ n, PySem.intText? z = some n ∧ z.length ≤ 640 ∧ post (.ok (.int n))
  | _ => False
theorem k_IntS {z : Str} {n : Int} (e : PySem.intText? z = some n) (hl : z.length ≤ 640) (h : pE (.ok (.int n))) : qIntS (.str z) pE := ⟨n, e, hl, h⟩
theorem ev_intS (h : EvE K T E te w) : EvE K T E (tCB bIntS (tCons te tNil)) (p1 qIntS w) := by
  rintro c M σ H ρ post Q rfl rfl s hw k e
  refine h c M σ H ρ _ _ rfl rfl s hw (fun H1 x p t1 r1 h1 => ?_) (e.imp fun _ _ z => z)
  unfold qIntS at h1
  dsimp only at h1
  split at h1
  · cases r1
    obtain ⟨n, h2, h3, h1⟩ := h1
    exact ⟨_, n, rfl, h2, h3, k H1 _ _ t1 (.int _) h1⟩
  · exact h1.elim
end
end My
end

section
set_option Elab.async false
set_option maxRecDepth 100000
set_option maxHeartbeats 4000000
set_option linter.all false
namespace My
open PySem L2
section
variable {c : Cfg} {M : List Addr} {σ : L2.St} {H H' : Hp} {ρ : List SV} {K : PySem.W.Frag} {T : List (Addr × Str)} {E E' : XK} {te tf tg : TE} {w wa wb wc : WE} {tt tu : TT} {vt vu : WT} {ta tb : TA} {va vb : WA} {ca cb : WC} {i j n : Nat} {p : PV} {v : V} {b : Bool} {wd : WD} {ts us : TS} {ws wu : WS} {g : TG} {wg : WG} {ss : List Nat}
/-! ### a new list of new lists: it may be spoilt within -/
/-- the lists of a row of addresses -/
structure Row2 (K : PySem.W.Frag) (M : List Addr) (H : Hp) (bs : List Addr) (rows : List (List PV)) : Prop where
  len : bs.length = rows.length
  at_ : ∀ (i : Nat) (b : Addr) (r : List PV), bs[i]? = some b → rows[i]? = some r → ∃ xs, H b = some (.lst xs) ∧ RepL K M H xs r
theorem Row2.nil {K : PySem.W.Frag} {M : List Addr} {H : Hp} : Row2 K M H [] [] := ⟨rfl, fun i b r h => by simp at h⟩
theorem Row2.mono {K : PySem.W.Frag} {M M' : List Addr} {H H' : Hp} {bs : List Addr} {rows : List (List PV)} (r : Row2 K M H bs rows) (x : ∀ b ∈ bs, ∀ xs, H b = some (.lst xs) → H' b = some (.lst xs)) (n : Nxt M H M' H') : Row2 K M' H' bs rows :=
  ⟨r.len, fun i b q h1 h2 => by
    obtain ⟨xs, h3, h4⟩ := r.at_ i b q h1 h2
    exact ⟨xs, x b (List.mem_of_getElem? h1) xs h3, h4.nxt n⟩⟩
theorem Row2.some {K : PySem.W.Frag} {M : List Addr} {H : Hp} {bs : List Addr} {rows : List (List PV)} (r : Row2 K M H bs rows) {b : Addr} (h : b ∈ bs) : ∃ xs, H b = some (.lst xs) := by
  obtain ⟨i, hi⟩ := List.mem_iff_getElem?.mp h
  have hlt : i < rows.length := by rw [← r.len]; exact (List.getElem?_eq_some_iff.mp hi).1
  obtain ⟨xs, h1, _⟩ := r.at_ i b rows[i] hi (List.getElem?_eq_getElem hlt)
  exact ⟨xs, h1⟩
theorem Row2.snoc {K : PySem.W.Frag} {M : List Addr} {H : Hp} {bs : List Addr} {rows : List (List PV)} {b : Addr} {xs : List V} {q : List PV} (r : Row2 K M H bs rows) (h : H b = .some (.lst xs)) (hq : RepL K M H xs q) : Row2 K M H (bs ++ [b]) (rows ++ [q]) := by
  refine ⟨by simp [r.len], fun i y z h1 h2 => ?_⟩
  by_cases hi : i < bs.length
  · rw [List.getElem?_append_left hi] at h1
    rw [List.getElem?_append_left (r.len ▸ hi)] at h2
    exact r.at_ i y z h1 h2
  · rw [List.getElem?_append_right (by omega)] at h1
    rw [List.getElem?_append_right (by have := r.len; omega), ← r.len] at h2
    cases e : i - bs.length with
    | zero => rw [e] at h1 h2; cases h1; cases h2; exact ⟨xs, h, hq⟩
    | succ m => rw [e] at h1; simp at h1
/-- frozen, it is a list of lists -/
theorem Row2.rep {K : PySem.W.Frag} {M : List Addr} {H : Hp} {bs : List Addr} {rows : List (List PV)} (r : Row2 K M H bs rows) (h : ∀ b ∈ bs, b ∉ M) : RepL K M H (bs.map V.ref) (rows.map PV.lst) := by
  refine ⟨by simp [r.len], fun i x p h1 h2 => ?_⟩
  rw [List.getElem?_map] at h1 h2
  cases e1 : bs[i]? with
  | none => rw [e1] at h1; cases h1
  | some b =>
    cases e2 : rows[i]? with
    | none => rw [e2] at h2; cases h2
    | some q =>
      rw [e1] at h1; rw [e2] at h2
      cases h1; cases h2
      obtain ⟨xs, h3, h4⟩ := r.at_ i b q e1 e2
      exact .lst (h b (List.mem_of_getElem? e1)) h3 h4.1 h4.2
abbrev WR : Type := List SV → (Res (List (List PV)) → Prop) → Prop
/-- a new list of new lists -/
def EvR (K : PySem.W.Frag) (T : List (Addr × Str)) (E : XK) (te : TE) (w : WR) : Prop := ∀ (c : Cfg) (M : List Addr) (σ : L2.St) (H : Hp) (ρ : List SV) (post : Res (List (List PV)) → Prop) (Q : VK), c.K = K → c.T = T → StR c M σ H ρ → w ρ post →
  (∀ H' a bs rows, Stp c H H' → Fresh H a → (∀ b ∈ bs, Fresh H b ∧ b ≠ a) → H' a = some (.lst (bs.map V.ref)) → Row2 K (a :: bs ++ M) H' bs rows → post (.ok rows) → Q (.ref a) H') → ErW c E (fun cn fs => post (.er cn fs)) → te σ H Q
/-- more cells that no value has -/
theorem StR.grow (s : StR c M σ H ρ) (t : Stp c H H') {G : List Addr} (hG : ∀ b ∈ G, Fresh H b ∧ ∃ o, H' b = some o ∧ NT o) : StR c (G ++ M) σ H' ρ ∧ Nxt M H (G ++ M) H' := by
  have n2 : Nxt M H (G ++ M) H' := ⟨s.ext t, fun a ha => by
    rcases List.mem_append.mp ha with z | z
    · exact .inr (hG a z).1
    · exact .inl z⟩
  have s2 := s.stp t
  refine ⟨⟨s2.fr, fun a ha => ?_, fun a ha => List.mem_append_right _ (s2.sub a ha), s2.mm, s2.d0, s2.tabs, fun a b e => ⟨(s2.bag a b e).1, List.mem_append_right _ (s2.bag a b e).2.1, List.mem_append_right _ (s2.bag a b e).2.2.1, (s2.bag a b e).2.2.2⟩, s2.len, fun i o q h1' h2' => ?_, s2.uniq⟩, n2⟩
  · rcases List.mem_append.mp ha with z | z
    · exact (hG a z).2
    · exact s2.dom a z
  · have z := s.slots i o q h1' h2'
    cases z with
    | un => exact .un
    | fz h => exact .fz (h.nxt n2)
    | own hm hb h0 h hi => exact .own (List.mem_append_right _ hm) hb h0 (t.keep _ _ (fun a b e => (hb a b e).1) NT.lst h) (hi.nxt n2)
    | bag h => exact .bag h
    | ob hm hb h0 h hi => exact .ob (List.mem_append_right _ hm) hb h0 (t.keep _ _ (fun a b e => (hb a b e).1) NT.ins h) (hi.nxt n2)
    | scr h => exact .scr (h.nxt n2)
    | ref => exact .ref
/-! ### [[..] for ..] -/
def lcR (wg : WG) (vt : WT) (we : WA) : List (List PV) → List PV → List SV → (Res (List (List PV)) → Prop) → Prop
  | acc, [], ρ, post => post (.ok acc)
  | acc, x :: xs, ρ, post => wg x ρ fun r => match r with
    | .er cn fs => post (.er cn fs)
    | .ok ρ2 => vt ρ2 fun r2 => match r2 with
      | .er cn fs => post (.er cn fs)
      | .ok d => if d = true then we ρ2 fun r3 => match r3 with
          | .er cn fs => post (.er cn fs)
          | .ok y => acc.length ≤ 1000000 ∧ lcR wg vt we (acc ++ [y]) xs ρ post
        else lcR wg vt we acc xs ρ post
def pLcR (va : WA) (wg : WG) (vt : WT) (we : WA) (vs : List Nat) : WR := fun ρ => bindR va (fun items post => lcR wg vt we [] items (wipeP ρ vs) post) ρ
theorem er_lc {wi : TI} {vs : List Nat} (hi : EvI true K T E wi va) (hg : EvG K vs g wg) (ht : EvT K T E tt vt) (he : EvO K T E te vb) : EvR K T E (tLc wi g tt te vs) (pLcR va wg vt vb vs) := by
  rintro c M σ H ρ post Q rfl rfl s hw k e
  refine hi c M σ H ρ _ _ rfl rfl s hw (fun H1 J items t1 it h1 => ?_) (e.imp fun _ _ z => z)
  intro D hD
  have s1 := s.stp t1
  obtain ⟨G, Y, wk, hG⟩ := it
  have fD : Fresh H1 D := .none hD
  have bD : ∀ x y, c.B = some (x, y) → D ≠ x ∧ D ≠ y := fun x y e => by
    obtain ⟨h, _⟩ := s1.bag x y e
    exact ⟨(h.na hD).symm, (h.nc hD).symm⟩
  have stD : ∀ {H2 : Hp} {u : HO}, Stp c H1 H2 → (H2 D = none ∨ ∃ xs, H2 D = some (.lst xs)) → Stp c H1 (upd H2 D u) := fun {H2 u} t2 hd =>
    ⟨fun x o n nt ex => by
        have : x ≠ D := fun z => by subst z; rw [hD] at ex; cases ex
        rw [upd_ne this]; exact t2.keep x o n nt ex,
      upd_tabs t2.tabs (by rcases hd with z | z; exact .inl (.none z); exact .inr z) hd, fun a b e => (t2.bag a b e).mut (bD a b e).1.symm (bD a b e).2.symm⟩
  have gr : ∀ {H2 : Hp} {bs : List Addr} {rows : List (List PV)} {acc : List V}, H2 D = some (.lst acc) → (∀ b ∈ bs, Fresh H1 b ∧ b ≠ D) → Row2 c.K (D :: bs ++ M) H2 bs rows → ∀ b ∈ D :: bs, Fresh H1 b ∧ ∃ o, H2 b = some o ∧ NT o := fun {H2 bs rows acc} hd hf r b hb => by
    rcases List.mem_cons.mp hb with z | z
    · exact ⟨z ▸ fD, _, z ▸ hd, NT.lst⟩
    · obtain ⟨xs, h⟩ := r.some z
      exact ⟨(hf b z).1, _, h, NT.lst⟩
  refine lc_it wk (fun i H2 => Stp c H1 H2 ∧ ∃ bs rows, H2 D = some (.lst (bs.map V.ref)) ∧ (∀ b ∈ bs, Fresh H1 b ∧ b ≠ D) ∧ Row2 c.K (D :: bs ++ M) H2 bs rows ∧ lcR wg vt vb rows (items.drop i) (wipeP ρ vs) post)
    ⟨stD (Stp.refl s1) (.inl hD), [], [], upd_same, fun _ hb => absurd hb List.not_mem_nil, Row2.nil, h1⟩ ?_ ?_ ?_
  · rintro i H2 hil ⟨t2, _⟩
    exact (hG M H2 ((s1.ext t2).nxt) (fun _ => t2)).1
  · rintro i x H2 H3 hil ⟨t2, bs, rows, hd, hf, r, hl⟩ y
    obtain ⟨s2', n2⟩ := s1.grow t2 (gr hd hf r)
    have s2 := s2'.wipe vs
    obtain ⟨p, hp, sm, rp⟩ := (hG (D :: bs ++ M) H2 n2 (fun _ => t2)).2 s2.dom i x H3 hil y
    have t3 : Stp c H2 H3 := ⟨fun x o _ _ e => sm x o e, (s2.tabs).ext (fun b u e => sm b u e), fun a b e => by
      obtain ⟨cs, i, r, m, n, d6, z1, z2, z3, z4⟩ := t2.bag a b e
      exact ⟨cs, i, r, m, n, d6, sm _ _ z1, z2, sm _ _ z3, z4⟩⟩
    have s3 := s2.stp t3
    have hd3 := sm _ _ hd
    have e4 : items.drop i = p :: items.drop (i + 1) := by
      rw [List.drop_eq_getElem_cons hil]
      congr 1
      rw [List.getElem?_eq_getElem hil] at hp
      exact Option.some.inj hp
    rw [e4] at hl
    unfold lcR at hl
    refine hg c (D :: bs ++ M) (L2.wipe σ vs) H3 (wipeP ρ vs) x p _ _ rfl s3 rp hl fun σ2 ρ2 s4 l4 e4 hl => ⟨wipe_eq l4 e4, ?_⟩
    dsimp only at hl
    refine ht c (D :: bs ++ M) σ2 H3 ρ2 _ _ rfl rfl s4 hl (fun H4 d t4 hl => ?_) (e.imp fun _ _ z => z)
    have s5 := s4.stp t4
    have t14 : Stp c H1 H4 := t2.trans (t3.trans t4)
    have t24 : Stp c H2 H4 := t3.trans t4
    have bb : ∀ b ∈ bs, ∀ x y, c.B = some (x, y) → b ≠ x ∧ b ≠ y := fun b hb x y e => by
      obtain ⟨h, _⟩ := s1.bag x y e
      refine ⟨fun z => ?_, fun z => ?_⟩
      · obtain ⟨xs, h1⟩ := h.some
        exact (hf b hb).1 _ (z ▸ h1) NT.lst
      · obtain ⟨xs, h1⟩ := bag_cell h
        exact (hf b hb).1 _ (z ▸ h1) NT.lst
    have r4 : Row2 c.K (D :: bs ++ M) H4 bs rows := r.mono (fun b hb xs e => t24.keep b _ (fun x y e => (bb b hb x y e).1) NT.lst e) (s2.ext t24).nxt
    have hd4 : H4 D = some (.lst (bs.map V.ref)) := t4.keep D _ (fun a b e => (bD a b e).1) NT.lst hd3
    dsimp only at hl
    cases d with
    | false =>
      rw [if_neg Bool.false_ne_true] at hl ⊢
      exact ⟨t14, bs, rows, hd4, hf, r4, hl⟩
    | true =>
      rw [if_pos rfl] at hl ⊢
      refine he c (D :: bs ++ M) σ2 H4 ρ2 _ _ rfl rfl s5 hl (fun H5 b xs q t5 fb eb rb hl => ?_) (e.imp fun _ _ z => z)
      dsimp only at hl
      have hd5 : H5 D = some (.lst (bs.map V.ref)) := t5.keep D _ (fun a b e => (bD a b e).1) NT.lst hd4
      have t15 := t14.trans t5
      have nbD : b ≠ D := fun z => fb _ (z ▸ hd4) NT.lst
      have fb1 : Fresh H1 b := fun o e nt => by
        by_cases hx : ∃ y, c.B = some (b, y)
        · obtain ⟨y, hy⟩ := hx
          obtain ⟨xs, h1⟩ := (s5.bag b y hy).1.some
          exact fb _ h1 NT.lst
        · exact fb o (t14.keep b o (fun x y e z => hx ⟨y, z ▸ e⟩) nt e) nt
      have r5 : Row2 c.K (b :: (D :: bs ++ M)) H5 bs rows := r4.mono (fun b' hb xs e => t5.keep b' _ (fun x y e => (bb b' hb x y e).1) NT.lst e) ⟨s5.ext t5, fun y hy => by
        rcases List.mem_cons.mp hy with z | z
        · exact .inr (z ▸ fb)
        · exact .inl z⟩
      have sub : ∀ y ∈ D :: (bs ++ [b]) ++ M, y ∈ b :: (D :: bs ++ M) := fun y hy => by
        simp only [List.cons_append, List.mem_cons, List.mem_append, List.append_assoc, List.nil_append, List.not_mem_nil, or_false] at hy ⊢
        rcases hy with z | z | z | z
        · exact .inr (.inl z)
        · exact .inr (.inr (.inl z))
        · exact .inl z
        · exact .inr (.inr (.inr z))
      have r6 : Row2 c.K (D :: (bs ++ [b]) ++ M) H5 (bs ++ [b]) (rows ++ [q]) := (r5.snoc eb rb).mono (fun _ _ _ e => e) ⟨fun _ _ _ _ e => e, fun y hy => .inl (sub y hy)⟩
      refine ⟨bs.map V.ref, hd5, szMl (by rw [List.length_map, r.len]; exact hl.1), stD t15 (.inr ⟨_, hd5⟩), bs ++ [b], rows ++ [q], by rw [List.map_append]; exact upd_same, fun y hy => ?_, r6.mono (fun b' hb xs e => ?_) ⟨fun x o n nt ex => ?_, fun y hy => .inl hy⟩, hl.2⟩
      · rcases List.mem_append.mp hy with z | z
        · exact hf y z
        · rw [List.mem_singleton.mp z]; exact ⟨fb1, nbD⟩
      · have : b' ≠ D := by
          rcases List.mem_append.mp hb with z | z
          · exact (hf b' z).2
          · rw [List.mem_singleton.mp z]; exact nbD
        rw [upd_ne this]; exact e
      · rw [upd_ne (fun z => n (by simp [z]))]; exact ex
  · rintro H2 ⟨t2, bs, rows, hd, hf, r, hl⟩
    rw [List.drop_eq_nil_of_le (Nat.le_refl _)] at hl
    exact k H2 D bs rows (t1.trans t2) (fD.back s t1) (fun b hb => ⟨(hf b hb).1.back s t1, (hf b hb).2⟩) hd r hl
end
end My
end

section
set_option Elab.async false
set_option maxRecDepth 100000
set_option maxHeartbeats 4000000
set_option linter.all false
namespace My
open PySem L2
section
variable {c c' : Cfg} {M M' M2 : List Addr} {σ σ' σg : L2.St} {H H' H2 : Hp} {ρ ρ' ρg : List SV} {K : PySem.W.Frag} {T : List (Addr × Str)} {E E' : XK} {te tf tg td te1 te2 te3 : TE} {w wa wb wc : WE} {tt tu : TT} {vt vu : WT} {ta tb : TA} {va vb : WA} {ca cb : WC} {i j n : Nat} {p : PV} {v : V} {b : Bool} {ts us tm1 tm2 tr : TS} {ws wu wm1 wm2 wr : WS} {g : TG} {wg : WG} {ss : List Nat}
/-! ### a def that hands out a new list of new lists -/
abbrev WD2 : Type := List SV → (Res (List (List PV)) → Prop) → Prop
structure Rt2 (c : Cfg) (Q : VK) (post : Res (List (List PV)) → Prop) : Prop where
  own2 : ∀ H' a bs rows, Lv c H' → Fresh c.H0 a → (∀ b ∈ bs, Fresh c.H0 b ∧ b ≠ a) → H' a = some (.lst (bs.map V.ref)) → Row2 c.K (a :: bs ++ c.M0) H' bs rows → post (.ok rows) → Q (.ref a) H'
def SpP2 (K : PySem.W.Frag) (T : List (Addr × Str)) (n : Nat) (w : WD2) : Sp := fun vs H Q E => ∃ (c : Cfg) (as : List SV) (post : Res (List (List PV)) → Prop), c.K = K ∧ c.T = T ∧ vs.length = n ∧ Ent c H vs as ∧ w as post ∧ Rt2 c Q post ∧ ErW c E (fun cn fs => post (.er cn fs))
theorem spP2_len {wd : WD2} {N : List Str} {vs : List V} {Q : VK} (h : SpP2 K T n wd vs H Q E) : vs.length = n := by obtain ⟨c, as, post, _, _, h, _⟩ := h; exact h
def outR (post : Res (List (List PV)) → Prop) (f : List SV → Prop) : Out → Prop
  | .nx ρ => f ρ
  | .er cn fs => post (.er cn fs)
  | _ => False
def bodyR (m : Nat) (wa wb : WS) (wr : WR) : WD2 := fun as post => wa (as ++ List.replicate (m - as.length) .un) (outR post fun ρ => wb ρ (outR post fun ρ => wr ρ post))
theorem spP2_run {N : List Str} {vs : List V} {Q : VK} {wr : WR} (hA : EvS K T E ts ws) (hB : EvS K T E us wu) (hR : EvR K T E te wr) (h : SpP2 K T n (bodyR N.length ws wu wr) vs H Q E) : tSeq ts (tSeq us (tRet te)) { nx := fun _ H' => Q .non H', rt := Q } (L2.start N vs) H := by
  obtain ⟨c, as, post, rfl, rfl, hl, e, hw, rt, er⟩ := h
  refine hA c c.M0 (L2.start N vs) H _ (outR post fun ρ => wu ρ (outR post fun ρ => wr ρ post)) _ rfl rfl (ent_st e) hw ⟨fun c' M' σ' H' ρ' x s k h => ?_, fun c' M' σ' H' ρ' x s k h => h.elim, fun c' M' σ' H' ρ' x s k h => h.elim, ⟨fun _ _ _ _ _ h => h.elim, fun _ _ _ _ _ _ _ _ h => h.elim⟩, er⟩
  refine hB c' M' σ' H' ρ' (outR post fun ρ => wr ρ post) _ x.K x.T s h ⟨fun c2 M2 σ2 H2 ρ2 x2 s2 k2 h2 => ?_, fun c' M' σ' H' ρ' x s k h => h.elim, fun c' M' σ' H' ρ' x s k h => h.elim, ⟨fun _ _ _ _ _ h => h.elim, fun _ _ _ _ _ _ _ _ h => h.elim⟩, er.ex x⟩
  have x3 := x.trans x2
  refine hR c2 M2 σ2 H2 ρ2 post Q x3.K x3.T s2 h2 (fun H3 a bs rows t fa fb ea r hp => ?_) (er.ex x3)
  refine rt.own2 H3 a bs rows ((s2.stp t).lv.back x3) (x3.H0 ▸ s2.fresh0 fa) (fun b hb => ⟨x3.H0 ▸ s2.fresh0 (fb b hb).1, (fb b hb).2⟩) ea ?_ hp
  refine r.mono (fun _ _ _ e => e) ⟨fun _ _ _ _ e => e, fun y hy => .inl ?_⟩
  rcases List.mem_append.mp hy with z | z
  · exact List.mem_append_left _ z
  · exact List.mem_append_right _ (s2.sub y (x3.M0 ▸ z))
def noR2 (post : Res (List (List PV)) → Prop) : Res (List (List PV)) → Prop
  | .ok a => post (.ok a)
  | .er _ _ => False
def pCallR0 (wd : WD2) (ds : List PV) (ca : WC) : WR := fun ρ => bindR ca (fun as post => wd (as ++ ds.map .fz) (noR2 post)) ρ
theorem er_call0 {wd : WD2} {dvs : List V} {ds : List PV} (hd : ∀ M H, RepL K M H dvs ds) (hn : j + dvs.length = n) (ha : EvC K T E j ta ca) : EvR K T E (tCall (SpP2 K T n wd) dvs E' ta) (pCallR0 wd ds ca) := by
  rintro c M σ H ρ post Q rfl rfl s hw k e
  refine ha c M σ H ρ _ _ rfl rfl s hw (fun H1 xs as t1 r1 hl h1 => ?_) (e.imp fun _ _ z => z)
  have s1 := s.stp t1
  have r2 := Ent.more r1 hd
  refine ⟨c.sub M H1, as ++ ds.map .fz, noR2 post, rfl, rfl, by rw [List.length_append, hl, hn], s1.ent r2, h1, ⟨fun H' a bs rows l fa fb ea r h => ?_⟩, fun _ _ _ _ _ _ _ _ h => h.elim⟩
  exact k H' a bs rows (t1.trans (s1.left l)) ((show Fresh H1 a from fa).back s t1) (fun b hb => ⟨(show Fresh H1 b from (fb b hb).1).back s t1, (fb b hb).2⟩) ea r h
/-! ### one of its lists is changed, then the list itself; nobody looks at them behind -/
theorem StR.forget (s : StR c M σ H ρ) (i : Nat) : StR c M σ H (ρ.set i .un) where
  fr := s.fr
  dom := s.dom
  sub := s.sub
  mm := s.mm
  d0 := s.d0
  tabs := s.tabs
  bag := s.bag
  len := by simp [s.len]
  slots := fun j u t h1 h2 => by
    by_cases e : i = j
    · subst e
      have hi := (List.getElem?_eq_some_iff.mp h2).1
      rw [List.length_set] at hi
      rw [List.getElem?_set_self hi] at h2
      cases h2; exact .un
    · rw [List.getElem?_set_ne e] at h2
      exact s.slots j u t h1 h2
  uniq := fun j k a t u h1 h2 h3 h4 h5 h6 => by
    have key : ∀ (m : Nat) (t : SV), (ρ.set i .un)[m]? = some t → t.isOwn = true → ρ[m]? = some t := fun m t q1 q2 => by
      by_cases e : i = m
      · subst e
        have hi := (List.getElem?_eq_some_iff.mp q1).1
        rw [List.length_set] at hi
        rw [List.getElem?_set_self hi] at q1
        cases q1; cases q2
      · rw [List.getElem?_set_ne e] at q1; exact q1
    exact s.uniq j k a t u h1 h2 (key j t h3 h5) (key k u h4 h6) h5 h6
theorem StR.mutL (s : StR c M σ H ρ) (no : ∀ q ∈ ρ, q.isOwn = false) {a : Addr} {xs ys : List V} (ha : H a = some (.lst xs)) (hm : a ∈ M) (hb : ∀ x y, c.B = some (x, y) → a ≠ x ∧ a ≠ y) (h0 : Fresh c.H0 a) : StR c M σ (upd H a (.lst ys)) ρ ∧ Nxt M H M (upd H a (.lst ys)) := by
  have ex : Ext M H (upd H a (.lst ys)) := fun x o n _ e => by rw [upd_ne (fun z => n (by rw [z]; exact hm))]; exact e
  refine ⟨⟨fun x o n nt e => ?_, fun y hy => ?_, s.sub, s.mm, s.d0, upd_tabs s.tabs (.inr ⟨_, ha⟩) (.inr ⟨_, ha⟩), fun x y e => ⟨(s.bag x y e).1.mut (hb x y e).1.symm (hb x y e).2.symm, (s.bag x y e).2⟩, s.len, fun j u t e1 e2 => ?_, s.uniq⟩, ex.nxt⟩
  · rw [upd_ne (fun z => h0 o (by rw [← z]; exact e) nt)]; exact s.fr x o n nt e
  · by_cases z : y = a
    · subst z; exact ⟨_, upd_same, NT.lst⟩
    · obtain ⟨o, e, nt⟩ := s.dom y hy
      exact ⟨o, (upd_ne z).trans e, nt⟩
  · have hno := no t (List.mem_of_getElem? e2)
    cases s.slots j u t e1 e2 with
    | un => exact .un
    | fz h => exact .fz (h.ext ex)
    | own _ _ _ _ _ => cases hno
    | bag h => exact .bag h
    | ob _ _ _ _ _ => cases hno
    | scr h => exact .scr (h.nxt ex.nxt)
    | ref => exact .ref
/-- out of the inner state -/
theorem StR.out (sg : StR c M2 σg H2 ρg) (x : CEx (c.sub M2 H2) c') (s : StR c' M' σ H ρ) {q : Addr × Addr} (hB : c.B = some q) (no : ∀ q ∈ ρ, q.isOwn = false) : StR c M' σ H ρ := by
  have hB' : c'.B = c.B := by rw [hB]; exact x.B q hB
  have hm : c'.m = (c.sub M2 H2).m := x.m
  have h0 : c'.H0 = H2 := x.H0
  have hM : c'.M0 = M2 := x.M0
  refine ⟨fun y o n nt e => ?_, s.dom, fun y hy => s.sub y (by rw [hM]; exact sg.sub y hy), sg.mm, sg.d0, x.T ▸ s.tabs, fun a b e => ?_, s.len, fun i o t e1 e2 => ?_, s.uniq⟩
  · refine s.fr y o (fun z => ?_) nt (by rw [h0]; exact sg.fr y o n nt e)
    rw [hm] at z
    obtain ⟨b, eb⟩ := sub_m.mp z
    rcases (sg.bag y b eb).2.2.2 with z | z
    · exact n z
    · exact z o e nt
  · obtain ⟨b1, b2, b3, _⟩ := s.bag a b (by rw [hB']; exact e)
    exact ⟨b1, b2, b3, (sg.bag a b e).2.2.2⟩
  · have hno := no t (List.mem_of_getElem? e2)
    cases s.slots i o t e1 e2 with
    | un => exact .un
    | fz h => exact .fz (x.K ▸ h)
    | own _ _ _ _ _ => cases hno
    | bag h => exact .bag (by rw [← hB']; exact h)
    | ob _ _ _ _ _ => cases hno
    | scr h => exact .scr (x.K ▸ h)
    | ref => exact .ref
/-- s = l[e]; s.append(e1); s[0] = e2; l.append(e3) -/
def tSpoil (K : PySem.W.Frag) (i j : Nat) (td te1 te2 te3 : TE) (tr : TS) : TS := tSeq (tAsg (tOp (rIxL K) (tVar i) td) (gName j)) (tSeq (tDrop (tBM K "list" rAppend (tVar j) (tCons te1 tNil))) (tSeq (tAsg te2 (gSub (tVar j) (tC (.int 0)) rSetL)) (tSeq (tDrop (tBM K "list" rAppend (tVar i) (tCons te3 tNil))) tr)))
/-- a value, whatever the state is -/
def Const (w : WE) : Prop := ∀ ρ (post : Res PV → Prop), (∀ p, post (.ok p)) → w ρ post
def idxR (rows : List (List PV)) (nx : Prop) : PV → Prop
  | .int k => (∃ qs : List PV, L2.atI (rows.map PV.lst) k = some (.lst qs) ∧ 0 < qs.length ∧ qs.length ≤ 1000) ∧ nx
  | _ => False
def wSpoil (rows : List (List PV)) (i j : Nat) (a : Addr) (wd : WE) (wr : WS) (K : Out → Prop) : List SV → Prop := fun ρ =>
  ρ[i]? = some (.ref a) ∧ (∀ s ∈ ρ, s.isOwn = false) ∧ j < ρ.length ∧ j ≠ i ∧ rows.length ≤ 1000 ∧ wd ρ (erO K fun p => idxR rows (wr ((ρ.set j .un).set i .un) K) p)
theorem spoil_run {D : Ends} {post : Out → Prop} {a : Addr} {bs : List Addr} {rows : List (List PV)} {wd w1 w2 w3 : WE} {q : Addr × Addr} (hd : EvE K T E td wd) (h1 : EvE K T E te1 w1) (h2 : EvE K T E te2 w2) (h3 : EvE K T E te3 w3) (k1 : Const w1) (k2 : Const w2) (k3 : Const w3) (eK : c.K = K) (eT : c.T = T)
    (sg : StR c M2 σg H2 ρg) (x : CEx (c.sub M2 H2) c') (s : StR c' M' σ H ρ) (k : Nxt M2 H2 M' H) (hB : c.B = some q) (ea : H2 a = some (.lst (bs.map V.ref))) (r : Row2 c.K M2 H2 bs rows) (hm : ∀ b ∈ a :: bs, b ∈ M2) (hba : ∀ b ∈ bs, b ≠ a) (f0 : ∀ b ∈ a :: bs, Fresh c.H0 b) (nbag : ∀ b ∈ a :: bs, ∀ x y, c.B = some (x, y) → b ≠ x ∧ b ≠ y)
    (hw : wSpoil rows i j a wd wr post ρ) (er : ErW c' E (fun cn fs => post (.er cn fs))) (cont : ∀ H8 σ8 ρ8, StR c M' σ8 H8 ρ8 → Nxt M2 H2 M' H8 → wr ρ8 post → tr D σ8 H8) : tSpoil K i j td te1 te2 te3 tr D σ H := by
  subst eK eT
  obtain ⟨hi, no, hj, hji, hl, hw⟩ := hw
  have hB' : c'.B = c.B := by rw [hB]; exact x.B q hB
  have key : ∀ {b : Addr} {o : HO}, b ∈ a :: bs → NT o → H2 b = some o → H b = some o := fun {b o} hb nt e => s.fr b o (fun z => by
    have z : b ∈ (c.sub M2 H2).m := x.m ▸ z
    obtain ⟨y, ey⟩ := sub_m.mp z
    exact (nbag b hb b y ey).1 rfl) nt (by rw [x.H0]; exact e)
  have nb' : ∀ b ∈ a :: bs, ∀ x y, c'.B = some (x, y) → b ≠ x ∧ b ≠ y := fun b hb x y e => nbag b hb x y (hB' ▸ e)
  obtain ⟨o, e1, e2⟩ := s.get hi
  cases e2
  refine ⟨.ref a, e1, ?_⟩
  refine hd c' M' σ H ρ _ _ x.K x.T s hw (fun H3 y p t3 r3 h => ?_) er
  have h : idxR rows (wr ((ρ.set j .un).set i .un) post) p := h
  cases p with
  | int k' =>
    cases r3
    obtain ⟨⟨qs, hq, q0, q1⟩, hr⟩ := h
    have rr : RepL c.K [] H2 (bs.map V.ref) (rows.map PV.lst) := (r.mono (M' := []) (fun _ _ _ e => e) ⟨fun _ _ _ _ e => e, fun y hy => absurd hy List.not_mem_nil⟩).rep fun _ _ z => absurd z List.not_mem_nil
    obtain ⟨vb, hvb, rb⟩ := rr.atI hq
    obtain ⟨b, xs, rfl, _, hb2, rx⟩ := rb.lstI
    have hbm : b ∈ bs := by
      unfold L2.atI at hvb
      obtain ⟨m, _, hm⟩ := Option.bind_eq_some_iff.mp hvb
      obtain ⟨b', h1, h2⟩ := List.mem_map.mp (List.mem_of_getElem? hm)
      cases h2; exact h1
    have hbm' : b ∈ a :: bs := List.mem_cons_of_mem _ hbm
    have ham' : a ∈ a :: bs := List.mem_cons_self
    have nba := hba b hbm
    have ha3 : H3 a = some (.lst (bs.map V.ref)) := t3.keep a _ (fun x y e => (nb' a ham' x y e).1) NT.lst (key ham' NT.lst ea)
    have hb3 : H3 b = some (.lst xs) := t3.keep b _ (fun x y e => (nb' b hbm' x y e).1) NT.lst (key hbm' NT.lst hb2)
    refine ⟨a, _, k', .ref b, rfl, rfl, SqL.of ha3, hvb, ?_⟩
    have s3 : StR c' M' (σ.set j (some (.ref b))) H3 (ρ.set j (.ref b)) := (s.stp t3).set j .ref rfl
    have hjσ : j < σ.length := by rw [s.len]; exact hj
    have sj : (σ.set j (some (.ref b)))[j]? = some (some (V.ref b)) := List.getElem?_set_self hjσ
    have si : (σ.set j (some (.ref b)))[i]? = some (some (V.ref a)) := by rw [List.getElem?_set_ne hji]; exact e1
    have no2 : ∀ t ∈ ρ.set j (.ref b), t.isOwn = false := fun t ht => by
      rcases List.mem_or_eq_of_mem_set ht with z | z
      · exact no t z
      · rw [z]; rfl
    refine ⟨.ref b, sj, .inl ⟨rfl, xs, SqL.of hb3⟩, ?_⟩
    refine h1 c' M' _ H3 _ (fun r => match r with | .ok _ => True | .er _ _ => False) _ x.K x.T s3 (k1 _ _ fun _ => trivial) (fun H4 x1 p1 t4 r4 _ => ?_) (fun _ _ _ _ _ _ _ _ h => h.elim)
    have hb4 : H4 b = some (.lst xs) := t4.keep b _ (fun x y e => (nb' b hbm' x y e).1) NT.lst hb3
    have ha4 : H4 a = some (.lst (bs.map V.ref)) := t4.keep a _ (fun x y e => (nb' a ham' x y e).1) NT.lst ha3
    refine ⟨b, xs, x1, rfl, rfl, hb4, szMl (by rw [rx.1]; omega), ?_⟩
    have s4 := s3.stp t4
    have sC : StR c M' (σ.set j (some (.ref b))) H4 (ρ.set j (.ref b)) := sg.out x s4 hB no2
    have hbM : b ∈ M' := by
      have := s.sub b (x.M0 ▸ hm b hbm')
      exact this
    have haM : a ∈ M' := by
      have := s.sub a (x.M0 ▸ hm a ham')
      exact this
    obtain ⟨s5, n5⟩ := sC.mutL no2 (ys := xs ++ [x1]) hb4 hbM (nbag b hbm') (f0 b hbm')
    have hl5 : 0 < (xs ++ [x1]).length := by simp
    refine h2 c M' _ _ _ (fun r => match r with | .ok _ => True | .er _ _ => False) _ rfl rfl s5 (k2 _ _ fun _ => trivial) (fun H6 x2 p2 t6 r6 _ => ?_) (fun _ _ _ _ _ _ _ _ h => h.elim)
    have hb6 : H6 b = some (.lst (xs ++ [x1])) := t6.keep b _ (fun x y e => (nbag b hbm' x y e).1) NT.lst upd_same
    have ha6 : H6 a = some (.lst (bs.map V.ref)) := t6.keep a _ (fun x y e => (nbag a ham' x y e).1) NT.lst ((upd_ne nba.symm).trans ha4)
    refine ⟨.ref b, sj, ⟨b, _, 0, 0, rfl, rfl, hb6, ixN_nn (Int.le_refl 0) rfl hl5, ?_⟩⟩
    obtain ⟨s7, n7⟩ := (s5.stp t6).mutL no2 (ys := (xs ++ [x1]).set 0 x2) hb6 hbM (nbag b hbm') (f0 b hbm')
    have ha7 : (upd H6 b (.lst ((xs ++ [x1]).set 0 x2))) a = some (.lst (bs.map V.ref)) := (upd_ne nba.symm).trans ha6
    refine ⟨.ref a, si, .inl ⟨rfl, _, SqL.of ha7⟩, ?_⟩
    refine h3 c M' _ _ _ (fun r => match r with | .ok _ => True | .er _ _ => False) _ rfl rfl s7 (k3 _ _ fun _ => trivial) (fun H8 x3 p3 t8 r8 _ => ?_) (fun _ _ _ _ _ _ _ _ h => h.elim)
    have ha8 : H8 a = some (.lst (bs.map V.ref)) := t8.keep a _ (fun x y e => (nbag a ham' x y e).1) NT.lst ha7
    refine ⟨a, _, x3, rfl, rfl, ha8, szMl (by rw [List.length_map, r.len]; omega), ?_⟩
    obtain ⟨s9, n9⟩ := (s7.stp t8).mutL no2 (ys := bs.map V.ref ++ [x3]) ha8 haM (nbag a ham') (f0 a ham')
    have s10 := (s9.forget j).forget i
    rw [List.set_set] at s10
    have nn : Nxt M' H M' H4 := ⟨fun y o n nt e => (s.stp t3).ext t4 y o n nt ((s.ext t3) y o n nt e), fun y hy => .inl hy⟩
    exact cont _ _ _ s10 (k.trans (nn.trans (n5.trans (((s5.ext t6).nxt).trans (n7.trans (((s7.ext t8).nxt).trans n9)))))) hr
  | _ => exact h.elim
end
end My
end

section
set_option Elab.async false
set_option maxRecDepth 100000
set_option maxHeartbeats 4000000
set_option linter.all false
namespace My
open PySem L2
section
variable {c c' : Cfg} {M M' M2 : List Addr} {σ σ' σg : L2.St} {H H' H2 : Hp} {ρ ρ' ρg : List SV} {K : PySem.W.Frag} {T : List (Addr × Str)} {E E' : XK} {te tf tg td te1 te2 te3 : TE} {w wa wb w1 w2 w3 wd : WE} {tt tu : TT} {vt vu : WT} {i j n : Nat} {p : PV} {v : V} {b : Bool} {ts us tm1 tm2 tr : TS} {ws wu wm1 wm2 wr wm : WS} {wc : WR}
def isoM (rows : List (List PV)) (i j : Nat) (a : Addr) (wd : WE) (wr : WS) (K : Out → Prop) : Out → Prop
  | .nx ρ' => wSpoil rows i j a wd wr K ρ'
  | .rt (.fz p) => K (.rt (.fz p))
  | .er cn fs => K (.er cn fs)
  | _ => False
def isoT (i j : Nat) (vt : WT) (wm : WS) (wd : WE) (wr : WS) (ρ : List SV) (K : Out → Prop) (rows : List (List PV)) : Prop :=
  vt (ρ.set i (.fz (.lst (rows.map PV.lst)))) (erO K fun d => if d = true then K (.rt (.fz (.bl false))) else ∀ a, wm ((ρ.set i (.ref a)).map SV.hide) (isoM rows i j a wd wr K))
def sIso (i j : Nat) (wc : WR) (vt : WT) (wm : WS) (wd : WE) (wr : WS) : WS := fun ρ K => ρ[1]? = some .bag ∧ wc ρ (erO K (isoT i j vt wm wd wr ρ K))
theorem es_iso (hc : EvR K T E te wc) (ht : EvT K T E tt vt) (hm1 : EvS K T E tm1 wm1) (hm2 : EvS K T E tm2 wm2) (hd : EvE K T E td wd) (h1 : EvE K T E te1 w1) (h2 : EvE K T E te2 w2) (h3 : EvE K T E te3 w3) (k1 : Const w1) (k2 : Const w2) (k3 : Const w3) (hr : EvS K T E tr wr) :
    EvS K T E (tSeq (tAsg te (gName i)) (tSeq (tIfS tt (tRet (tC (.bl false))) tNext) (tSeq tm1 (tSeq tm2 (tSeq (tAsg (tOp (rIxL K) (tVar i) td) (gName j)) (tSeq (tDrop (tBM K "list" rAppend (tVar j) (tCons te1 tNil))) (tSeq (tAsg te2 (gSub (tVar j) (tC (.int 0)) rSetL)) (tSeq (tDrop (tBM K "list" rAppend (tVar i) (tCons te3 tNil))) tr)))))))) (sIso i j wc vt (sSeq wm1 wm2) wd wr) := by
  rintro c M σ H ρ post D rfl rfl s hw d
  obtain ⟨hbag, hw⟩ := hw
  obtain ⟨_, _, ob⟩ := s.get hbag
  have hB : ∃ q, c.B = some q := by
    cases ob with
    | bag h => exact ⟨_, h⟩
  obtain ⟨q, hB⟩ := hB
  refine hc c M σ H ρ _ _ rfl rfl s hw (fun H1 a bs rows t1 fa fb ea r hz => ?_) d.er
  have hz : isoT i j vt (sSeq wm1 wm2) wd wr ρ post rows := hz
  unfold isoT at hz
  have s1 := s.stp t1
  have na : a ∉ M := s.notIn fa
  have nb : ∀ b ∈ bs, b ∉ M := fun b hb => s.notIn (fb b hb).1
  have r' : Row2 c.K M H1 bs rows := r.mono (fun _ _ _ e => e) ⟨fun _ _ _ _ e => e, fun y hy => .inl (List.mem_append_right _ hy)⟩
  have rl := r'.rep nb
  have rp : Rep c.K M H1 (.ref a) (.lst (rows.map PV.lst)) := .lst na ea rl.1 rl.2
  have sD : StR c M (σ.set i (some (.ref a))) H1 (ρ.set i (.fz (.lst (rows.map PV.lst)))) := s1.set i (.fz rp) rfl
  refine ht c M _ H1 _ _ _ rfl rfl sD hz (fun H2 b t2 hy => ?_) d.er
  have hy : if b = true then post (.rt (.fz (.bl false))) else ∀ a, sSeq wm1 wm2 ((ρ.set i (.ref a)).map SV.hide) (isoM rows i j a wd wr post) := hy
  cases b with
  | true => exact d.rt.fz H2 _ _ (sD.stp t2).lv (.bl false) hy
  | false =>
    have hy := hy a
    have t12 : Stp c H H2 := t1.trans t2
    have fr : ∀ b ∈ a :: bs, Fresh H b := fun b hb => by
      rcases List.mem_cons.mp hb with z | z
      · rw [z]; exact fa
      · exact (fb b z).1
    have nbag : ∀ b ∈ a :: bs, ∀ x y, c.B = some (x, y) → b ≠ x ∧ b ≠ y := fun b hb x y e => by
      obtain ⟨h, _⟩ := s.bag x y e
      refine ⟨fun z => ?_, fun z => ?_⟩
      · obtain ⟨xs, h1⟩ := h.some
        exact fr b hb _ (z ▸ h1) NT.lst
      · obtain ⟨xs, h1⟩ := bag_cell h
        exact fr b hb _ (z ▸ h1) NT.lst
    have ea2 : H2 a = some (.lst (bs.map V.ref)) := t2.keep a _ (fun x y e => (nbag a List.mem_cons_self x y e).1) NT.lst ea
    have r2 : Row2 c.K (a :: bs ++ M) H2 bs rows := r.mono (fun b hb xs e => t2.keep b _ (fun x y e => (nbag b (List.mem_cons_of_mem _ hb) x y e).1) NT.lst e) ⟨fun x o n nt e => s1.ext t2 x o (fun z => n (List.mem_append_right _ z)) nt e, fun y hy => .inl hy⟩
    obtain ⟨sg, ng⟩ := s.grow t12 (G := a :: bs) (fun b hb => ⟨fr b hb, by
      rcases List.mem_cons.mp hb with z | z
      · exact ⟨_, z ▸ ea2, NT.lst⟩
      · obtain ⟨xs, h⟩ := r2.some z
        exact ⟨_, h, NT.lst⟩⟩)
    have sg' : StR c (a :: bs ++ M) (σ.set i (some (.ref a))) H2 (ρ.set i (.ref a)) := sg.set i .ref rfl
    have dE : ErW (c.sub (a :: bs ++ M) H2) E (fun cn fs => post (.er cn fs)) := sg'.err d.er
    show (tSeq tm1 tm2) { D with nx := tSpoil c.K i j td te1 te2 te3 tr D } _ _
    refine (seq_ok hm1 hm2) (c.sub (a :: bs ++ M) H2) (a :: bs ++ M) _ H2 _ (isoM rows i j a wd wr post) _ rfl rfl sg'.inner hy ⟨fun c' M' σ' H' ρ' x s' k h => ?_, fun c' M' σ' H' ρ' x s' k h => h.elim, fun c' M' σ' H' ρ' x s' k h => h.elim, ⟨fun H' v p l rr h => ?_, fun H' a vs ps l f hx rr h => h.elim⟩, dE⟩
    · refine spoil_run hd h1 h2 h3 k1 k2 k3 rfl rfl sg' x s' k hB ea2 r2 (fun b hb => List.mem_append_left _ hb) (fun b hb => (fb b hb).2) (fun b hb => s.fresh0 (fr b hb)) nbag h (dE.ex x) (fun H8 σ8 ρ8 s8 n8 hw8 => ?_)
      exact hr c M' σ8 H8 ρ8 post D rfl rfl s8 hw8 (d.later (.refl c) (ng.trans n8))
    · exact d.rt.fz H' v p (sg'.stp (sg'.left l)).lv (rr.weak fun y hy => List.mem_append_right _ (s.sub y hy)) h
/-! ### step lemmas -/
theorem q_iso {wc : WR} {K : Out → Prop} (hb : ρ[1]? = some .bag) (h : wc ρ (erO K (isoT i j vt wm wd wr ρ K))) : sIso i j wc vt wm wd wr ρ K := ⟨hb, h⟩
theorem q_callR0 {wd : WD2} {ds : List PV} {ca : WC} {post : Res (List (List PV)) → Prop} (h : ca ρ (bk (fun as post => wd (as ++ ds.map .fz) (noR2 post)) post)) : pCallR0 wd ds ca ρ post := h
theorem const_c : Const (pC p) := fun _ _ k => k p
theorem const_tup2 {a b : PV} : Const (pTup (pCons (pC a) (pCons (pC b) pNil))) := fun _ _ k => ⟨by simp, k _⟩
theorem const_nilF : Const (pFrz (pLst pNil)) := fun _ _ k => ⟨by simp, k _⟩
end
end My
end

section
set_option Elab.async false
set_option maxRecDepth 100000
set_option maxHeartbeats 4000000
set_option linter.all false
namespace My
open PySem L2
section
variable {c : Cfg} {M : List Addr} {σ : L2.St} {H H' : Hp} {ρ : List SV} {K : PySem.W.Frag} {T : List (Addr × Str)} {E E' : XK} {te tf tg : TE} {w wa wb wc : WE} {tt tu : TT} {vt vu : WT} {i j n : Nat} {p : PV} {v : V} {b : Bool} {wd : WD} {ts us : TS} {ws wu : WS} {pE : Res PV → Prop}
/-! ### try: return b / except (..) as e: return y(e) -/
def tellK (et : ErTab) (post : Out → Prop) : Res PV → Prop
  | .ok p => post (.rt (.fz p))
  | .er cn fs => ∃ l, et cn fs = some l ∧ post (.rt (.fz l))
def sTell (et : ErTab) (w : WE) : WS := fun ρ post => w (ρ.map SV.hide) (tellK et post)
theorem es_tell {cs : List Value} {spX : SpX} {et : ErTab} {t : XK → TE} (tx : TellX K cs spX et) (h : ∀ E, EvE K T E (t E) w) : EvS K T E' (tTell K cs spX t) (sTell et w) := by
  rintro c M σ H ρ post D rfl rfl s hw d
  refine ⟨fun cls d' H' => ∃ cn fs l dd vs, cls = .ref (He.ga c.K cn) ∧ d' = some dd ∧ et cn fs = some l ∧ Stp c H H' ∧ H' dd = some (.xd vs) ∧ RepF c.K M H' vs fs ∧ post (.rt (.fz l)), ?_, ?_⟩
  · rintro cls d' H' ⟨cn, fs, l, dd, vs, rfl, rfl, el, t2, hd, rf, hp⟩
    obtain ⟨x2, x3⟩ := tx cn fs l el
    have s3 := s.stp t2
    refine ⟨x2, fun a ha => x3 M H' a dd vs D.rt s3.dom hd rf ha fun H2 x sm r => ?_⟩
    exact d.rt.fz H2 x l (s3.stp (Stp.sameR s3 sm)).lv (r.weak s.sub) hp
  · refine h _ (c.sub M H) M σ H _ (tellK et post) _ rfl rfl s.inner hw (fun H2 x p t2 r h2 => ?_) (fun H' cn fs dd vs l hd rf h2 => ?_)
    · have t3 : Stp c H H2 := s.left (s.inner.stp t2).lv
      exact d.rt.fz H2 x p (s.stp t3).lv (r.weak s.sub) h2
    · obtain ⟨l', h3, h4⟩ := h2
      exact ⟨cn, fs, l', dd, vs, rfl, rfl, h3, s.left l, hd, rf, h4⟩
/-! ### the type of a value: isinstance of an own class, == by an own __eq__ -/
inductive TN where
  | b (s : String) | o (c : Str)
def tnP : PV → TN
  | .non => .b "NoneType"
  | .bl _ => .b "bool"
  | .int _ => .b "int"
  | .str _ => .b "str"
  | .lst _ => .b "list"
  | .tup _ => .b "tuple"
  | .obj c _ => .o c
def tnV (K : PySem.W.Frag) : TN → Value
  | .b s => .type s
  | .o c => .ref (He.ga K c)
/-- what isinstance asks of an own class -/
structure OwnT (K : PySem.W.Frag) (c : Str) : Prop where
  cl : Cls K (He.ga K c)
  ha : PySem.W.findIn K (.ref (He.ga K c)) "__class__" = some (some (.builtin "object.__class__"))
  hn : PySem.W.specialIn K (.builtin "object.__class__") "__get__" = some (some (.builtin "getset_descriptor.__get__"))
  htk : PySem.W.takesIn K (.builtin "object.__class__") = some true
  hm : PySem.W.mroIn K (He.ga K c) (.type "object") = some true
theorem Bor.tn (s : StR c M σ H ρ) (h : Bor c M H v p) (own : ∀ x, tnP p = .o x → OwnT c.K x) : TyX c.K H v (tnV c.K (tnP p)) := by
  cases p with
  | obj x fs =>
    cases h with
    | rep h =>
      cases h with
      | obj hm h hn hi =>
        have o := own x rfl
        exact .base (.ins h o.cl o.ha o.hn o.htk o.hm)
  | non => exact h.ty s rfl
  | bl b => exact h.ty s rfl
  | int i => exact h.ty s rfl
  | str z => exact h.ty s rfl
  | lst ps => exact h.ty s rfl
  | tup ps => exact h.ty s rfl
structure IsC (K : PySem.W.Frag) (C : Str) (tab : TN → Option Bool) : Prop where
  at_ : ∀ t d, tab t = some d → PySem.W.kitOne K (tnV K t) (.ref (He.ga K C)) = some d
  own : ∀ x d, tab (.o x) = some d → OwnT K x
def isCK (tab : TN → Option Bool) : PV → (Res PV → Prop) → Prop := fun a post => match tab (tnP a) with
  | some d => post (.ok (.bl d))
  | none => False
def pIsC (tab : TN → Option Bool) (w : WE) : WE := fun ρ => bindR w (isCK tab) ρ
theorem ev_isC {C : Str} {tab : TN → Option Bool} (F : IsC K C tab) (h : EvB K T E te w) : EvE K T E (tCB (rIsi K) (tCons te (tCons (tC (.ref (He.ga K C))) tNil))) (pIsC tab w) := by
  rintro c M σ H ρ post Q rfl rfl s hw k e
  refine h c M σ H ρ _ _ rfl rfl s hw (fun H1 x p t1 r1 h1 => ?_) (e.imp fun _ _ z => z)
  have h1 : isCK tab p post := h1
  unfold isCK at h1
  split at h1
  · rename_i d hd
    exact x_isi (ClsV.own _) (r1.tn (s.stp t1) fun x hx => F.own x d (hx ▸ hd)) (F.at_ _ d hd) (k H1 _ _ t1 (.bl _) h1)
  · exact h1.elim
theorem q_isC {tab : TN → Option Bool} (h : w ρ (bk (isCK tab) pE)) : pIsC tab w ρ pE := h
theorem isCK_ok {tab : TN → Option Bool} {d : Bool} (e : tab (tnP p) = some d) (h : pE (.ok (.bl d))) : isCK tab p pE := by unfold isCK; rw [e]; exact h
structure EqC (K : PySem.W.Frag) (C : Str) (tab : TN → Bool) : Prop where
  nf : ∀ t, tab t = true → PySem.W.notFirst K (He.ga K C) (tnV K t) = true ∧ (t = .b "str" ∨ ∃ x, t = .o x)
def onlyB (post : Res PV → Prop) : Res PV → Prop
  | .ok (.bl d) => post (.ok (.bl d))
  | _ => False
def eqOK2 (C : Str) (tab : TN → Bool) (wd : WD) (a : PV) : PV → (Res PV → Prop) → Prop := fun b post => (∃ fs, a = .obj C fs) ∧ tab (tnP b) = true ∧ wd [.fz a, .fz b] (frzR (onlyB post))
def pEqO (C : Str) (tab : TN → Bool) (wd : WD) (wa wb : WE) : WE := fun ρ => bindR wa (fun a => bindR wb (eqOK2 C tab wd a) ρ) ρ
theorem ev_eqO {C : Str} {tab : TN → Bool} (F : EqC K C tab) (ha : EvE K T E te wa) (hb : EvE K T E tf wb) : EvE K T E (tOp (rEqO K (He.ga K C) (SpP K T 2 wd) E0) te tf) (pEqO C tab wd wa wb) := by
  rintro c M σ H ρ post Q rfl rfl s hw k e
  refine ha c M σ H ρ _ _ rfl rfl s hw (fun H1 x a t1 r1 h1 => ?_) (e.imp fun _ _ z => z)
  have s1 := s.stp t1
  refine hb c M σ H1 ρ _ _ rfl rfl s1 h1 (fun H2 y b t2 r2 h2 => ?_) (e.imp fun _ _ z => z)
  have s2 := s1.stp t2
  obtain ⟨⟨fs, rfl⟩, ht, h2⟩ := h2
  have r1 := s1.rep t2 r1
  have r1' := r1
  cases r1 with
  | obj hm h hn hi =>
    obtain ⟨z1, z2⟩ := F.nf _ ht
    have te : TyE H2 y (tnV c.K (tnP b)) := by
      cases b with
      | str z => cases r2; exact .str z
      | obj x gs => cases r2 with | obj hm h hn hi => exact .ins h
      | non => rcases z2 with z | ⟨x, z⟩; exact absurd (TN.b.inj z) (by decide); cases z
      | bl b => rcases z2 with z | ⟨x, z⟩; exact absurd (TN.b.inj z) (by decide); cases z
      | int b => rcases z2 with z | ⟨x, z⟩; exact absurd (TN.b.inj z) (by decide); cases z
      | lst b => rcases z2 with z | ⟨x, z⟩; exact absurd (TN.b.inj z) (by decide); cases z
      | tup b => rcases z2 with z | ⟨x, z⟩; exact absurd (TN.b.inj z) (by decide); cases z
    refine ⟨_, _, _, _, rfl, h, te, z1, ?_⟩
    refine call_fz s2 (ArR.cons (.fz r1') rfl (ArR.cons (.fz r2) rfl .nil)) rfl h2 (fun H' x p t r h => ?_) (fun _ _ _ _ _ _ _ _ h => h.elim)
    cases p with
    | bl d => cases r; exact ⟨⟨d, rfl⟩, k H' _ _ (t1.trans (t2.trans t)) (.bl d) h⟩
    | _ => exact h.elim
theorem q_eqO {C : Str} {tab : TN → Bool} (h : wa ρ (bk (fun a => bindR wb (eqOK2 C tab wd a) ρ) pE)) : pEqO C tab wd wa wb ρ pE := h
theorem eqOK2_ok {C : Str} {tab : TN → Bool} {fs : List (Str × PV)} {b : PV} (ht : tab (tnP b) = true) (h : wd [.fz (.obj C fs), .fz b] (frzR (onlyB pE))) : eqOK2 C tab wd (.obj C fs) b pE := ⟨⟨fs, rfl⟩, ht, h⟩
theorem onlyB_ok {d : Bool} (h : pE (.ok (.bl d))) : onlyB pE (.ok (.bl d)) := h
/-! ### a < b < c -/
def chK (q' : PV → PV → (Res PV → Prop) → Prop) (wc : WE) (ρ : List SV) (b : PV) (post : Res PV → Prop) : Res PV → Prop
  | .ok (.bl d) => if d = true then wc ρ (bk (fun e => q' b e) post) else post (.ok (.bl false))
  | _ => False
def pChain (q q' : PV → PV → (Res PV → Prop) → Prop) (wa wb wc : WE) : WE := fun ρ => bindR wa (fun a => bindR wb (fun b post => q a b (chK q' wc ρ b post)) ρ) ρ
theorem ev_chain {r r' : R2} {q q' : PV → PV → (Res PV → Prop) → Prop} (h : VOp K r q) (h' : VOp K r' q') (ha : EvE K T E te wa) (hb : EvE K T E tf wb) (hc : EvE K T E tg wc) : EvE K T E (tChain r r' te tf tg) (pChain q q' wa wb wc) := by
  rintro c M σ H ρ post Q rfl rfl s hw k e
  refine ha c M σ H ρ _ _ rfl rfl s hw (fun H1 x a t1 r1 h1 => ?_) (e.imp fun _ _ z => z)
  have s1 := s.stp t1
  refine hb c M σ H1 ρ _ _ rfl rfl s1 h1 (fun H2 y b t2 r2 h2 => ?_) (e.imp fun _ _ z => z)
  have s2 := s1.stp t2
  refine h c M σ H2 ρ x y a b _ _ rfl s2 (.rep (s1.rep t2 r1)) (.rep r2) h2 (fun H3 z p t3 r3 h3 => ?_)
  have s3 := s2.stp t3
  have t123 := t1.trans (t2.trans t3)
  cases p with
  | bl d =>
    cases r3
    refine ⟨d, rfl, ?_⟩
    cases d with
    | false => exact k H3 _ _ t123 (.bl false) h3
    | true =>
      have h3 : wc ρ _ := h3
      refine hc c M σ H3 ρ _ _ rfl rfl s3 h3 (fun H4 u e t4 r4 h4 => ?_) (e.imp fun _ _ z => z)
      exact h' c M σ H4 ρ y u b e _ _ rfl (s3.stp t4) (.rep (s3.rep t4 (s2.rep t3 r2))) (.rep r4) h4 fun H5 w p t5 r5 h5 => k H5 w p (t123.trans (t4.trans t5)) r5 h5
  | _ => exact h3.elim
theorem q_chain {q q' : PV → PV → (Res PV → Prop) → Prop} (h : wa ρ (bk (fun a => bindR wb (fun b post => q a b (chK q' wc ρ b post)) ρ) pE)) : pChain q q' wa wb wc ρ pE := h
/-! ### text.find(x) -/
def findK2 (x : Str) : PV → (Res PV → Prop) → Prop := fun b post => match b with
  | .str y => post (.ok (.int (Txt.find x y)))
  | _ => False
def findK (ρ : List SV) (wb : WE) : PV → (Res PV → Prop) → Prop := fun a post => match a with
  | .str x => bindR wb (findK2 x) ρ post
  | _ => False
def pFind (wa wb : WE) : WE := fun ρ => bindR wa (findK ρ wb) ρ
theorem q_find (h : wa ρ (bk (findK ρ wb) pE)) : pFind wa wb ρ pE := h
theorem findK_ok {x : Str} (h : wb ρ (bk (findK2 x) pE)) : findK ρ wb (.str x) pE := h
theorem findK2_ok {x y : Str} (h : pE (.ok (.int (Txt.find x y)))) : findK2 x (.str y) pE := h
theorem ev_find (ha : EvE K T E te wa) (hb : EvE K T E tf wb) : EvE K T E (tM1 rFind te tf) (pFind wa wb) := by
  rintro c M σ H ρ post Q rfl rfl s hw k e
  refine ha c M σ H ρ _ _ rfl rfl s hw (fun H1 x a t1 r1 h1 => ?_) (e.imp fun _ _ z => z)
  have s1 := s.stp t1
  have h1 : findK ρ wb a post := h1
  cases a with
  | str x =>
    cases r1
    refine ⟨⟨_, rfl⟩, ?_⟩
    refine hb c M σ H1 ρ _ _ rfl rfl s1 h1 (fun H2 y b t2 r2 h2 => ?_) (e.imp fun _ _ z => z)
    have h2 : findK2 x b post := h2
    cases b with
    | str y => cases r2; exact ⟨_, _, rfl, rfl, k H2 _ _ (t1.trans t2) (.int _) h2⟩
    | _ => exact h2.elim
  | _ => exact h1.elim
end
end My
end

section
set_option Elab.async false
set_option maxRecDepth 100000
set_option maxHeartbeats 4000000
set_option linter.all false
namespace My
open PySem L2
def top (i : Nat) : Stmt := PySem.Challenge.pw_buriedsure_k01_worlds_told.main.body.getD i (.Pass ⟨0, 0, 0, 0⟩)
abbrev s__wall : Stmt := top 0
abbrev s_BadRota___init__ : Stmt := inClass (top 2) 0
abbrev s_BadWorld___init__ : Stmt := inClass (top 3) 0
abbrev s_BadTree___init__ : Stmt := inClass (top 4) 0
abbrev s_BadPlay___init__ : Stmt := inClass (top 5) 0
abbrev s_BadBook___init__ : Stmt := inClass (top 6) 0
abbrev s_BadCourse___init__ : Stmt := inClass (top 7) 0
abbrev s_BadDie___init__ : Stmt := inClass (top 8) 0
abbrev s_BadMill___init__ : Stmt := inClass (top 9) 0
abbrev s_BadRoster___init__ : Stmt := inClass (top 10) 0
abbrev s_BadScript___init__ : Stmt := inClass (top 11) 0
abbrev s_NoTree___init__ : Stmt := inClass (top 12) 0
abbrev s_OutOf___init__ : Stmt := inClass (top 13) 0
abbrev s_TooMany___init__ : Stmt := inClass (top 14) 0
abbrev s_NoSuch___init__ : Stmt := inClass (top 15) 0
abbrev s_Ended___init__ : Stmt := inClass (top 16) 0
abbrev s_true_hands : Stmt := top 23
abbrev s_has_false_hand : Stmt := top 24
abbrev s_hands_at : Stmt := top 25
abbrev s_first_strange : Stmt := top 26
abbrev s_rota_fault : Stmt := top 27
abbrev s_letters_of_text : Stmt := top 28
abbrev s_text_of_letters : Stmt := top 29
abbrev s_check_length : Stmt := top 32
abbrev s_Rota___init__ : Stmt := inClass (top 37) 0
abbrev s_Rota_letter : Stmt := inClass (top 37) 1
abbrev s_Rota_hands : Stmt := inClass (top 37) 2
abbrev s_Rota_first : Stmt := inClass (top 37) 3
abbrev s_Rota_true_slots : Stmt := inClass (top 37) 4
abbrev s_Rota_false_slots : Stmt := inClass (top 37) 5
abbrev s_Rota___add__ : Stmt := inClass (top 37) 6
abbrev s_Rota___eq__ : Stmt := inClass (top 37) 7
abbrev s_Rota___len__ : Stmt := inClass (top 37) 8
abbrev s_time_of : Stmt := top 38
abbrev s_world_words : Stmt := top 39
abbrev s_World___init__ : Stmt := inClass (top 40) 0
abbrev s_World_of : Stmt := inClass (top 40) 1
abbrev s_World___eq__ : Stmt := inClass (top 40) 2
abbrev s__law_bag : Stmt := top 42
abbrev s__law_draw : Stmt := top 43
abbrev s__law_of : Stmt := top 44
abbrev s__law_like : Stmt := top 45
abbrev s__law_why : Stmt := top 46
abbrev s__law_error : Stmt := top 47
abbrev s__law_texts : Stmt := top 48
abbrev s__law_bent : Stmt := top 49
abbrev s__law_plain : Stmt := top 50
abbrev s__law_read : Stmt := top 51
abbrev s__law_put : Stmt := top 52
abbrev s__law_due : Stmt := top 53
abbrev s_law : Stmt := top 54
abbrev s__law_ofS : Stmt := top 44
abbrev s__law_like0 : Stmt := top 45
abbrev s__law_like1 : Stmt := top 45
abbrev s__law_likeZ : Stmt := top 45
abbrev N__law_texts : List Str := []
abbrev P__law_texts : List Str := []
theorem sc__law_texts : FnScope N__law_texts P__law_texts (defScope s__law_texts) := ⟨rfl, rfl, rfl, by decide +kernel, rfl, by decide +kernel, by decide +kernel⟩
abbrev N__law_draw : List Str := ["bag", "size", "item", "digit"]
abbrev P__law_draw : List Str := ["bag", "size"]
theorem sc__law_draw : FnScope N__law_draw P__law_draw (defScope s__law_draw) := ⟨rfl, rfl, rfl, by decide +kernel, rfl, by decide +kernel, by decide +kernel⟩
abbrev N__law_of : List Str := ["bag", "things"]
abbrev P__law_of : List Str := ["bag", "things"]
theorem sc__law_of : FnScope N__law_of P__law_of (defScope s__law_of) := ⟨rfl, rfl, rfl, by decide +kernel, rfl, by decide +kernel, by decide +kernel⟩
abbrev N__law_ofS : List Str := ["bag", "things"]
abbrev P__law_ofS : List Str := ["bag", "things"]
theorem sc__law_ofS : FnScope N__law_ofS P__law_ofS (defScope s__law_ofS) := ⟨rfl, rfl, rfl, by decide +kernel, rfl, by decide +kernel, by decide +kernel⟩
abbrev N__law_bent : List Str := ["bag", "text", "pick", "spot", "sign"]
abbrev P__law_bent : List Str := ["bag", "text"]
theorem sc__law_bent : FnScope N__law_bent P__law_bent (defScope s__law_bent) := ⟨rfl, rfl, rfl, by decide +kernel, rfl, by decide +kernel, by decide +kernel⟩
abbrev N__law_like0 : List Str := ["told", "due", "k"]
abbrev P__law_like0 : List Str := ["told", "due"]
theorem sc__law_like0 : FnScope N__law_like0 P__law_like0 (defScope s__law_like0) := ⟨rfl, rfl, rfl, by decide +kernel, rfl, by decide +kernel, by decide +kernel⟩
abbrev N__law_like1 : List Str := ["told", "due", "k"]
abbrev P__law_like1 : List Str := ["told", "due"]
theorem sc__law_like1 : FnScope N__law_like1 P__law_like1 (defScope s__law_like1) := ⟨rfl, rfl, rfl, by decide +kernel, rfl, by decide +kernel, by decide +kernel⟩
abbrev N__law_plain : List Str := ["world"]
abbrev P__law_plain : List Str := ["world"]
theorem sc__law_plain : FnScope N__law_plain P__law_plain (defScope s__law_plain) := ⟨rfl, rfl, rfl, by decide +kernel, rfl, by decide +kernel, by decide +kernel⟩
abbrev N_check_length : List Str := ["text"]
abbrev P_check_length : List Str := ["text"]
theorem sc_check_length : FnScope N_check_length P_check_length (defScope s_check_length) := ⟨rfl, rfl, rfl, by decide +kernel, rfl, by decide +kernel, by decide +kernel⟩
abbrev N_world_words : List Str := ["text", "words"]
abbrev P_world_words : List Str := ["text"]
theorem sc_world_words : FnScope N_world_words P_world_words (defScope s_world_words) := ⟨rfl, rfl, rfl, by decide +kernel, rfl, by decide +kernel, by decide +kernel⟩
abbrev N_World___init__ : List Str := ["self", "text", "parts"]
abbrev P_World___init__ : List Str := ["self", "text"]
theorem sc_World___init__ : FnScope N_World___init__ P_World___init__ (defScope s_World___init__) := ⟨rfl, rfl, rfl, by decide +kernel, rfl, by decide +kernel, by decide +kernel⟩
abbrev N__law_read : List Str := ["text", "e"]
abbrev P__law_read : List Str := ["text"]
theorem sc__law_read : FnScope N__law_read P__law_read (defScope s__law_read) := ⟨rfl, rfl, rfl, by decide +kernel, rfl, by decide +kernel, by decide +kernel⟩
abbrev N__law_due : List Str := ["kind", "late"]
abbrev P__law_due : List Str := ["kind", "late"]
theorem sc__law_due : FnScope N__law_due P__law_due (defScope s__law_due) := ⟨rfl, rfl, rfl, by decide +kernel, rfl, by decide +kernel, by decide +kernel⟩
abbrev N_World_of : List Str := ["kind", "late"]
abbrev P_World_of : List Str := ["kind", "late"]
theorem sc_World_of : FnScope N_World_of P_World_of (defScope s_World_of) := ⟨rfl, rfl, rfl, by decide +kernel, rfl, by decide +kernel, by decide +kernel⟩
abbrev N__law_put : List Str := ["kind", "late", "e"]
abbrev P__law_put : List Str := ["kind", "late"]
theorem sc__law_put : FnScope N__law_put P__law_put (defScope s__law_put) := ⟨rfl, rfl, rfl, by decide +kernel, rfl, by decide +kernel, by decide +kernel⟩
abbrev N_World___eq__ : List Str := ["self", "other"]
abbrev P_World___eq__ : List Str := ["self", "other"]
theorem sc_World___eq__ : FnScope N_World___eq__ P_World___eq__ (defScope s_World___eq__) := ⟨rfl, rfl, rfl, by decide +kernel, rfl, by decide +kernel, by decide +kernel⟩
abbrev N_first_strange : List Str := ["text", "at", "char"]
abbrev P_first_strange : List Str := ["text"]
theorem sc_first_strange : FnScope N_first_strange P_first_strange (defScope s_first_strange) := ⟨rfl, rfl, rfl, by decide +kernel, rfl, by decide +kernel, by decide +kernel⟩
abbrev N_rota_fault : List Str := ["text"]
abbrev P_rota_fault : List Str := ["text"]
theorem sc_rota_fault : FnScope N_rota_fault P_rota_fault (defScope s_rota_fault) := ⟨rfl, rfl, rfl, by decide +kernel, rfl, by decide +kernel, by decide +kernel⟩
abbrev N_letters_of_text : List Str := ["text"]
abbrev P_letters_of_text : List Str := ["text"]
theorem sc_letters_of_text : FnScope N_letters_of_text P_letters_of_text (defScope s_letters_of_text) := ⟨rfl, rfl, rfl, by decide +kernel, rfl, by decide +kernel, by decide +kernel⟩
abbrev N_Rota___init__ : List Str := ["self", "text", "at", "letters"]
abbrev P_Rota___init__ : List Str := ["self", "text"]
theorem sc_Rota___init__ : FnScope N_Rota___init__ P_Rota___init__ (defScope s_Rota___init__) := ⟨rfl, rfl, rfl, by decide +kernel, rfl, by decide +kernel, by decide +kernel⟩
abbrev N_Rota___eq__ : List Str := ["self", "other"]
abbrev P_Rota___eq__ : List Str := ["self", "other"]
theorem sc_Rota___eq__ : FnScope N_Rota___eq__ P_Rota___eq__ (defScope s_Rota___eq__) := ⟨rfl, rfl, rfl, by decide +kernel, rfl, by decide +kernel, by decide +kernel⟩
abbrev N_law : List Str := ["script", "bag", "texts", "turn", "text", "bend", "due", "kind", "late", "one", "two", "i", "j", "rota"]
abbrev P_law : List Str := ["script"]
theorem sc_law : FnScope N_law P_law (defScope s_law) := ⟨rfl, rfl, rfl, by decide +kernel, rfl, by decide +kernel, by decide +kernel⟩
abbrev N__law_bag : List Str := ["script", "mixed", "item"]
abbrev P__law_bag : List Str := ["script"]
theorem sc__law_bag : FnScope N__law_bag P__law_bag (defScope s__law_bag) := ⟨rfl, rfl, rfl, by decide +kernel, rfl, by decide +kernel, by decide +kernel⟩
def attrs : List (Str × Str) := [("Rota", "letters"), ("Rota", "text"), ("World", "kind"), ("World", "late"), ("World", "text")]
def tabI (C : Str) : TN → Option Bool
  | .b s => if s = "str" then some false else none
  | .o c => if c = C then some true else if c = "World" ∨ c = "Rota" then some false else none
def tabE : TN → Bool
  | .b s => decide (s = "str")
  | .o c => decide (c = "World" ∨ c = "Rota")
structure KT (K : PySem.W.Frag) : Prop where
  kinds : ∀ M H, Rep K M H (.ref (He.ga K "KINDS")) (.tup [.str "many", .str "once"])
  lates : ∀ M H, Rep K M H (.ref (He.ga K "LATENESSES")) (.tup [.str "0", .str "1", .str "2", .str "3", .str "4"])
  isWorld : IsC K "World" (tabI "World")
  isRota : IsC K "Rota" (tabI "Rota")
  eqWorld : EqC K "World" tabE
  eqRota : EqC K "Rota" tabE
def okP1 (k : Nat) : List PV → Prop := fun ps => ∃ x : Str, ps = [.str x] ∧ x.length ≤ k
def okV1 (k : Nat) : List V → Prop := fun ps => ∃ x : Str, ps = [.str x] ∧ x.length ≤ k
theorem ok1_P : ∀ {K : PySem.W.Frag} M H xs ps, RepL K M H xs ps → okP1 100 ps → okV1 100 xs := by
  rintro K M H xs ps r ⟨x, rfl, h⟩
  match xs, r with
  | [v], r => have := r.head; cases this; exact ⟨x, rfl, h⟩
  | [], r => cases r.1
  | _ :: _ :: _, r => cases r.1
def d_BadWorld : SupD := ⟨"BadWorld", "BadWorld.__init__", defArgs s_BadWorld___init__, defBody s_BadWorld___init__, defScope s_BadWorld___init__⟩
abbrev N_BadWorld : List Str := ["self", "why", "__class__"]
abbrev P_BadWorld : List Str := ["self", "why"]
def nm_BadWorld : List Str := ["why"]
theorem ok_BadWorld_P : ∀ {K : PySem.W.Frag} M H xs ps, RepL K M H xs ps → okP1 100 ps → okV1 100 xs := ok1_P
abbrev sp_BadWorld (K : PySem.W.Frag) : Sp := sp_err K "BadWorld" nm_BadWorld (okV1 100)
def Tb (K : PySem.W.Frag) : List (Addr × Str) := []
abbrev NMS : List Str := ["BadWorld", "BadRota", "TooMany", "OutOf", "NoTree", "NoSuch", "Ended"]
def csE (K : PySem.W.Frag) : List Value := NMS.map fun n => .ref (He.ga K n)
def spX__law_error (K : PySem.W.Frag) : SpX := fun a cls d vs H Q _ => vs = [.ref a] ∧ ∃ (dd : Addr) (x : Str), d = some dd ∧ cls = .ref (He.ga K "BadWorld") ∧ x ≠ "" ∧ H dd = some (.xd [("why", .str x)]) ∧
  ∀ H' l, H l = none → Same H H' → H' l = some (.lst [.str "BadWorld"]) → Q (.ref l) H'
def erTab : ErTab := fun cn fs => if cn = "BadWorld" then match fs with
  | [(_, .str x)] => if fs.map Prod.fst = (["why"] : List Str) ∧ x ≠ "" then some (.lst [.str "BadWorld"]) else none
  | _ => none else none
def w__law_likeZ : WD := fun _ _ => False
abbrev sp__law_likeZ (K : PySem.W.Frag) : Sp := SpP K (Tb K) 2 w__law_likeZ
abbrev TX (K : PySem.W.Frag) : Prop := TellX K (csE K) (spX__law_error K) erTab

/-! _law_texts -/
def s_v__law_texts : WS := (sRetO (pLst (pCons (pC (.str "many 0")) (pCons (pC (.str "many 1")) (pCons (pC (.str "many 2")) (pCons (pC (.str "many 3")) (pCons (pC (.str "many 4")) (pCons (pC (.str "once 0")) (pCons (pC (.str "once 1")) (pCons (pC (.str "once 2")) (pCons (pC (.str "once 3")) (pCons (pC (.str "once 4")) pNil))))))))))))
def w__law_texts : WD := bodyW N__law_texts.length s_v__law_texts
abbrev sp__law_texts (K : PySem.W.Frag) : Sp := SpP K (Tb K) 0 w__law_texts
def r__law_texts (K : PySem.W.Frag) (E : XK) : TS := (tRet (tLst (tCons (tC (.str "many 0")) (tCons (tC (.str "many 1")) (tCons (tC (.str "many 2")) (tCons (tC (.str "many 3")) (tCons (tC (.str "many 4")) (tCons (tC (.str "once 0")) (tCons (tC (.str "once 1")) (tCons (tC (.str "once 2")) (tCons (tC (.str "once 3")) (tCons (tC (.str "once 4")) tNil))))))))))))
theorem v__law_texts {K : PySem.W.Frag} {E : XK} (kt : KT K) (ka : KAt K attrs) (tx : TX K) : EvS K (Tb K) E (r__law_texts K E) s_v__law_texts := (es_retO (eo_lst (ea_cons ev_str (ea_cons ev_str (ea_cons ev_str (ea_cons ev_str (ea_cons ev_str (ea_cons ev_str (ea_cons ev_str (ea_cons ev_str (ea_cons ev_str (ea_cons ev_str ea_nil))))))))))))
/-! _law_draw -/
def w__law_draw : WD := wDraw
abbrev sp__law_draw (K : PySem.W.Frag) : Sp := SpP K (Tb K) 2 w__law_draw
/-! _law_of -/
def s_v__law_of : WS := (sRet (pOp qIxL (pVar 1) (pCall w__law_draw [] (cpBag 0 (cpCons (pLen (pVar 1)) cpNil)))))
def w__law_of : WD := bodyW N__law_of.length s_v__law_of
abbrev sp__law_of (K : PySem.W.Frag) : Sp := SpP K (Tb K) 2 w__law_of
def r__law_of (K : PySem.W.Frag) (E : XK) : TS := (tRet (tOp (rIxL K) (tVar 1) (tCall (sp__law_draw K) [] E (tCons (tVar 0) (tCons (tCB (bLen K) (tCons (tVar 1) tNil)) tNil)))))
theorem v__law_of {K : PySem.W.Frag} {E : XK} (kt : KT K) (ka : KAt K attrs) (tx : TX K) : EvS K (Tb K) E (r__law_of K E) s_v__law_of := (es_ret (ev_op v_IxL (EvE.b ev_var) (EvE.b (ev_call (fun _ _ => .nil) rfl (ec_bag (ec_cons (ev_len (EvE.b ev_var)) ec_nil))))))
/-! _law_ofS -/
def s_v__law_ofS : WS := (sRet (pOp qItemS (pVar 1) (pCall w__law_draw [] (cpBag 0 (cpCons (p1 qLenS (pVar 1)) cpNil)))))
def w__law_ofS : WD := bodyW N__law_ofS.length s_v__law_ofS
abbrev sp__law_ofS (K : PySem.W.Frag) : Sp := SpP K (Tb K) 2 w__law_ofS
def r__law_ofS (K : PySem.W.Frag) (E : XK) : TS := (tRet (tOp rItemS (tVar 1) (tCall (sp__law_draw K) [] E (tCons (tVar 0) (tCons (tCB bLenS (tCons (tVar 1) tNil)) tNil)))))
theorem v__law_ofS {K : PySem.W.Frag} {E : XK} (kt : KT K) (ka : KAt K attrs) (tx : TX K) : EvS K (Tb K) E (r__law_ofS K E) s_v__law_ofS := (es_ret (ev_op v_ItemS (EvE.b ev_var) (EvE.b (ev_call (fun _ _ => .nil) rfl (ec_bag (ec_cons (ev_lenS ev_var) ec_nil))))))
/-! _law_bent -/
def s_v__law_bent : WS := (sSeq (sAsg (pCall w__law_draw [] (cpBag 0 (cpCons (pC (.int 5)) cpNil))) (gpName 2))
  (sSeq (sAsg (pCall w__law_draw [] (cpBag 0 (cpCons (pOp qPlus (p1 qLenS (pVar 1)) (pC (.int 1))) cpNil))) (gpName 3))
  (sSeq (sAsg (pCall w__law_ofS [] (cpBag 0 (cpCons (pC (.str "0123456789 manyoce-+MO\n\n  01234_.,x5")) cpNil))) (gpName 4))
  (sSeq (sIf (pTest (pOp qEq (pVar 2) (pC (.int 0)))) (sRet (pOp qAddS (pSlS (pVar 1) pNoPart (pPart (pVar 3))) (pSlS (pVar 1) (pPart (pOp qPlus (pVar 3) (pC (.int 1)))) pNoPart))) sNext)
  (sSeq (sIf (pTest (pOp qEq (pVar 2) (pC (.int 1)))) (sRet (pOp qAddS (pOp qAddS (pSlS (pVar 1) pNoPart (pPart (pVar 3))) (pVar 4)) (pSlS (pVar 1) (pPart (pVar 3)) pNoPart))) sNext)
  (sSeq (sIf (pTest (pOp qEq (pVar 2) (pC (.int 2)))) (sRet (pOp qAddS (pVar 1) (pVar 4))) sNext)
  (sRet (pOp qAddS (pOp qAddS (pSlS (pVar 1) pNoPart (pPart (pVar 3))) (pVar 4)) (pSlS (pVar 1) (pPart (pOp qPlus (pVar 3) (pC (.int 1)))) pNoPart)))))))))
def w__law_bent : WD := bodyW N__law_bent.length s_v__law_bent
abbrev sp__law_bent (K : PySem.W.Frag) : Sp := SpP K (Tb K) 2 w__law_bent
def r__law_bent (K : PySem.W.Frag) (E : XK) : TS := (tSeq (tAsg (tCall (sp__law_draw K) [] E (tCons (tVar 0) (tCons (tC (.int 5)) tNil))) (gName 2))
  (tSeq (tAsg (tCall (sp__law_draw K) [] E (tCons (tVar 0) (tCons (tOp rPlus (tCB bLenS (tCons (tVar 1) tNil)) (tC (.int 1))) tNil))) (gName 3))
  (tSeq (tAsg (tCall (sp__law_ofS K) [] E (tCons (tVar 0) (tCons (tC (.str "0123456789 manyoce-+MO\n\n  01234_.,x5")) tNil))) (gName 4))
  (tSeq (tIfS (tTest (tOp rEq (tVar 2) (tC (.int 0)))) (tRet (tOp rAddS (tSl rSlS (tVar 1) tNoPart (tPart (tVar 3))) (tSl rSlS (tVar 1) (tPart (tOp rPlus (tVar 3) (tC (.int 1)))) tNoPart))) tNext)
  (tSeq (tIfS (tTest (tOp rEq (tVar 2) (tC (.int 1)))) (tRet (tOp rAddS (tOp rAddS (tSl rSlS (tVar 1) tNoPart (tPart (tVar 3))) (tVar 4)) (tSl rSlS (tVar 1) (tPart (tVar 3)) tNoPart))) tNext)
  (tSeq (tIfS (tTest (tOp rEq (tVar 2) (tC (.int 2)))) (tRet (tOp rAddS (tVar 1) (tVar 4))) tNext)
  (tRet (tOp rAddS (tOp rAddS (tSl rSlS (tVar 1) tNoPart (tPart (tVar 3))) (tVar 4)) (tSl rSlS (tVar 1) (tPart (tOp rPlus (tVar 3) (tC (.int 1)))) tNoPart)))))))))
theorem v__law_bent {K : PySem.W.Frag} {E : XK} (kt : KT K) (ka : KAt K attrs) (tx : TX K) : EvS K (Tb K) E (r__law_bent K E) s_v__law_bent := (seq_ok (es_asg (ev_call (fun _ _ => .nil) rfl (ec_bag (ec_cons ev_int ec_nil))) eg_name)
  (seq_ok (es_asg (ev_call (fun _ _ => .nil) rfl (ec_bag (ec_cons (ev_op v_Plus (EvE.b (ev_lenS ev_var)) (EvE.b ev_int)) ec_nil))) eg_name)
  (seq_ok (es_asg (ev_call (fun _ _ => .nil) rfl (ec_bag (ec_cons ev_str ec_nil))) eg_name)
  (seq_ok (es_if (et_test (ev_op v_Eq (EvE.b ev_var) (EvE.b ev_int))) (es_ret (ev_op v_AddS (EvE.b (ev_slS ev_var ep_no (ep_part ev_var))) (EvE.b (ev_slS ev_var (ep_part (ev_op v_Plus (EvE.b ev_var) (EvE.b ev_int))) ep_no)))) es_next)
  (seq_ok (es_if (et_test (ev_op v_Eq (EvE.b ev_var) (EvE.b ev_int))) (es_ret (ev_op v_AddS (EvE.b (ev_op v_AddS (EvE.b (ev_slS ev_var ep_no (ep_part ev_var))) (EvE.b ev_var))) (EvE.b (ev_slS ev_var (ep_part ev_var) ep_no)))) es_next)
  (seq_ok (es_if (et_test (ev_op v_Eq (EvE.b ev_var) (EvE.b ev_int))) (es_ret (ev_op v_AddS (EvE.b ev_var) (EvE.b ev_var))) es_next)
  (es_ret (ev_op v_AddS (EvE.b (ev_op v_AddS (EvE.b (ev_slS ev_var ep_no (ep_part ev_var))) (EvE.b ev_var))) (EvE.b (ev_slS ev_var (ep_part (ev_op v_Plus (EvE.b ev_var) (EvE.b ev_int))) ep_no))))))))))
/-! _law_like0 -/
def b0__law_like0 : WS := (sIf (pNot (pTest (pCall w__law_likeZ [] (cpCons (pOp qIx (pVar 0) (pVar 2)) (cpCons (pOp qIx (pVar 1) (pVar 2)) cpNil))))) (sRet (pC (.bl false))) sNext)
def s_v__law_like0 : WS := (sSeq (sIf (pTest (pIsi "bool" (pVar 1))) (sRet (pAndV (pIsi "bool" (pVar 0)) (pOp qEq (pVar 0) (pVar 1)))) sNext)
  (sSeq (sIf (pTest (pIsi "int" (pVar 1))) (sRet (pAndV (pIsi "int" (pVar 0)) (pAndV (pNotV (pIsi "bool" (pVar 0))) (pOp qEq (pVar 0) (pVar 1))))) sNext)
  (sSeq (sIf (pTest (pIsi "str" (pVar 1))) (sRet (pAndV (pIsi "str" (pVar 0)) (pOp qEq (pVar 0) (pVar 1)))) sNext)
  (sSeq (sIf (pOr (pTest (pIsi "list" (pVar 1))) (pTest (pIsi "tuple" (pVar 1)))) (sSeq (sIf (pOr (pTest (pOp qNe (pIsi "list" (pVar 0)) (pIsi "list" (pVar 1)))) (pTest (pOp qNe (pIsi "tuple" (pVar 0)) (pIsi "tuple" (pVar 1))))) (sRet (pC (.bl false))) sNext)
  (sSeq (sIf (pTest (pOp qNe (pLen (pVar 0)) (pLen (pVar 1)))) (sRet (pC (.bl false))) sNext)
  (sSeq (sFor (pRng1 (pLen (pVar 1))) (gpName 2) b0__law_like0)
  (sRet (pC (.bl true)))))) sNext)
  (sRet (pAndV (pOp qIsN0 (pVar 1) (pC .non)) (pOp qIsN0 (pVar 0) (pC .non))))))))
def w__law_like0 : WD := bodyW N__law_like0.length s_v__law_like0
abbrev sp__law_like0 (K : PySem.W.Frag) : Sp := SpP K (Tb K) 2 w__law_like0
def r__law_like0 (K : PySem.W.Frag) (E : XK) : TS := (tSeq (tIfS (tB (tCB (rIsi K) (tCons (tVar 1) (tCons (tC (.ty "bool")) tNil)))) (tRet (tAndV (tCB (rIsi K) (tCons (tVar 0) (tCons (tC (.ty "bool")) tNil))) (tOp rEq (tVar 0) (tVar 1)))) tNext)
  (tSeq (tIfS (tB (tCB (rIsi K) (tCons (tVar 1) (tCons (tC (.ty "int")) tNil)))) (tRet (tAndV (tCB (rIsi K) (tCons (tVar 0) (tCons (tC (.ty "int")) tNil))) (tAndV (tNotV (tCB (rIsi K) (tCons (tVar 0) (tCons (tC (.ty "bool")) tNil)))) (tOp rEq (tVar 0) (tVar 1))))) tNext)
  (tSeq (tIfS (tB (tCB (rIsi K) (tCons (tVar 1) (tCons (tC (.ty "str")) tNil)))) (tRet (tAndV (tCB (rIsi K) (tCons (tVar 0) (tCons (tC (.ty "str")) tNil))) (tOp rEq (tVar 0) (tVar 1)))) tNext)
  (tSeq (tIfS (tOr (tB (tCB (rIsi K) (tCons (tVar 1) (tCons (tC (.ty "list")) tNil)))) (tB (tCB (rIsi K) (tCons (tVar 1) (tCons (tC (.ty "tuple")) tNil))))) (tSeq (tIfS (tOr (tTest (tOp rNe (tCB (rIsi K) (tCons (tVar 0) (tCons (tC (.ty "list")) tNil))) (tCB (rIsi K) (tCons (tVar 1) (tCons (tC (.ty "list")) tNil))))) (tTest (tOp rNe (tCB (rIsi K) (tCons (tVar 0) (tCons (tC (.ty "tuple")) tNil))) (tCB (rIsi K) (tCons (tVar 1) (tCons (tC (.ty "tuple")) tNil)))))) (tRet (tC (.bl false))) tNext)
  (tSeq (tIfS (tTest (tOp rNe (tCB (bLen K) (tCons (tVar 0) tNil)) (tCB (bLen K) (tCons (tVar 1) tNil)))) (tRet (tC (.bl false))) tNext)
  (tSeq (tFor (iRng1 (tCons (tCB (bLen K) (tCons (tVar 1) tNil)) tNil)) (gName 2)
   (tIfS (tNot (tB (tCall (sp__law_likeZ K) [] E (tCons (tOp (rIx K) (tVar 0) (tVar 2)) (tCons (tOp (rIx K) (tVar 1) (tVar 2)) tNil))))) (tRet (tC (.bl false))) tNext))
  (tRet (tC (.bl true)))))) tNext)
  (tRet (tAndV (tOp rIsN0 (tVar 1) (tC .non)) (tOp rIsN0 (tVar 0) (tC .non))))))))
theorem v__law_like0 {K : PySem.W.Frag} {E : XK} (kt : KT K) (ka : KAt K attrs) (tx : TX K) : EvS K (Tb K) E (r__law_like0 K E) s_v__law_like0 := (seq_ok (es_if (et_b (ev_isi (by decide) (EvE.b ev_var))) (es_ret (ev_andV (ev_isi (by decide) (EvE.b ev_var)) (ev_op v_Eq (EvE.b ev_var) (EvE.b ev_var)))) es_next)
  (seq_ok (es_if (et_b (ev_isi (by decide) (EvE.b ev_var))) (es_ret (ev_andV (ev_isi (by decide) (EvE.b ev_var)) (ev_andV (ev_notV (ev_isi (by decide) (EvE.b ev_var))) (ev_op v_Eq (EvE.b ev_var) (EvE.b ev_var))))) es_next)
  (seq_ok (es_if (et_b (ev_isi (by decide) (EvE.b ev_var))) (es_ret (ev_andV (ev_isi (by decide) (EvE.b ev_var)) (ev_op v_Eq (EvE.b ev_var) (EvE.b ev_var)))) es_next)
  (seq_ok (es_if (et_or (et_b (ev_isi (by decide) (EvE.b ev_var))) (et_b (ev_isi (by decide) (EvE.b ev_var)))) (seq_ok (es_if (et_or (et_test (ev_op v_Ne (EvE.b (ev_isi (by decide) (EvE.b ev_var))) (EvE.b (ev_isi (by decide) (EvE.b ev_var))))) (et_test (ev_op v_Ne (EvE.b (ev_isi (by decide) (EvE.b ev_var))) (EvE.b (ev_isi (by decide) (EvE.b ev_var)))))) (es_ret ev_bl) es_next)
  (seq_ok (es_if (et_test (ev_op v_Ne (EvE.b (ev_len (EvE.b ev_var))) (EvE.b (ev_len (EvE.b ev_var))))) (es_ret ev_bl) es_next)
  (seq_ok (es_for (ei_rng1 (ev_len (EvE.b ev_var))) eg_name (es_if (et_not (et_b (ev_call (fun _ _ => .nil) rfl (ec_cons (ev_op v_Ix (EvE.b ev_var) (EvE.b ev_var)) (ec_cons (ev_op v_Ix (EvE.b ev_var) (EvE.b ev_var)) ec_nil))))) (es_ret ev_bl) es_next))
  (es_ret ev_bl)))) es_next)
  (es_ret (ev_andV (ev_op v_IsN0 (EvE.b ev_var) (EvE.b ev_non)) (ev_op v_IsN0 (EvE.b ev_var) (EvE.b ev_non))))))))
/-! _law_like1 -/
def b0__law_like1 : WS := (sIf (pNot (pTest (pCall w__law_like0 [] (cpCons (pOp qIx (pVar 0) (pVar 2)) (cpCons (pOp qIx (pVar 1) (pVar 2)) cpNil))))) (sRet (pC (.bl false))) sNext)
def s_v__law_like1 : WS := (sSeq (sIf (pTest (pIsi "bool" (pVar 1))) (sRet (pAndV (pIsi "bool" (pVar 0)) (pOp qEq (pVar 0) (pVar 1)))) sNext)
  (sSeq (sIf (pTest (pIsi "int" (pVar 1))) (sRet (pAndV (pIsi "int" (pVar 0)) (pAndV (pNotV (pIsi "bool" (pVar 0))) (pOp qEq (pVar 0) (pVar 1))))) sNext)
  (sSeq (sIf (pTest (pIsi "str" (pVar 1))) (sRet (pAndV (pIsi "str" (pVar 0)) (pOp qEq (pVar 0) (pVar 1)))) sNext)
  (sSeq (sIf (pOr (pTest (pIsi "list" (pVar 1))) (pTest (pIsi "tuple" (pVar 1)))) (sSeq (sIf (pOr (pTest (pOp qNe (pIsi "list" (pVar 0)) (pIsi "list" (pVar 1)))) (pTest (pOp qNe (pIsi "tuple" (pVar 0)) (pIsi "tuple" (pVar 1))))) (sRet (pC (.bl false))) sNext)
  (sSeq (sIf (pTest (pOp qNe (pLen (pVar 0)) (pLen (pVar 1)))) (sRet (pC (.bl false))) sNext)
  (sSeq (sFor (pRng1 (pLen (pVar 1))) (gpName 2) b0__law_like1)
  (sRet (pC (.bl true)))))) sNext)
  (sRet (pAndV (pOp qIsN0 (pVar 1) (pC .non)) (pOp qIsN0 (pVar 0) (pC .non))))))))
def w__law_like1 : WD := bodyW N__law_like1.length s_v__law_like1
abbrev sp__law_like1 (K : PySem.W.Frag) : Sp := SpP K (Tb K) 2 w__law_like1
def r__law_like1 (K : PySem.W.Frag) (E : XK) : TS := (tSeq (tIfS (tB (tCB (rIsi K) (tCons (tVar 1) (tCons (tC (.ty "bool")) tNil)))) (tRet (tAndV (tCB (rIsi K) (tCons (tVar 0) (tCons (tC (.ty "bool")) tNil))) (tOp rEq (tVar 0) (tVar 1)))) tNext)
  (tSeq (tIfS (tB (tCB (rIsi K) (tCons (tVar 1) (tCons (tC (.ty "int")) tNil)))) (tRet (tAndV (tCB (rIsi K) (tCons (tVar 0) (tCons (tC (.ty "int")) tNil))) (tAndV (tNotV (tCB (rIsi K) (tCons (tVar 0) (tCons (tC (.ty "bool")) tNil)))) (tOp rEq (tVar 0) (tVar 1))))) tNext)
  (tSeq (tIfS (tB (tCB (rIsi K) (tCons (tVar 1) (tCons (tC (.ty "str")) tNil)))) (tRet (tAndV (tCB (rIsi K) (tCons (tVar 0) (tCons (tC (.ty "str")) tNil))) (tOp rEq (tVar 0) (tVar 1)))) tNext)
  (tSeq (tIfS (tOr (tB (tCB (rIsi K) (tCons (tVar 1) (tCons (tC (.ty "list")) tNil)))) (tB (tCB (rIsi K) (tCons (tVar 1) (tCons (tC (.ty "tuple")) tNil))))) (tSeq (tIfS (tOr (tTest (tOp rNe (tCB (rIsi K) (tCons (tVar 0) (tCons (tC (.ty "list")) tNil))) (tCB (rIsi K) (tCons (tVar 1) (tCons (tC (.ty "list")) tNil))))) (tTest (tOp rNe (tCB (rIsi K) (tCons (tVar 0) (tCons (tC (.ty "tuple")) tNil))) (tCB (rIsi K) (tCons (tVar 1) (tCons (tC (.ty "tuple")) tNil)))))) (tRet (tC (.bl false))) tNext)
  (tSeq (tIfS (tTest (tOp rNe (tCB (bLen K) (tCons (tVar 0) tNil)) (tCB (bLen K) (tCons (tVar 1) tNil)))) (tRet (tC (.bl false))) tNext)
  (tSeq (tFor (iRng1 (tCons (tCB (bLen K) (tCons (tVar 1) tNil)) tNil)) (gName 2)
   (tIfS (tNot (tB (tCall (sp__law_like0 K) [] E (tCons (tOp (rIx K) (tVar 0) (tVar 2)) (tCons (tOp (rIx K) (tVar 1) (tVar 2)) tNil))))) (tRet (tC (.bl false))) tNext))
  (tRet (tC (.bl true)))))) tNext)
  (tRet (tAndV (tOp rIsN0 (tVar 1) (tC .non)) (tOp rIsN0 (tVar 0) (tC .non))))))))
theorem v__law_like1 {K : PySem.W.Frag} {E : XK} (kt : KT K) (ka : KAt K attrs) (tx : TX K) : EvS K (Tb K) E (r__law_like1 K E) s_v__law_like1 := (seq_ok (es_if (et_b (ev_isi (by decide) (EvE.b ev_var))) (es_ret (ev_andV (ev_isi (by decide) (EvE.b ev_var)) (ev_op v_Eq (EvE.b ev_var) (EvE.b ev_var)))) es_next)
  (seq_ok (es_if (et_b (ev_isi (by decide) (EvE.b ev_var))) (es_ret (ev_andV (ev_isi (by decide) (EvE.b ev_var)) (ev_andV (ev_notV (ev_isi (by decide) (EvE.b ev_var))) (ev_op v_Eq (EvE.b ev_var) (EvE.b ev_var))))) es_next)
  (seq_ok (es_if (et_b (ev_isi (by decide) (EvE.b ev_var))) (es_ret (ev_andV (ev_isi (by decide) (EvE.b ev_var)) (ev_op v_Eq (EvE.b ev_var) (EvE.b ev_var)))) es_next)
  (seq_ok (es_if (et_or (et_b (ev_isi (by decide) (EvE.b ev_var))) (et_b (ev_isi (by decide) (EvE.b ev_var)))) (seq_ok (es_if (et_or (et_test (ev_op v_Ne (EvE.b (ev_isi (by decide) (EvE.b ev_var))) (EvE.b (ev_isi (by decide) (EvE.b ev_var))))) (et_test (ev_op v_Ne (EvE.b (ev_isi (by decide) (EvE.b ev_var))) (EvE.b (ev_isi (by decide) (EvE.b ev_var)))))) (es_ret ev_bl) es_next)
  (seq_ok (es_if (et_test (ev_op v_Ne (EvE.b (ev_len (EvE.b ev_var))) (EvE.b (ev_len (EvE.b ev_var))))) (es_ret ev_bl) es_next)
  (seq_ok (es_for (ei_rng1 (ev_len (EvE.b ev_var))) eg_name (es_if (et_not (et_b (ev_call (fun _ _ => .nil) rfl (ec_cons (ev_op v_Ix (EvE.b ev_var) (EvE.b ev_var)) (ec_cons (ev_op v_Ix (EvE.b ev_var) (EvE.b ev_var)) ec_nil))))) (es_ret ev_bl) es_next))
  (es_ret ev_bl)))) es_next)
  (es_ret (ev_andV (ev_op v_IsN0 (EvE.b ev_var) (EvE.b ev_non)) (ev_op v_IsN0 (EvE.b ev_var) (EvE.b ev_non))))))))
/-! _law_plain -/
def s_v__law_plain : WS := (sRetO (pLst (pCons (pFld attrs "kind" (pVar 0)) (pCons (pFld attrs "late" (pVar 0)) (pCons (pFld attrs "text" (pVar 0)) pNil)))))
def w__law_plain : WD := bodyW N__law_plain.length s_v__law_plain
abbrev sp__law_plain (K : PySem.W.Frag) : Sp := SpP K (Tb K) 1 w__law_plain
def r__law_plain (K : PySem.W.Frag) (E : XK) : TS := (tRet (tLst (tCons (tFld K (tVar 0) "kind") (tCons (tFld K (tVar 0) "late") (tCons (tFld K (tVar 0) "text") tNil)))))
theorem v__law_plain {K : PySem.W.Frag} {E : XK} (kt : KT K) (ka : KAt K attrs) (tx : TX K) : EvS K (Tb K) E (r__law_plain K E) s_v__law_plain := (es_retO (eo_lst (ea_cons (ev_fld ka ev_var) (ea_cons (ev_fld ka ev_var) (ea_cons (ev_fld ka ev_var) ea_nil)))))
/-! check_length -/
def s_v_check_length : WS := (sIf (pTest (pOp qGt0 (p1 qLenS (pVar 0)) (pC (.int 100000)))) sNever sNext)
def w_check_length : WD := bodyW N_check_length.length s_v_check_length
abbrev sp_check_length (K : PySem.W.Frag) : Sp := SpP K (Tb K) 1 w_check_length
def r_check_length (K : PySem.W.Frag) (E : XK) : TS := (tIfS (tTest (tOp rGt0 (tCB bLenS (tCons (tVar 0) tNil)) (tC (.int 100000)))) tNever tNext)
theorem v_check_length {K : PySem.W.Frag} {E : XK} (kt : KT K) (ka : KAt K attrs) (tx : TX K) : EvS K (Tb K) E (r_check_length K E) s_v_check_length := (es_if (et_test (ev_op v_Gt0 (EvE.b (ev_lenS ev_var)) (EvE.b ev_int))) es_never es_next)
/-! world_words -/
def s_v_world_words : WS := (sSeq (sAsg (pFrz (pSplit (pVar 0) (pC (.str " ")))) (gpName 1))
  (sSeq (sIf (pOr (pTest (pOp qNe (pLen (pVar 1)) (pC (.int 2)))) (pOr (pTest (pOp (qInG true) (pOp qIxL (pVar 1) (pC (.int 0))) (pC (.tup [.str "many", .str "once"])))) (pTest (pOp (qInG true) (pOp qIxL (pVar 1) (pC (.int 1))) (pC (.tup [.str "0", .str "1", .str "2", .str "3", .str "4"])))))) (sRet (pC .non)) sNext)
  (sRet (pTup (pCons (pOp qIxL (pVar 1) (pC (.int 0))) (pCons (p1 qIntS (pOp qIxL (pVar 1) (pC (.int 1)))) pNil))))))
def w_world_words : WD := bodyW N_world_words.length s_v_world_words
abbrev sp_world_words (K : PySem.W.Frag) : Sp := SpP K (Tb K) 1 w_world_words
def r_world_words (K : PySem.W.Frag) (E : XK) : TS := (tSeq (tAsg (tBM K "str" mSplit (tVar 0) (tCons (tC (.str " ")) tNil)) (gName 1))
  (tSeq (tIfS (tOr (tTest (tOp rNe (tCB (bLen K) (tCons (tVar 1) tNil)) (tC (.int 2)))) (tOr (tTest (tOp (rIn K true) (tOp (rIxL K) (tVar 1) (tC (.int 0))) (tC (.ref (He.ga K "KINDS"))))) (tTest (tOp (rIn K true) (tOp (rIxL K) (tVar 1) (tC (.int 1))) (tC (.ref (He.ga K "LATENESSES"))))))) (tRet (tC .non)) tNext)
  (tRet (tTup (tCons (tOp (rIxL K) (tVar 1) (tC (.int 0))) (tCons (tCB bIntS (tCons (tOp (rIxL K) (tVar 1) (tC (.int 1))) tNil)) tNil))))))
theorem v_world_words {K : PySem.W.Frag} {E : XK} (kt : KT K) (ka : KAt K attrs) (tx : TX K) : EvS K (Tb K) E (r_world_words K E) s_v_world_words := (seq_ok (es_asg (ev_frz (eo_split ev_var ev_str)) eg_name)
  (seq_ok (es_if (et_or (et_test (ev_op v_Ne (EvE.b (ev_len (EvE.b ev_var))) (EvE.b ev_int))) (et_or (et_test (ev_op v_InG (EvE.b (ev_op v_IxL (EvE.b ev_var) (EvE.b ev_int))) (EvE.b (ev_c kt.kinds)))) (et_test (ev_op v_InG (EvE.b (ev_op v_IxL (EvE.b ev_var) (EvE.b ev_int))) (EvE.b (ev_c kt.lates)))))) (es_ret ev_non) es_next)
  (es_ret (ev_tup (ea_cons (ev_op v_IxL (EvE.b ev_var) (EvE.b ev_int)) (ea_cons (ev_intS (ev_op v_IxL (EvE.b ev_var) (EvE.b ev_int))) ea_nil))))))
/-! World.__init__ -/
def s_v_World___init__ : WS := (sSeq (sDrop (pCall w_check_length [] (cpCons (pVar 1) cpNil)))
  (sSeq (sAsg (pCall w_world_words [] (cpCons (pVar 1) cpNil)) (gpName 2))
  (sSeq (sIf (pTest (pOp qIsN0 (pVar 2) (pC .non))) (sRaise "BadWorld" nm_BadWorld (okP1 100) (pCons (pC (.str "the text must be a kind, a space and a lateness")) pNil)) sNext)
  (sSeq (sFldW attrs 0 (pOp qIxT (pVar 2) (pC (.int 0))) "kind")
  (sSeq (sFldW attrs 0 (pOp qIxT (pVar 2) (pC (.int 1))) "late")
  (sFldW attrs 0 (pVar 1) "text"))))))
def w_World___init__ : WN := bodyN "World" N_World___init__.length s_v_World___init__
abbrev sp_World___init__ (K : PySem.W.Frag) : Sp := SpN K (Tb K) "World" 1 w_World___init__
def r_World___init__ (K : PySem.W.Frag) (E : XK) : TS := (tSeq (tDrop (tCall (sp_check_length K) [] E (tCons (tVar 1) tNil)))
  (tSeq (tAsg (tCall (sp_world_words K) [] E (tCons (tVar 1) tNil)) (gName 2))
  (tSeq (tIfS (tTest (tOp rIsN0 (tVar 2) (tC .non))) (tRaise (He.ga K "BadWorld") (sp_BadWorld K) E (tCons (tC (.str "the text must be a kind, a space and a lateness")) tNil)) tNext)
  (tSeq (sFld K (tVar 0) (tOp (rIxT K) (tVar 2) (tC (.int 0))) "kind")
  (tSeq (sFld K (tVar 0) (tOp (rIxT K) (tVar 2) (tC (.int 1))) "late")
  (sFld K (tVar 0) (tVar 1) "text"))))))
theorem v_World___init__ {K : PySem.W.Frag} {E : XK} (kt : KT K) (ka : KAt K attrs) (tx : TX K) : EvS K (Tb K) E (r_World___init__ K E) s_v_World___init__ := (seq_ok (es_drop (ev_call (fun _ _ => .nil) rfl (ec_cons ev_var ec_nil)))
  (seq_ok (es_asg (ev_call (fun _ _ => .nil) rfl (ec_cons ev_var ec_nil)) eg_name)
  (seq_ok (es_if (et_test (ev_op v_IsN0 (EvE.b ev_var) (EvE.b ev_non))) (es_raise ok_BadWorld_P (ea_cons ev_str ea_nil)) es_next)
  (seq_ok (es_fld ka (ev_op v_IxT (EvE.b ev_var) (EvE.b ev_int)))
  (seq_ok (es_fld ka (ev_op v_IxT (EvE.b ev_var) (EvE.b ev_int)))
  (es_fld ka ev_var))))))
/-! _law_read -/
def s_v__law_read : WS := (sTell erTab (pFrz (pCat (pFrz (pLst (pCons (pC (.str "told")) pNil))) (pFrz (pCallO w__law_plain [] (cpCons (pMake' "World" w_World___init__ (cpCons (pVar 0) cpNil)) cpNil))))))
def w__law_read : WD := bodyW N__law_read.length s_v__law_read
abbrev sp__law_read (K : PySem.W.Frag) : Sp := SpP K (Tb K) 1 w__law_read
def r__law_read (K : PySem.W.Frag) (E : XK) : TS := (tTell K (csE K) (spX__law_error K) (fun Ec => (tOp rCat (tLst (tCons (tC (.str "told")) tNil)) (tCall (sp__law_plain K) [] Ec (tCons (tMake (He.ga K "World") (sp_World___init__ K) [] Ec (tCons (tVar 0) tNil)) tNil)))))
theorem v__law_read {K : PySem.W.Frag} {E : XK} (kt : KT K) (ka : KAt K attrs) (tx : TX K) : EvS K (Tb K) E (r__law_read K E) s_v__law_read := (es_tell tx (fun Ec => (ev_frz (eo_cat (EvE.b (ev_frz (eo_lst (ea_cons ev_str ea_nil)))) (EvE.b (ev_frz (eo_call (fun _ _ => .nil) rfl (ec_cons (ev_make (ec_cons ev_var ec_nil)) ec_nil))))))))
/-! _law_due -/
def s_v__law_due : WS := (sSeq (sIf (pAnd (pTest (pOp (qInG false) (pVar 0) (pFrz (pLst (pCons (pC (.str "many")) (pCons (pC (.str "once")) pNil)))))) (pTest (pChain qLe0 qLe0 (pC (.int 0)) (pVar 1) (pC (.int 4))))) (sRetO (pLst (pCons (pC (.str "told")) (pCons (pVar 0) (pCons (pVar 1) (pCons (pOp qAddS (pOp qAddS (pVar 0) (pC (.str " "))) (p1 qStr (pVar 1))) pNil)))))) sNext)
  (sRetO (pLst (pCons (pC (.str "BadWorld")) pNil))))
def w__law_due : WD := bodyW N__law_due.length s_v__law_due
abbrev sp__law_due (K : PySem.W.Frag) : Sp := SpP K (Tb K) 2 w__law_due
def r__law_due (K : PySem.W.Frag) (E : XK) : TS := (tSeq (tIfS (tAnd (tTest (tOp (rIn K false) (tVar 0) (tLst (tCons (tC (.str "many")) (tCons (tC (.str "once")) tNil))))) (tTest (tChain rLe0 rLe0 (tC (.int 0)) (tVar 1) (tC (.int 4))))) (tRet (tLst (tCons (tC (.str "told")) (tCons (tVar 0) (tCons (tVar 1) (tCons (tOp rAddS (tOp rAddS (tVar 0) (tC (.str " "))) (tCB bStr (tCons (tVar 1) tNil))) tNil)))))) tNext)
  (tRet (tLst (tCons (tC (.str "BadWorld")) tNil))))
theorem v__law_due {K : PySem.W.Frag} {E : XK} (kt : KT K) (ka : KAt K attrs) (tx : TX K) : EvS K (Tb K) E (r__law_due K E) s_v__law_due := (seq_ok (es_if (et_and (et_test (ev_op v_InG (EvE.b ev_var) (EvE.b (ev_frz (eo_lst (ea_cons ev_str (ea_cons ev_str ea_nil))))))) (et_test (ev_chain v_Le0 v_Le0 ev_int ev_var ev_int))) (es_retO (eo_lst (ea_cons ev_str (ea_cons ev_var (ea_cons ev_var (ea_cons (ev_op v_AddS (EvE.b (ev_op v_AddS (EvE.b ev_var) (EvE.b ev_str))) (EvE.b (ev_bstr ev_var))) ea_nil)))))) es_next)
  (es_retO (eo_lst (ea_cons ev_str ea_nil))))
/-! World.of -/
def s_v_World_of : WS := (sSeq (sIf (pTest (pOp (qInG true) (pVar 0) (pC (.tup [.str "many", .str "once"])))) (sRaise "BadWorld" nm_BadWorld (okP1 100) (pCons (pC (.str "the kind must be many or once")) pNil)) sNext)
  (sSeq (sIf (pOr (pTest (pOp qLt0 (pVar 1) (pC (.int 0)))) (pTest (pOp qGt0 (pVar 1) (pC (.int 4))))) (sRaise "BadWorld" nm_BadWorld (okP1 100) (pCons (pC (.str "the lateness must be from 0 to 4")) pNil)) sNext)
  (sRet (pMake' "World" w_World___init__ (cpCons (pFS (pJ1 (pFmt (pVar 0)) (pJ1 (pC (.str " ")) (pJ1 (pFmt (pVar 1)) pJ0)))) cpNil)))))
def w_World_of : WD := bodyW N_World_of.length s_v_World_of
abbrev sp_World_of (K : PySem.W.Frag) : Sp := SpP K (Tb K) 2 w_World_of
def r_World_of (K : PySem.W.Frag) (E : XK) : TS := (tSeq (tIfS (tTest (tOp (rIn K true) (tVar 0) (tC (.ref (He.ga K "KINDS"))))) (tRaise (He.ga K "BadWorld") (sp_BadWorld K) E (tCons (tC (.str "the kind must be many or once")) tNil)) tNext)
  (tSeq (tIfS (tOr (tTest (tOp rLt0 (tVar 1) (tC (.int 0)))) (tTest (tOp rGt0 (tVar 1) (tC (.int 4))))) (tRaise (He.ga K "BadWorld") (sp_BadWorld K) E (tCons (tC (.str "the lateness must be from 0 to 4")) tNil)) tNext)
  (tRet (tMake (He.ga K "World") (sp_World___init__ K) [] E (tCons (tJoin [(tFmt (tVar 0)), (tC (.str " ")), (tFmt (tVar 1))]) tNil)))))
theorem v_World_of {K : PySem.W.Frag} {E : XK} (kt : KT K) (ka : KAt K attrs) (tx : TX K) : EvS K (Tb K) E (r_World_of K E) s_v_World_of := (seq_ok (es_if (et_test (ev_op v_InG (EvE.b ev_var) (EvE.b (ev_c kt.kinds)))) (es_raise ok_BadWorld_P (ea_cons ev_str ea_nil)) es_next)
  (seq_ok (es_if (et_or (et_test (ev_op v_Lt0 (EvE.b ev_var) (EvE.b ev_int))) (et_test (ev_op v_Gt0 (EvE.b ev_var) (EvE.b ev_int)))) (es_raise ok_BadWorld_P (ea_cons ev_str ea_nil)) es_next)
  (es_ret (ev_make (ec_cons (ev_fs (ej_cons (ev_fmt ev_var) (ej_cons ev_str (ej_cons (ev_fmt ev_var) ej_nil)))) ec_nil)))))
/-! _law_put -/
def s_v__law_put : WS := (sTell erTab (pFrz (pCat (pFrz (pLst (pCons (pC (.str "told")) pNil))) (pFrz (pCallO w__law_plain [] (cpCons (pCall w_World_of [] (cpCons (pVar 0) (cpCons (pVar 1) cpNil))) cpNil))))))
def w__law_put : WD := bodyW N__law_put.length s_v__law_put
abbrev sp__law_put (K : PySem.W.Frag) : Sp := SpP K (Tb K) 2 w__law_put
def r__law_put (K : PySem.W.Frag) (E : XK) : TS := (tTell K (csE K) (spX__law_error K) (fun Ec => (tOp rCat (tLst (tCons (tC (.str "told")) tNil)) (tCall (sp__law_plain K) [] Ec (tCons (tSMeth (He.ga K "World") (sp_World_of K) Ec (tC (.ref (He.ga K "World"))) (tCons (tVar 0) (tCons (tVar 1) tNil))) tNil)))))
theorem v__law_put {K : PySem.W.Frag} {E : XK} (kt : KT K) (ka : KAt K attrs) (tx : TX K) : EvS K (Tb K) E (r__law_put K E) s_v__law_put := (es_tell tx (fun Ec => (ev_frz (eo_cat (EvE.b (ev_frz (eo_lst (ea_cons ev_str ea_nil)))) (EvE.b (ev_frz (eo_call (fun _ _ => .nil) rfl (ec_cons (ev_smeth rfl (ec_cons ev_var (ec_cons ev_var ec_nil))) ec_nil))))))))
/-! World.__eq__ -/
def s_v_World___eq__ : WS := (sRet (pAndV (pIsC (tabI "World") (pVar 1)) (pOp qEq (pFld attrs "text" (pVar 0)) (pFld attrs "text" (pVar 1)))))
def w_World___eq__ : WD := bodyW N_World___eq__.length s_v_World___eq__
abbrev sp_World___eq__ (K : PySem.W.Frag) : Sp := SpP K (Tb K) 2 w_World___eq__
def r_World___eq__ (K : PySem.W.Frag) (E : XK) : TS := (tRet (tAndV (tCB (rIsi K) (tCons (tVar 1) (tCons (tC (.ref (He.ga K "World"))) tNil))) (tOp rEq (tFld K (tVar 0) "text") (tFld K (tVar 1) "text"))))
theorem v_World___eq__ {K : PySem.W.Frag} {E : XK} (kt : KT K) (ka : KAt K attrs) (tx : TX K) : EvS K (Tb K) E (r_World___eq__ K E) s_v_World___eq__ := (es_ret (ev_andV (ev_isC kt.isWorld (EvE.b ev_var)) (ev_op v_Eq (EvE.b (ev_fld ka ev_var)) (EvE.b (ev_fld ka ev_var)))))
/-! first_strange -/
def b0_first_strange : WS := (sIf (pTest (pOp qNotInS (pVar 2) (pC (.str ".hHabB")))) (sRet (pVar 1)) sNext)
def s_v_first_strange : WS := (sSeq (sFor (pEnumS (pVar 0)) (gpTup 2 (gpCons (gpName 1) (gpCons (gpName 2) gpNil))) b0_first_strange)
  (sRet (pC .non)))
def w_first_strange : WD := bodyW N_first_strange.length s_v_first_strange
abbrev sp_first_strange (K : PySem.W.Frag) : Sp := SpP K (Tb K) 1 w_first_strange
def r_first_strange (K : PySem.W.Frag) (E : XK) : TS := (tSeq (tFor (iEnumS (tCons (tVar 0) tNil)) (gTup K 2 (gCons (gName 1) (gCons (gName 2) gNil)))
   (tIfS (tTest (tOp rNotInS (tVar 2) (tC (.str ".hHabB")))) (tRet (tVar 1)) tNext))
  (tRet (tC .non)))
theorem v_first_strange {K : PySem.W.Frag} {E : XK} (kt : KT K) (ka : KAt K attrs) (tx : TX K) : EvS K (Tb K) E (r_first_strange K E) s_v_first_strange := (seq_ok (es_for (ei_enumS ev_var) (eg_tup (eg_cons eg_name (eg_cons eg_name eg_nil))) (es_if (et_test (ev_op v_NotInS (EvE.b ev_var) (EvE.b ev_str))) (es_ret ev_var) es_next))
  (es_ret ev_non))
/-! rota_fault -/
def s_v_rota_fault : WS := (sSeq (sIf (pTest (pOp qEq (pVar 0) (pC (.str "-")))) (sRet (pC .non)) sNext)
  (sSeq (sIf (pTest (pOp qEq (pVar 0) (pC (.str "")))) (sRet (pC (.int 0))) sNext)
  (sRet (pCall w_first_strange [] (cpCons (pVar 0) cpNil)))))
def w_rota_fault : WD := bodyW N_rota_fault.length s_v_rota_fault
abbrev sp_rota_fault (K : PySem.W.Frag) : Sp := SpP K (Tb K) 1 w_rota_fault
def r_rota_fault (K : PySem.W.Frag) (E : XK) : TS := (tSeq (tIfS (tTest (tOp rEq (tVar 0) (tC (.str "-")))) (tRet (tC .non)) tNext)
  (tSeq (tIfS (tTest (tOp rEq (tVar 0) (tC (.str "")))) (tRet (tC (.int 0))) tNext)
  (tRet (tCall (sp_first_strange K) [] E (tCons (tVar 0) tNil)))))
theorem v_rota_fault {K : PySem.W.Frag} {E : XK} (kt : KT K) (ka : KAt K attrs) (tx : TX K) : EvS K (Tb K) E (r_rota_fault K E) s_v_rota_fault := (seq_ok (es_if (et_test (ev_op v_Eq (EvE.b ev_var) (EvE.b ev_str))) (es_ret ev_non) es_next)
  (seq_ok (es_if (et_test (ev_op v_Eq (EvE.b ev_var) (EvE.b ev_str))) (es_ret ev_int) es_next)
  (es_ret (ev_call (fun _ _ => .nil) rfl (ec_cons ev_var ec_nil)))))
/-! letters_of_text -/
def s_v_letters_of_text : WS := (sSeq (sIf (pTest (pOp qEq (pVar 0) (pC (.str "-")))) (sRet (pC (.str ""))) sNext)
  (sRet (pVar 0)))
def w_letters_of_text : WD := bodyW N_letters_of_text.length s_v_letters_of_text
abbrev sp_letters_of_text (K : PySem.W.Frag) : Sp := SpP K (Tb K) 1 w_letters_of_text
def r_letters_of_text (K : PySem.W.Frag) (E : XK) : TS := (tSeq (tIfS (tTest (tOp rEq (tVar 0) (tC (.str "-")))) (tRet (tC (.str ""))) tNext)
  (tRet (tVar 0)))
theorem v_letters_of_text {K : PySem.W.Frag} {E : XK} (kt : KT K) (ka : KAt K attrs) (tx : TX K) : EvS K (Tb K) E (r_letters_of_text K E) s_v_letters_of_text := (seq_ok (es_if (et_test (ev_op v_Eq (EvE.b ev_var) (EvE.b ev_str))) (es_ret ev_str) es_next)
  (es_ret ev_var))
/-! Rota.__init__ -/
def s_v_Rota___init__ : WS := (sSeq (sDrop (pCall w_check_length [] (cpCons (pVar 1) cpNil)))
  (sSeq (sAsg (pCall w_rota_fault [] (cpCons (pVar 1) cpNil)) (gpName 2))
  (sSeq (sIf (pTest (pOp qNotN0 (pVar 2) (pC .non))) sNever sNext)
  (sSeq (sAsg (pCall w_letters_of_text [] (cpCons (pVar 1) cpNil)) (gpName 3))
  (sSeq (sIf (pTest (pOp qGt0 (p1 qLenS (pVar 3)) (pC (.int 40)))) sNever sNext)
  (sSeq (sFldW attrs 0 (pVar 3) "letters")
  (sFldW attrs 0 (pVar 1) "text")))))))
def w_Rota___init__ : WN := bodyN "Rota" N_Rota___init__.length s_v_Rota___init__
abbrev sp_Rota___init__ (K : PySem.W.Frag) : Sp := SpN K (Tb K) "Rota" 1 w_Rota___init__
def r_Rota___init__ (K : PySem.W.Frag) (E : XK) : TS := (tSeq (tDrop (tCall (sp_check_length K) [] E (tCons (tVar 1) tNil)))
  (tSeq (tAsg (tCall (sp_rota_fault K) [] E (tCons (tVar 1) tNil)) (gName 2))
  (tSeq (tIfS (tTest (tOp rNotN0 (tVar 2) (tC .non))) tNever tNext)
  (tSeq (tAsg (tCall (sp_letters_of_text K) [] E (tCons (tVar 1) tNil)) (gName 3))
  (tSeq (tIfS (tTest (tOp rGt0 (tCB bLenS (tCons (tVar 3) tNil)) (tC (.int 40)))) tNever tNext)
  (tSeq (sFld K (tVar 0) (tVar 3) "letters")
  (sFld K (tVar 0) (tVar 1) "text")))))))
theorem v_Rota___init__ {K : PySem.W.Frag} {E : XK} (kt : KT K) (ka : KAt K attrs) (tx : TX K) : EvS K (Tb K) E (r_Rota___init__ K E) s_v_Rota___init__ := (seq_ok (es_drop (ev_call (fun _ _ => .nil) rfl (ec_cons ev_var ec_nil)))
  (seq_ok (es_asg (ev_call (fun _ _ => .nil) rfl (ec_cons ev_var ec_nil)) eg_name)
  (seq_ok (es_if (et_test (ev_op v_NotN0 (EvE.b ev_var) (EvE.b ev_non))) es_never es_next)
  (seq_ok (es_asg (ev_call (fun _ _ => .nil) rfl (ec_cons ev_var ec_nil)) eg_name)
  (seq_ok (es_if (et_test (ev_op v_Gt0 (EvE.b (ev_lenS ev_var)) (EvE.b ev_int))) es_never es_next)
  (seq_ok (es_fld ka ev_var)
  (es_fld ka ev_var)))))))
/-! Rota.__eq__ -/
def s_v_Rota___eq__ : WS := (sRet (pAndV (pIsC (tabI "Rota") (pVar 1)) (pOp qEq (pFld attrs "text" (pVar 0)) (pFld attrs "text" (pVar 1)))))
def w_Rota___eq__ : WD := bodyW N_Rota___eq__.length s_v_Rota___eq__
abbrev sp_Rota___eq__ (K : PySem.W.Frag) : Sp := SpP K (Tb K) 2 w_Rota___eq__
def r_Rota___eq__ (K : PySem.W.Frag) (E : XK) : TS := (tRet (tAndV (tCB (rIsi K) (tCons (tVar 1) (tCons (tC (.ref (He.ga K "Rota"))) tNil))) (tOp rEq (tFld K (tVar 0) "text") (tFld K (tVar 1) "text"))))
theorem v_Rota___eq__ {K : PySem.W.Frag} {E : XK} (kt : KT K) (ka : KAt K attrs) (tx : TX K) : EvS K (Tb K) E (r_Rota___eq__ K E) s_v_Rota___eq__ := (es_ret (ev_andV (ev_isC kt.isRota (EvE.b ev_var)) (ev_op v_Eq (EvE.b (ev_fld ka ev_var)) (EvE.b (ev_fld ka ev_var)))))
/-! law -/
def b0_law : WS := (sAsg (pCall0 w__law_bent [] (cpBag 1 (cpCons (pVar 4) cpNil))) (gpName 4))
def b1_law : WS := (sSeq (sAsg (pCall0 w__law_of [] (cpBag 1 (cpCons (pVar 2) cpNil))) (gpName 4))
  (sSeq (sFor (pRng1 (pCall0 w__law_of [] (cpBag 1 (cpCons (pFrz (pLst (pCons (pC (.int 1)) (pCons (pC (.int 0)) (pCons (pC (.int 1)) (pCons (pC (.int 2)) (pCons (pC (.int 3)) pNil))))))) cpNil)))) (gpName 5) b0_law)
  (sSeq (sAsg (pIf (pTest (pOp (qInG false) (pVar 4) (pVar 2))) (pFrz (pLst (pCons (pC (.str "told")) (pCons (pSlS (pVar 4) pNoPart (pPart (pC (.int 4)))) (pCons (pFind (pC (.str "01234")) (pSlS (pVar 4) (pPart (pC (.int 5))) pNoPart)) (pCons (pVar 4) pNil)))))) (pFrz (pLst (pCons (pC (.str "BadWorld")) pNil)))) (gpName 6))
  (sSeq (sIf (pNot (pTest (pCall0 w__law_like1 [] (cpCons (pCall0 w__law_read [] (cpCons (pVar 4) cpNil)) (cpCons (pVar 6) cpNil))))) (sRet (pC (.bl false))) sNext)
  (sSeq (sAsg (pCall0 w__law_of [] (cpBag 1 (cpCons (pFrz (pLst (pCons (pC (.str "many")) (pCons (pC (.str "once")) (pCons (pC (.str "many")) (pCons (pC (.str "once")) (pCons (pC (.str "Many")) (pCons (pC (.str "")) (pCons (pC (.str "many ")) (pCons (pC (.str "both")) (pCons (pC (.str "many 1")) (pCons (pC (.str "o")) pNil)))))))))))) cpNil))) (gpName 7))
  (sSeq (sIf (pTest (pOp qEq (pCall0 w__law_draw [] (cpBag 1 (cpCons (pC (.int 4)) cpNil))) (pC (.int 1)))) (sAsg (pCall0 w__law_bent [] (cpBag 1 (cpCons (pVar 7) cpNil))) (gpName 7)) sNext)
  (sSeq (sAsg (pCall0 w__law_of [] (cpBag 1 (cpCons (pFrz (pLst (pCons (pC (.int 0)) (pCons (pC (.int 1)) (pCons (pC (.int 2)) (pCons (pC (.int 3)) (pCons (pC (.int 4)) (pCons (pC (.int 5)) (pCons (pNeg (pC (.int 1))) (pCons (pC (.int 4)) (pCons (pC (.int 0)) (pCons (pC (.int 6)) (pCons (pC (.int 10)) (pCons (pNeg (pC (.int 4))) (pCons (pC (.int 123456789)) (pCons (pC (.int 3)) (pCons (pC (.int 2)) (pCons (pC (.int 1)) pNil)))))))))))))))))) cpNil))) (gpName 8))
  (sSeq (sIf (pNot (pTest (pCall0 w__law_like1 [] (cpCons (pCall0 w__law_put [] (cpCons (pVar 7) (cpCons (pVar 8) cpNil))) (cpCons (pFrz (pCallO0 w__law_due [] (cpCons (pVar 7) (cpCons (pVar 8) cpNil)))) cpNil))))) (sRet (pC (.bl false))) sNext)
  (sSeq (sAsg (pCall0 w__law_of [] (cpBag 1 (cpCons (pFrz (pLst (pCons (pC (.str "many")) (pCons (pC (.str "once")) pNil)))) cpNil))) (gpName 7))
  (sSeq (sAsg (pCall0 w__law_draw [] (cpBag 1 (cpCons (pC (.int 5)) cpNil))) (gpName 8))
  (sIf (pNot (pTest (pCall0 w__law_like1 [] (cpCons (pCall0 w__law_put [] (cpCons (pVar 7) (cpCons (pVar 8) cpNil))) (cpCons (pFrz (pCallO0 w__law_due [] (cpCons (pVar 7) (cpCons (pVar 8) cpNil)))) cpNil))))) (sRet (pC (.bl false))) sNext)))))))))))
def b2_law : WS := (sIf (pNot (pTest (pCall0 w__law_like1 [] (cpCons (pFrz (pLst (pCons (pEqO "World" tabE w_World___eq__ (pOp qIxL (pVar 9) (pVar 11)) (pOp qIxL (pVar 10) (pVar 12))) (pCons (pEqO "World" tabE w_World___eq__ (pOp qIxL (pVar 9) (pVar 11)) (pOp qIxL (pVar 9) (pVar 12))) pNil)))) (cpCons (pFrz (pLst (pCons (pOp qEq (pVar 11) (pVar 12)) (pCons (pOp qEq (pVar 11) (pVar 12)) pNil)))) cpNil))))) (sRet (pC (.bl false))) sNext)
def b3_law : WS := (sSeq (sFor (pRng1 (pC (.int 10))) (gpName 12) b2_law)
  (sSeq (sAsg (pMake0 "Rota" w_Rota___init__ (cpCons (pCall0 w__law_of [] (cpBag 1 (cpCons (pFrz (pLst (pCons (pC (.str "-")) (pCons (pC (.str "h")) (pCons (pC (.str "hah")) pNil))))) cpNil))) cpNil)) (gpName 13))
  (sIf (pNot (pTest (pCall0 w__law_like1 [] (cpCons (pFrz (pLst (pCons (pEqO "World" tabE w_World___eq__ (pOp qIxL (pVar 9) (pVar 11)) (pOp qIxL (pVar 2) (pVar 11))) (pCons (pEqO "World" tabE w_World___eq__ (pOp qIxL (pVar 10) (pVar 11)) (pVar 13)) (pCons (pEqO "Rota" tabE w_Rota___eq__ (pVar 13) (pOp qIxL (pVar 9) (pVar 11))) (pCons (pOp qIxL (pFrz (pCallO0 w__law_plain [] (cpCons (pOp qIxL (pVar 9) (pVar 11)) cpNil))) (pC (.int 2))) pNil)))))) (cpCons (pFrz (pLst (pCons (pC (.bl false)) (pCons (pC (.bl false)) (pCons (pC (.bl false)) (pCons (pOp qIxL (pVar 2) (pVar 11)) pNil)))))) cpNil))))) (sRet (pC (.bl false))) sNext)))
def s_v_law : WS := (sSeq (sAsg (pFrz (pCallO0 w__law_texts [] cpNil)) (gpName 2))
  (sSeq (sFor (pRng1 (pC (.int 12))) (gpName 3) b1_law)
  (sSeq (sAsg (pFrz (pLc (pItL (pVar 2)) (gpName 4) pYes (pMake0 "World" w_World___init__ (cpCons (pVar 4) cpNil)) [4])) (gpName 9))
  (sSeq (sAsg (pFrz (pLc (pItL (pVar 2)) (gpName 4) pYes (pCall0 w_World_of [] (cpCons (pSlS (pVar 4) pNoPart (pPart (pC (.int 4)))) (cpCons (p1 qIntS (pSlS (pVar 4) (pPart (pC (.int 5))) pNoPart)) cpNil))) [4])) (gpName 10))
  (sSeq (sFor (pRng1 (pC (.int 10))) (gpName 11) b3_law)
  (sRet (pC (.bl true))))))))
def q_law (K : PySem.W.Frag) : TS := (tSeq (tAsg (tCall (sp__law_texts K) [] E0 tNil) (gName 2)) (tSeq (tFor (iRng1 (tCons (tC (.int 12)) tNil)) (gName 3) (tSeq (tAsg (tCall (sp__law_of K) [] E0 (tCons (tVar 1) (tCons (tVar 2) tNil))) (gName 4)) (tSeq (tFor (iRng1 (tCons (tCall (sp__law_of K) [] E0 (tCons (tVar 1) (tCons (tLst (tCons (tC (.int 1)) (tCons (tC (.int 0)) (tCons (tC (.int 1)) (tCons (tC (.int 2)) (tCons (tC (.int 3)) tNil)))))) tNil))) tNil)) (gName 5) (tAsg (tCall (sp__law_bent K) [] E0 (tCons (tVar 1) (tCons (tVar 4) tNil))) (gName 4))) (tSeq (tAsg (tIf (tTest (tOp (rIn K false) (tVar 4) (tVar 2))) (tLst (tCons (tC (.str "told")) (tCons (tSl rSlS (tVar 4) tNoPart (tPart (tC (.int 4)))) (tCons (tM1 rFind (tC (.str "01234")) (tSl rSlS (tVar 4) (tPart (tC (.int 5))) tNoPart)) (tCons (tVar 4) tNil))))) (tLst (tCons (tC (.str "BadWorld")) tNil))) (gName 6)) (tSeq (tIfS (tNot (tB (tCall (sp__law_like1 K) [] E0 (tCons (tCall (sp__law_read K) [] E0 (tCons (tVar 4) tNil)) (tCons (tVar 6) tNil))))) (tRet (tC (.bl false))) tNext) (tSeq (tAsg (tCall (sp__law_of K) [] E0 (tCons (tVar 1) (tCons (tLst (tCons (tC (.str "many")) (tCons (tC (.str "once")) (tCons (tC (.str "many")) (tCons (tC (.str "once")) (tCons (tC (.str "Many")) (tCons (tC (.str "")) (tCons (tC (.str "many ")) (tCons (tC (.str "both")) (tCons (tC (.str "many 1")) (tCons (tC (.str "o")) tNil))))))))))) tNil))) (gName 7)) (tSeq (tIfS (tTest (tOp rEq (tCall (sp__law_draw K) [] E0 (tCons (tVar 1) (tCons (tC (.int 4)) tNil))) (tC (.int 1)))) (tAsg (tCall (sp__law_bent K) [] E0 (tCons (tVar 1) (tCons (tVar 7) tNil))) (gName 7)) tNext) (tSeq (tAsg (tCall (sp__law_of K) [] E0 (tCons (tVar 1) (tCons (tLst (tCons (tC (.int 0)) (tCons (tC (.int 1)) (tCons (tC (.int 2)) (tCons (tC (.int 3)) (tCons (tC (.int 4)) (tCons (tC (.int 5)) (tCons (tUn uNeg (tC (.int 1))) (tCons (tC (.int 4)) (tCons (tC (.int 0)) (tCons (tC (.int 6)) (tCons (tC (.int 10)) (tCons (tUn uNeg (tC (.int 4))) (tCons (tC (.int 123456789)) (tCons (tC (.int 3)) (tCons (tC (.int 2)) (tCons (tC (.int 1)) tNil))))))))))))))))) tNil))) (gName 8)) (tSeq (tIfS (tNot (tB (tCall (sp__law_like1 K) [] E0 (tCons (tCall (sp__law_put K) [] E0 (tCons (tVar 7) (tCons (tVar 8) tNil))) (tCons (tCall (sp__law_due K) [] E0 (tCons (tVar 7) (tCons (tVar 8) tNil))) tNil))))) (tRet (tC (.bl false))) tNext) (tSeq (tAsg (tCall (sp__law_of K) [] E0 (tCons (tVar 1) (tCons (tLst (tCons (tC (.str "many")) (tCons (tC (.str "once")) tNil))) tNil))) (gName 7)) (tSeq (tAsg (tCall (sp__law_draw K) [] E0 (tCons (tVar 1) (tCons (tC (.int 5)) tNil))) (gName 8)) (tIfS (tNot (tB (tCall (sp__law_like1 K) [] E0 (tCons (tCall (sp__law_put K) [] E0 (tCons (tVar 7) (tCons (tVar 8) tNil))) (tCons (tCall (sp__law_due K) [] E0 (tCons (tVar 7) (tCons (tVar 8) tNil))) tNil))))) (tRet (tC (.bl false))) tNext)))))))))))) (tSeq (tAsg (tLc (iList K (tVar 2)) (gName 4) tYes (tMake (He.ga K "World") (sp_World___init__ K) [] E0 (tCons (tVar 4) tNil)) [4]) (gName 9)) (tSeq (tAsg (tLc (iList K (tVar 2)) (gName 4) tYes (tSMeth (He.ga K "World") (sp_World_of K) E0 (tC (.ref (He.ga K "World"))) (tCons (tSl rSlS (tVar 4) tNoPart (tPart (tC (.int 4)))) (tCons (tCB bIntS (tCons (tSl rSlS (tVar 4) (tPart (tC (.int 5))) tNoPart) tNil)) tNil))) [4]) (gName 10)) (tSeq (tFor (iRng1 (tCons (tC (.int 10)) tNil)) (gName 11) (tSeq (tFor (iRng1 (tCons (tC (.int 10)) tNil)) (gName 12) (tIfS (tNot (tB (tCall (sp__law_like1 K) [] E0 (tCons (tLst (tCons (tOp (rEqO K (He.ga K "World") (sp_World___eq__ K) E0) (tOp (rIxL K) (tVar 9) (tVar 11)) (tOp (rIxL K) (tVar 10) (tVar 12))) (tCons (tOp (rEqO K (He.ga K "World") (sp_World___eq__ K) E0) (tOp (rIxL K) (tVar 9) (tVar 11)) (tOp (rIxL K) (tVar 9) (tVar 12))) tNil))) (tCons (tLst (tCons (tOp rEq (tVar 11) (tVar 12)) (tCons (tOp rEq (tVar 11) (tVar 12)) tNil))) tNil))))) (tRet (tC (.bl false))) tNext)) (tSeq (tAsg (tMake (He.ga K "Rota") (sp_Rota___init__ K) [] E0 (tCons (tCall (sp__law_of K) [] E0 (tCons (tVar 1) (tCons (tLst (tCons (tC (.str "-")) (tCons (tC (.str "h")) (tCons (tC (.str "hah")) tNil)))) tNil))) tNil)) (gName 13)) (tIfS (tNot (tB (tCall (sp__law_like1 K) [] E0 (tCons (tLst (tCons (tOp (rEqO K (He.ga K "World") (sp_World___eq__ K) E0) (tOp (rIxL K) (tVar 9) (tVar 11)) (tOp (rIxL K) (tVar 2) (tVar 11))) (tCons (tOp (rEqO K (He.ga K "World") (sp_World___eq__ K) E0) (tOp (rIxL K) (tVar 10) (tVar 11)) (tVar 13)) (tCons (tOp (rEqO K (He.ga K "Rota") (sp_Rota___eq__ K) E0) (tVar 13) (tOp (rIxL K) (tVar 9) (tVar 11))) (tCons (tOp (rIxL K) (tCall (sp__law_plain K) [] E0 (tCons (tOp (rIxL K) (tVar 9) (tVar 11)) tNil)) (tC (.int 2))) tNil))))) (tCons (tLst (tCons (tC (.bl false)) (tCons (tC (.bl false)) (tCons (tC (.bl false)) (tCons (tOp (rIxL K) (tVar 2) (tVar 11)) tNil))))) tNil))))) (tRet (tC (.bl false))) tNext)))) (tRet (tC (.bl true))))))))
def r_law (K : PySem.W.Frag) : TS := tSeq (tAsg (tCall (sp__law_bag K) [] E0 (tCons (tVar 0) tNil)) (gName 1)) (q_law K)
theorem v_law {K : PySem.W.Frag} (kt : KT K) (ka : KAt K attrs) (tx : TX K) : EvS K (Tb K) L2.E0 (q_law K) s_v_law := (seq_ok (es_asg (ev_frz (eo_call0 (fun _ _ => .nil) rfl ec_nil)) eg_name)
  (seq_ok (es_for (ei_rng1 ev_int) eg_name (seq_ok (es_asg (ev_call0 (fun _ _ => .nil) rfl (ec_bag (ec_cons ev_var ec_nil))) eg_name)
  (seq_ok (es_for (ei_rng1 (ev_call0 (fun _ _ => .nil) rfl (ec_bag (ec_cons (ev_frz (eo_lst (ea_cons ev_int (ea_cons ev_int (ea_cons ev_int (ea_cons ev_int (ea_cons ev_int ea_nil))))))) ec_nil)))) eg_name (es_asg (ev_call0 (fun _ _ => .nil) rfl (ec_bag (ec_cons ev_var ec_nil))) eg_name))
  (seq_ok (es_asg (ev_if (et_test (ev_op v_InG (EvE.b ev_var) (EvE.b ev_var))) (ev_frz (eo_lst (ea_cons ev_str (ea_cons (ev_slS ev_var ep_no (ep_part ev_int)) (ea_cons (ev_find ev_str (ev_slS ev_var (ep_part ev_int) ep_no)) (ea_cons ev_var ea_nil)))))) (ev_frz (eo_lst (ea_cons ev_str ea_nil)))) eg_name)
  (seq_ok (es_if (et_not (et_b (ev_call0 (fun _ _ => .nil) rfl (ec_cons (ev_call0 (fun _ _ => .nil) rfl (ec_cons ev_var ec_nil)) (ec_cons ev_var ec_nil))))) (es_ret ev_bl) es_next)
  (seq_ok (es_asg (ev_call0 (fun _ _ => .nil) rfl (ec_bag (ec_cons (ev_frz (eo_lst (ea_cons ev_str (ea_cons ev_str (ea_cons ev_str (ea_cons ev_str (ea_cons ev_str (ea_cons ev_str (ea_cons ev_str (ea_cons ev_str (ea_cons ev_str (ea_cons ev_str ea_nil)))))))))))) ec_nil))) eg_name)
  (seq_ok (es_if (et_test (ev_op v_Eq (EvE.b (ev_call0 (fun _ _ => .nil) rfl (ec_bag (ec_cons ev_int ec_nil)))) (EvE.b ev_int))) (es_asg (ev_call0 (fun _ _ => .nil) rfl (ec_bag (ec_cons ev_var ec_nil))) eg_name) es_next)
  (seq_ok (es_asg (ev_call0 (fun _ _ => .nil) rfl (ec_bag (ec_cons (ev_frz (eo_lst (ea_cons ev_int (ea_cons ev_int (ea_cons ev_int (ea_cons ev_int (ea_cons ev_int (ea_cons ev_int (ea_cons (ev_neg ev_int) (ea_cons ev_int (ea_cons ev_int (ea_cons ev_int (ea_cons ev_int (ea_cons (ev_neg ev_int) (ea_cons ev_int (ea_cons ev_int (ea_cons ev_int (ea_cons ev_int ea_nil)))))))))))))))))) ec_nil))) eg_name)
  (seq_ok (es_if (et_not (et_b (ev_call0 (fun _ _ => .nil) rfl (ec_cons (ev_call0 (fun _ _ => .nil) rfl (ec_cons ev_var (ec_cons ev_var ec_nil))) (ec_cons (ev_frz (eo_call0 (fun _ _ => .nil) rfl (ec_cons ev_var (ec_cons ev_var ec_nil)))) ec_nil))))) (es_ret ev_bl) es_next)
  (seq_ok (es_asg (ev_call0 (fun _ _ => .nil) rfl (ec_bag (ec_cons (ev_frz (eo_lst (ea_cons ev_str (ea_cons ev_str ea_nil)))) ec_nil))) eg_name)
  (seq_ok (es_asg (ev_call0 (fun _ _ => .nil) rfl (ec_bag (ec_cons ev_int ec_nil))) eg_name)
  (es_if (et_not (et_b (ev_call0 (fun _ _ => .nil) rfl (ec_cons (ev_call0 (fun _ _ => .nil) rfl (ec_cons ev_var (ec_cons ev_var ec_nil))) (ec_cons (ev_frz (eo_call0 (fun _ _ => .nil) rfl (ec_cons ev_var (ec_cons ev_var ec_nil)))) ec_nil))))) (es_ret ev_bl) es_next))))))))))))
  (seq_ok (es_asg (ev_frz (eo_lc (ei_listB (EvE.b ev_var)) eg_name et_yes (ev_make0 (ec_cons ev_var ec_nil)))) eg_name)
  (seq_ok (es_asg (ev_frz (eo_lc (ei_listB (EvE.b ev_var)) eg_name et_yes (ev_smeth0 rfl (ec_cons (ev_slS ev_var ep_no (ep_part ev_int)) (ec_cons (ev_intS (ev_slS ev_var (ep_part ev_int) ep_no)) ec_nil))))) eg_name)
  (seq_ok (es_for (ei_rng1 ev_int) eg_name (seq_ok (es_for (ei_rng1 ev_int) eg_name (es_if (et_not (et_b (ev_call0 (fun _ _ => .nil) rfl (ec_cons (ev_frz (eo_lst (ea_cons (ev_eqO kt.eqWorld (ev_op v_IxL (EvE.b ev_var) (EvE.b ev_var)) (ev_op v_IxL (EvE.b ev_var) (EvE.b ev_var))) (ea_cons (ev_eqO kt.eqWorld (ev_op v_IxL (EvE.b ev_var) (EvE.b ev_var)) (ev_op v_IxL (EvE.b ev_var) (EvE.b ev_var))) ea_nil)))) (ec_cons (ev_frz (eo_lst (ea_cons (ev_op v_Eq (EvE.b ev_var) (EvE.b ev_var)) (ea_cons (ev_op v_Eq (EvE.b ev_var) (EvE.b ev_var)) ea_nil)))) ec_nil))))) (es_ret ev_bl) es_next))
  (seq_ok (es_asg (ev_make0 (ec_cons (ev_call0 (fun _ _ => .nil) rfl (ec_bag (ec_cons (ev_frz (eo_lst (ea_cons ev_str (ea_cons ev_str (ea_cons ev_str ea_nil))))) ec_nil))) ec_nil)) eg_name)
  (es_if (et_not (et_b (ev_call0 (fun _ _ => .nil) rfl (ec_cons (ev_frz (eo_lst (ea_cons (ev_eqO kt.eqWorld (ev_op v_IxL (EvE.b ev_var) (EvE.b ev_var)) (ev_op v_IxL (EvE.b ev_var) (EvE.b ev_var))) (ea_cons (ev_eqO kt.eqWorld (ev_op v_IxL (EvE.b ev_var) (EvE.b ev_var)) ev_var) (ea_cons (ev_eqO kt.eqRota ev_var (ev_op v_IxL (EvE.b ev_var) (EvE.b ev_var))) (ea_cons (ev_op v_IxL (EvE.b (ev_frz (eo_call0 (fun _ _ => .nil) rfl (ec_cons (ev_op v_IxL (EvE.b ev_var) (EvE.b ev_var)) ec_nil)))) (EvE.b ev_int)) ea_nil)))))) (ec_cons (ev_frz (eo_lst (ea_cons ev_bl (ea_cons ev_bl (ea_cons ev_bl (ea_cons (ev_op v_IxL (EvE.b ev_var) (EvE.b ev_var)) ea_nil)))))) ec_nil))))) (es_ret ev_bl) es_next))))
  (es_ret ev_bl))))))
end My
end

section
set_option Elab.async false
set_option maxRecDepth 100000
set_option maxHeartbeats 4000000
set_option linter.all false
namespace My
open PySem L2
/-! ### the head: facts by names, the run -/
def d__law_bag : He5.DefA := ⟨fun K => He.ga K "_law_bag", "_law_bag", "_law_bag", defArgs s__law_bag, defBody s__law_bag, defScope s__law_bag, [], []⟩
def d__law_texts : He5.DefA := ⟨fun K => He.ga K "_law_texts", "_law_texts", "_law_texts", defArgs s__law_texts, defBody s__law_texts, defScope s__law_texts, [], []⟩
def d__law_draw : He5.DefA := ⟨fun K => He.ga K "_law_draw", "_law_draw", "_law_draw", defArgs s__law_draw, defBody s__law_draw, defScope s__law_draw, [], []⟩
def d__law_of : He5.DefA := ⟨fun K => He.ga K "_law_of", "_law_of", "_law_of", defArgs s__law_of, defBody s__law_of, defScope s__law_of, [], []⟩
def d__law_ofS : He5.DefA := ⟨fun K => He.ga K "_law_of", "_law_of", "_law_of", defArgs s__law_ofS, defBody s__law_ofS, defScope s__law_ofS, [], []⟩
def d__law_bent : He5.DefA := ⟨fun K => He.ga K "_law_bent", "_law_bent", "_law_bent", defArgs s__law_bent, defBody s__law_bent, defScope s__law_bent, [], []⟩
def d__law_like0 : He5.DefA := ⟨fun K => He.ga K "_law_like", "_law_like", "_law_like", defArgs s__law_like0, defBody s__law_like0, defScope s__law_like0, [], []⟩
def d__law_like1 : He5.DefA := ⟨fun K => He.ga K "_law_like", "_law_like", "_law_like", defArgs s__law_like1, defBody s__law_like1, defScope s__law_like1, [], []⟩
def d__law_plain : He5.DefA := ⟨fun K => He.ga K "_law_plain", "_law_plain", "_law_plain", defArgs s__law_plain, defBody s__law_plain, defScope s__law_plain, [], []⟩
def d_check_length : He5.DefA := ⟨fun K => He.ga K "check_length", "check_length", "check_length", defArgs s_check_length, defBody s_check_length, defScope s_check_length, [], []⟩
def d_world_words : He5.DefA := ⟨fun K => He.ga K "world_words", "world_words", "world_words", defArgs s_world_words, defBody s_world_words, defScope s_world_words, [], []⟩
def d_World___init__ : He5.DefA := ⟨fun K => He.ma K (He.ga K "World") "__init__", "__init__", "World.__init__", defArgs s_World___init__, defBody s_World___init__, defScope s_World___init__, [], []⟩
def d__law_read : He5.DefA := ⟨fun K => He.ga K "_law_read", "_law_read", "_law_read", defArgs s__law_read, defBody s__law_read, defScope s__law_read, [], []⟩
def d__law_due : He5.DefA := ⟨fun K => He.ga K "_law_due", "_law_due", "_law_due", defArgs s__law_due, defBody s__law_due, defScope s__law_due, [], []⟩
def d_World_of : He5.DefA := ⟨fun K => smAt K (He.ga K "World") "of", "of", "World.of", defArgs s_World_of, defBody s_World_of, defScope s_World_of, [], []⟩
def d__law_put : He5.DefA := ⟨fun K => He.ga K "_law_put", "_law_put", "_law_put", defArgs s__law_put, defBody s__law_put, defScope s__law_put, [], []⟩
def d_World___eq__ : He5.DefA := ⟨fun K => He.ma K (He.ga K "World") "__eq__", "__eq__", "World.__eq__", defArgs s_World___eq__, defBody s_World___eq__, defScope s_World___eq__, [], []⟩
def d_first_strange : He5.DefA := ⟨fun K => He.ga K "first_strange", "first_strange", "first_strange", defArgs s_first_strange, defBody s_first_strange, defScope s_first_strange, [], []⟩
def d_rota_fault : He5.DefA := ⟨fun K => He.ga K "rota_fault", "rota_fault", "rota_fault", defArgs s_rota_fault, defBody s_rota_fault, defScope s_rota_fault, [], []⟩
def d_letters_of_text : He5.DefA := ⟨fun K => He.ga K "letters_of_text", "letters_of_text", "letters_of_text", defArgs s_letters_of_text, defBody s_letters_of_text, defScope s_letters_of_text, [], []⟩
def d_Rota___init__ : He5.DefA := ⟨fun K => He.ma K (He.ga K "Rota") "__init__", "__init__", "Rota.__init__", defArgs s_Rota___init__, defBody s_Rota___init__, defScope s_Rota___init__, [], []⟩
def d_Rota___eq__ : He5.DefA := ⟨fun K => He.ma K (He.ga K "Rota") "__eq__", "__eq__", "Rota.__eq__", defArgs s_Rota___eq__, defBody s_Rota___eq__, defScope s_Rota___eq__, [], []⟩
def d_law : He5.DefA := ⟨fun K => He.ga K "law", "law", "law", defArgs s_law, defBody s_law, defScope s_law, [], []⟩
def d__law_error : He5.DefA := ⟨fun K => He.ga K "_law_error", "_law_error", "_law_error", defArgs s__law_error, defBody s__law_error, defScope s__law_error, [], []⟩
def d__law_why : He5.DefA := ⟨fun K => He.ga K "_law_why", "_law_why", "_law_why", defArgs s__law_why, defBody s__law_why, defScope s__law_why, [], []⟩
def fn : List He5.DefA := [d__law_bag, d__law_texts, d__law_draw, d__law_of, d__law_ofS, d__law_bent, d__law_like0, d__law_like1, d__law_plain, d_check_length, d_world_words, d_World___init__, d__law_read, d__law_due, d_World_of, d__law_put, d_World___eq__, d_first_strange, d_rota_fault, d_letters_of_text, d_Rota___init__, d_Rota___eq__, d_law, d__law_error, d__law_why]
def fa : List He.Fa := [.glo "_law_bag", .glo "_law_texts", .glo "_law_draw", .glo "_law_of", .glo "_law_bent", .glo "_law_like", .glo "_law_plain", .glo "check_length", .glo "world_words", .glo "_law_read", .glo "_law_due", .glo "_law_put", .glo "first_strange", .glo "rota_fault", .glo "letters_of_text", .glo "law", .glo "_law_error", .glo "_law_why", .free "bool", .free "enumerate", .free "int", .free "isinstance", .free "len", .free "list", .free "range", .free "str", .free "tuple", .str "EMPTY" "-", .str "LETTERS" ".hHabB", .int "MOST_CHARACTERS" 100000, .int "MOST_LATE" 4, .int "MOST_SLOTS" 40, .glo "KINDS", .glo "LATENESSES", .glo "Rota", .glo "World", .mkr "Rota", .mkr "World", .cls "Rota", .meth "Rota" "__eq__", .cls "World", .meth "World" "__eq__", .noat "Rota" "letters", .noat "Rota" "text", .noat "World" "kind", .noat "World" "late", .noat "World" "text", .free "super", .glo "BadWorld", .glo "BadRota", .glo "BadTree", .glo "BadPlay", .glo "BadBook", .glo "BadCourse", .glo "BadDie", .glo "BadMill", .glo "BadRoster", .glo "BadScript", .glo "NoTree", .glo "OutOf", .glo "TooMany", .glo "NoSuch", .glo "Ended"]
def ts : List He.Tab := []
def tf : List He.Defn := []
def sf : List SupD := [d_BadWorld]
abbrev R : PySem.W.OpenRow := PySem.W.OpenLaw.row PySem.Challenge.rw_buriedsure_k01_worlds_told
def file0 : Str := R.prog.main.file
def kitW (K : PySem.W.Frag) (n : Str) : Bool := decide (PySem.W.kitOne K (.ref (He.ga K "BadWorld")) (.ref (He.ga K n)) = some false)
def ewB (K : PySem.W.Frag) : Bool := (["BadRota", "BadTree", "BadPlay", "BadBook", "BadCourse", "BadDie", "BadMill", "BadRoster", "BadScript", "NoTree", "OutOf", "TooMany", "NoSuch", "Ended"] : List Str).all (kitW K) && decide (PySem.W.kitOne K (.ref (He.ga K "BadWorld")) (.ref (He.ga K "BadWorld")) = some true)
def excB (K : PySem.W.Frag) (D : Addr) : Bool := decide (PySem.W.findIn K (.ref D) "__getattribute__" = some (some (.builtin "BaseException.__getattribute__"))) && (decide (PySem.W.findIn K (.ref D) "__getattr__" = some none) && (decide (PySem.W.subIn K (.ref D) (.type "BaseException") = some true) && (decide (PySem.W.hasDictIn K D = true) &&
  (decide (PySem.W.findIn K (.ref D) "__class__" = some (some (.builtin "object.__class__"))) && (decide (PySem.W.specialIn K (.builtin "object.__class__") "__get__" = some (some (.builtin "getset_descriptor.__get__"))) && (decide (PySem.W.takesIn K (.builtin "object.__class__") = some true) && decide (PySem.W.mroIn K D (.type "object") = some true)))))))
theorem repS {K : PySem.W.Frag} {M : List Addr} {H : Hp} {a : Addr} {ss : List Str} (h : ∀ H', SqT K H' a (ss.map V.str)) : Rep K M H (.ref a) (.tup (ss.map PV.str)) := .ktup h (by rw [List.length_map, List.length_map]) fun i x p e1 e2 => by
  rw [List.getElem?_map] at e1 e2
  cases e : ss[i]? with
  | none => rw [e] at e1; cases e1
  | some s => rw [e] at e1 e2; cases e1; cases e2; exact .str _
def ownB (K : PySem.W.Frag) (c : Str) : Bool := decide (PySem.W.findIn K (.ref (He.ga K c)) "__class__" = some (some (.builtin "object.__class__"))) && (decide (PySem.W.specialIn K (.builtin "object.__class__") "__get__" = some (some (.builtin "getset_descriptor.__get__"))) && (decide (PySem.W.takesIn K (.builtin "object.__class__") = some true) && decide (PySem.W.mroIn K (He.ga K c) (.type "object") = some true)))
theorem ownB_ok {K : PySem.W.Frag} {c : Str} (h : ownB K c = true) (cl : Cls K (He.ga K c)) : OwnT K c := by
  obtain ⟨h1, h⟩ := He.ba h
  obtain ⟨h2, h⟩ := He.ba h
  obtain ⟨h3, h4⟩ := He.ba h
  exact ⟨cl, of_decide_eq_true h1, of_decide_eq_true h2, of_decide_eq_true h3, of_decide_eq_true h4⟩
def isB (K : PySem.W.Frag) (C : Str) : Bool := decide (PySem.W.kitOne K (.type "str") (.ref (He.ga K C)) = some false) && (["World", "Rota"] : List Str).all fun c => decide (PySem.W.kitOne K (.ref (He.ga K c)) (.ref (He.ga K C)) = some (decide (c = C)))
theorem isB_ok {K : PySem.W.Frag} {C : Str} (hC : C = "World" ∨ C = "Rota") (h : isB K C = true) (o1 : OwnT K "World") (o2 : OwnT K "Rota") : IsC K C (tabI C) := by
  obtain ⟨h1, h2⟩ := He.ba h
  have key : ∀ c : Str, (c = "World" ∨ c = "Rota") → PySem.W.kitOne K (.ref (He.ga K c)) (.ref (He.ga K C)) = some (decide (c = C)) := fun c hc => by
    refine of_decide_eq_true (List.all_eq_true.mp h2 c ?_)
    rcases hc with e | e
    · rw [e]; exact List.mem_cons_self
    · rw [e]; exact List.mem_cons_of_mem _ List.mem_cons_self
  refine ⟨fun t d e => ?_, fun x d e => ?_⟩
  · cases t with
    | b s =>
      unfold tabI at e
      dsimp only at e
      split at e
      · rename_i es
        cases e
        rw [es]; exact of_decide_eq_true h1
      · cases e
    | o c =>
      unfold tabI at e
      dsimp only at e
      split at e
      · rename_i ec
        cases e
        have := key c (by rw [ec]; exact hC)
        rw [decide_eq_true ec] at this
        exact this
      · rename_i nc
        split at e
        · rename_i hc
          cases e
          have := key c hc
          rw [decide_eq_false nc] at this
          exact this
        · cases e
  · have hx : x = "World" ∨ x = "Rota" := by
      unfold tabI at e
      dsimp only at e
      split at e
      · rename_i ec; rw [ec]; exact hC
      · split at e
        · assumption
        · cases e
    rcases hx with e | e
    · rw [e]; exact o1
    · rw [e]; exact o2
def eqB (K : PySem.W.Frag) (C : Str) : Bool := PySem.W.notFirst K (He.ga K C) (.type "str") && (["World", "Rota"] : List Str).all fun c => PySem.W.notFirst K (He.ga K C) (.ref (He.ga K c))
theorem eqB_ok {K : PySem.W.Frag} {C : Str} (h : eqB K C = true) : EqC K C tabE := by
  obtain ⟨h1, h2⟩ := He.ba h
  refine ⟨fun t e => ?_⟩
  cases t with
  | b s =>
    have e : s = "str" := of_decide_eq_true e
    subst e
    exact ⟨h1, .inl rfl⟩
  | o c =>
    have e : c = "World" ∨ c = "Rota" := of_decide_eq_true e
    refine ⟨List.all_eq_true.mp h2 c ?_, .inr ⟨c, rfl⟩⟩
    rcases e with e | e
    · rw [e]; exact List.mem_cons_self
    · rw [e]; exact List.mem_cons_of_mem _ List.mem_cons_self
def ex (K : PySem.W.Frag) : Bool := ewB K && (excB K (He.ga K "BadWorld") && (xfB K (He.ga K "BadWorld") && (decide (PySem.W.findIn K (.ref (He.ga K "BadWorld")) "why" = some none) && (decide (PySem.W.exmAny K (.ref (He.ga K "BadWorld")) (csE K) = some true) && (He.tupB K "KINDS" [.str "many", .str "once"] && (He.tupB K "LATENESSES" [.str "0", .str "1", .str "2", .str "3", .str "4"] && (smB K (He.ga K "World") "of" && (ownB K "World" && (ownB K "Rota" && (isB K "World" && (isB K "Rota" && (eqB K "World" && eqB K "Rota"))))))))))))
abbrev hk : PySem.W.Hook := hookY 7 fa fn ts tf sf file0 ex
def ob (s : PySem.W.SharedT) : AlY := obsY 7 fa fn ts tf sf file0 ex (HandSHeadRun.getT s)
theorem ob_eq (s : PySem.W.SharedT) : ob s = hk.obs s.abs := obsY_eq (HandSHeadRun.getT_eq s)
def loose : List Str := (["_wall", "__name__", "BadRota", "BadWorld", "BadTree", "BadPlay", "BadBook", "BadCourse", "BadDie", "BadMill", "BadRoster", "BadScript", "NoTree", "OutOf", "TooMany", "NoSuch", "Ended", "EMPTY", "LETTERS", "FALSE_LETTERS", "TRUE_HANDS", "MOST_SLOTS", "true_hands", "has_false_hand", "hands_at", "first_strange", "rota_fault", "letters_of_text", "text_of_letters", "MOST_CHARACTERS"] : List Str) ++ (["check_length", "KINDS", "MOST_LATE", "LATENESSES", "Rota", "time_of", "world_words", "World", "_law_bag", "_law_draw", "_law_of", "_law_like", "_law_why", "_law_error", "_law_texts", "_law_bent", "_law_plain", "_law_read", "_law_put", "_law_due"] : List Str)
theorem ft_split (f : String → Bool) : (fun s => bif s == "special-get-raises" then f "special-get-raises" else f s) = f := funext fun s => by
  cases e : s == "special-get-raises" with
  | false => simp [e]
  | true => simp [eq_of_beq e]
theorem and3 {α β γ δ : Type} {o : Option α} {f : α → β} {g : α → γ} {h : α → δ} {a : β} {b : γ} {c : δ} (h1 : o.map f = some a) (h2 : o.map g = some b) (h3 : o.map h = some c) : o.map (fun s => (f s, g s, h s)) = some (a, b, c) := by
  cases o with
  | none => cases h1
  | some s =>
    cases h1
    cases h2
    cases h3
    rfl
abbrev wAt (b : Bool) (f : String → Bool) (w : World) : World := { w with params := { w.params with followText := fun s => bif s == "special-get-raises" then b else f s } }
abbrev qv : Program := PySem.W.view R.prog [54]
abbrev rN : Nat := 12000
end My
end

section
set_option Elab.async false
set_option maxRecDepth 100000
set_option maxHeartbeats 4000000
set_option linter.all false
namespace My
open PySem L2
theorem run1_false (f : String → Bool) (w : World) (os : OsState) : (HandSHeadRun.endF (HandSHeadRun.stepQ (HandSHeadRun.denQ HandSHeadRun.tabQ) R.prog (wAt false f w)) rN R.prog (wAt false f w) os).map (fun s => HandSHeadRun.looksF R.prog (PySem.W.boot_heap (wAt false f w).params) s.abs) = some true := by kernel_rfl
end My
end

section
set_option Elab.async false
set_option maxRecDepth 100000
set_option maxHeartbeats 4000000
set_option linter.all false
namespace My
open PySem L2
theorem run2_false (f : String → Bool) (w : World) (os : OsState) : (HandSHeadRun.endF (HandSHeadRun.stepQ (HandSHeadRun.denQ HandSHeadRun.tabQ) R.prog (wAt false f w)) rN R.prog (wAt false f w) os).map (fun s => HandSHeadRun.seenQ qv loose (importedModules R.prog.main.body) (fun s => PySem.W.xlAt qv [] s && PySem.W.recOk R.toRowW.records s) s.abs) = some (PySem.W.openGood qv loose) := by kernel_rfl
end My
end

section
set_option Elab.async false
set_option maxRecDepth 100000
set_option maxHeartbeats 4000000
set_option linter.all false
namespace My
open PySem L2
theorem run3_false (f : String → Bool) (w : World) (os : OsState) : (HandSHeadRun.endF (HandSHeadRun.stepQ (HandSHeadRun.denQ HandSHeadRun.tabQ) R.prog (wAt false f w)) rN R.prog (wAt false f w) os).map (fun s => ob s) = some (hk.val (wAt false f w)) := by kernel_rfl
end My
end

section
set_option Elab.async false
set_option maxRecDepth 100000
set_option maxHeartbeats 4000000
set_option linter.all false
namespace My
open PySem L2
theorem run1_true (f : String → Bool) (w : World) (os : OsState) : (HandSHeadRun.endF (HandSHeadRun.stepQ (HandSHeadRun.denQ HandSHeadRun.tabQ) R.prog (wAt true f w)) rN R.prog (wAt true f w) os).map (fun s => HandSHeadRun.looksF R.prog (PySem.W.boot_heap (wAt true f w).params) s.abs) = some true := by kernel_rfl
end My
end

section
set_option Elab.async false
set_option maxRecDepth 100000
set_option maxHeartbeats 4000000
set_option linter.all false
namespace My
open PySem L2
theorem run2_true (f : String → Bool) (w : World) (os : OsState) : (HandSHeadRun.endF (HandSHeadRun.stepQ (HandSHeadRun.denQ HandSHeadRun.tabQ) R.prog (wAt true f w)) rN R.prog (wAt true f w) os).map (fun s => HandSHeadRun.seenQ qv loose (importedModules R.prog.main.body) (fun s => PySem.W.xlAt qv [] s && PySem.W.recOk R.toRowW.records s) s.abs) = some (PySem.W.openGood qv loose) := by kernel_rfl
end My
end

section
set_option Elab.async false
set_option maxRecDepth 100000
set_option maxHeartbeats 4000000
set_option linter.all false
namespace My
open PySem L2
theorem run3_true (f : String → Bool) (w : World) (os : OsState) : (HandSHeadRun.endF (HandSHeadRun.stepQ (HandSHeadRun.denQ HandSHeadRun.tabQ) R.prog (wAt true f w)) rN R.prog (wAt true f w) os).map (fun s => ob s) = some (hk.val (wAt true f w)) := by kernel_rfl
end My
end

section
set_option Elab.async false
set_option maxRecDepth 100000
set_option maxHeartbeats 4000000
set_option linter.all false
namespace My
open PySem L2
theorem wAt_self (w : World) : wAt (w.params.followText "special-get-raises") w.params.followText w = w := by
  unfold wAt
  rw [ft_split]
theorem run_at (b : Bool) (f : String → Bool) (w : World) (os : OsState) : (HandSHeadRun.endF (HandSHeadRun.stepQ (HandSHeadRun.denQ HandSHeadRun.tabQ) R.prog (wAt b f w)) rN R.prog (wAt b f w) os).map (fun s => (HandSHeadRun.looksF R.prog (PySem.W.boot_heap (wAt b f w).params) s.abs, HandSHeadRun.seenQ qv loose (importedModules R.prog.main.body) (fun s => PySem.W.xlAt qv [] s && PySem.W.recOk R.toRowW.records s) s.abs, ob s)) = some (true, PySem.W.openGood qv loose, hk.val (wAt b f w)) := by
  cases b with
  | false => exact and3 (run1_false f w os) (run2_false f w os) (run3_false f w os)
  | true => exact and3 (run1_true f w os) (run2_true f w os) (run3_true f w os)
theorem run (w : World) : HandSHeadRun.RunEq R qv hk ob rN loose w := fun os => by
  have h := run_at (w.params.followText "special-get-raises") w.params.followText w os
  rw [wAt_self] at h
  exact h
end My
end

section
set_option Elab.async false
set_option maxRecDepth 100000
set_option maxHeartbeats 4000000
set_option linter.all false
namespace My
open PySem L2
abbrev tl (z : Str) : List Nat := z.cps.toList
def L6 : List Nat := [46, 104, 72, 97, 98, 66]
def okL (l : List Nat) : Prop := ∀ c ∈ l, c ∈ L6
/-- a text that Rota takes -/
def RotaText (z : Str) : Prop := z = "-" ∨ (z ≠ "" ∧ okL (tl z))
def lettersOf (z : Str) : Str := if z = "-" then "" else z
def wtext (k : Bool) (d : Nat) : Str := Str.ofString ((if k then "once" else "many") ++ " " ++ toString d)
def ktext (k : Bool) : Str := if k then "once" else "many"
theorem tl_const : (".hHabB" : Str).cps.toList = L6 := by decide +kernel
theorem tl_len (z : Str) : (tl z).length = z.length := by
  show z.cps.toList.length = z.cps.size
  rw [Array.length_toList]
theorem lettersOf_len {z : Str} {n : Nat} (h : z.length ≤ n) : (lettersOf z).length ≤ n := by
  unfold lettersOf
  by_cases e : z = "-"
  · rw [if_pos e]; exact Nat.zero_le _
  · rw [if_neg e]; exact h
theorem tl_cut (z : Str) (lo hi : Option Int) : tl (cutS z lo hi) = ((tl z).drop (HT.sIx z.length 0 lo)).take (HT.sIx z.length z.length hi - HT.sIx z.length 0 lo) := rfl
theorem cut_len (z : Str) (lo hi : Option Int) : (cutS z lo hi).length ≤ z.length := by
  rw [← tl_len, tl_cut, List.length_take, List.length_drop, tl_len]; omega
def dtext (d : Nat) : Str := Str.ofString (toString d)
theorem d_cases {d : Nat} (h : d ≤ 4) : d = 0 ∨ d = 1 ∨ d = 2 ∨ d = 3 ∨ d = 4 := by omega
theorem split_eq (k : Bool) {d : Nat} (h : d ≤ 4) : Txt.split (wtext k d) " " = [ktext k, dtext d] := by
  rcases d_cases h with rfl | rfl | rfl | rfl | rfl <;> cases k <;> decide +kernel
theorem wtext_len (k : Bool) {d : Nat} (h : d ≤ 4) : (wtext k d).length ≤ 10 := by
  rcases d_cases h with rfl | rfl | rfl | rfl | rfl <;> cases k <;> decide +kernel
theorem wtext_eq (k : Bool) {d : Nat} (h : d ≤ 4) : ((Str.empty ++ ktext k) ++ (" " : Str)) ++ Str.ofString (toString (d : Int)) = wtext k d := by
  rcases d_cases h with rfl | rfl | rfl | rfl | rfl <;> cases k <;> decide +kernel
theorem dtext_int {d : Nat} (h : d ≤ 4) : PySem.intText? (dtext d) = some (d : Int) := by
  rcases d_cases h with rfl | rfl | rfl | rfl | rfl <;> decide +kernel
theorem dtext_len {d : Nat} (h : d ≤ 4) : (dtext d).length ≤ 640 := by
  rcases d_cases h with rfl | rfl | rfl | rfl | rfl <;> decide +kernel
theorem dtext_in {d : Nat} (h : d ≤ 4) : inV (.str (dtext d)) [.str "0", .str "1", .str "2", .str "3", .str "4"] = true := by
  rcases d_cases h with rfl | rfl | rfl | rfl | rfl <;> decide +kernel
theorem ktext_in (k : Bool) : inV (.str (ktext k)) [.str "many", .str "once"] = true := by cases k <;> decide +kernel
theorem text_ok {z : Str} (ok : okL (tl z)) (hl : z.length ≤ 40) : RotaText (if z.length = 0 then "-" else z) ∧ lettersOf (if z.length = 0 then "-" else z) = z ∧ (if z.length = 0 then ("-" : Str) else z).length ≤ 40 := by
  by_cases h : z.length = 0
  · rw [if_pos h]
    refine ⟨.inl rfl, ?_, by decide⟩
    have e : z = "" := TL.ext_tl (by
      have : (tl z).length = 0 := by rw [tl_len]; exact h
      rw [show TL.tl z = [] from List.length_eq_zero_iff.mp this]; decide +kernel)
    rw [e]; decide +kernel
  · rw [if_neg h]
    have n1 : z ≠ "" := fun e => h (by rw [e]; decide)
    have n2 : z ≠ "-" := fun e => by
      rw [e] at ok
      exact absurd (ok 45 (by decide +kernel)) (by decide)
    refine ⟨.inr ⟨n1, ok⟩, ?_, hl⟩
    unfold lettersOf
    rw [if_neg n2]
theorem str_app_len (x y : Str) : (x ++ y).length = x.length + y.length := by
  rw [TL.len_tl, TL.len_tl, TL.len_tl, TL.tl_append, List.length_append]
end My
end

section
set_option Elab.async false
set_option maxRecDepth 100000
set_option maxHeartbeats 4000000
set_option linter.all false
namespace My
open PySem L2
local macro_rules | `(tactic| acc_open) => `(tactic| with_reducible first
  | refine sqK_nx ?_ | refine sqK_rt ?_ | refine sqK_bk ?_ | refine sqK_ct ?_ | refine sqK_er ?_ | refine bk_ok ?_ | refine bk_er ?_ | refine erO_ok ?_ | refine erO_er ?_
  | refine testK_ok ?_ | refine partK_ok ?_ | refine frz_fz ?_ | refine frz_own ?_ | refine frz_er ?_ | refine own_own ?_ | refine own_er ?_ | refine noR_ok ?_ | refine retD_rt ?_ | refine retD_nx ?_ | refine retD_er ?_
  | refine loopK_nx ?_ | refine loopK_ct ?_ | refine loopK_bk ?_ | refine loopK_rt ?_ | refine loopK_er ?_ | refine objR_ok ?_ | refine objR_er ?_
  | refine q_seq ?_ | refine q_next ?_ | refine q_retN ?_ | refine q_break ?_ | refine q_cont ?_ | refine q_if ?_ | refine q_ret ?_ | refine q_retO ?_ | refine q_drop ?_ | refine q_asg ?_ | refine q_asgO ?_ | refine q_app rfl ?_ | refine q_retV rfl ?_ | refine q_retVo rfl ?_ | refine q_frz rfl ?_ | refine q_frz0 rfl ?_ | refine q_par ?_ | refine q_for ?_ | refine q_forN ?_
  | refine q_name ?_ | refine q_gtup rfl ?_ | refine q_gunl rfl ?_ | refine q_gcons ?_ | refine gcK_ok ?_ | refine q_gnil ?_
  | refine q_bind ?_ | refine q_var rfl ?_ | refine q_varB rfl ?_ | refine q_varBo rfl ?_ | refine q_c ?_ | refine q_op ?_ | refine q_p2 ?_ | refine q_p1 ?_ | refine q_ixK ?_ | refine q_neg ?_ | refine q_pif ?_ | refine q_test ?_ | refine q_tand ?_ | refine q_tor ?_ | refine q_tnot ?_ | refine q_yes ?_ | refine q_tru ?_ | refine truK_bl ?_ | refine truK_int ?_ | refine truK_lst ?_ | refine truK_tup ?_
  | refine q_andV ?_ | refine q_orV ?_ | refine q_notV ?_ | refine andVK_ok ?_ | refine orVK_ok ?_ | refine notVK_ok ?_ | refine q_anil ?_ | refine q_acons ?_ | refine q_tup ?_ | refine q_lst ?_ | refine q_pfrz ?_ | refine q_nopart ?_ | refine q_part ?_ | refine q_slS ?_ | refine slSK_ok ?_ | refine q_slL ?_ | refine slLK_ok ?_ | refine slLK2_ok ?_
  | refine q_len ?_ | refine lenK_l ?_ | refine lenK_t ?_ | refine q_listO ?_ | refine seqK_l ?_ | refine seqK_t ?_ | refine q_cat ?_ | refine q_rep ?_ | refine q_join ?_ | refine joinK_ok ?_
  | refine q_itL ?_ | refine q_itT ?_ | refine q_itS ?_ | refine itLK_ok ?_ | refine itTK_ok ?_ | refine itSK_ok ?_ | refine q_rng1 ?_ | refine q_rng2 ?_ | refine q_rev1 ?_ | refine q_lrg1 ?_ | refine q_lrg2 ?_ | refine q_enum ?_ | refine q_enumS ?_ | refine q_enumSK ?_ | refine enK_ok ?_ | refine enSK_ok ?_ | refine q_zip ?_ | refine zipK_l ?_ | refine zipK_t ?_ | refine q_itRev ?_ | refine q_revL ?_ | refine revK_ok ?_ | refine q_revL2 ?_ | refine rev2K_ok ?_
  | refine q_cnil ?_ | refine q_ccons ?_ | refine q_cbag rfl ?_ | refine q_call ?_ | refine q_call0 ?_ | refine q_callO ?_ | refine q_callO0 ?_ | refine q_callK ?_ | refine q_callK0 ?_ | refine q_make ?_ | refine q_make0 ?_ | refine q_meth ?_ | refine q_meth0 ?_ | refine q_lenC ?_ | refine q_fld ?_ | refine q_isi ?_ | refine q_said ?_ | refine saidK_ok ?_
  | refine k_Plus ?_ | refine k_Minus ?_ | refine k_Lt0 ?_ | refine k_Le0 ?_ | refine k_Gt0 ?_ | refine k_Ge0 ?_ | refine k_EqI ?_ | refine k_EqS ?_ | refine k_EqB ?_ | refine k_NeI ?_ | refine k_NeS ?_ | refine k_NeB ?_ | refine k_IsN ?_ | refine k_NotN ?_ | refine k_InS ?_ | refine k_NotInS ?_ | refine k_Int ?_ | refine k_IntB ?_ | refine q_lc ?_
  | refine q_loose rfl ?_ | refine looseK_bl ?_ | refine looseK_int ?_ | refine looseK_str ?_ | refine looseK_non ?_ | refine looseK_er ?_ | refine n_int ?_ | refine n_str ?_ | refine n_bl ?_ | refine n_lst ?_ | refine n_tup ?_ | refine n_obj ?_ | refine n_non ?_ | refine m_int ?_ | refine m_str ?_ | refine m_bl ?_ | refine m_lst ?_ | refine m_tup ?_ | refine m_obj ?_ | refine m_non ?_
  | refine q_fs ?_ | refine q_j0 ?_ | refine q_j1 ?_ | refine q_fmt ?_ | refine q_split ?_ | refine splitK_ok ?_ | refine q_idx ?_ | refine idxK_ok ?_
  | refine i_t ?_ | refine i_f ?_ | refine i_nt ?_ | refine i_nf ?_)
local macro_rules | `(tactic| acc_peel) => `(tactic| repeat' acc_open)
/-- of this depth, lists and tuples alone, none long -/
def lkP : Nat → PV → Prop
  | 0, .int _ => True
  | 0, .bl _ => True
  | 0, .str _ => True
  | 0, .non => True
  | _ + 1, .int _ => True
  | _ + 1, .bl _ => True
  | _ + 1, .str _ => True
  | _ + 1, .non => True
  | n + 1, .lst ps => ps.length ≤ 1000 ∧ ∀ p ∈ ps, lkP n p
  | n + 1, .tup ps => ps.length ≤ 1000 ∧ ∀ p ∈ ps, lkP n p
  | _, _ => False
theorem isTy_1 {A B : Prop} {t u : String} (e : isTy t u = true) (h : A) : if isTy t u = true then A else B := by rw [if_pos e]; exact h
theorem isTy_0 {A B : Prop} {t u : String} (e : isTy t u = false) (h : B) : if isTy t u = true then A else B := by rw [if_neg (by rw [e]; exact Bool.false_ne_true)]; exact h
theorem lk_int {n : Nat} {i : Int} : lkP n (.int i) := by cases n <;> trivial
theorem lk_bl {n : Nat} {i : Bool} : lkP n (.bl i) := by cases n <;> trivial
theorem lk_str {n : Nat} {i : Str} : lkP n (.str i) := by cases n <;> trivial
theorem lk_non {n : Nat} : lkP n .non := by cases n <;> trivial
theorem lk_ints {n : Nat} {ns : List Int} (h : ns.length ≤ 1000) : lkP (n + 1) (.lst (ns.map PV.int)) := ⟨by rw [List.length_map]; exact h, fun p hp => by obtain ⟨i, _, rfl⟩ := List.mem_map.mp hp; exact lk_int⟩
theorem lp__law_like0 {p : PV} {post : Res RV → Prop} (hp : lkP 0 p) (h : post (.ok (.fz (.bl true)))) : w__law_like0 [.fz p, .fz p] post := by
  unfold w__law_like0 bodyW s_v__law_like0
  cases p with
  | int i =>
    acc_peel
    refine isiK_ok rfl ?_
    acc_peel
    refine isTy_0 rfl ?_
    acc_peel
    refine isiK_ok rfl ?_
    acc_peel
    refine isTy_1 rfl ?_
    acc_peel
    refine isiK_ok rfl ?_
    acc_peel
    refine isTy_1 rfl ?_
    acc_peel
    refine isiK_ok rfl ?_
    acc_peel
    rw [show isTy "int" "bool" = false from rfl]
    acc_peel
    rw [decide_eq_true rfl]
    exact h
  | bl i =>
    acc_peel
    refine isiK_ok rfl ?_
    acc_peel
    refine isTy_1 rfl ?_
    acc_peel
    refine isiK_ok rfl ?_
    acc_peel
    refine isTy_1 rfl ?_
    acc_peel
    rw [decide_eq_true rfl]
    exact h
  | str i =>
    acc_peel
    refine isiK_ok rfl ?_
    acc_peel
    refine isTy_0 rfl ?_
    acc_peel
    refine isiK_ok rfl ?_
    acc_peel
    refine isTy_0 rfl ?_
    acc_peel
    refine isiK_ok rfl ?_
    acc_peel
    refine isTy_1 rfl ?_
    acc_peel
    refine isiK_ok rfl ?_
    acc_peel
    refine isTy_1 rfl ?_
    acc_peel
    rw [decide_eq_true rfl]
    exact h
  | non =>
    acc_peel
    refine isiK_ok rfl ?_
    acc_peel
    refine isTy_0 rfl ?_
    acc_peel
    refine isiK_ok rfl ?_
    acc_peel
    refine isTy_0 rfl ?_
    acc_peel
    refine isiK_ok rfl ?_
    acc_peel
    refine isTy_0 rfl ?_
    acc_peel
    refine isiK_ok rfl ?_
    acc_peel
    refine isTy_0 rfl ?_
    acc_peel
    refine isiK_ok rfl ?_
    acc_peel
    refine isTy_0 rfl ?_
    acc_peel
    exact h
  | lst ps => exact hp.elim
  | tup ps => exact hp.elim
  | obj C fs => exact hp.elim
theorem lp__law_like1 {p : PV} {post : Res RV → Prop} (hp : lkP 1 p) (h : post (.ok (.fz (.bl true)))) : w__law_like1 [.fz p, .fz p] post := by
  unfold w__law_like1 bodyW s_v__law_like1
  cases p with
  | int i =>
    acc_peel
    refine isiK_ok rfl ?_
    acc_peel
    refine isTy_0 rfl ?_
    acc_peel
    refine isiK_ok rfl ?_
    acc_peel
    refine isTy_1 rfl ?_
    acc_peel
    refine isiK_ok rfl ?_
    acc_peel
    refine isTy_1 rfl ?_
    acc_peel
    refine isiK_ok rfl ?_
    acc_peel
    rw [show isTy "int" "bool" = false from rfl]
    acc_peel
    rw [decide_eq_true rfl]
    exact h
  | bl i =>
    acc_peel
    refine isiK_ok rfl ?_
    acc_peel
    refine isTy_1 rfl ?_
    acc_peel
    refine isiK_ok rfl ?_
    acc_peel
    refine isTy_1 rfl ?_
    acc_peel
    rw [decide_eq_true rfl]
    exact h
  | str i =>
    acc_peel
    refine isiK_ok rfl ?_
    acc_peel
    refine isTy_0 rfl ?_
    acc_peel
    refine isiK_ok rfl ?_
    acc_peel
    refine isTy_0 rfl ?_
    acc_peel
    refine isiK_ok rfl ?_
    acc_peel
    refine isTy_1 rfl ?_
    acc_peel
    refine isiK_ok rfl ?_
    acc_peel
    refine isTy_1 rfl ?_
    acc_peel
    rw [decide_eq_true rfl]
    exact h
  | non =>
    acc_peel
    refine isiK_ok rfl ?_
    acc_peel
    refine isTy_0 rfl ?_
    acc_peel
    refine isiK_ok rfl ?_
    acc_peel
    refine isTy_0 rfl ?_
    acc_peel
    refine isiK_ok rfl ?_
    acc_peel
    refine isTy_0 rfl ?_
    acc_peel
    refine isiK_ok rfl ?_
    acc_peel
    refine isTy_0 rfl ?_
    acc_peel
    refine isiK_ok rfl ?_
    acc_peel
    refine isTy_0 rfl ?_
    acc_peel
    exact h
  | lst ps =>
    obtain ⟨hl, hp⟩ := hp
    acc_peel
    refine isiK_ok rfl ?_
    acc_peel
    refine isTy_0 rfl ?_
    acc_peel
    refine isiK_ok rfl ?_
    acc_peel
    refine isTy_0 rfl ?_
    acc_peel
    refine isiK_ok rfl ?_
    acc_peel
    refine isTy_0 rfl ?_
    acc_peel
    refine isiK_ok rfl ?_
    acc_peel
    refine isTy_1 rfl ?_
    acc_peel
    refine isiK_ok rfl ?_
    acc_peel
    refine isiK_ok rfl ?_
    acc_peel
    rw [decide_eq_true rfl]
    acc_peel
    refine isiK_ok rfl ?_
    acc_peel
    refine isiK_ok rfl ?_
    acc_peel
    rw [decide_eq_true rfl]
    acc_peel
    rw [decide_eq_true rfl]
    acc_peel
    refine rg1K_ok ⟨by omega, by omega⟩ ?_
    acc_peel
    rw [rgP_map]
    refine forL_inv (fun i ρ => ∃ v, ρ = [.fz (.lst ps), .fz (.lst ps), v]) ⟨_, rfl⟩ (fun i x ρ K hx hq hk => ?_) (fun ρ hq => ?_)
    · obtain ⟨v, rfl⟩ := hq
      have hi := (List.getElem?_eq_some_iff.mp hx).1
      rw [List.length_range] at hi
      rw [List.getElem?_range hi] at hx
      cases hx
      have hil : i < ps.length := by omega
      have e : L2.atI ps (0 + (i : Int) * 1) = some ps[i] := by
        rw [show (0 : Int) + (i : Int) * 1 = (i : Int) by omega]
        exact atI_nn (Int.natCast_nonneg i) (by rw [Int.toNat_natCast, List.getElem?_eq_getElem hil])
      unfold b0__law_like1
      acc_peel
      refine k_IxaL e ?_
      acc_peel
      refine k_IxaL e ?_
      acc_peel
      refine lp__law_like0 (hp _ (List.getElem_mem hil)) ?_
      acc_peel
      exact hk.nx _ ⟨_, rfl⟩
    · obtain ⟨v, rfl⟩ := hq
      acc_peel
      exact h
  | tup ps =>
    obtain ⟨hl, hp⟩ := hp
    acc_peel
    refine isiK_ok rfl ?_
    acc_peel
    refine isTy_0 rfl ?_
    acc_peel
    refine isiK_ok rfl ?_
    acc_peel
    refine isTy_0 rfl ?_
    acc_peel
    refine isiK_ok rfl ?_
    acc_peel
    refine isTy_0 rfl ?_
    acc_peel
    refine isiK_ok rfl ?_
    acc_peel
    refine isTy_0 rfl ?_
    acc_peel
    refine isiK_ok rfl ?_
    acc_peel
    refine isTy_1 rfl ?_
    acc_peel
    refine isiK_ok rfl ?_
    acc_peel
    refine isiK_ok rfl ?_
    acc_peel
    rw [decide_eq_true rfl]
    acc_peel
    refine isiK_ok rfl ?_
    acc_peel
    refine isiK_ok rfl ?_
    acc_peel
    rw [decide_eq_true rfl]
    acc_peel
    rw [decide_eq_true rfl]
    acc_peel
    refine rg1K_ok ⟨by omega, by omega⟩ ?_
    acc_peel
    rw [rgP_map]
    refine forL_inv (fun i ρ => ∃ v, ρ = [.fz (.tup ps), .fz (.tup ps), v]) ⟨_, rfl⟩ (fun i x ρ K hx hq hk => ?_) (fun ρ hq => ?_)
    · obtain ⟨v, rfl⟩ := hq
      have hi := (List.getElem?_eq_some_iff.mp hx).1
      rw [List.length_range] at hi
      rw [List.getElem?_range hi] at hx
      cases hx
      have hil : i < ps.length := by omega
      have e : L2.atI ps (0 + (i : Int) * 1) = some ps[i] := by
        rw [show (0 : Int) + (i : Int) * 1 = (i : Int) by omega]
        exact atI_nn (Int.natCast_nonneg i) (by rw [Int.toNat_natCast, List.getElem?_eq_getElem hil])
      unfold b0__law_like1
      acc_peel
      refine k_IxaT e ?_
      acc_peel
      refine k_IxaT e ?_
      acc_peel
      refine lp__law_like0 (hp _ (List.getElem_mem hil)) ?_
      acc_peel
      exact hk.nx _ ⟨_, rfl⟩
    · obtain ⟨v, rfl⟩ := hq
      acc_peel
      exact h
  | obj C fs => exact hp.elim

end My
end

section
set_option Elab.async false
set_option maxRecDepth 100000
set_option maxHeartbeats 4000000
set_option linter.all false
namespace My
open PySem L2
local macro_rules | `(tactic| acc_open) => `(tactic| with_reducible first
  | refine sqK_nx ?_ | refine sqK_rt ?_ | refine sqK_bk ?_ | refine sqK_ct ?_ | refine sqK_er ?_ | refine bk_ok ?_ | refine bk_er ?_ | refine erO_ok ?_ | refine erO_er ?_
  | refine testK_ok ?_ | refine partK_ok ?_ | refine frz_fz ?_ | refine frz_own ?_ | refine frz_er ?_ | refine own_own ?_ | refine own_er ?_ | refine noR_ok ?_ | refine retD_rt ?_ | refine retD_nx ?_ | refine retD_er ?_
  | refine loopK_nx ?_ | refine loopK_ct ?_ | refine loopK_bk ?_ | refine loopK_rt ?_ | refine loopK_er ?_ | refine objR_ok ?_ | refine objR_er ?_
  | refine q_seq ?_ | refine q_next ?_ | refine q_retN ?_ | refine q_break ?_ | refine q_cont ?_ | refine q_if ?_ | refine q_ret ?_ | refine q_retO ?_ | refine q_drop ?_ | refine q_asg ?_ | refine q_asgO ?_ | refine q_app rfl ?_ | refine q_retV rfl ?_ | refine q_retVo rfl ?_ | refine q_frz rfl ?_ | refine q_frz0 rfl ?_ | refine q_par ?_ | refine q_for ?_ | refine q_forN ?_
  | refine q_name ?_ | refine q_gtup rfl ?_ | refine q_gunl rfl ?_ | refine q_gcons ?_ | refine gcK_ok ?_ | refine q_gnil ?_
  | refine q_bind ?_ | refine q_var rfl ?_ | refine q_varB rfl ?_ | refine q_varBo rfl ?_ | refine q_c ?_ | refine q_op ?_ | refine q_p2 ?_ | refine q_p1 ?_ | refine q_ixK ?_ | refine q_neg ?_ | refine q_pif ?_ | refine q_test ?_ | refine q_tand ?_ | refine q_tor ?_ | refine q_tnot ?_ | refine q_yes ?_ | refine q_tru ?_ | refine truK_bl ?_ | refine truK_int ?_ | refine truK_lst ?_ | refine truK_tup ?_
  | refine q_andV ?_ | refine q_orV ?_ | refine q_notV ?_ | refine andVK_ok ?_ | refine orVK_ok ?_ | refine notVK_ok ?_ | refine q_anil ?_ | refine q_acons ?_ | refine q_tup ?_ | refine q_lst ?_ | refine q_pfrz ?_ | refine q_nopart ?_ | refine q_part ?_ | refine q_slS ?_ | refine slSK_ok ?_ | refine q_slL ?_ | refine slLK_ok ?_ | refine slLK2_ok ?_
  | refine q_len ?_ | refine lenK_l ?_ | refine lenK_t ?_ | refine q_listO ?_ | refine seqK_l ?_ | refine seqK_t ?_ | refine q_cat ?_ | refine q_rep ?_ | refine q_join ?_ | refine joinK_ok ?_
  | refine q_itL ?_ | refine q_itT ?_ | refine q_itS ?_ | refine itLK_ok ?_ | refine itTK_ok ?_ | refine itSK_ok ?_ | refine q_rng1 ?_ | refine q_rng2 ?_ | refine q_rev1 ?_ | refine q_lrg1 ?_ | refine q_lrg2 ?_ | refine q_enum ?_ | refine q_enumS ?_ | refine q_enumSK ?_ | refine enK_ok ?_ | refine enSK_ok ?_ | refine q_zip ?_ | refine zipK_l ?_ | refine zipK_t ?_ | refine q_itRev ?_ | refine q_revL ?_ | refine revK_ok ?_ | refine q_revL2 ?_ | refine rev2K_ok ?_
  | refine q_cnil ?_ | refine q_ccons ?_ | refine q_cbag rfl ?_ | refine q_call ?_ | refine q_call0 ?_ | refine q_callO ?_ | refine q_callO0 ?_ | refine q_callK ?_ | refine q_callK0 ?_ | refine q_make ?_ | refine q_make0 ?_ | refine q_meth ?_ | refine q_meth0 ?_ | refine q_lenC ?_ | refine q_fld ?_ | refine q_isi ?_ | refine q_said ?_ | refine saidK_ok ?_
  | refine k_Plus ?_ | refine k_Minus ?_ | refine k_Lt0 ?_ | refine k_Le0 ?_ | refine k_Gt0 ?_ | refine k_Ge0 ?_ | refine k_EqI ?_ | refine k_EqS ?_ | refine k_EqB ?_ | refine k_NeI ?_ | refine k_NeS ?_ | refine k_NeB ?_ | refine k_IsN ?_ | refine k_NotN ?_ | refine k_InS ?_ | refine k_NotInS ?_ | refine k_Int ?_ | refine k_IntB ?_ | refine q_lc ?_
  | refine q_loose rfl ?_ | refine looseK_bl ?_ | refine looseK_int ?_ | refine looseK_str ?_ | refine looseK_non ?_ | refine looseK_er ?_ | refine n_int ?_ | refine n_str ?_ | refine n_bl ?_ | refine n_lst ?_ | refine n_tup ?_ | refine n_obj ?_ | refine n_non ?_ | refine m_int ?_ | refine m_str ?_ | refine m_bl ?_ | refine m_lst ?_ | refine m_tup ?_ | refine m_obj ?_ | refine m_non ?_
  | refine q_fs ?_ | refine q_j0 ?_ | refine q_j1 ?_ | refine q_fmt ?_ | refine q_split ?_ | refine splitK_ok ?_ | refine q_idx ?_ | refine idxK_ok ?_
  | refine i_t ?_ | refine i_f ?_ | refine i_nt ?_ | refine i_nf ?_)
local macro_rules | `(tactic| acc_peel) => `(tactic| repeat' acc_open)
instance (l : List Nat) : Decidable (okL l) := by unfold okL; infer_instance
theorem lp__law_of {ps : List PV} {post : Res RV → Prop} (hn : ps ≠ []) (hl : ps.length ≤ 1000) (h : ∀ p ∈ ps, post (.ok (.fz p))) : w__law_of [.bag, .fz (.lst ps)] post := by
  have h0 : 0 < ps.length := List.length_pos_iff.mpr hn
  unfold w__law_of bodyW s_v__law_of
  acc_peel
  refine q_draw (by omega) (by omega) (fun d d0 d1 => ?_)
  acc_peel
  have hd : d.toNat < ps.length := by omega
  refine k_IxL (atI_nn d0 (by rw [List.getElem?_eq_getElem hd])) ?_
  acc_peel
  exact h _ (List.getElem_mem hd)
theorem lp__law_ofS {z : Str} {post : Res RV → Prop} (hn : z.length ≠ 0) (hl : z.length ≤ 1000) (h : ∀ d ∈ tl z, post (.ok (.fz (.str ⟨#[d]⟩)))) : w__law_ofS [.bag, .fz (.str z)] post := by
  unfold w__law_ofS bodyW s_v__law_ofS
  acc_peel
  refine k_LenS (by omega) ?_
  acc_peel
  refine q_draw (by omega) (by omega) (fun d d0 d1 => ?_)
  acc_peel
  have hd : d.toNat < z.cps.size := by show d.toNat < z.length; omega
  refine k_ItemS d0 (by omega) (by rw [Array.getElem?_eq_getElem hd]) ?_
  acc_peel
  exact h _ (Array.mem_toList_iff.mpr (Array.getElem_mem hd))
theorem inB_of {i : Int} (h0 : -1000000 ≤ i) (h1 : i ≤ 1000000) : inB i := ⟨by omega, by omega⟩
theorem noBag_fz {p : PV} : ArR.noBag [.fz p] := fun a h => ⟨p, List.mem_singleton.mp h⟩

end My
end

section
set_option Elab.async false
set_option maxRecDepth 100000
set_option maxHeartbeats 4000000
set_option linter.all false
namespace My
open PySem L2
local macro_rules | `(tactic| acc_open) => `(tactic| with_reducible first
  | refine sqK_nx ?_ | refine sqK_rt ?_ | refine sqK_bk ?_ | refine sqK_ct ?_ | refine sqK_er ?_ | refine bk_ok ?_ | refine bk_er ?_ | refine erO_ok ?_ | refine erO_er ?_
  | refine testK_ok ?_ | refine partK_ok ?_ | refine frz_fz ?_ | refine frz_own ?_ | refine frz_er ?_ | refine own_own ?_ | refine own_er ?_ | refine noR_ok ?_ | refine retD_rt ?_ | refine retD_nx ?_ | refine retD_er ?_
  | refine loopK_nx ?_ | refine loopK_ct ?_ | refine loopK_bk ?_ | refine loopK_rt ?_ | refine loopK_er ?_ | refine objR_ok ?_ | refine objR_er ?_
  | refine q_seq ?_ | refine q_next ?_ | refine q_retN ?_ | refine q_break ?_ | refine q_cont ?_ | refine q_if ?_ | refine q_ret ?_ | refine q_retO ?_ | refine q_drop ?_ | refine q_asg ?_ | refine q_asgO ?_ | refine q_app rfl ?_ | refine q_retV rfl ?_ | refine q_retVo rfl ?_ | refine q_frz rfl ?_ | refine q_frz0 rfl ?_ | refine q_par ?_ | refine q_for ?_ | refine q_forN ?_
  | refine q_name ?_ | refine q_gtup rfl ?_ | refine q_gunl rfl ?_ | refine q_gcons ?_ | refine gcK_ok ?_ | refine q_gnil ?_
  | refine q_bind ?_ | refine q_var rfl ?_ | refine q_varB rfl ?_ | refine q_varBo rfl ?_ | refine q_c ?_ | refine q_op ?_ | refine q_p2 ?_ | refine q_p1 ?_ | refine q_ixK ?_ | refine q_neg ?_ | refine q_pif ?_ | refine q_test ?_ | refine q_tand ?_ | refine q_tor ?_ | refine q_tnot ?_ | refine q_yes ?_ | refine q_tru ?_ | refine truK_bl ?_ | refine truK_int ?_ | refine truK_lst ?_ | refine truK_tup ?_
  | refine q_andV ?_ | refine q_orV ?_ | refine q_notV ?_ | refine andVK_ok ?_ | refine orVK_ok ?_ | refine notVK_ok ?_ | refine q_anil ?_ | refine q_acons ?_ | refine q_tup ?_ | refine q_lst ?_ | refine q_pfrz ?_ | refine q_nopart ?_ | refine q_part ?_ | refine q_slS ?_ | refine slSK_ok ?_ | refine q_slL ?_ | refine slLK_ok ?_ | refine slLK2_ok ?_
  | refine q_len ?_ | refine lenK_l ?_ | refine lenK_t ?_ | refine q_listO ?_ | refine seqK_l ?_ | refine seqK_t ?_ | refine q_cat ?_ | refine q_rep ?_ | refine q_join ?_ | refine joinK_ok ?_
  | refine q_itL ?_ | refine q_itT ?_ | refine q_itS ?_ | refine itLK_ok ?_ | refine itTK_ok ?_ | refine itSK_ok ?_ | refine q_rng1 ?_ | refine q_rng2 ?_ | refine q_rev1 ?_ | refine q_lrg1 ?_ | refine q_lrg2 ?_ | refine q_enum ?_ | refine q_enumS ?_ | refine q_enumSK ?_ | refine enK_ok ?_ | refine enSK_ok ?_ | refine q_zip ?_ | refine zipK_l ?_ | refine zipK_t ?_ | refine q_itRev ?_ | refine q_revL ?_ | refine revK_ok ?_ | refine q_revL2 ?_ | refine rev2K_ok ?_
  | refine q_cnil ?_ | refine q_ccons ?_ | refine q_cbag rfl ?_ | refine q_call ?_ | refine q_call0 ?_ | refine q_callO ?_ | refine q_callO0 ?_ | refine q_callK ?_ | refine q_callK0 ?_ | refine q_make ?_ | refine q_make0 ?_ | refine q_meth ?_ | refine q_meth0 ?_ | refine q_lenC ?_ | refine q_fld ?_ | refine q_isi ?_ | refine q_said ?_ | refine saidK_ok ?_
  | refine k_Plus ?_ | refine k_Minus ?_ | refine k_Lt0 ?_ | refine k_Le0 ?_ | refine k_Gt0 ?_ | refine k_Ge0 ?_ | refine k_EqI ?_ | refine k_EqS ?_ | refine k_EqB ?_ | refine k_NeI ?_ | refine k_NeS ?_ | refine k_NeB ?_ | refine k_IsN ?_ | refine k_NotN ?_ | refine k_InS ?_ | refine k_NotInS ?_ | refine k_Int ?_ | refine k_IntB ?_ | refine q_lc ?_
  | refine q_loose rfl ?_ | refine looseK_bl ?_ | refine looseK_int ?_ | refine looseK_str ?_ | refine looseK_non ?_ | refine looseK_er ?_ | refine n_int ?_ | refine n_str ?_ | refine n_bl ?_ | refine n_lst ?_ | refine n_tup ?_ | refine n_obj ?_ | refine n_non ?_ | refine m_int ?_ | refine m_str ?_ | refine m_bl ?_ | refine m_lst ?_ | refine m_tup ?_ | refine m_obj ?_ | refine m_non ?_
  | refine q_fs ?_ | refine q_j0 ?_ | refine q_j1 ?_ | refine q_fmt ?_ | refine q_split ?_ | refine splitK_ok ?_ | refine q_idx ?_ | refine idxK_ok ?_
  | refine i_t ?_ | refine i_f ?_ | refine i_nt ?_ | refine i_nf ?_)
local macro_rules | `(tactic| acc_peel) => `(tactic| repeat' acc_open)
theorem len_one {d : Nat} : (⟨#[d]⟩ : Str).length = 1 := rfl
theorem chars_map (z : Str) : chars z = (tl z).map fun n => .str ⟨#[n]⟩ := rfl
theorem lp_check_length {z : Str} {post : Res RV → Prop} (hl : z.length ≤ 1000) (h : post (.ok (.fz .non))) : w_check_length [.fz (.str z)] post := by
  unfold w_check_length bodyW s_v_check_length
  acc_peel
  refine k_LenS (by omega) ?_
  acc_peel
  refine i_dec (fun e => absurd e (by omega)) (fun _ => ?_)
  acc_peel
  exact h
theorem enum_at {ps : List PV} {k : Int} {i : Nat} {x : PV} (h : (enumP k ps)[i]? = some x) : ∃ p, ps[i]? = some p ∧ x = .tup [.int (k + (i : Int)), p] := by
  have hi : i < ps.length := by have := (List.getElem?_eq_some_iff.mp h).1; rw [enumP_len] at this; exact this
  refine ⟨ps[i], by rw [List.getElem?_eq_getElem hi], ?_⟩
  rw [enumP_at (p := ps[i]) (by rw [List.getElem?_eq_getElem hi])] at h
  exact (Option.some.inj h).symm
theorem char_at {z : Str} {i : Nat} {x : PV} (h : (chars z)[i]? = some x) : ∃ c, (tl z)[i]? = some c ∧ x = .str ⟨#[c]⟩ := by
  rw [chars_map, List.getElem?_map] at h
  cases e : (tl z)[i]? with
  | none => rw [e] at h; cases h
  | some c => rw [e] at h; exact ⟨c, rfl, (Option.some.inj h).symm⟩
theorem lp_first_strange {z : Str} {post : Res RV → Prop} (ok : okL (tl z)) (h : post (.ok (.fz .non))) : w_first_strange [.fz (.str z)] post := by
  unfold w_first_strange bodyW s_v_first_strange
  acc_peel
  refine forW_inv (fun i ρ => ∃ a b, ρ = [.fz (.str z), a, b]) ⟨_, _, rfl⟩ (fun i x ρ K hx hp hk => ?_) (fun ρ hp => ?_)
  · obtain ⟨a, b, rfl⟩ := hp
    obtain ⟨p, hp, rfl⟩ := enum_at hx
    obtain ⟨c, hc, rfl⟩ := char_at hp
    unfold b0_first_strange
    acc_peel
    have hm : c ∈ (".hHabB" : Str).cps.toList := by rw [tl_const]; exact ok c (List.mem_of_getElem? hc)
    rw [decide_eq_true hm]
    acc_peel
    exact hk.nx _ ⟨_, _, rfl⟩
  · obtain ⟨a, b, rfl⟩ := hp
    acc_peel
    exact h
theorem lp_rota_fault {z : Str} {post : Res RV → Prop} (hz : RotaText z) (h : post (.ok (.fz .non))) : w_rota_fault [.fz (.str z)] post := by
  unfold w_rota_fault bodyW s_v_rota_fault
  acc_peel
  refine i_dec (fun e => ?_) (fun e => ?_)
  · acc_peel; exact h
  acc_peel
  rcases hz with hz | ⟨h0, ok⟩
  · exact absurd hz e
  refine i_dec (fun e => absurd e h0) (fun _ => ?_)
  acc_peel
  exact lp_first_strange ok h
theorem lp_letters_of_text {z : Str} {post : Res RV → Prop} (h : post (.ok (.fz (.str (lettersOf z))))) : w_letters_of_text [.fz (.str z)] post := by
  unfold w_letters_of_text bodyW s_v_letters_of_text
  unfold lettersOf at h
  acc_peel
  refine i_dec (fun e => ?_) (fun e => ?_)
  · rw [if_pos e] at h; acc_peel; exact h
  · rw [if_neg e] at h; acc_peel; exact h
/-- a rota with these letters -/
def rotaP (z : Str) : PV := .obj "Rota" [("letters", .str z), ("text", .str (if z.length = 0 then "-" else z))]
theorem lp_Rota___init__ {t : Str} {post : Res (List (Str × PV)) → Prop} (ht : RotaText t) (hl : t.length ≤ 40) (h : post (.ok [("letters", .str (lettersOf t)), ("text", .str t)])) : w_Rota___init__ [.fz (.str t)] post := by
  unfold w_Rota___init__ bodyN s_v_Rota___init__
  acc_peel
  refine lp_check_length (by omega) ?_
  acc_peel
  refine lp_rota_fault ht ?_
  acc_peel
  refine lp_letters_of_text ?_
  acc_peel
  have hl2 := lettersOf_len hl
  refine k_LenS (by omega) ?_
  acc_peel
  refine i_dec (fun e => absurd e (by omega)) (fun _ => ?_)
  acc_peel
  refine q_fldW (q_var rfl (erO_ok ⟨by decide, by show 0 < 1000; decide, ?_⟩))
  acc_peel
  refine q_fldW (q_var rfl (erO_ok ⟨by decide, by show 1 < 1000; decide, ?_⟩))
  exact ⟨rfl, h⟩
theorem lp_rota_of {z : Str} {post : Res (List (Str × PV)) → Prop} (ok : okL (tl z)) (hl : z.length ≤ 40) (h : post (.ok [("letters", .str z), ("text", .str (if z.length = 0 then "-" else z))])) : w_Rota___init__ [.fz (.str (if z.length = 0 then "-" else z))] post := by
  obtain ⟨t1, t2, t3⟩ := text_ok ok hl
  refine lp_Rota___init__ t1 (by omega) ?_
  rw [t2]
  exact h

end My
end

section
set_option Elab.async false
set_option maxRecDepth 100000
set_option maxHeartbeats 4000000
set_option linter.all false
namespace My
open PySem L2
local macro_rules | `(tactic| acc_open) => `(tactic| with_reducible first
  | refine sqK_nx ?_ | refine sqK_rt ?_ | refine sqK_bk ?_ | refine sqK_ct ?_ | refine sqK_er ?_ | refine bk_ok ?_ | refine bk_er ?_ | refine erO_ok ?_ | refine erO_er ?_
  | refine testK_ok ?_ | refine partK_ok ?_ | refine frz_fz ?_ | refine frz_own ?_ | refine frz_er ?_ | refine own_own ?_ | refine own_er ?_ | refine noR_ok ?_ | refine retD_rt ?_ | refine retD_nx ?_ | refine retD_er ?_
  | refine loopK_nx ?_ | refine loopK_ct ?_ | refine loopK_bk ?_ | refine loopK_rt ?_ | refine loopK_er ?_ | refine objR_ok ?_ | refine objR_er ?_
  | refine q_seq ?_ | refine q_next ?_ | refine q_retN ?_ | refine q_break ?_ | refine q_cont ?_ | refine q_if ?_ | refine q_ret ?_ | refine q_retO ?_ | refine q_drop ?_ | refine q_asg ?_ | refine q_asgO ?_ | refine q_app rfl ?_ | refine q_retV rfl ?_ | refine q_retVo rfl ?_ | refine q_frz rfl ?_ | refine q_frz0 rfl ?_ | refine q_par ?_ | refine q_for ?_ | refine q_forN ?_
  | refine q_name ?_ | refine q_gtup rfl ?_ | refine q_gunl rfl ?_ | refine q_gcons ?_ | refine gcK_ok ?_ | refine q_gnil ?_
  | refine q_bind ?_ | refine q_var rfl ?_ | refine q_varB rfl ?_ | refine q_varBo rfl ?_ | refine q_c ?_ | refine q_op ?_ | refine q_p2 ?_ | refine q_p1 ?_ | refine q_ixK ?_ | refine q_neg ?_ | refine q_pif ?_ | refine q_test ?_ | refine q_tand ?_ | refine q_tor ?_ | refine q_tnot ?_ | refine q_yes ?_ | refine q_tru ?_ | refine truK_bl ?_ | refine truK_int ?_ | refine truK_lst ?_ | refine truK_tup ?_
  | refine q_andV ?_ | refine q_orV ?_ | refine q_notV ?_ | refine andVK_ok ?_ | refine orVK_ok ?_ | refine notVK_ok ?_ | refine q_anil ?_ | refine q_acons ?_ | refine q_tup ?_ | refine q_lst ?_ | refine q_pfrz ?_ | refine q_nopart ?_ | refine q_part ?_ | refine q_slS ?_ | refine slSK_ok ?_ | refine q_slL ?_ | refine slLK_ok ?_ | refine slLK2_ok ?_
  | refine q_len ?_ | refine lenK_l ?_ | refine lenK_t ?_ | refine q_listO ?_ | refine seqK_l ?_ | refine seqK_t ?_ | refine q_cat ?_ | refine q_rep ?_ | refine q_join ?_ | refine joinK_ok ?_
  | refine q_itL ?_ | refine q_itT ?_ | refine q_itS ?_ | refine itLK_ok ?_ | refine itTK_ok ?_ | refine itSK_ok ?_ | refine q_rng1 ?_ | refine q_rng2 ?_ | refine q_rev1 ?_ | refine q_lrg1 ?_ | refine q_lrg2 ?_ | refine q_enum ?_ | refine q_enumS ?_ | refine q_enumSK ?_ | refine enK_ok ?_ | refine enSK_ok ?_ | refine q_zip ?_ | refine zipK_l ?_ | refine zipK_t ?_ | refine q_itRev ?_ | refine q_revL ?_ | refine revK_ok ?_ | refine q_revL2 ?_ | refine rev2K_ok ?_
  | refine q_cnil ?_ | refine q_ccons ?_ | refine q_cbag rfl ?_ | refine q_call ?_ | refine q_call0 ?_ | refine q_callO ?_ | refine q_callO0 ?_ | refine q_callK ?_ | refine q_callK0 ?_ | refine q_make ?_ | refine q_make0 ?_ | refine q_meth ?_ | refine q_meth0 ?_ | refine q_lenC ?_ | refine q_fld ?_ | refine q_isi ?_ | refine q_said ?_ | refine saidK_ok ?_
  | refine k_Plus ?_ | refine k_Minus ?_ | refine k_Lt0 ?_ | refine k_Le0 ?_ | refine k_Gt0 ?_ | refine k_Ge0 ?_ | refine k_EqI ?_ | refine k_EqS ?_ | refine k_EqB ?_ | refine k_NeI ?_ | refine k_NeS ?_ | refine k_NeB ?_ | refine k_IsN ?_ | refine k_NotN ?_ | refine k_InS ?_ | refine k_NotInS ?_ | refine k_Int ?_ | refine k_IntB ?_ | refine q_lc ?_
  | refine q_loose rfl ?_ | refine looseK_bl ?_ | refine looseK_int ?_ | refine looseK_str ?_ | refine looseK_non ?_ | refine looseK_er ?_ | refine n_int ?_ | refine n_str ?_ | refine n_bl ?_ | refine n_lst ?_ | refine n_tup ?_ | refine n_obj ?_ | refine n_non ?_ | refine m_int ?_ | refine m_str ?_ | refine m_bl ?_ | refine m_lst ?_ | refine m_tup ?_ | refine m_obj ?_ | refine m_non ?_
  | refine q_fs ?_ | refine q_j0 ?_ | refine q_j1 ?_ | refine q_fmt ?_ | refine q_split ?_ | refine splitK_ok ?_ | refine q_idx ?_ | refine idxK_ok ?_
  | refine i_t ?_ | refine i_f ?_ | refine i_nt ?_ | refine i_nf ?_)
local macro_rules | `(tactic| acc_peel) => `(tactic| repeat' acc_open)
/-! ### worlds -/
def worldP (k : Bool) (d : Nat) : PV := .obj "World" [("kind", .str (ktext k)), ("late", .int (d : Int)), ("text", .str (wtext k d))]
theorem k_inT {a : PV} {x : V} {ps : List PV} {xs : List V} {pE : Res PV → Prop} (hf : flatP a = some x) (hl : flatL ps = some xs) (hi : inV x xs = true) (h : pE (.ok (.bl false))) : qInG true a (.tup ps) pE := k_InGT hf hl (by rw [hi]; exact h)
theorem k_outT {a : PV} {x : V} {ps : List PV} {xs : List V} {pE : Res PV → Prop} (hf : flatP a = some x) (hl : flatL ps = some xs) (hi : inV x xs = false) (h : pE (.ok (.bl true))) : qInG true a (.tup ps) pE := k_InGT hf hl (by rw [hi]; exact h)
theorem ktext_len (k : Bool) : (ktext k).length = 4 := by cases k <;> decide +kernel
theorem lp_world_words {k : Bool} {d : Nat} {post : Res RV → Prop} (hd : d ≤ 4) (h : post (.ok (.fz (.tup [.str (ktext k), .int (d : Int)])))) : w_world_words [.fz (.str (wtext k d))] post := by
  have hw := wtext_len k hd
  unfold w_world_words bodyW s_v_world_words
  acc_peel
  refine splitK2_ok (by decide +kernel) (by omega) ?_
  rw [split_eq k hd]
  acc_peel
  refine i_ndec (fun e => absurd rfl e) (fun _ => ?_)
  acc_peel
  refine k_IxL (p := .str (ktext k)) rfl ?_
  acc_peel
  refine k_inT rfl rfl (ktext_in k) ?_
  acc_peel
  refine k_IxL (p := .str (dtext d)) rfl ?_
  acc_peel
  refine k_inT rfl rfl (dtext_in hd) ?_
  acc_peel
  refine k_IxL (p := .str (ktext k)) rfl ?_
  acc_peel
  refine k_IxL (p := .str (dtext d)) rfl ?_
  acc_peel
  refine k_IntS (dtext_int hd) (dtext_len hd) ?_
  acc_peel
  exact ⟨by simp, h⟩
theorem lp_World___init__ {k : Bool} {d : Nat} {post : Res (List (Str × PV)) → Prop} (hd : d ≤ 4) (h : post (.ok [("kind", .str (ktext k)), ("late", .int (d : Int)), ("text", .str (wtext k d))])) : w_World___init__ [.fz (.str (wtext k d))] post := by
  have hw := wtext_len k hd
  unfold w_World___init__ bodyN s_v_World___init__
  acc_peel
  refine lp_check_length (by omega) ?_
  acc_peel
  refine lp_world_words hd ?_
  acc_peel
  refine q_fldW (q_op (q_var rfl (bk_ok (q_bind (q_c (bk_ok (k_IxT rfl (erO_ok ⟨by decide, by show 0 < 1000; decide, ?_⟩))))))))
  acc_peel
  refine q_fldW (q_op (q_var rfl (bk_ok (q_bind (q_c (bk_ok (k_IxT rfl (erO_ok ⟨by decide, by show 1 < 1000; decide, ?_⟩))))))))
  acc_peel
  refine q_fldW (q_var rfl (erO_ok ⟨by decide, by show 2 < 1000; decide, ?_⟩))
  exact ⟨rfl, h⟩
theorem lp_World_of {k : Bool} {d : Nat} {post : Res RV → Prop} (hd : d ≤ 4) (h : post (.ok (.fz (worldP k d)))) : w_World_of [.fz (.str (ktext k)), .fz (.int (d : Int))] post := by
  have kl := ktext_len k
  unfold w_World_of bodyW s_v_World_of
  acc_peel
  refine k_inT rfl rfl (ktext_in k) ?_
  acc_peel
  refine i_dec (fun e => absurd e (by omega)) (fun _ => ?_)
  acc_peel
  refine i_dec (fun e => absurd e (by omega)) (fun _ => ?_)
  acc_peel
  refine fmtK_s (by omega) ?_
  acc_peel
  have l0 : (Str.empty ++ ktext k : Str).length = 4 := by rw [str_app_len, kl]; rfl
  refine jK_ok (by omega) ?_
  acc_peel
  have l1 : (Str.empty ++ ktext k ++ (" " : Str)).length = 5 := by rw [str_app_len, l0]; rfl
  refine jK_ok (by omega) ?_
  acc_peel
  refine fmtK_i (by rcases d_cases hd with rfl | rfl | rfl | rfl | rfl <;> decide +kernel) ?_
  acc_peel
  have hw := wtext_len k hd
  refine jK_ok (by rw [wtext_eq k hd]; omega) ?_
  rw [wtext_eq k hd]
  acc_peel
  refine ⟨noBag_fz, lp_World___init__ hd ?_⟩
  exact h
theorem fld_kind {k : Bool} {d : Nat} {pE : Res PV → Prop} (h : pE (.ok (.str (ktext k)))) : fldK attrs "kind" (worldP k d) pE := fldK_ok (by decide) rfl h
theorem ktext_once (k : Bool) : decide (ktext k = ("once" : Str)) = k := by cases k <;> decide +kernel

end My
end

section
set_option Elab.async false
set_option maxRecDepth 100000
set_option maxHeartbeats 4000000
set_option linter.all false
namespace My
open PySem L2
local macro_rules | `(tactic| acc_open) => `(tactic| with_reducible first
  | refine sqK_nx ?_ | refine sqK_rt ?_ | refine sqK_bk ?_ | refine sqK_ct ?_ | refine sqK_er ?_ | refine bk_ok ?_ | refine bk_er ?_ | refine erO_ok ?_ | refine erO_er ?_
  | refine testK_ok ?_ | refine partK_ok ?_ | refine frz_fz ?_ | refine frz_own ?_ | refine frz_er ?_ | refine own_own ?_ | refine own_er ?_ | refine noR_ok ?_ | refine retD_rt ?_ | refine retD_nx ?_ | refine retD_er ?_
  | refine loopK_nx ?_ | refine loopK_ct ?_ | refine loopK_bk ?_ | refine loopK_rt ?_ | refine loopK_er ?_ | refine objR_ok ?_ | refine objR_er ?_
  | refine q_seq ?_ | refine q_next ?_ | refine q_retN ?_ | refine q_break ?_ | refine q_cont ?_ | refine q_if ?_ | refine q_ret ?_ | refine q_retO ?_ | refine q_drop ?_ | refine q_asg ?_ | refine q_asgO ?_ | refine q_app rfl ?_ | refine q_retV rfl ?_ | refine q_retVo rfl ?_ | refine q_frz rfl ?_ | refine q_frz0 rfl ?_ | refine q_par ?_ | refine q_for ?_ | refine q_forN ?_
  | refine q_name ?_ | refine q_gtup rfl ?_ | refine q_gunl rfl ?_ | refine q_gcons ?_ | refine gcK_ok ?_ | refine q_gnil ?_
  | refine q_bind ?_ | refine q_var rfl ?_ | refine q_varB rfl ?_ | refine q_varBo rfl ?_ | refine q_c ?_ | refine q_op ?_ | refine q_p2 ?_ | refine q_p1 ?_ | refine q_ixK ?_ | refine q_neg ?_ | refine q_pif ?_ | refine q_test ?_ | refine q_tand ?_ | refine q_tor ?_ | refine q_tnot ?_ | refine q_yes ?_ | refine q_tru ?_ | refine truK_bl ?_ | refine truK_int ?_ | refine truK_lst ?_ | refine truK_tup ?_
  | refine q_andV ?_ | refine q_orV ?_ | refine q_notV ?_ | refine andVK_ok ?_ | refine orVK_ok ?_ | refine notVK_ok ?_ | refine q_anil ?_ | refine q_acons ?_ | refine q_tup ?_ | refine q_lst ?_ | refine q_pfrz ?_ | refine q_nopart ?_ | refine q_part ?_ | refine q_slS ?_ | refine slSK_ok ?_ | refine q_slL ?_ | refine slLK_ok ?_ | refine slLK2_ok ?_
  | refine q_len ?_ | refine lenK_l ?_ | refine lenK_t ?_ | refine q_listO ?_ | refine seqK_l ?_ | refine seqK_t ?_ | refine q_cat ?_ | refine q_rep ?_ | refine q_join ?_ | refine joinK_ok ?_
  | refine q_itL ?_ | refine q_itT ?_ | refine q_itS ?_ | refine itLK_ok ?_ | refine itTK_ok ?_ | refine itSK_ok ?_ | refine q_rng1 ?_ | refine q_rng2 ?_ | refine q_rev1 ?_ | refine q_lrg1 ?_ | refine q_lrg2 ?_ | refine q_enum ?_ | refine q_enumS ?_ | refine q_enumSK ?_ | refine enK_ok ?_ | refine enSK_ok ?_ | refine q_zip ?_ | refine zipK_l ?_ | refine zipK_t ?_ | refine q_itRev ?_ | refine q_revL ?_ | refine revK_ok ?_ | refine q_revL2 ?_ | refine rev2K_ok ?_
  | refine q_cnil ?_ | refine q_ccons ?_ | refine q_cbag rfl ?_ | refine q_call ?_ | refine q_call0 ?_ | refine q_callO ?_ | refine q_callO0 ?_ | refine q_callK ?_ | refine q_callK0 ?_ | refine q_make ?_ | refine q_make0 ?_ | refine q_meth ?_ | refine q_meth0 ?_ | refine q_lenC ?_ | refine q_fld ?_ | refine q_isi ?_ | refine q_said ?_ | refine saidK_ok ?_
  | refine k_Plus ?_ | refine k_Minus ?_ | refine k_Lt0 ?_ | refine k_Le0 ?_ | refine k_Gt0 ?_ | refine k_Ge0 ?_ | refine k_EqI ?_ | refine k_EqS ?_ | refine k_EqB ?_ | refine k_NeI ?_ | refine k_NeS ?_ | refine k_NeB ?_ | refine k_IsN ?_ | refine k_NotN ?_ | refine k_InS ?_ | refine k_NotInS ?_ | refine k_Int ?_ | refine k_IntB ?_ | refine q_lc ?_
  | refine q_loose rfl ?_ | refine looseK_bl ?_ | refine looseK_int ?_ | refine looseK_str ?_ | refine looseK_non ?_ | refine looseK_er ?_ | refine n_int ?_ | refine n_str ?_ | refine n_bl ?_ | refine n_lst ?_ | refine n_tup ?_ | refine n_obj ?_ | refine n_non ?_ | refine m_int ?_ | refine m_str ?_ | refine m_bl ?_ | refine m_lst ?_ | refine m_tup ?_ | refine m_obj ?_ | refine m_non ?_
  | refine q_fs ?_ | refine q_j0 ?_ | refine q_j1 ?_ | refine q_fmt ?_ | refine q_split ?_ | refine splitK_ok ?_ | refine q_idx ?_ | refine idxK_ok ?_
  | refine i_t ?_ | refine i_f ?_ | refine i_nt ?_ | refine i_nf ?_)
local macro_rules | `(tactic| acc_peel) => `(tactic| repeat' acc_open)
/-! ### k01: worlds of any text -/
def TEXTS : List Str := ["many 0", "many 1", "many 2", "many 3", "many 4", "once 0", "once 1", "once 2", "once 3", "once 4"]
theorem texts_w : ∀ t ∈ TEXTS, ∃ k d, d ≤ 4 ∧ t = wtext k d := fun t ht => by
  have : t ∈ [wtext false 0, wtext false 1, wtext false 2, wtext false 3, wtext false 4, wtext true 0, wtext true 1, wtext true 2, wtext true 3, wtext true 4] := by
    have e : TEXTS = [wtext false 0, wtext false 1, wtext false 2, wtext false 3, wtext false 4, wtext true 0, wtext true 1, wtext true 2, wtext true 3, wtext true 4] := by decide +kernel
    rw [← e]; exact ht
  simp only [List.mem_cons, List.not_mem_nil, or_false] at this
  rcases this with h | h | h | h | h | h | h | h | h | h
  · exact ⟨_, 0, by omega, h⟩
  · exact ⟨_, 1, by omega, h⟩
  · exact ⟨_, 2, by omega, h⟩
  · exact ⟨_, 3, by omega, h⟩
  · exact ⟨_, 4, by omega, h⟩
  · exact ⟨_, 0, by omega, h⟩
  · exact ⟨_, 1, by omega, h⟩
  · exact ⟨_, 2, by omega, h⟩
  · exact ⟨_, 3, by omega, h⟩
  · exact ⟨_, 4, by omega, h⟩
theorem w_texts (k : Bool) {d : Nat} (h : d ≤ 4) : wtext k d ∈ TEXTS := by
  rcases d_cases h with rfl | rfl | rfl | rfl | rfl <;> cases k <;> decide +kernel
theorem inV_strs (a : Str) : ∀ zs : List Str, inV (.str a) (zs.map V.str) = decide (a ∈ zs)
  | [] => rfl
  | z :: zs => by
    have ih := inV_strs a zs
    unfold inV at ih ⊢
    rw [List.map_cons, List.any_cons, ih]
    show (z == a || decide (a ∈ zs)) = _
    by_cases e : z = a
    · subst e; simp
    · have : (z == a) = false := by simpa using e
      rw [this, Bool.false_or]
      simp [List.mem_cons, Ne.symm e]
theorem join2 (a b c : Str) : Str.join b [a, c] = a ++ b ++ c := rfl
theorem split_back {t a b : Str} (h : Txt.split t " " = [a, b]) : t = a ++ " " ++ b := by
  rw [← join2, ← h]; exact (StrLaws.join_split t " ").symm
theorem pair_text : ∀ a ∈ (["many", "once"] : List Str), ∀ b ∈ (["0", "1", "2", "3", "4"] : List Str), a ++ " " ++ b ∈ TEXTS := by decide +kernel
theorem map_two {ps : List Str} (h : ps.length = 2) : ∃ a b, ps = [a, b] := by
  match ps, h with
  | [a, b], _ => exact ⟨a, b, rfl⟩
theorem lp_world_words_bad {t : Str} {post : Res RV → Prop} (hl : t.length ≤ 1000) (hx : t ∉ TEXTS) (h : post (.ok (.fz .non))) : w_world_words [.fz (.str t)] post := by
  unfold w_world_words bodyW s_v_world_words
  acc_peel
  refine splitK2_ok (by decide +kernel) (by omega) ?_
  acc_peel
  rw [List.length_map]
  refine i_ndec (fun e => ?_) (fun e => ?_)
  · acc_peel
    exact h
  obtain ⟨a, b, e2⟩ := map_two (ps := Txt.split t " ") (by omega)
  rw [e2]
  acc_peel
  refine k_IxL (p := .str a) rfl ?_
  acc_peel
  have i1 : inV (.str a) [.str "many", .str "once"] = decide (a ∈ (["many", "once"] : List Str)) := inV_strs a ["many", "once"]
  have i2 : inV (.str b) [.str "0", .str "1", .str "2", .str "3", .str "4"] = decide (b ∈ (["0", "1", "2", "3", "4"] : List Str)) := inV_strs b ["0", "1", "2", "3", "4"]
  by_cases ha : a ∈ (["many", "once"] : List Str)
  · refine k_inT rfl rfl (by rw [i1]; exact decide_eq_true ha) ?_
    acc_peel
    refine k_IxL (p := .str b) rfl ?_
    acc_peel
    by_cases hb : b ∈ (["0", "1", "2", "3", "4"] : List Str)
    · exact absurd (by rw [split_back e2]; exact pair_text a ha b hb) hx
    · refine k_outT rfl rfl (by rw [i2]; exact decide_eq_false hb) ?_
      acc_peel
      exact h
  · refine k_outT rfl rfl (by rw [i1]; exact decide_eq_false ha) ?_
    acc_peel
    exact h
def WHY : List Str := ["the text must be a kind, a space and a lateness", "the kind must be many or once", "the lateness must be from 0 to 4"]
abbrev badN (post : Res (List (Str × PV)) → Prop) : Prop := ∀ x ∈ WHY, post (.er "BadWorld" [("why", .str x)])
abbrev badR (post : Res RV → Prop) : Prop := ∀ x ∈ WHY, post (.er "BadWorld" [("why", .str x)])
theorem q_bad {x : Str} {ρ : List SV} {post : Out → Prop} (hx : x ∈ WHY) (h : post (.er "BadWorld" [("why", .str x)])) : sRaise "BadWorld" nm_BadWorld (okP1 100) (pCons (pC (.str x)) pNil) ρ post := by
  refine q_raise ?_
  acc_peel
  have : ∀ x ∈ WHY, x.length ≤ 100 := by decide +kernel
  exact ⟨rfl, by simp, ⟨x, rfl, this x hx⟩, h⟩
theorem lp_World_bad {t : Str} {post : Res (List (Str × PV)) → Prop} (hl : t.length ≤ 1000) (hx : t ∉ TEXTS) (h : badN post) : w_World___init__ [.fz (.str t)] post := by
  unfold w_World___init__ bodyN s_v_World___init__
  acc_peel
  refine lp_check_length hl ?_
  acc_peel
  refine lp_world_words_bad hl hx ?_
  acc_peel
  refine q_bad (by decide +kernel) ?_
  acc_peel
  exact h _ (by decide +kernel)
theorem lp_World_any {t : Str} {post : Res (List (Str × PV)) → Prop} (hl : t.length ≤ 1000) (h : ∀ k d, d ≤ 4 → t = wtext k d → post (.ok [("kind", .str (ktext k)), ("late", .int (d : Int)), ("text", .str (wtext k d))])) (he : t ∉ TEXTS → badN post) : w_World___init__ [.fz (.str t)] post := by
  by_cases hx : t ∈ TEXTS
  · obtain ⟨k, d, hd, rfl⟩ := texts_w t hx
    exact lp_World___init__ hd (h k d hd rfl)
  · exact lp_World_bad hl hx (he hx)
theorem kinds_k {z : Str} (h : z ∈ (["many", "once"] : List Str)) : ∃ k, z = ktext k := by
  rcases List.mem_cons.mp h with q | q
  · exact ⟨false, q⟩
  · exact ⟨true, List.mem_singleton.mp q⟩
def goodKD (z : Str) (d : Int) : Prop := z ∈ (["many", "once"] : List Str) ∧ 0 ≤ d ∧ d ≤ 4
theorem lp_World_of_any {z : Str} {d : Int} {post : Res RV → Prop} (h : ∀ (k : Bool) (m : Nat), m ≤ 4 → z = ktext k → d = (m : Int) → post (.ok (.fz (worldP k m)))) (he : ¬ goodKD z d → badR post) : w_World_of [.fz (.str z), .fz (.int d)] post := by
  by_cases hg : goodKD z d
  · obtain ⟨hz, d0, d4⟩ := hg
    obtain ⟨k, rfl⟩ := kinds_k hz
    obtain ⟨m, rfl⟩ := Int.eq_ofNat_of_zero_le d0
    exact lp_World_of (by omega) (h k m (by omega) rfl rfl)
  · have he := he hg
    have i1 : inV (.str z) [.str "many", .str "once"] = decide (z ∈ (["many", "once"] : List Str)) := inV_strs z ["many", "once"]
    unfold w_World_of bodyW s_v_World_of
    acc_peel
    by_cases hz : z ∈ (["many", "once"] : List Str)
    · refine k_inT rfl rfl (by rw [i1]; exact decide_eq_true hz) ?_
      acc_peel
      refine i_dec (fun e => ?_) (fun e => ?_)
      · acc_peel
        refine q_bad (by decide +kernel) ?_
        acc_peel
        exact he _ (by decide +kernel)
      · acc_peel
        refine i_dec (fun e2 => ?_) (fun e2 => absurd ⟨hz, by omega, by omega⟩ hg)
        acc_peel
        refine q_bad (by decide +kernel) ?_
        acc_peel
        exact he _ (by decide +kernel)
    · refine k_outT rfl rfl (by rw [i1]; exact decide_eq_false hz) ?_
      acc_peel
      refine q_bad (by decide +kernel) ?_
      acc_peel
      exact he _ (by decide +kernel)

end My
end

section
set_option Elab.async false
set_option maxRecDepth 100000
set_option maxHeartbeats 4000000
set_option linter.all false
namespace My
open PySem L2
local macro_rules | `(tactic| acc_open) => `(tactic| with_reducible first
  | refine sqK_nx ?_ | refine sqK_rt ?_ | refine sqK_bk ?_ | refine sqK_ct ?_ | refine sqK_er ?_ | refine bk_ok ?_ | refine bk_er ?_ | refine erO_ok ?_ | refine erO_er ?_
  | refine testK_ok ?_ | refine partK_ok ?_ | refine frz_fz ?_ | refine frz_own ?_ | refine frz_er ?_ | refine own_own ?_ | refine own_er ?_ | refine noR_ok ?_ | refine retD_rt ?_ | refine retD_nx ?_ | refine retD_er ?_
  | refine loopK_nx ?_ | refine loopK_ct ?_ | refine loopK_bk ?_ | refine loopK_rt ?_ | refine loopK_er ?_ | refine objR_ok ?_ | refine objR_er ?_
  | refine q_seq ?_ | refine q_next ?_ | refine q_retN ?_ | refine q_break ?_ | refine q_cont ?_ | refine q_if ?_ | refine q_ret ?_ | refine q_retO ?_ | refine q_drop ?_ | refine q_asg ?_ | refine q_asgO ?_ | refine q_app rfl ?_ | refine q_retV rfl ?_ | refine q_retVo rfl ?_ | refine q_frz rfl ?_ | refine q_frz0 rfl ?_ | refine q_par ?_ | refine q_for ?_ | refine q_forN ?_
  | refine q_name ?_ | refine q_gtup rfl ?_ | refine q_gunl rfl ?_ | refine q_gcons ?_ | refine gcK_ok ?_ | refine q_gnil ?_
  | refine q_bind ?_ | refine q_var rfl ?_ | refine q_varB rfl ?_ | refine q_varBo rfl ?_ | refine q_c ?_ | refine q_op ?_ | refine q_p2 ?_ | refine q_p1 ?_ | refine q_ixK ?_ | refine q_neg ?_ | refine q_pif ?_ | refine q_test ?_ | refine q_tand ?_ | refine q_tor ?_ | refine q_tnot ?_ | refine q_yes ?_ | refine q_tru ?_ | refine truK_bl ?_ | refine truK_int ?_ | refine truK_lst ?_ | refine truK_tup ?_
  | refine q_andV ?_ | refine q_orV ?_ | refine q_notV ?_ | refine andVK_ok ?_ | refine orVK_ok ?_ | refine notVK_ok ?_ | refine q_anil ?_ | refine q_acons ?_ | refine q_tup ?_ | refine q_lst ?_ | refine q_pfrz ?_ | refine q_nopart ?_ | refine q_part ?_ | refine q_slS ?_ | refine slSK_ok ?_ | refine q_slL ?_ | refine slLK_ok ?_ | refine slLK2_ok ?_
  | refine q_len ?_ | refine lenK_l ?_ | refine lenK_t ?_ | refine q_listO ?_ | refine seqK_l ?_ | refine seqK_t ?_ | refine q_cat ?_ | refine q_rep ?_ | refine q_join ?_ | refine joinK_ok ?_
  | refine q_itL ?_ | refine q_itT ?_ | refine q_itS ?_ | refine itLK_ok ?_ | refine itTK_ok ?_ | refine itSK_ok ?_ | refine q_rng1 ?_ | refine q_rng2 ?_ | refine q_rev1 ?_ | refine q_lrg1 ?_ | refine q_lrg2 ?_ | refine q_enum ?_ | refine q_enumS ?_ | refine q_enumSK ?_ | refine enK_ok ?_ | refine enSK_ok ?_ | refine q_zip ?_ | refine zipK_l ?_ | refine zipK_t ?_ | refine q_itRev ?_ | refine q_revL ?_ | refine revK_ok ?_ | refine q_revL2 ?_ | refine rev2K_ok ?_
  | refine q_cnil ?_ | refine q_ccons ?_ | refine q_cbag rfl ?_ | refine q_call ?_ | refine q_call0 ?_ | refine q_callO ?_ | refine q_callO0 ?_ | refine q_callK ?_ | refine q_callK0 ?_ | refine q_make ?_ | refine q_make0 ?_ | refine q_meth ?_ | refine q_meth0 ?_ | refine q_lenC ?_ | refine q_fld ?_ | refine q_isi ?_ | refine q_said ?_ | refine saidK_ok ?_
  | refine k_Plus ?_ | refine k_Minus ?_ | refine k_Lt0 ?_ | refine k_Le0 ?_ | refine k_Gt0 ?_ | refine k_Ge0 ?_ | refine k_EqI ?_ | refine k_EqS ?_ | refine k_EqB ?_ | refine k_NeI ?_ | refine k_NeS ?_ | refine k_NeB ?_ | refine k_IsN ?_ | refine k_NotN ?_ | refine k_InS ?_ | refine k_NotInS ?_ | refine k_Int ?_ | refine k_IntB ?_ | refine q_lc ?_
  | refine q_loose rfl ?_ | refine looseK_bl ?_ | refine looseK_int ?_ | refine looseK_str ?_ | refine looseK_non ?_ | refine looseK_er ?_ | refine n_int ?_ | refine n_str ?_ | refine n_bl ?_ | refine n_lst ?_ | refine n_tup ?_ | refine n_obj ?_ | refine n_non ?_ | refine m_int ?_ | refine m_str ?_ | refine m_bl ?_ | refine m_lst ?_ | refine m_tup ?_ | refine m_obj ?_ | refine m_non ?_
  | refine q_fs ?_ | refine q_j0 ?_ | refine q_j1 ?_ | refine q_fmt ?_ | refine q_split ?_ | refine splitK_ok ?_ | refine q_idx ?_ | refine idxK_ok ?_
  | refine i_t ?_ | refine i_f ?_ | refine i_nt ?_ | refine i_nf ?_)
local macro_rules | `(tactic| acc_peel) => `(tactic| repeat' acc_open)
/-! ### k01: the law's own defs -/
theorem seq_gen {a b : WS} {ρ : List SV} {K : Out → Prop} (P : List SV → Prop) (h1 : ∀ K' : Out → Prop, (∀ ρ', P ρ' → K' (.nx ρ')) → a ρ K') (h2 : ∀ ρ', P ρ' → b ρ' K) : sSeq a b ρ K := q_seq (h1 _ fun ρ' p => sqK_nx (h2 ρ' p))
theorem seq_gen2 {a b : WS} {ρ : List SV} {K : Out → Prop} (P : List SV → Prop) (h1 : ∀ K' : Out → Prop, (∀ ρ', P ρ' → K' (.nx ρ')) → (∀ r, K (.rt r) → K' (.rt r)) → a ρ K') (h2 : ∀ ρ', P ρ' → b ρ' K) : sSeq a b ρ K := q_seq (h1 _ (fun ρ' p => sqK_nx (h2 ρ' p)) fun r h => sqK_rt h)
abbrev badP : PV := .lst [.str "BadWorld"]
def goodP (k : Bool) (d : Nat) : PV := .lst [.str "told", .str (ktext k), .int (d : Int), .str (wtext k d)]
theorem er_bad {x : Str} (hx : x ∈ WHY) : erTab "BadWorld" [("why", .str x)] = some badP := by
  have : ∀ x ∈ WHY, x ≠ "" := by decide +kernel
  unfold erTab
  rw [if_pos rfl]
  exact if_pos ⟨rfl, this x hx⟩
theorem q_tell {et : ErTab} {w : WE} {ρ : List SV} {post : Out → Prop} (h : w (ρ.map SV.hide) (tellK et post)) : sTell et w ρ post := h
theorem tellK_ok {et : ErTab} {post : Out → Prop} {p : PV} (h : post (.rt (.fz p))) : tellK et post (.ok p) := h
theorem tell_bad {post : Out → Prop} {x : Str} (hx : x ∈ WHY) (h : post (.rt (.fz badP))) : tellK erTab post (.er "BadWorld" [("why", .str x)]) := ⟨_, er_bad hx, h⟩
theorem lp__law_plain {k : Bool} {d : Nat} {post : Res RV → Prop} (h : post (.ok (.own [.str (ktext k), .int (d : Int), .str (wtext k d)]))) : w__law_plain [.fz (worldP k d)] post := by
  unfold w__law_plain bodyW s_v__law_plain
  acc_peel
  refine fldK_ok (by decide) rfl ?_
  acc_peel
  refine fldK_ok (by decide) rfl ?_
  acc_peel
  refine fldK_ok (by decide) rfl ?_
  acc_peel
  refine ⟨by simp, ?_⟩
  acc_peel
  exact h
theorem lp__law_read {t : Str} {post : Res RV → Prop} (hl : t.length ≤ 1000) (h : ∀ (k : Bool) (d : Nat), d ≤ 4 → t = wtext k d → post (.ok (.fz (goodP k d)))) (he : t ∉ TEXTS → post (.ok (.fz badP))) : w__law_read [.fz (.str t)] post := by
  unfold w__law_read bodyW s_v__law_read
  refine q_tell ?_
  show (pFrz _) [.fz (.str t), .un] _
  acc_peel
  refine ⟨by simp, ?_⟩
  acc_peel
  refine ⟨noBag_fz, lp_World_any hl (fun k d hd e => ?_) (fun hx x hw => ?_)⟩
  · acc_peel
    refine lp__law_plain (k := k) (d := d) ?_
    acc_peel
    refine catK_ok (by simp) ?_
    acc_peel
    refine tellK_ok ?_
    acc_peel
    exact h k d hd e
  · acc_peel
    refine tell_bad hw ?_
    acc_peel
    exact he hx
theorem lp__law_put {z : Str} {d : Int} {post : Res RV → Prop} (h : ∀ (k : Bool) (m : Nat), m ≤ 4 → z = ktext k → d = (m : Int) → post (.ok (.fz (goodP k m)))) (he : ¬ goodKD z d → post (.ok (.fz badP))) : w__law_put [.fz (.str z), .fz (.int d)] post := by
  unfold w__law_put bodyW s_v__law_put
  refine q_tell ?_
  show (pFrz _) [.fz (.str z), .fz (.int d), .un] _
  acc_peel
  refine ⟨by simp, ?_⟩
  acc_peel
  refine lp_World_of_any (fun k m hm e1 e2 => ?_) (fun hx x hw => ?_)
  · acc_peel
    refine lp__law_plain (k := k) (d := m) ?_
    acc_peel
    refine catK_ok (by simp) ?_
    acc_peel
    refine tellK_ok ?_
    acc_peel
    exact h k m hm e1 e2
  · acc_peel
    refine tell_bad hw ?_
    acc_peel
    exact he hx
theorem chK_ok {q' : PV → PV → (Res PV → Prop) → Prop} {wc : WE} {ρ : List SV} {b : PV} {post : Res PV → Prop} {d : Bool} (h : if d = true then wc ρ (bk (fun e => q' b e) post) else post (.ok (.bl false))) : chK q' wc ρ b post (.ok (.bl d)) := h
theorem due_text (k : Bool) {d : Nat} (h : d ≤ 4) : (ktext k ++ " ") ++ Str.ofString (toString (d : Int)) = wtext k d := by
  rcases d_cases h with rfl | rfl | rfl | rfl | rfl <;> cases k <;> decide +kernel
theorem k_inL {a : PV} {x : V} {ps : List PV} {xs : List V} {pE : Res PV → Prop} (hf : flatP a = some x) (hl : flatL ps = some xs) (h : pE (.ok (.bl (inV x xs)))) : qInG false a (.lst ps) pE := ⟨x, xs, hf, hl, h⟩
theorem lp__law_due {z : Str} {d : Int} {post : Res RV → Prop} (h : ∀ (k : Bool) (m : Nat), m ≤ 4 → z = ktext k → d = (m : Int) → post (.ok (.own [.str "told", .str (ktext k), .int (m : Int), .str (wtext k m)]))) (he : ¬ goodKD z d → post (.ok (.own [.str "BadWorld"]))) : w__law_due [.fz (.str z), .fz (.int d)] post := by
  have i1 : inV (.str z) [.str "many", .str "once"] = decide (z ∈ (["many", "once"] : List Str)) := inV_strs z ["many", "once"]
  unfold w__law_due bodyW s_v__law_due
  acc_peel
  refine ⟨by simp, ?_⟩
  acc_peel
  refine k_inL rfl rfl ?_
  rw [i1]
  acc_peel
  refine i_dec (fun hz => ?_) (fun hz => ?_)
  · acc_peel
    refine q_chain ?_
    acc_peel
    refine chK_ok ?_
    refine i_dec (fun h0 => ?_) (fun h0 => ?_)
    · acc_peel
      refine i_dec (fun h4 => ?_) (fun h4 => ?_)
      · obtain ⟨k, rfl⟩ := kinds_k hz
        obtain ⟨m, rfl⟩ := Int.eq_ofNat_of_zero_le h0
        have hk := ktext_len k
        acc_peel
        refine k_AddS (by rw [hk]; decide +kernel) ?_
        acc_peel
        refine ⟨by rcases d_cases (show m ≤ 4 by omega) with rfl | rfl | rfl | rfl | rfl <;> decide +kernel, ?_⟩
        acc_peel
        refine k_AddS (by rcases d_cases (show m ≤ 4 by omega) with rfl | rfl | rfl | rfl | rfl <;> cases k <;> decide +kernel) ?_
        acc_peel
        rw [due_text k (by omega)]
        refine ⟨by simp, ?_⟩
        acc_peel
        exact h k m (by omega) rfl rfl
      · acc_peel
        refine ⟨by simp, ?_⟩
        acc_peel
        exact he fun g => h4 g.2.2
    · acc_peel
      refine ⟨by simp, ?_⟩
      acc_peel
      exact he fun g => h0 g.2.1
  · acc_peel
    refine ⟨by simp, ?_⟩
    acc_peel
    exact he fun g => hz g.1
theorem cut_le (z : Str) (l u : Option Int) : (cutS z l u).length ≤ z.length := cut_len z l u
theorem lp__law_bent {t : Str} {post : Res RV → Prop} (hl : t.length ≤ 1000) (h : ∀ t' : Str, t'.length ≤ 2 * t.length + 1 → post (.ok (.fz (.str t')))) : w__law_bent [.bag, .fz (.str t)] post := by
  unfold w__law_bent bodyW s_v__law_bent
  refine seq_gen (fun ρ => ∃ p : Int, ρ = [.bag, .fz (.str t), .fz (.int p), .un, .un]) (fun K' hk => ?_) (fun ρ e => ?_)
  · acc_peel
    refine q_draw (by omega) (by omega) (fun d d0 d1 => ?_)
    acc_peel
    exact hk _ ⟨_, rfl⟩
  obtain ⟨p, rfl⟩ := e
  refine seq_gen (fun ρ => ∃ s : Int, 0 ≤ s ∧ s ≤ t.length ∧ ρ = [.bag, .fz (.str t), .fz (.int p), .fz (.int s), .un]) (fun K' hk => ?_) (fun ρ e => ?_)
  · acc_peel
    refine k_LenS (by omega) ?_
    acc_peel
    refine q_draw (by omega) (by omega) (fun d d0 d1 => ?_)
    acc_peel
    exact hk _ ⟨_, d0, by omega, rfl⟩
  obtain ⟨s, s0, s1, rfl⟩ := e
  refine seq_gen (fun ρ => ∃ c : Nat, ρ = [.bag, .fz (.str t), .fz (.int p), .fz (.int s), .fz (.str ⟨#[c]⟩)]) (fun K' hk => ?_) (fun ρ e => ?_)
  · acc_peel
    refine lp__law_ofS (by decide +kernel) (by decide +kernel) (fun d hd => ?_)
    acc_peel
    exact hk _ ⟨_, rfl⟩
  obtain ⟨c, rfl⟩ := e
  have l1 : (⟨#[c]⟩ : Str).length = 1 := rfl
  have c1 := cut_len t none (some s)
  have c2 := cut_len t (some (s + 1)) none
  have c3 := cut_len t (some s) none
  refine seq_gen2 (fun ρ => ρ = [.bag, .fz (.str t), .fz (.int p), .fz (.int s), .fz (.str ⟨#[c]⟩)]) (fun K' hn hr => ?_) (fun ρ e => ?_)
  · acc_peel
    refine i_dec (fun e => ?_) (fun e => ?_)
    · acc_peel
      refine slSK2_ok (by omega) ?_
      acc_peel
      refine slSK2_ok (by omega) ?_
      acc_peel
      refine k_AddS (by omega) ?_
      acc_peel
      exact hr _ (h _ (by rw [str_app_len]; omega))
    · acc_peel
      exact hn _ rfl
  subst e
  refine seq_gen2 (fun ρ => ρ = [.bag, .fz (.str t), .fz (.int p), .fz (.int s), .fz (.str ⟨#[c]⟩)]) (fun K' hn hr => ?_) (fun ρ e => ?_)
  · acc_peel
    refine i_dec (fun e => ?_) (fun e => ?_)
    · acc_peel
      refine slSK2_ok (by omega) ?_
      acc_peel
      refine k_AddS (by rw [l1]; omega) ?_
      acc_peel
      refine slSK2_ok (by omega) ?_
      acc_peel
      refine k_AddS (by rw [str_app_len, l1]; omega) ?_
      acc_peel
      exact hr _ (h _ (by rw [str_app_len, str_app_len, l1]; omega))
    · acc_peel
      exact hn _ rfl
  subst e
  refine seq_gen2 (fun ρ => ρ = [.bag, .fz (.str t), .fz (.int p), .fz (.int s), .fz (.str ⟨#[c]⟩)]) (fun K' hn hr => ?_) (fun ρ e => ?_)
  · acc_peel
    refine i_dec (fun e => ?_) (fun e => ?_)
    · acc_peel
      refine k_AddS (by rw [l1]; omega) ?_
      acc_peel
      exact hr _ (h _ (by rw [str_app_len, l1]; omega))
    · acc_peel
      exact hn _ rfl
  subst e
  acc_peel
  refine slSK2_ok (by omega) ?_
  acc_peel
  refine k_AddS (by rw [l1]; omega) ?_
  acc_peel
  refine slSK2_ok (by omega) ?_
  acc_peel
  refine k_AddS (by rw [str_app_len, l1]; omega) ?_
  acc_peel
  exact h _ (by rw [str_app_len, str_app_len, l1]; omega)

end My
end

section
set_option Elab.async false
set_option maxRecDepth 100000
set_option maxHeartbeats 4000000
set_option linter.all false
namespace My
open PySem L2
local macro_rules | `(tactic| acc_open) => `(tactic| with_reducible first
  | refine sqK_nx ?_ | refine sqK_rt ?_ | refine sqK_bk ?_ | refine sqK_ct ?_ | refine sqK_er ?_ | refine bk_ok ?_ | refine bk_er ?_ | refine erO_ok ?_ | refine erO_er ?_
  | refine testK_ok ?_ | refine partK_ok ?_ | refine frz_fz ?_ | refine frz_own ?_ | refine frz_er ?_ | refine own_own ?_ | refine own_er ?_ | refine noR_ok ?_ | refine retD_rt ?_ | refine retD_nx ?_ | refine retD_er ?_
  | refine loopK_nx ?_ | refine loopK_ct ?_ | refine loopK_bk ?_ | refine loopK_rt ?_ | refine loopK_er ?_ | refine objR_ok ?_ | refine objR_er ?_
  | refine q_seq ?_ | refine q_next ?_ | refine q_retN ?_ | refine q_break ?_ | refine q_cont ?_ | refine q_if ?_ | refine q_ret ?_ | refine q_retO ?_ | refine q_drop ?_ | refine q_asg ?_ | refine q_asgO ?_ | refine q_app rfl ?_ | refine q_retV rfl ?_ | refine q_retVo rfl ?_ | refine q_frz rfl ?_ | refine q_frz0 rfl ?_ | refine q_par ?_ | refine q_for ?_ | refine q_forN ?_
  | refine q_name ?_ | refine q_gtup rfl ?_ | refine q_gunl rfl ?_ | refine q_gcons ?_ | refine gcK_ok ?_ | refine q_gnil ?_
  | refine q_bind ?_ | refine q_var rfl ?_ | refine q_varB rfl ?_ | refine q_varBo rfl ?_ | refine q_c ?_ | refine q_op ?_ | refine q_p2 ?_ | refine q_p1 ?_ | refine q_ixK ?_ | refine q_neg ?_ | refine q_pif ?_ | refine q_test ?_ | refine q_tand ?_ | refine q_tor ?_ | refine q_tnot ?_ | refine q_yes ?_ | refine q_tru ?_ | refine truK_bl ?_ | refine truK_int ?_ | refine truK_lst ?_ | refine truK_tup ?_
  | refine q_andV ?_ | refine q_orV ?_ | refine q_notV ?_ | refine andVK_ok ?_ | refine orVK_ok ?_ | refine notVK_ok ?_ | refine q_anil ?_ | refine q_acons ?_ | refine q_tup ?_ | refine q_lst ?_ | refine q_pfrz ?_ | refine q_nopart ?_ | refine q_part ?_ | refine q_slS ?_ | refine slSK_ok ?_ | refine q_slL ?_ | refine slLK_ok ?_ | refine slLK2_ok ?_
  | refine q_len ?_ | refine lenK_l ?_ | refine lenK_t ?_ | refine q_listO ?_ | refine seqK_l ?_ | refine seqK_t ?_ | refine q_cat ?_ | refine q_rep ?_ | refine q_join ?_ | refine joinK_ok ?_
  | refine q_itL ?_ | refine q_itT ?_ | refine q_itS ?_ | refine itLK_ok ?_ | refine itTK_ok ?_ | refine itSK_ok ?_ | refine q_rng1 ?_ | refine q_rng2 ?_ | refine q_rev1 ?_ | refine q_lrg1 ?_ | refine q_lrg2 ?_ | refine q_enum ?_ | refine q_enumS ?_ | refine q_enumSK ?_ | refine enK_ok ?_ | refine enSK_ok ?_ | refine q_zip ?_ | refine zipK_l ?_ | refine zipK_t ?_ | refine q_itRev ?_ | refine q_revL ?_ | refine revK_ok ?_ | refine q_revL2 ?_ | refine rev2K_ok ?_
  | refine q_cnil ?_ | refine q_ccons ?_ | refine q_cbag rfl ?_ | refine q_call ?_ | refine q_call0 ?_ | refine q_callO ?_ | refine q_callO0 ?_ | refine q_callK ?_ | refine q_callK0 ?_ | refine q_make ?_ | refine q_make0 ?_ | refine q_meth ?_ | refine q_meth0 ?_ | refine q_lenC ?_ | refine q_fld ?_ | refine q_isi ?_ | refine q_said ?_ | refine saidK_ok ?_
  | refine k_Plus ?_ | refine k_Minus ?_ | refine k_Lt0 ?_ | refine k_Le0 ?_ | refine k_Gt0 ?_ | refine k_Ge0 ?_ | refine k_EqI ?_ | refine k_EqS ?_ | refine k_EqB ?_ | refine k_NeI ?_ | refine k_NeS ?_ | refine k_NeB ?_ | refine k_IsN ?_ | refine k_NotN ?_ | refine k_InS ?_ | refine k_NotInS ?_ | refine k_Int ?_ | refine k_IntB ?_ | refine q_lc ?_
  | refine q_loose rfl ?_ | refine looseK_bl ?_ | refine looseK_int ?_ | refine looseK_str ?_ | refine looseK_non ?_ | refine looseK_er ?_ | refine n_int ?_ | refine n_str ?_ | refine n_bl ?_ | refine n_lst ?_ | refine n_tup ?_ | refine n_obj ?_ | refine n_non ?_ | refine m_int ?_ | refine m_str ?_ | refine m_bl ?_ | refine m_lst ?_ | refine m_tup ?_ | refine m_obj ?_ | refine m_non ?_
  | refine q_fs ?_ | refine q_j0 ?_ | refine q_j1 ?_ | refine q_fmt ?_ | refine q_split ?_ | refine splitK_ok ?_ | refine q_idx ?_ | refine idxK_ok ?_
  | refine i_t ?_ | refine i_f ?_ | refine i_nt ?_ | refine i_nf ?_)
local macro_rules | `(tactic| acc_peel) => `(tactic| repeat' acc_open)
/-! ### k01: the law -/
theorem lk_good {k : Bool} {d : Nat} : lkP 1 (goodP k d) := ⟨by simp, fun q hq => by
  simp only [List.mem_cons, List.not_mem_nil, or_false] at hq
  rcases hq with rfl | rfl | rfl | rfl
  · exact lk_str
  · exact lk_str
  · exact lk_int
  · exact lk_str⟩
theorem lk_badP : lkP 1 badP := ⟨by simp, fun q hq => by rw [List.mem_singleton.mp hq]; exact lk_str⟩
theorem ktext_inj {k j : Bool} (h : ktext k = ktext j) : k = j := by
  have : ∀ k j : Bool, ktext k = ktext j → k = j := by decide +kernel
  exact this k j h
theorem good_kd {k : Bool} {m : Nat} (h : m ≤ 4) : goodKD (ktext k) (m : Int) := ⟨by cases k <;> decide +kernel, by omega, by omega⟩
theorem cut4 (k : Bool) {d : Nat} (h : d ≤ 4) : cutS (wtext k d) none (some 4) = ktext k := by
  rcases d_cases h with rfl | rfl | rfl | rfl | rfl <;> cases k <;> decide +kernel
theorem cut5 (k : Bool) {d : Nat} (h : d ≤ 4) : cutS (wtext k d) (some 5) none = dtext d := by
  rcases d_cases h with rfl | rfl | rfl | rfl | rfl <;> cases k <;> decide +kernel
theorem find_d {d : Nat} (h : d ≤ 4) : Txt.find "01234" (dtext d) = (d : Int) := by
  rcases d_cases h with rfl | rfl | rfl | rfl | rfl <;> decide +kernel
def goodT (t : Str) : PV := .lst [.str "told", .str (cutS t none (some 4)), .int (Txt.find "01234" (cutS t (some 5) none)), .str t]
theorem goodP_T (k : Bool) {d : Nat} (h : d ≤ 4) : goodP k d = goodT (wtext k d) := by unfold goodP goodT; rw [cut4 k h, cut5 k h, find_d h]
theorem lk_goodT {t : Str} : lkP 1 (goodT t) := ⟨by simp, fun q hq => by
  simp only [List.mem_cons, List.not_mem_nil, or_false] at hq
  rcases hq with rfl | rfl | rfl | rfl
  · exact lk_str
  · exact lk_str
  · exact lk_int
  · exact lk_str⟩
theorem lp__law_texts {post : Res RV → Prop} (h : post (.ok (.own (TEXTS.map PV.str)))) : w__law_texts [] post := by
  unfold w__law_texts bodyW s_v__law_texts
  acc_peel
  refine ⟨by simp, ?_⟩
  acc_peel
  exact h

theorem pl_kl {z : Str} {d : Int} {K : Out → Prop} {c0 v3 v4 v5 v6 v9 v10 v11 v12 v13 : SV} (h : K (.nx [c0, .bag, .fz (.lst (TEXTS.map PV.str)), v3, v4, v5, v6, .fz (.str z), .fz (.int d), v9, v10, v11, v12, v13])) : (sIf (pNot (pTest (pCall0 w__law_like1 [] (cpCons (pCall0 w__law_put [] (cpCons (pVar 7) (cpCons (pVar 8) cpNil))) (cpCons (pCall0 w__law_due [] (cpCons (pVar 7) (cpCons (pVar 8) cpNil))) cpNil))))) (sRet (pC (.bl false))) sNext) [c0, .bag, .fz (.lst (TEXTS.map PV.str)), v3, v4, v5, v6, .fz (.str z), .fz (.int d), v9, v10, v11, v12, v13] K := by
  acc_peel
  refine lp__law_put (fun k m hm e1 e2 => ?_) (fun hb => ?_)
  · subst e1 e2
    acc_peel
    refine lp__law_due (fun k' m' hm' e1 e2 => ?_) (fun hb => absurd (good_kd hm) hb)
    obtain rfl := ktext_inj e1
    obtain rfl : m' = m := by omega
    acc_peel
    refine lp__law_like1 (p := goodP k m') lk_good ?_
    acc_peel
    exact h
  · acc_peel
    refine lp__law_due (fun k m hm e1 e2 => absurd (by rw [e1, e2]; exact good_kd hm) hb) (fun _ => ?_)
    acc_peel
    refine lp__law_like1 (p := badP) lk_badP ?_
    acc_peel
    exact h

theorem pl_b1 {K : Out → Prop} {c0 v3 v4 v5 v6 v7 v8 v9 v10 v11 v12 v13 : SV} (h : ∀ v3 v4 v5 v6 v7 v8 v9 v10 v11 v12 v13, K (.nx [c0, .bag, .fz (.lst (TEXTS.map PV.str)), v3, v4, v5, v6, v7, v8, v9, v10, v11, v12, v13])) : b1_law [c0, .bag, .fz (.lst (TEXTS.map PV.str)), v3, v4, v5, v6, v7, v8, v9, v10, v11, v12, v13] K := by
  unfold b1_law
  refine seq_gen (fun ρ => ∃ t : Str, t.length ≤ 10 ∧ ρ = [c0, .bag, .fz (.lst (TEXTS.map PV.str)), v3, .fz (.str t), v5, v6, v7, v8, v9, v10, v11, v12, v13]) (fun K' hk => ?_) (fun ρ e => ?_)
  · acc_peel
    refine lp__law_of (by simp [TEXTS]) (by simp [TEXTS]) (fun p hp => ?_)
    obtain ⟨t, ht, rfl⟩ := List.mem_map.mp hp
    have hl : ∀ t ∈ TEXTS, t.length ≤ 10 := by decide +kernel
    acc_peel
    exact hk _ ⟨t, hl t ht, rfl⟩
  obtain ⟨t, tl, rfl⟩ := e
  refine seq_gen (fun ρ => ∃ (t : Str) (v5 : SV), t.length ≤ 1000 ∧ ρ = [c0, .bag, .fz (.lst (TEXTS.map PV.str)), v3, .fz (.str t), v5, v6, v7, v8, v9, v10, v11, v12, v13]) (fun K' hk => ?_) (fun ρ e => ?_)
  · acc_peel
    refine ⟨by simp, ?_⟩
    acc_peel
    refine lp__law_of (by simp) (by simp) (fun p hp => ?_)
    have hp : ∃ m : Nat, m ≤ 3 ∧ p = .int (m : Int) := by
      simp only [List.mem_cons, List.not_mem_nil, or_false] at hp
      rcases hp with q | q | q | q | q
      · exact ⟨1, by omega, q⟩
      · exact ⟨0, by omega, q⟩
      · exact ⟨1, by omega, q⟩
      · exact ⟨2, by omega, q⟩
      · exact ⟨3, by omega, q⟩
    obtain ⟨m, hm, rfl⟩ := hp
    acc_peel
    refine rg1K_ok ⟨by omega, by omega⟩ ?_
    acc_peel
    rw [rgP_map, Int.toNat_natCast]
    refine forL_inv (fun i ρ => ∃ (t : Str) (v5 : SV), t.length + 1 ≤ 11 * 2 ^ i ∧ i ≤ 3 ∧ ρ = [c0, .bag, .fz (.lst (TEXTS.map PV.str)), v3, .fz (.str t), v5, v6, v7, v8, v9, v10, v11, v12, v13]) ⟨t, _, by omega, by omega, rfl⟩ (fun i x ρ K hx hp hk => ?_) (fun ρ hp => ?_)
    · obtain ⟨t, v5, ht, hi3, rfl⟩ := hp
      have hi := (List.getElem?_eq_some_iff.mp hx).1
      rw [List.length_range] at hi
      have hb : t.length ≤ 1000 := by
        have : (2 : Nat) ^ i ≤ 2 ^ 3 := Nat.pow_le_pow_right (by omega) hi3
        omega
      unfold b0_law
      acc_peel
      refine lp__law_bent hb (fun t' ht' => ?_)
      acc_peel
      exact hk.nx _ ⟨t', _, by rw [Nat.pow_succ]; omega, by omega, rfl⟩
    · obtain ⟨t, v5, ht, hi3, rfl⟩ := hp
      rw [List.length_range] at ht hi3
      have hb : t.length ≤ 1000 := by
        have : (2 : Nat) ^ m ≤ 2 ^ 3 := Nat.pow_le_pow_right (by omega) hm
        omega
      exact hk _ ⟨t, v5, hb, rfl⟩
  obtain ⟨t, v5, tl, rfl⟩ := e
  refine seq_gen (fun ρ => ρ = [c0, .bag, .fz (.lst (TEXTS.map PV.str)), v3, .fz (.str t), v5, .fz (if t ∈ TEXTS then goodT t else badP), v7, v8, v9, v10, v11, v12, v13]) (fun K' hk => ?_) (fun ρ e => ?_)
  · acc_peel
    refine k_inL rfl (xs := TEXTS.map V.str) rfl ?_
    rw [inV_strs]
    acc_peel
    refine i_dec (fun ht => ?_) (fun ht => ?_)
    · rw [if_pos ht] at hk
      acc_peel
      refine slSK2_ok (by omega) ?_
      acc_peel
      refine q_find ?_
      acc_peel
      refine findK_ok ?_
      acc_peel
      refine slSK2_ok (by omega) ?_
      acc_peel
      refine findK2_ok ?_
      acc_peel
      refine ⟨by simp, ?_⟩
      acc_peel
      exact hk _ rfl
    · rw [if_neg ht] at hk
      acc_peel
      refine ⟨by simp, ?_⟩
      acc_peel
      exact hk _ rfl
  subst e
  refine seq_gen (fun ρ => ρ = [c0, .bag, .fz (.lst (TEXTS.map PV.str)), v3, .fz (.str t), v5, .fz (if t ∈ TEXTS then goodT t else badP), v7, v8, v9, v10, v11, v12, v13]) (fun K' hk => ?_) (fun ρ e => ?_)
  · acc_peel
    refine lp__law_read tl (fun k d hd e => ?_) (fun ht => ?_)
    · subst e
      rw [if_pos (w_texts k hd), goodP_T k hd]
      rw [if_pos (w_texts k hd)] at hk
      acc_peel
      refine lp__law_like1 lk_goodT ?_
      acc_peel
      exact hk _ rfl
    · rw [if_neg ht]
      rw [if_neg ht] at hk
      acc_peel
      refine lp__law_like1 lk_badP ?_
      acc_peel
      exact hk _ rfl
  subst e
  generalize SV.fz (if t ∈ TEXTS then goodT t else badP) = v6
  generalize SV.fz (PV.str t) = v4
  refine seq_gen (fun ρ => ∃ z : Str, z.length ≤ 100 ∧ ρ = [c0, .bag, .fz (.lst (TEXTS.map PV.str)), v3, v4, v5, v6, .fz (.str z), v8, v9, v10, v11, v12, v13]) (fun K' hk => ?_) (fun ρ e => ?_)
  · acc_peel
    refine ⟨by simp, ?_⟩
    acc_peel
    refine lp__law_of (by simp) (by simp) (fun p hp => ?_)
    have hp : p ∈ (["many", "once", "many", "once", "Many", "", "many ", "both", "many 1", "o"] : List Str).map PV.str := hp
    obtain ⟨z, hz, rfl⟩ := List.mem_map.mp hp
    have hl : ∀ z ∈ (["many", "once", "many", "once", "Many", "", "many ", "both", "many 1", "o"] : List Str), z.length ≤ 100 := by decide +kernel
    acc_peel
    exact hk _ ⟨z, hl z hz, rfl⟩
  obtain ⟨z, zl, rfl⟩ := e
  refine seq_gen (fun ρ => ∃ z : Str, ρ = [c0, .bag, .fz (.lst (TEXTS.map PV.str)), v3, v4, v5, v6, .fz (.str z), v8, v9, v10, v11, v12, v13]) (fun K' hk => ?_) (fun ρ e => ?_)
  · acc_peel
    refine q_draw (by omega) (by omega) (fun d d0 d1 => ?_)
    acc_peel
    refine i_dec (fun e => ?_) (fun e => ?_)
    · acc_peel
      refine lp__law_bent (by omega) (fun z' _ => ?_)
      acc_peel
      exact hk _ ⟨z', rfl⟩
    · acc_peel
      exact hk _ ⟨z, rfl⟩
  obtain ⟨z, rfl⟩ := e
  refine seq_gen (fun ρ => ∃ d : Int, ρ = [c0, .bag, .fz (.lst (TEXTS.map PV.str)), v3, v4, v5, v6, .fz (.str z), .fz (.int d), v9, v10, v11, v12, v13]) (fun K' hk => ?_) (fun ρ e => ?_)
  · acc_peel
    refine ⟨by simp, ?_⟩
    acc_peel
    refine lp__law_of (by simp) (by simp) (fun p hp => ?_)
    have hp : p ∈ ([0, 1, 2, 3, 4, 5, -1, 4, 0, 6, 10, -4, 123456789, 3, 2, 1] : List Int).map PV.int := hp
    obtain ⟨d, hd, rfl⟩ := List.mem_map.mp hp
    acc_peel
    exact hk _ ⟨d, rfl⟩
  obtain ⟨d, rfl⟩ := e
  refine seq_gen (fun ρ => ρ = [c0, .bag, .fz (.lst (TEXTS.map PV.str)), v3, v4, v5, v6, .fz (.str z), .fz (.int d), v9, v10, v11, v12, v13]) (fun K' hk => pl_kl (hk _ rfl)) (fun ρ e => ?_)
  subst e
  refine seq_gen (fun ρ => ∃ z : Str, ρ = [c0, .bag, .fz (.lst (TEXTS.map PV.str)), v3, v4, v5, v6, .fz (.str z), .fz (.int d), v9, v10, v11, v12, v13]) (fun K' hk => ?_) (fun ρ e => ?_)
  · acc_peel
    refine ⟨by simp, ?_⟩
    acc_peel
    refine lp__law_of (by simp) (by simp) (fun p hp => ?_)
    have hp : p ∈ (["many", "once"] : List Str).map PV.str := hp
    obtain ⟨z, hz, rfl⟩ := List.mem_map.mp hp
    acc_peel
    exact hk _ ⟨z, rfl⟩
  obtain ⟨z, rfl⟩ := e
  refine seq_gen (fun ρ => ∃ d : Int, ρ = [c0, .bag, .fz (.lst (TEXTS.map PV.str)), v3, v4, v5, v6, .fz (.str z), .fz (.int d), v9, v10, v11, v12, v13]) (fun K' hk => ?_) (fun ρ e => ?_)
  · acc_peel
    refine q_draw (by omega) (by omega) (fun d d0 d1 => ?_)
    acc_peel
    exact hk _ ⟨d, rfl⟩
  obtain ⟨d, rfl⟩ := e
  exact pl_kl (h _ _ _ _ _ _ _ _ _ _ _)

/-! ### k01: equal worlds -/
def kI (i : Nat) : Bool := decide (5 ≤ i)
def wI (i : Nat) : Str := wtext (kI i) (i % 5)
theorem texts_I : TEXTS = (List.range 10).map wI := by decide +kernel
theorem dI (i : Nat) : i % 5 ≤ 4 := by omega
def oneP : List PV := (List.range 10).map fun i => worldP (kI i) (i % 5)
theorem one_at {i : Nat} (h : i < 10) : oneP[i]? = some (worldP (kI i) (i % 5)) := by
  unfold oneP
  rw [List.getElem?_map, List.getElem?_range h]; rfl
theorem text_at {i : Nat} (h : i < 10) : (TEXTS.map PV.str)[i]? = some (.str (wI i)) := by
  rw [texts_I, List.map_map, List.getElem?_map, List.getElem?_range h]; rfl
theorem atN {ps : List PV} {i : Int} {k : Nat} {p : PV} (e : i = (k : Int)) (h : ps[k]? = some p) : L2.atI ps i = some p := by
  subst e
  have hk := (List.getElem?_eq_some_iff.mp h).1
  unfold L2.atI
  rw [ixN_ge (by omega) rfl hk]
  exact h
theorem wI_inj {i j : Nat} (hi : i < 10) (hj : j < 10) : decide (wI i = wI j) = decide ((i : Int) = (j : Int)) := by
  have : ∀ i < 10, ∀ j < 10, decide (wI i = wI j) = decide (i = j) := by decide +kernel
  rw [this i hi j hj]
  exact decide_eq_decide.mpr (by omega)
theorem tI_ww : tabI "World" (.o "World") = some true := by unfold tabI; exact if_pos rfl
theorem tI_ws : tabI "World" (.b "str") = some false := by unfold tabI; exact if_pos rfl
theorem tI_wr : tabI "World" (.o "Rota") = some false := by unfold tabI; exact (if_neg (by decide +kernel)).trans (if_pos (.inr rfl))
theorem tI_rw : tabI "Rota" (.o "World") = some false := by unfold tabI; exact (if_neg (by decide +kernel)).trans (if_pos (.inl rfl))
theorem tE_w : tabE (.o "World") = true := by unfold tabE; exact decide_eq_true (.inl rfl)
theorem tE_r : tabE (.o "Rota") = true := by unfold tabE; exact decide_eq_true (.inr rfl)
theorem tE_s : tabE (.b "str") = true := by unfold tabE; exact decide_eq_true rfl
theorem lp_eq {k j : Bool} {d e : Nat} {post : Res RV → Prop} (h : post (.ok (.fz (.bl (decide (wtext k d = wtext j e)))))) : w_World___eq__ [.fz (worldP k d), .fz (worldP j e)] post := by
  unfold w_World___eq__ bodyW s_v_World___eq__
  acc_peel
  refine q_isC ?_
  acc_peel
  refine isCK_ok (d := true) tI_ww ?_
  acc_peel
  refine fldK_ok (by decide) rfl ?_
  acc_peel
  refine fldK_ok (by decide) rfl ?_
  acc_peel
  exact h
theorem lp_eq_no {k : Bool} {d : Nat} {p : PV} {post : Res RV → Prop} (hp : tabI "World" (tnP p) = some false) (h : post (.ok (.fz (.bl false)))) : w_World___eq__ [.fz (worldP k d), .fz p] post := by
  unfold w_World___eq__ bodyW s_v_World___eq__
  acc_peel
  refine q_isC ?_
  acc_peel
  refine isCK_ok hp ?_
  acc_peel
  exact h
theorem lp_req_no {z : Str} {p : PV} {post : Res RV → Prop} (hp : tabI "Rota" (tnP p) = some false) (h : post (.ok (.fz (.bl false)))) : w_Rota___eq__ [.fz (rotaP z), .fz p] post := by
  unfold w_Rota___eq__ bodyW s_v_Rota___eq__
  acc_peel
  refine q_isC ?_
  acc_peel
  refine isCK_ok hp ?_
  acc_peel
  exact h
theorem lk_bls {a b : Bool} : lkP 1 (.lst [.bl a, .bl b]) := ⟨by simp, fun q hq => by
  simp only [List.mem_cons, List.not_mem_nil, or_false] at hq
  rcases hq with rfl | rfl
  · exact lk_bl
  · exact lk_bl⟩
theorem lk_fff {t : Str} : lkP 1 (.lst [.bl false, .bl false, .bl false, .str t]) := ⟨by simp, fun q hq => by
  simp only [List.mem_cons, List.not_mem_nil, or_false] at hq
  rcases hq with rfl | rfl | rfl | rfl
  · exact lk_bl
  · exact lk_bl
  · exact lk_bl
  · exact lk_str⟩

theorem pl_b2 {i j : Nat} {K : Out → Prop} {c0 v3 v4 v5 v6 v7 v8 v13 : SV} (hi : i < 10) (hj : j < 10) (h : K (.nx [c0, .bag, .fz (.lst (TEXTS.map PV.str)), v3, v4, v5, v6, v7, v8, .fz (.lst oneP), .fz (.lst oneP), .fz (.int (i : Int)), .fz (.int (j : Int)), v13])) : b2_law [c0, .bag, .fz (.lst (TEXTS.map PV.str)), v3, v4, v5, v6, v7, v8, .fz (.lst oneP), .fz (.lst oneP), .fz (.int (i : Int)), .fz (.int (j : Int)), v13] K := by
  have e := wI_inj hi hj
  unfold b2_law
  acc_peel
  refine q_eqO ?_
  acc_peel
  refine k_IxL (atN rfl (one_at hi)) ?_
  acc_peel
  refine k_IxL (atN rfl (one_at hj)) ?_
  acc_peel
  refine eqOK2_ok (fs := [("kind", .str (ktext (kI i))), ("late", .int ((i % 5 : Nat) : Int)), ("text", .str (wtext (kI i) (i % 5)))]) tE_w ?_
  refine lp_eq (k := kI i) (d := i % 5) ?_
  rw [show decide (wtext (kI i) (i % 5) = wtext (kI j) (j % 5)) = decide ((i : Int) = (j : Int)) from e]
  acc_peel
  refine onlyB_ok ?_
  acc_peel
  refine q_eqO ?_
  acc_peel
  refine k_IxL (atN rfl (one_at hi)) ?_
  acc_peel
  refine k_IxL (atN rfl (one_at hj)) ?_
  acc_peel
  refine eqOK2_ok (fs := [("kind", .str (ktext (kI i))), ("late", .int ((i % 5 : Nat) : Int)), ("text", .str (wtext (kI i) (i % 5)))]) tE_w ?_
  refine lp_eq (k := kI i) (d := i % 5) ?_
  rw [show decide (wtext (kI i) (i % 5) = wtext (kI j) (j % 5)) = decide ((i : Int) = (j : Int)) from e]
  acc_peel
  refine onlyB_ok ?_
  acc_peel
  refine ⟨by simp, ?_⟩
  acc_peel
  refine ⟨by simp, ?_⟩
  acc_peel
  refine lp__law_like1 lk_bls ?_
  acc_peel
  exact h
theorem pl_b3 {i : Nat} {K : Out → Prop} {c0 v3 v4 v5 v6 v7 v8 v12 v13 : SV} (hi : i < 10) (h : ∀ v12 v13, K (.nx [c0, .bag, .fz (.lst (TEXTS.map PV.str)), v3, v4, v5, v6, v7, v8, .fz (.lst oneP), .fz (.lst oneP), .fz (.int (i : Int)), v12, v13])) : b3_law [c0, .bag, .fz (.lst (TEXTS.map PV.str)), v3, v4, v5, v6, v7, v8, .fz (.lst oneP), .fz (.lst oneP), .fz (.int (i : Int)), v12, v13] K := by
  unfold b3_law
  refine seq_gen (fun ρ => ∃ v12, ρ = [c0, .bag, .fz (.lst (TEXTS.map PV.str)), v3, v4, v5, v6, v7, v8, .fz (.lst oneP), .fz (.lst oneP), .fz (.int (i : Int)), v12, v13]) (fun K' hk => ?_) (fun ρ e => ?_)
  · acc_peel
    refine rg1K_ok ⟨by decide, by decide⟩ ?_
    acc_peel
    rw [rgP_map]
    refine forL_inv (fun _ ρ => ∃ v12, ρ = [c0, .bag, .fz (.lst (TEXTS.map PV.str)), v3, v4, v5, v6, v7, v8, .fz (.lst oneP), .fz (.lst oneP), .fz (.int (i : Int)), v12, v13]) ⟨_, rfl⟩ (fun j x ρ K hx hp hk => ?_) (fun ρ hp => hk _ hp)
    obtain ⟨v12, rfl⟩ := hp
    have hj := (List.getElem?_eq_some_iff.mp hx).1
    rw [List.length_range] at hj
    rw [List.getElem?_range hj] at hx
    cases hx
    rw [show (0 : Int) + (j : Int) * 1 = (j : Int) by omega]
    exact q_name (erO_ok (pl_b2 hi hj (hk.nx _ ⟨_, rfl⟩)))
  obtain ⟨v12, rfl⟩ := e
  refine seq_gen (fun ρ => ∃ z, ρ = [c0, .bag, .fz (.lst (TEXTS.map PV.str)), v3, v4, v5, v6, v7, v8, .fz (.lst oneP), .fz (.lst oneP), .fz (.int (i : Int)), v12, .fz (rotaP z)]) (fun K' hk => ?_) (fun ρ e => ?_)
  · acc_peel
    refine ⟨by simp, ?_⟩
    acc_peel
    refine lp__law_of (by simp) (by simp) (fun p hp => ?_)
    have hp : ∃ z : Str, okL (tl z) ∧ z.length ≤ 40 ∧ p = .str (if z.length = 0 then "-" else z) := by
      simp only [List.mem_cons, List.not_mem_nil, or_false] at hp
      rcases hp with q | q | q
      · exact ⟨"", by decide +kernel, by decide +kernel, by rw [q]; rfl⟩
      · exact ⟨"h", by decide +kernel, by decide +kernel, by rw [q]; rfl⟩
      · exact ⟨"hah", by decide +kernel, by decide +kernel, by rw [q]; rfl⟩
    obtain ⟨z, zk, zl, rfl⟩ := hp
    acc_peel
    refine ⟨noBag_fz, lp_rota_of zk zl ?_⟩
    acc_peel
    exact hk _ ⟨z, rfl⟩
  obtain ⟨z, rfl⟩ := e
  acc_peel
  refine q_eqO ?_
  acc_peel
  refine k_IxL (atN rfl (one_at hi)) ?_
  acc_peel
  refine k_IxL (atN rfl (text_at hi)) ?_
  acc_peel
  refine eqOK2_ok (fs := [("kind", .str (ktext (kI i))), ("late", .int ((i % 5 : Nat) : Int)), ("text", .str (wtext (kI i) (i % 5)))]) tE_s ?_
  refine lp_eq_no (k := kI i) (d := i % 5) tI_ws ?_
  acc_peel
  refine onlyB_ok ?_
  acc_peel
  refine q_eqO ?_
  acc_peel
  refine k_IxL (atN rfl (one_at hi)) ?_
  acc_peel
  refine eqOK2_ok (fs := [("kind", .str (ktext (kI i))), ("late", .int ((i % 5 : Nat) : Int)), ("text", .str (wtext (kI i) (i % 5)))]) tE_r ?_
  refine lp_eq_no (k := kI i) (d := i % 5) (p := rotaP z) tI_wr ?_
  acc_peel
  refine onlyB_ok ?_
  acc_peel
  refine q_eqO ?_
  acc_peel
  refine k_IxL (atN rfl (one_at hi)) ?_
  acc_peel
  refine eqOK2_ok (fs := [("letters", .str z), ("text", .str (if z.length = 0 then "-" else z))]) tE_w ?_
  refine lp_req_no (z := z) (p := worldP (kI i) (i % 5)) tI_rw ?_
  acc_peel
  refine onlyB_ok ?_
  acc_peel
  refine k_IxL (atN rfl (one_at hi)) ?_
  acc_peel
  refine lp__law_plain (k := kI i) (d := i % 5) ?_
  acc_peel
  refine k_IxL (p := .str (wI i)) rfl ?_
  acc_peel
  refine ⟨by simp, ?_⟩
  acc_peel
  refine k_IxL (atN rfl (text_at hi)) ?_
  acc_peel
  refine ⟨by simp, ?_⟩
  acc_peel
  refine lp__law_like1 lk_fff ?_
  acc_peel
  exact h _ _
theorem sv_law {ns : List Int} : s_v_law (.scr ns :: .bag :: List.replicate 12 .un) (fun o => match o with | .rt (.fz p) => p = .bl true | _ => False) := by
  unfold s_v_law
  refine seq_gen (fun ρ => ∃ c0 v3 v4 v5 v6 v7 v8 v9 v10 v11 v12 v13, ρ = [c0, .bag, .fz (.lst (TEXTS.map PV.str)), v3, v4, v5, v6, v7, v8, v9, v10, v11, v12, v13]) (fun K' hk => ?_) (fun ρ e => ?_)
  · acc_peel
    refine lp__law_texts ?_
    acc_peel
    exact hk _ ⟨_, _, _, _, _, _, _, _, _, _, _, _, rfl⟩
  obtain ⟨c0, v3, v4, v5, v6, v7, v8, v9, v10, v11, v12, v13, rfl⟩ := e
  refine seq_gen (fun ρ => ∃ v3 v4 v5 v6 v7 v8 v9 v10 v11 v12 v13, ρ = [c0, .bag, .fz (.lst (TEXTS.map PV.str)), v3, v4, v5, v6, v7, v8, v9, v10, v11, v12, v13]) (fun K' hk => ?_) (fun ρ e => ?_)
  · acc_peel
    refine rg1K_ok ⟨by decide, by decide⟩ ?_
    acc_peel
    rw [rgP_map]
    refine forL_inv (fun _ ρ => ∃ v3 v4 v5 v6 v7 v8 v9 v10 v11 v12 v13, ρ = [c0, .bag, .fz (.lst (TEXTS.map PV.str)), v3, v4, v5, v6, v7, v8, v9, v10, v11, v12, v13]) ⟨_, _, _, _, _, _, _, _, _, _, _, rfl⟩ (fun i x ρ K hx hp hk => ?_) (fun ρ hp => hk _ hp)
    obtain ⟨v3, v4, v5, v6, v7, v8, v9, v10, v11, v12, v13, rfl⟩ := hp
    exact q_name (erO_ok (pl_b1 fun v3 v4 v5 v6 v7 v8 v9 v10 v11 v12 v13 => hk.nx _ ⟨_, _, _, _, _, _, _, _, _, _, _, rfl⟩))
  obtain ⟨v3, v4, v5, v6, v7, v8, v9, v10, v11, v12, v13, rfl⟩ := e
  refine seq_gen (fun ρ => ρ = [c0, .bag, .fz (.lst (TEXTS.map PV.str)), v3, v4, v5, v6, v7, v8, .fz (.lst oneP), v10, v11, v12, v13]) (fun K' hk => ?_) (fun ρ e => ?_)
  · acc_peel
    rw [texts_I, List.map_map]
    refine lc_map (f := PV.str ∘ wI) (xs := List.range 10) (fun i => worldP (kI i) (i % 5)) (by simp) (fun i acc K2 hm hK hacc => ?_) ?_
    · refine q_name (lk1_ok (q_yes (lk2_b (i_t ?_))))
      acc_peel
      refine ⟨noBag_fz, lp_World___init__ (dI i) ?_⟩
      acc_peel
      exact lk3_ok hacc hK
    acc_peel
    rw [← List.map_map, ← texts_I]
    exact hk _ rfl
  subst e
  refine seq_gen (fun ρ => ρ = [c0, .bag, .fz (.lst (TEXTS.map PV.str)), v3, v4, v5, v6, v7, v8, .fz (.lst oneP), .fz (.lst oneP), v11, v12, v13]) (fun K' hk => ?_) (fun ρ e => ?_)
  · acc_peel
    rw [texts_I, List.map_map]
    refine lc_map (f := PV.str ∘ wI) (xs := List.range 10) (fun i => worldP (kI i) (i % 5)) (by simp) (fun i acc K2 hm hK hacc => ?_) ?_
    · have hw : (wI i).length ≤ 10 := wtext_len (kI i) (dI i)
      refine q_name (lk1_ok (q_yes (lk2_b (i_t ?_))))
      acc_peel
      refine slSK2_ok (z := wI i) (by omega) ?_
      acc_peel
      refine slSK2_ok (z := wI i) (by omega) ?_
      acc_peel
      rw [show cutS (wI i) none (some 4) = ktext (kI i) from cut4 _ (dI i), show cutS (wI i) (some 5) none = dtext (i % 5) from cut5 _ (dI i)]
      refine k_IntS (dtext_int (dI i)) (dtext_len (dI i)) ?_
      acc_peel
      refine lp_World_of (dI i) ?_
      acc_peel
      exact lk3_ok hacc hK
    acc_peel
    rw [← List.map_map, ← texts_I]
    exact hk _ rfl
  subst e
  refine seq_gen (fun _ => True) (fun K' hk => ?_) (fun ρ e => ?_)
  · acc_peel
    refine rg1K_ok ⟨by decide, by decide⟩ ?_
    acc_peel
    rw [rgP_map]
    refine forL_inv (fun _ ρ => ∃ v11 v12 v13, ρ = [c0, .bag, .fz (.lst (TEXTS.map PV.str)), v3, v4, v5, v6, v7, v8, .fz (.lst oneP), .fz (.lst oneP), v11, v12, v13]) ⟨_, _, _, rfl⟩ (fun i x ρ K hx hp hk => ?_) (fun ρ hp => hk _ trivial)
    obtain ⟨v11, v12, v13, rfl⟩ := hp
    have hi := (List.getElem?_eq_some_iff.mp hx).1
    rw [List.length_range] at hi
    rw [List.getElem?_range hi] at hx
    cases hx
    rw [show (0 : Int) + (i : Int) * 1 = (i : Int) by omega]
    exact q_name (erO_ok (pl_b3 hi fun v12 v13 => hk.nx _ ⟨_, _, _, rfl⟩))
  · acc_peel
    rfl

end My
end

section
set_option Elab.async false
set_option maxRecDepth 100000
set_option maxHeartbeats 4000000
set_option linter.all false
namespace My
open PySem L2
def r__law_bag (K : PySem.W.Frag) : TS := (tSeq (tAsg (tC (.int 16197)) (gName 1))
  (tSeq (tFor (iList K (tSl (rSlL K) (tVar 0) tNoPart (tPart (tC (.int 63))))) (gName 2)
   (tAsg (tOp rModP (tCB bInt (tCons (tOp rPlus (tOp rPlus (tOp rTimes (tVar 1) (tC (.int 48611))) (tOp rModP (tCB bInt (tCons (tVar 2) tNil)) (tC (.int 2147483549)))) (tC (.int 331))) tNil)) (tC (.int 2147483587))) (gName 1)))
  (tRet (tLst (tCons (tCB (bList K) (tCons (tSl (rSlL K) (tVar 0) tNoPart (tPart (tC (.int 63)))) tNil)) (tCons (tC (.int 0)) (tCons (tC (.int 0)) (tCons (tVar 1) (tCons (tC (.int 0)) (tCons (tC (.int 0)) tNil))))))))))
def r__law_draw (K : PySem.W.Frag) : TS := (tSeq (tAsg (tOp rPlus (tOp (rIxL K) (tVar 0) (tC (.int 4))) (tC (.int 1))) (gSub (tVar 0) (tC (.int 4)) rSetL))
  (C8.tCut (tIfS (tAnd (tTest (tOp rEq (tOp (rIxL K) (tVar 0) (tC (.int 2))) (tC (.int 0)))) (tTest (tOp rLt0 (tOp (rIxL K) (tVar 0) (tC (.int 1))) (tCB (bLen K) (tCons (tOp (rIxL K) (tVar 0) (tC (.int 0))) tNil))))) (tSeq (tAsg (tOp (rIxL K) (tOp (rIxL K) (tVar 0) (tC (.int 0))) (tOp (rIxL K) (tVar 0) (tC (.int 1)))) (gName 2))
  (tSeq (tAsg (tOp rPlus (tOp (rIxL K) (tVar 0) (tC (.int 1))) (tC (.int 1))) (gSub (tVar 0) (tC (.int 1)) rSetL))
  (tIfS (tTest (tOp rGe0 (tVar 2) (tOp rPow0 (tC (.int 10)) (tC (.int 18))))) (tSeq (tAsg (tVar 2) (gSub (tVar 0) (tC (.int 2)) rSetL))
  (tAsg (tC (.int 60)) (gSub (tVar 0) (tC (.int 5)) rSetL))) (tAsg (tOp rModP (tCB bInt (tCons (tOp rPlus (tOp rPlus (tOp rTimes (tOp (rIxL K) (tVar 0) (tC (.int 3))) (tC (.int 69621))) (tOp rTimes (tOp rModP (tCB bInt (tCons (tVar 2) tNil)) (tC (.int 2147483543))) (tC (.int 30103)))) (tC (.int 97))) tNil)) (tC (.int 2147483579))) (gSub (tVar 0) (tC (.int 3)) rSetL))))) tNext)
  (tSeq (tIfS (tTest (tOp rGt0 (tOp (rIxL K) (tVar 0) (tC (.int 2))) (tC (.int 0)))) (tSeq (tAsg (tOp rModP (tCB bInt (tCons (tOp (rIxL K) (tVar 0) (tC (.int 2))) tNil)) (tVar 1)) (gName 3))
  (tSeq (tAsg (tOp rMinus (tOp (rIxL K) (tVar 0) (tC (.int 5))) (tC (.int 1))) (gSub (tVar 0) (tC (.int 5)) rSetL))
  (tSeq (tAsg (tIf (tTest (tOp rGt0 (tOp (rIxL K) (tVar 0) (tC (.int 5))) (tC (.int 0)))) (tOp rFdivN (tOp (rIxL K) (tVar 0) (tC (.int 2))) (tVar 1)) (tC (.int 0))) (gSub (tVar 0) (tC (.int 2)) rSetL))
  (tRet (tVar 3))))) tNext)
  (tSeq (tAsg (tOp rModP (tCB bInt (tCons (tOp rPlus (tOp rPlus (tOp rPow0 (tOp (rIxL K) (tVar 0) (tC (.int 3))) (tC (.int 3))) (tOp rTimes (tOp (rIxL K) (tVar 0) (tC (.int 4))) (tC (.int 1299709)))) (tC (.int 60013))) tNil)) (tC (.int 2147483579))) (gSub (tVar 0) (tC (.int 3)) rSetL))
  (tRet (tOp rModP (tCB bInt (tCons (tOp rPlus (tOp rFdivN (tOp (rIxL K) (tVar 0) (tC (.int 3))) (tC (.int 97))) (tOp rTimes (tOp rModP (tCB bInt (tCons (tOp (rIxL K) (tVar 0) (tC (.int 3))) tNil)) (tC (.int 7901))) (tC (.int 67)))) tNil)) (tVar 1)))))))
theorem cut_map (ns : List Int) (lo hi : Option Int) : ∃ ms : List Int, cutV (ns.map V.int) lo hi = ms.map V.int ∧ ms.length ≤ ns.length := by
  unfold cutV
  rw [← List.map_drop, ← List.map_take]
  refine ⟨_, rfl, ?_⟩
  rw [List.length_take, List.length_drop]; omega
theorem len__law_bag {K : PySem.W.Frag} {vs : List V} {H : Hp} {Q : VK} {E : XK} (h : sp__law_bag K vs H Q E) : vs.length = P__law_bag.length := by
  obtain ⟨s, ns, rfl, _⟩ := h; rfl
theorem emod_range {x m : Int} (h : 0 < m) : 0 ≤ x % m ∧ x % m < m := ⟨Int.emod_nonneg _ (by omega), Int.emod_lt_of_pos _ h⟩
theorem len__law_draw {K : PySem.W.Frag} {vs : List V} {H : Hp} {Q : VK} {E : XK} (h : sm__law_draw K vs H Q E) : vs.length = P__law_draw.length := by
  obtain ⟨a, c, L, rfl, _⟩ := h; rfl
local macro_rules | `(tactic| apart_at) => `(tactic| first
  | assumption
  | exact upd_same
  | (refine upd_at ?n1 ?n2; (case n1 => apart_rest); (case n2 => apart_at))
  | exact same_at (by assumption) (by apart_at)
  | exact sb_at (by assumption) (by apart_rest) (by apart_at)
  | fail)
local macro_rules | `(tactic| apart_rest) => `(tactic| first
  | assumption
  | (apply Ne.symm; assumption)
  | (refine ne_bag ?_ ?_ <;> assumption)
  | exact ne_bagT (by assumption) (by apart_at)
  | exact ne_new (by assumption) (by apart_at)
  | exact ne_new' (by assumption) (by apart_at)
  | fail)
local macro_rules | `(tactic| acc_open) => `(tactic| first
  | with_reducible (first
  | refine s_seq ?_ | refine s_asg ?_ | refine s_ret ?_ | refine s_retN ?_ | refine s_drop ?_ | refine s_next ?_ | refine s_if ?_ | refine s_fld ?_ | refine e_fld ?_ | refine s_par ?_ | refine x_par ?_
  | refine g_name ?_ | refine g_cons ?_ | refine g_nil ?_ | refine g_sub ?_ | refine g_tup ?_ rfl ?_
  | refine e_var rfl ?_ | refine e_c ?_ | refine e_op ?_ | refine e_un ?_ | refine e_if ?_ | refine e_tup ?_ | refine e_lst ?_ | refine e_callD ?_ | refine e_smeth ?_ | refine e_cb ?_ | refine e_bm ?_ | refine e_bm0 ?_ | refine e_sl ?_
  | refine o_no ?_ | refine o_part ?_ | refine x_part ?_ | refine e_and ?_ | refine e_or ?_ | refine e_not ?_ | refine a_cons ?_ | refine a_nil ?_
  | refine t_test ?_ | refine t_b ?_ | refine t_and ?_ | refine t_or ?_ | refine t_not ?_ | refine t_tru ?_ | refine x_blE ?_
  | refine r_plus ?_ | refine r_minus ?_ | refine r_lt ?_ | refine r_le ?_ | refine r_gt ?_ | refine r_ge ?_ | refine r_eqI ?_ | refine r_eqB ?_ | refine r_eqS ?_ | refine r_neI ?_ | refine r_neB ?_ | refine r_neS ?_ | refine r_neg ?_
  | refine r_isNi ?_ | refine r_isNr ?_ | refine r_isNn ?_ | refine r_isNb ?_ | refine r_isNs ?_ | refine r_notNi ?_ | refine r_notNr ?_ | refine r_notNn ?_
  | refine b_int ?_ | refine x_ts ?_ | refine e_join ?_ | refine j_nil ?_ | refine j_cons ?_ | refine x_trB ?_
  | refine r_inS ?_ | refine r_notInS ?_ | refine t_yes ?_ | refine i_t ?_ | refine i_f ?_ | refine i_nt ?_ | refine i_nf ?_)
  | ((with_reducible refine' r_ixT ?k1 ?k0 ?k2 ?_); (case k1 => exact SqT.at (by assumption)); (case k0 => decide); (case k2 => rfl))
  | ((with_reducible refine' r_ixL ?k1 ?k0 ?k2 ?_); (case k1 => exact SqL.at (by assumption)); (case k0 => decide); (case k2 => rfl))
  | ((with_reducible refine' b_lenT ?k1 ?_); (case k1 => exact SqT.at (by assumption)))
  | ((with_reducible refine' b_lenL ?k1 ?_); (case k1 => exact SqL.at (by assumption)))
  | ((with_reducible refine' x_tl ?k1 ?_); (case k1 => exact SqL.at (by assumption)))
  | ((with_reducible refine' x_trT ?k1 ?_); (case k1 => exact SqT.at (by assumption)))
  | ((with_reducible refine' x_trL ?k1 ?_); (case k1 => exact SqL.at (by assumption)))
  | ((with_reducible refine' r_ixT ?k1 ?k0 ?k2 ?_); (case k1 => exact SqT.at (by apart_at)); (case k0 => decide); (case k2 => rfl))
  | ((with_reducible refine' r_ixL ?k1 ?k0 ?k2 ?_); (case k1 => exact SqL.at (by apart_at)); (case k0 => decide); (case k2 => rfl))
  | ((with_reducible refine' r_set ?k1 ?k0 ?k2 ?k3 ?_); (case k1 => apart_at); (case k0 => decide); (case k2 => rfl); (case k3 => exact Nat.le_of_ble_eq_true rfl))
  | ((with_reducible refine' b_lenT ?k1 ?_); (case k1 => exact SqT.at (by apart_at)))
  | ((with_reducible refine' b_lenL ?k1 ?_); (case k1 => exact SqL.at (by apart_at)))
  | ((with_reducible refine' x_tl ?k1 ?_); (case k1 => exact SqL.at (by apart_at)))
  | ((with_reducible refine' b_tupT ?k1 ?_); (case k1 => exact SqT.at (by apart_at)))
  | ((with_reducible refine' x_trT ?k1 ?_); (case k1 => exact SqT.at (by apart_at)))
  | ((with_reducible refine' x_trL ?k1 ?_); (case k1 => exact SqL.at (by apart_at))))
local macro_rules | `(tactic| acc_peel) => `(tactic| repeat' acc_open)
theorem pure__law_bag {K : PySem.W.Frag} (vs : List V) (H : Hp) (Q : VK) (E : XK) (h : sp__law_bag K vs H Q E) : r__law_bag K { nx := fun _ H' => Q .non H', rt := Q } (start N__law_bag vs) H := by
  obtain ⟨s, ns, rfl, hs, hl, q⟩ := h
  unfold r__law_bag
  acc_peel
  refine s_for ?_
  refine i_list ?_
  acc_peel
  refine r_slL hs (fun l hl0 => ?_)
  obtain ⟨ms, em, hms⟩ := cut_map ns none (some 63)
  rw [em]
  have sm0 : Same H (upd H l (.lst (ms.map V.int))) := Same.new (Same.refl H) hl0
  refine ⟨l, rfl, ⟨_, SqL.at upd_same⟩, for_list (K := K) (a := l) (xs := ms.map V.int) (fun i σ H' => upd H l (.lst (ms.map V.int)) = H' ∧ ∃ (b : Int) (v : Option V), σ = [some (.ref s), some (.int b), v] ∧ 0 ≤ b ∧ b < 2147483648)
    ⟨rfl, 16197, none, rfl, by decide, by decide⟩ (fun i σ H' _ h => by rw [← h.1]; exact SqL.at upd_same) ?_ ?_⟩
  · rintro i x σ H' hx ⟨rfl, b, v, rfl, b0, b1⟩
    obtain ⟨n, rfl, hn⟩ := mapI_get hx
    acc_peel
    refine r_times (Or.inr (by decide)) ?_
    acc_peel
    refine r_mod (by decide) ?_
    acc_peel
    refine r_mod (by decide) ?_
    acc_peel
    have e := emod_range (x := b * 48611 + n % 2147483549 + 331) (m := 2147483587) (by decide)
    exact ⟨rfl, _, _, rfl, e.1, by omega⟩
  · rintro σ H' ⟨rfl, b, v, rfl, b0, b1⟩
    acc_peel
    refine r_slL (SqL.mono hs sm0) (fun l2 hl2 => ?_)
    rw [em]
    acc_peel
    refine b_listL (SqL.at upd_same) (fun l3 hl3 => ?_)
    acc_peel
    refine ⟨sz (by show 6 ≤ 100000; decide), fun a ha => ?_⟩
    have n2 : l3 ≠ l2 := fun e => by rw [e, upd_same] at hl3; cases hl3
    have na3 : l3 ≠ a := fun e => by rw [← e, upd_same] at ha; cases ha
    have na2 : l2 ≠ a := fun e => by rw [← e, upd_ne n2.symm, upd_same] at ha; cases ha
    have nl2 : l ≠ l2 := fun e => by rw [← e, upd_same] at hl2; cases hl2
    have sm1 := Same.new (o := .lst (ms.map V.int)) sm0 hl2
    have sm2 := Same.new (o := .lst (ms.map V.int)) sm1 hl3
    refine q _ a l3 (sm2.free ha) (sm1.free hl3) (Same.new sm2 ha) ⟨ms, 0, 0, b, 0, 0, upd_same, na3, upd_at na3 upd_same, by decide, by decide, b0, b1⟩
theorem pure__law_draw {K : PySem.W.Frag} (vs : List V) (H : Hp) (Q : VK) (E : XK) (h : sm__law_draw K vs H Q E) : r__law_draw K { nx := fun _ H' => Q .non H', rt := Q } (start N__law_draw vs) H := by
  obtain ⟨a, c, L, rfl, ⟨cs, i, r, m, n, d6, ha, nc, hc, i0, r0, m0, m1⟩, L0, L1, q⟩ := h
  unfold r__law_draw
  acc_peel
  refine s_cut (fun σ H' => ∃ v : Option V, σ = [some (.ref a), some (.int L), v, none] ∧ Sb a H H' ∧ BagAt a c H') ?_ ?_
  · acc_peel
    refine i_dec (fun hr => ?_) (fun hr => ?_)
    · acc_peel
      rw [List.length_map]
      refine i_dec (fun hi => ?_) (fun hi => ?_)
      · acc_peel
        have hlt : i.toNat < cs.length := by omega
        refine r_ixL (SqL.at (upd_at nc hc)) i0 (v := V.int (cs[i.toNat]'hlt)) (by rw [List.getElem?_map, List.getElem?_eq_getElem hlt]; rfl) ?_
        generalize (cs[i.toNat]'hlt) = w
        acc_peel
        refine r_pow (by unfold CPow; decide) ?_
        acc_peel
        refine i_dec (fun hw => ?_) (fun hw => ?_)
        · acc_peel
          refine ⟨_, rfl, Sb.own (Sb.own (Sb.own (Sb.own (Sb.refl a H)))), cs, i + 1, w, m, n + 1, 60, upd_same, nc, by apart_at, by omega, ?_, m0, m1⟩
          exact Int.le_trans (by decide) hw
        · acc_peel
          refine r_times (Or.inr (by decide)) ?_
          acc_peel
          refine r_mod (by decide) ?_
          acc_peel
          refine r_times (Or.inr (by decide)) ?_
          acc_peel
          refine r_mod (by decide) ?_
          acc_peel
          have e := emod_range (x := m * 69621 + w % 2147483543 * 30103 + 97) (m := 2147483579) (by decide)
          exact ⟨_, rfl, Sb.own (Sb.own (Sb.own (Sb.refl a H))), cs, i + 1, r, _, n + 1, d6, upd_same, nc, by apart_at, by omega, r0, e.1, by omega⟩
      · acc_peel
        exact ⟨_, rfl, Sb.own (Sb.refl a H), cs, i, r, m, n + 1, d6, upd_same, nc, by apart_at, i0, r0, m0, m1⟩
    · acc_peel
      exact ⟨_, rfl, Sb.own (Sb.refl a H), cs, i, r, m, n + 1, d6, upd_same, nc, by apart_at, i0, r0, m0, m1⟩
  clear hc ha m0 m1 i0 r0 nc
  clear cs i r m n d6
  rintro σ H1 ⟨v, rfl, sb, cs, i, r, m, n, d6, ha, nc, hc, i0, r0, m0, m1⟩
  acc_peel
  refine i_dec (fun hr => ?_) (fun hr => ?_)
  · acc_peel
    refine r_mod L0 ?_
    acc_peel
    have e := emod_range (x := r) (m := L) L0
    refine i_dec (fun h5 => ?_) (fun h5 => ?_)
    · acc_peel
      refine r_fdiv ⟨by omega, by omega⟩ ?_
      acc_peel
      refine q _ _ (Sb.own (Sb.own sb)) ⟨cs, i, r.fdiv L, m, n, d6 - 1, upd_same, nc, by apart_at, i0, ?_, m0, m1⟩ e.1 e.2
      rw [Int.fdiv_eq_ediv_of_nonneg _ (by omega)]
      exact Int.ediv_nonneg r0 (by omega)
    · acc_peel
      exact q _ _ (Sb.own (Sb.own sb)) ⟨cs, i, 0, m, n, d6 - 1, upd_same, nc, by apart_at, i0, by decide, m0, m1⟩ e.1 e.2
  acc_peel
  refine r_pow (by unfold CPow; exact ⟨by decide, by decide, by omega⟩) ?_
  acc_peel
  refine r_times (Or.inr (by decide)) ?_
  acc_peel
  refine r_mod (by decide) ?_
  acc_peel
  generalize hm : (m ^ (3 : Int).toNat + n * 1299709 + 60013) % 2147483579 = m2
  have e2 := emod_range (x := m ^ (3 : Int).toNat + n * 1299709 + 60013) (m := 2147483579) (by decide)
  rw [hm] at e2
  refine r_fdiv ⟨by decide, by decide⟩ ?_
  acc_peel
  refine r_mod (by decide) ?_
  acc_peel
  refine r_times (Or.inr (by decide)) ?_
  acc_peel
  refine r_mod L0 ?_
  have e := emod_range (x := m2.fdiv 97 + m2 % 7901 * 67) (m := L) L0
  exact q _ _ (Sb.own sb) ⟨cs, i, r, m2, n, d6, upd_same, nc, by apart_at, i0, r0, e2.1, by omega⟩ e.1 e.2
end My
end

section
set_option Elab.async false
set_option maxRecDepth 100000
set_option maxHeartbeats 4000000
set_option linter.all false
namespace My
open PySem L2
open LamX L2H
local macro_rules | `(tactic| apart_at) => `(tactic| first
  | assumption
  | exact upd_same
  | (refine upd_at ?n1 ?n2; (case n1 => apart_rest); (case n2 => apart_at))
  | exact same_at (by assumption) (by apart_at)
  | exact sb_at (by assumption) (by apart_rest) (by apart_at)
  | fail)
local macro_rules | `(tactic| apart_rest) => `(tactic| first
  | assumption
  | (apply Ne.symm; assumption)
  | (refine ne_bag ?_ ?_ <;> assumption)
  | exact ne_bagT (by assumption) (by apart_at)
  | exact ne_new (by assumption) (by apart_at)
  | exact ne_new' (by assumption) (by apart_at)
  | fail)
local macro_rules | `(tactic| acc_open) => `(tactic| first
  | with_reducible (first
  | refine s_seq ?_ | refine s_asg ?_ | refine s_ret ?_ | refine s_retN ?_ | refine s_drop ?_ | refine s_next ?_ | refine s_if ?_ | refine s_fld ?_ | refine e_fld ?_ | refine s_par ?_ | refine x_par ?_
  | refine g_name ?_ | refine g_cons ?_ | refine g_nil ?_ | refine g_sub ?_ | refine g_tup ?_ rfl ?_
  | refine e_var rfl ?_ | refine e_c ?_ | refine e_op ?_ | refine e_un ?_ | refine e_if ?_ | refine e_tup ?_ | refine e_lst ?_ | refine e_callD ?_ | refine e_smeth ?_ | refine e_cb ?_ | refine e_bm ?_ | refine e_bm0 ?_ | refine e_sl ?_
  | refine o_no ?_ | refine o_part ?_ | refine x_part ?_ | refine e_and ?_ | refine e_or ?_ | refine e_not ?_ | refine a_cons ?_ | refine a_nil ?_
  | refine t_test ?_ | refine t_b ?_ | refine t_and ?_ | refine t_or ?_ | refine t_not ?_ | refine t_tru ?_ | refine x_blE ?_
  | refine r_plus ?_ | refine r_minus ?_ | refine r_lt ?_ | refine r_le ?_ | refine r_gt ?_ | refine r_ge ?_ | refine r_eqI ?_ | refine r_eqB ?_ | refine r_eqS ?_ | refine r_neI ?_ | refine r_neB ?_ | refine r_neS ?_ | refine r_neg ?_
  | refine r_isNi ?_ | refine r_isNr ?_ | refine r_isNn ?_ | refine r_isNb ?_ | refine r_isNs ?_ | refine r_notNi ?_ | refine r_notNr ?_ | refine r_notNn ?_
  | refine b_int ?_ | refine x_ts ?_ | refine e_join ?_ | refine j_nil ?_ | refine j_cons ?_ | refine x_trB ?_
  | refine r_inS ?_ | refine r_notInS ?_ | refine t_yes ?_ | refine i_t ?_ | refine i_f ?_ | refine i_nt ?_ | refine i_nf ?_)
  | ((with_reducible refine' r_ixT ?k1 ?k0 ?k2 ?_); (case k1 => exact SqT.at (by assumption)); (case k0 => decide); (case k2 => rfl))
  | ((with_reducible refine' r_ixL ?k1 ?k0 ?k2 ?_); (case k1 => exact SqL.at (by assumption)); (case k0 => decide); (case k2 => rfl))
  | ((with_reducible refine' b_lenT ?k1 ?_); (case k1 => exact SqT.at (by assumption)))
  | ((with_reducible refine' b_lenL ?k1 ?_); (case k1 => exact SqL.at (by assumption)))
  | ((with_reducible refine' x_tl ?k1 ?_); (case k1 => exact SqL.at (by assumption)))
  | ((with_reducible refine' x_trT ?k1 ?_); (case k1 => exact SqT.at (by assumption)))
  | ((with_reducible refine' x_trL ?k1 ?_); (case k1 => exact SqL.at (by assumption)))
  | ((with_reducible refine' r_ixT ?k1 ?k0 ?k2 ?_); (case k1 => exact SqT.at (by apart_at)); (case k0 => decide); (case k2 => rfl))
  | ((with_reducible refine' r_ixL ?k1 ?k0 ?k2 ?_); (case k1 => exact SqL.at (by apart_at)); (case k0 => decide); (case k2 => rfl))
  | ((with_reducible refine' r_set ?k1 ?k0 ?k2 ?k3 ?_); (case k1 => apart_at); (case k0 => decide); (case k2 => rfl); (case k3 => exact Nat.le_of_ble_eq_true rfl))
  | ((with_reducible refine' b_lenT ?k1 ?_); (case k1 => exact SqT.at (by apart_at)))
  | ((with_reducible refine' b_lenL ?k1 ?_); (case k1 => exact SqL.at (by apart_at)))
  | ((with_reducible refine' x_tl ?k1 ?_); (case k1 => exact SqL.at (by apart_at)))
  | ((with_reducible refine' b_tupT ?k1 ?_); (case k1 => exact SqT.at (by apart_at)))
  | ((with_reducible refine' x_trT ?k1 ?_); (case k1 => exact SqT.at (by apart_at)))
  | ((with_reducible refine' x_trL ?k1 ?_); (case k1 => exact SqL.at (by apart_at))))
local macro_rules | `(tactic| acc_peel) => `(tactic| repeat' acc_open)
theorem fnOk_falseZ {P : Program} {w : World} {K : PySem.W.Frag} {mg : Str → Option Value} {base : Heap} {CX : CXT} {k : Nat} {f : Addr} {fd : FuncData} {ps : List Str} {sp : Sp} (h : ∀ vs H Q E, ¬ sp vs H Q E) : FnOk P w K mg base CX k f fd ps sp :=
  ⟨fun vs H Q E z => absurd z (h vs H Q E), fun A outer s H args us vs Q E _ _ _ _ z => absurd z (h vs H Q E)⟩
theorem false_spP {K : PySem.W.Frag} {T : List (Addr × Str)} {n : Nat} {vs : List V} {H : Hp} {Q : VK} {E : XK} (h : SpP K T n (fun _ _ => False) vs H Q E) : False := by
  obtain ⟨c, as, post, _, _, _, _, hw, _⟩ := h
  exact hw
theorem tabs_nil {T : List (Addr × Str)} {H : Hp} (h : ∀ p ∈ T, H p.1 = some (.tbl #[])) : LamX.Tabs T H := fun p hp => LamX.TabS.nil (h p hp)
def sp_law (K : PySem.W.Frag) : Sp := fun vs H Q _ => ∃ (a : Addr) (ns : List Int), vs = [.ref a] ∧ SqL K H a (ns.map V.int) ∧ ns.length ≤ 63 ∧ LamX.Tabs (Tb K) H ∧ ∀ H', Q (.bl true) H'
theorem kt_lst {K : PySem.W.Frag} {M : List Addr} {H H' : Hp} {l : Addr} {xs : List V} {ps : List PV} (dom : ∀ b ∈ M, ∃ o, H b = some o ∧ NT o) (hn : H l = none) (e : H' l = some (.lst xs)) (r : RepL K M H' xs ps) : Rep K M H' (.ref l) (.lst ps) :=
  .lst (fun h => by obtain ⟨o, e2, _⟩ := dom l h; rw [hn] at e2; cases e2) e r.1 r.2
theorem kt_tup {K : PySem.W.Frag} {M : List Addr} {H H' : Hp} {l : Addr} {xs : List V} {ps : List PV} (dom : ∀ b ∈ M, ∃ o, H b = some o ∧ NT o) (hn : H l = none) (e : H' l = some (.tup xs)) (r : RepL K M H' xs ps) : Rep K M H' (.ref l) (.tup ps) :=
  .tup (fun h => by obtain ⟨o, e2, _⟩ := dom l h; rw [hn] at e2; cases e2) e r.1 r.2
abbrev N__law_why : List Str := ["e"]
abbrev P__law_why : List Str := ["e"]
theorem sc__law_why : FnScope N__law_why P__law_why (defScope s__law_why) := ⟨rfl, rfl, rfl, by decide +kernel, rfl, by decide +kernel, by decide +kernel⟩
abbrev N__law_error : List Str := ["e", "found"]
abbrev P__law_error : List Str := ["e"]
theorem sc__law_error : FnScope N__law_error P__law_error (defScope s__law_error) := ⟨rfl, rfl, rfl, by decide +kernel, rfl, by decide +kernel, by decide +kernel⟩
structure EFW (K : PySem.W.Frag) : Prop where
  one : ∀ n ∈ (["BadRota", "BadTree", "BadPlay", "BadBook", "BadCourse", "BadDie", "BadMill", "BadRoster", "BadScript", "NoTree", "OutOf", "TooMany", "NoSuch", "Ended"] : List Str), PySem.W.kitOne K (.ref (He.ga K "BadWorld")) (.ref (He.ga K n)) = some false
  out : PySem.W.kitOne K (.ref (He.ga K "BadWorld")) (.ref (He.ga K "BadWorld")) = some true
def spX__law_why (K : PySem.W.Frag) : SpX := fun a cls d vs H Q _ => vs = [.ref a] ∧ ∃ (dd : Addr) (x : Str), d = some dd ∧ cls = .ref (He.ga K "BadWorld") ∧ x ≠ "" ∧ H dd = some (.xd [("why", .str x)]) ∧
  ∀ H' l, H l = none → Same H H' → H' l = some (.lst []) → Q (.ref l) H'
def r__law_why (K : PySem.W.Frag) (a d : Addr) : TS := (tRet (tIf (tAnd (tB (tCB (rIsi K) (tCons (tXp a d "why" (tVar 0)) (tCons (tC (.ty "str")) tNil)))) (tTest (tOp rNe (tXp a d "why" (tVar 0)) (tC (.str ""))))) (tLst tNil) (tLst (tCons (tC (.str "no reason")) tNil))))
def r__law_error (K : PySem.W.Frag) (pp : Addr × Obj) (a d : Addr) : TS := (tSeq (tAsg (tLst tNil) (gName 1))
  (tSeq (tIfS (tB (tCB (rIsP K (He.ga K "BadWorld") a d) (tCons (tVar 0) (tCons (tC (.ref (He.ga K "BadRota"))) tNil)))) tNever tNext)
  (tSeq (tIfS (tB (tCB (rIsP K (He.ga K "BadWorld") a d) (tCons (tVar 0) (tCons (tC (.ref (He.ga K "BadWorld"))) tNil)))) (tAsg (tOp rCat (tOp rCat (tVar 1) (tLst (tCons (tC (.str "BadWorld")) tNil))) (tCallS (spP (spX__law_why K) pp) (fun _ => C8.E0) (tCons (tVar 0) tNil))) (gName 1)) tNext)
  (tSeq (tIfS (tB (tCB (rIsP K (He.ga K "BadWorld") a d) (tCons (tVar 0) (tCons (tC (.ref (He.ga K "BadTree"))) tNil)))) tNever tNext)
  (tSeq (tIfS (tB (tCB (rIsP K (He.ga K "BadWorld") a d) (tCons (tVar 0) (tCons (tC (.ref (He.ga K "BadPlay"))) tNil)))) tNever tNext)
  (tSeq (tIfS (tB (tCB (rIsP K (He.ga K "BadWorld") a d) (tCons (tVar 0) (tCons (tC (.ref (He.ga K "BadBook"))) tNil)))) tNever tNext)
  (tSeq (tIfS (tB (tCB (rIsP K (He.ga K "BadWorld") a d) (tCons (tVar 0) (tCons (tC (.ref (He.ga K "BadCourse"))) tNil)))) tNever tNext)
  (tSeq (tIfS (tB (tCB (rIsP K (He.ga K "BadWorld") a d) (tCons (tVar 0) (tCons (tC (.ref (He.ga K "BadDie"))) tNil)))) tNever tNext)
  (tSeq (tIfS (tB (tCB (rIsP K (He.ga K "BadWorld") a d) (tCons (tVar 0) (tCons (tC (.ref (He.ga K "BadMill"))) tNil)))) tNever tNext)
  (tSeq (tIfS (tB (tCB (rIsP K (He.ga K "BadWorld") a d) (tCons (tVar 0) (tCons (tC (.ref (He.ga K "BadRoster"))) tNil)))) tNever tNext)
  (tSeq (tIfS (tB (tCB (rIsP K (He.ga K "BadWorld") a d) (tCons (tVar 0) (tCons (tC (.ref (He.ga K "BadScript"))) tNil)))) tNever tNext)
  (tSeq (tIfS (tB (tCB (rIsP K (He.ga K "BadWorld") a d) (tCons (tVar 0) (tCons (tC (.ref (He.ga K "NoTree"))) tNil)))) tNever tNext)
  (tSeq (tIfS (tB (tCB (rIsP K (He.ga K "BadWorld") a d) (tCons (tVar 0) (tCons (tC (.ref (He.ga K "OutOf"))) tNil)))) tNever tNext)
  (tSeq (tIfS (tB (tCB (rIsP K (He.ga K "BadWorld") a d) (tCons (tVar 0) (tCons (tC (.ref (He.ga K "TooMany"))) tNil)))) tNever tNext)
  (tSeq (tIfS (tB (tCB (rIsP K (He.ga K "BadWorld") a d) (tCons (tVar 0) (tCons (tC (.ref (He.ga K "NoSuch"))) tNil)))) tNever tNext)
  (tSeq (tIfS (tB (tCB (rIsP K (He.ga K "BadWorld") a d) (tCons (tVar 0) (tCons (tC (.ref (He.ga K "Ended"))) tNil)))) tNever tNext)
  (tRet (tVar 1))))))))))))))))))
theorem len_BadWorld {K : PySem.W.Frag} : ∀ vs H Q E, sp_BadWorld K vs H Q E → vs.length = P_BadWorld.length := fun vs H Q E ⟨_, us, e, l, _⟩ => by rw [e, List.length_cons, l]; rfl
theorem ok_BadWorld {P : Program} {w : World} {K : PySem.W.Frag} {mg : Str → Option Value} {base : Heap} (e : d_BadWorld.obs K = d_BadWorld.val) (h : d_BadWorld.ok P.main.file K = true) (hs : mg "super" = none) (ht : (P.main.scope.names.lookup ("super" : Str)).isSome = false)
    (hw : PySem.W.findIn K (.ref (He.ga K "BadWorld")) "why" = some none) (hm : mg "BadWorld" = some (.ref (He.ga K "BadWorld"))) : CalR P w K mg base 1 "BadWorld" (He.ga K "BadWorld") P_BadWorld (sp_BadWorld K) := by
  obtain ⟨dV, kV, doc, pm, ct, an, cda, cc, rfl, Z, hi, hty⟩ := SupD.says (P := P) (mg := mg) e h hs ht
  refine ⟨_, _, Z.ex, hi, hty, fn_sup (N := N_BadWorld) (ar := ((defArgs s_BadWorld___init__).args.head?).getD default) Z (NdefX.nscope_by (by decide +kernel)) (by decide +kernel) (by rfl) (by rfl) (by decide +kernel) len_BadWorld (fun _ => by rfl) (fun _ => by rfl) (fun _ => by rfl) (fun _ _ => by rfl) (fun A outer s H vs Q E hr hsp => ?_), Binds.all fun us hl => match us, hl with | [_, _], _ => rfl, hm⟩
  obtain ⟨a, us, rfl, _, ⟨x, rfl, hx⟩, ha, hq⟩ := hsp
  refine ⟨_, _, pa_cons (pe_joined (PJ.cons pe_str (PJ.cons (pe_fmt (pe_var (i := 1) rfl (Or.inl rfl))) PJ.nil))) pa_nil, pss_one (ps_ost (pe_var (i := 0) rfl (Or.inl rfl)) (pe_var (i := 1) rfl (Or.inl rfl))), a, rfl, ha, ?_⟩
  have fin : ∀ out : Str, [V.str out].length ≤ 1000 ∧ H a = some (exo a (He.ga K "BadWorld") none) ∧ tOst K "why" (tVar 0) (tVar 1) { nx := fun _ H' => Q .non H', rt := Q } (NdefX.startF N_BadWorld [V.ref a, V.str x] [none]) H := fun out =>
    ⟨show 1 ≤ 1000 by omega, ha, V.str x, rfl, V.ref a, rfl, a, _, rfl, Z.ex, hw, .inl ⟨ha, hq⟩⟩
  have e2 : ("no world: " : Str).length = 10 := by decide +kernel
  have e3 := sizeLine_eq
  show tJs [tC (.str "no world: "), tFmt (tVar 1)] Str.empty (NdefX.startF N_BadWorld [V.ref a, V.str x] [none]) H fun out H1 => [V.str out].length ≤ 1000 ∧ H1 a = some (exo a (He.ga K "BadWorld") none) ∧ tOst K "why" (tVar 0) (tVar 1) { nx := fun _ H' => Q .non H', rt := Q } (NdefX.startF N_BadWorld [V.ref a, V.str x] [none]) H1
  simp only [tJs, tC, tFmt, tVar]
  have la : ∀ u v : Str, (u ++ v).length = u.length + v.length := fun u v => by
    show (u.cps ++ v.cps).size = _
    rw [Array.size_append]
    rfl
  have e4 : Str.empty.length = 0 := rfl
  exact ⟨_, rfl, by rw [la, e2, e4]; omega, V.str x, rfl, .inl ⟨x, rfl, by omega, x, rfl, by rw [la, la, e2, e4]; omega, fin _⟩⟩
theorem e_is1 {K : PySem.W.Frag} {D a d c : Addr} {fs : List (Str × V)} {H : Hp} {Q : VK} {b : Bool} (hd : H d = some (.xd fs)) (hk : PySem.W.kitOne K (.ref D) (.ref c) = some b) (h : Q (.bl b) H) : rIsP K D a d [.ref a, .ref c] H Q :=
  ⟨⟨fs, hd⟩, .ref c, b, rfl, h, .inl ⟨.ref c, fun u r => r, hk⟩⟩
theorem pure__law_why {K : PySem.W.Frag} {a dd : Addr} {x : Str} {H : Hp} {Q : VK} (hx : x ≠ "") (hd : H dd = some (.xd [("why", .str x)])) (q : ∀ H' l, H l = none → Same H H' → H' l = some (.lst []) → Q (.ref l) H') :
    r__law_why K a dd { nx := fun _ H' => Q .non H', rt := Q } (start N__law_why [.ref a]) H := by
  unfold r__law_why
  acc_peel
  refine ⟨_, rfl, rfl, _, _, hd, rfl, ?_⟩
  acc_peel
  refine x_isi (ClsV.ty "str") (.base (.str x)) (kit_ty "str" (by decide) "str" (by decide)) ?_
  rw [show isTy "str" "str" = true from rfl]
  acc_peel
  refine ⟨_, rfl, rfl, _, _, hd, rfl, ?_⟩
  acc_peel
  rw [decide_eq_false hx]
  acc_peel
  refine ⟨Nat.zero_le _, fun l hl => ?_⟩
  exact q _ l hl (Same.new (fun _ _ z => z) hl) upd_same
theorem pure__law_error {K : PySem.W.Frag} (F : EFW K) {pp : Addr × Obj} {a dd : Addr} {x : Str} {H : Hp} {Q : VK} (ea : pp.1 = a) (hf : ∃ fv, pp.2.data = .fields fv) (hc : pp.2.cls = .ref (He.ga K "BadWorld")) (hdd : pp.2.dict = some dd) (hx : x ≠ "") (hd : H dd = some (.xd [("why", .str x)])) (q : ∀ H' l, H l = none → Same H H' → H' l = some (.lst [.str "BadWorld"]) → Q (.ref l) H') :
    r__law_error K pp a dd { nx := fun _ H' => Q .non H', rt := Q } (start N__law_error [.ref a]) H := by
  unfold r__law_error
  acc_peel
  refine ⟨Nat.zero_le _, fun l hl => ?_⟩
  have nl : dd ≠ l := ne_of_none hd hl
  have hd1 : upd H l (.lst []) dd = some (.xd [("why", .str x)]) := (upd_ne nl).trans hd
  have hl1 : upd H l (.lst []) l = some (.lst []) := upd_same
  have s1 : Same H (upd H l (.lst [])) := Same.new (fun _ _ z => z) hl
  revert hd1 hl1 s1
  generalize upd H l (.lst []) = H1
  intro hd1 hl1 s1
  acc_peel
  refine e_is1 hd1 (F.one _ (by decide +kernel)) ?_
  acc_peel
  refine e_is1 hd1 F.out ?_
  acc_peel
  refine ⟨show 1 ≤ sizeLine by rw [sizeLine_eq]; omega, fun l2 hl2 => ?_⟩
  have s2 : Same H1 (upd H1 l2 (.lst [.str "BadWorld"])) := Same.new (fun _ _ z => z) hl2
  have hb2 : upd H1 l2 (.lst [.str "BadWorld"]) l2 = some (.lst [.str "BadWorld"]) := upd_same
  revert s2 hb2
  generalize upd H1 l2 (.lst [.str "BadWorld"]) = H2
  intro s2 hb2
  acc_peel
  refine r_cat (s2 _ _ hl1) hb2 (show 0 + 1 ≤ sizeLine by rw [sizeLine_eq]; omega) (fun l3 hl3 => ?_)
  have s3 : Same H2 (upd H2 l3 (.lst ([] ++ [.str "BadWorld"]))) := Same.new (fun _ _ z => z) hl3
  have hb3 : upd H2 l3 (.lst ([] ++ [.str "BadWorld"])) l3 = some (.lst [.str "BadWorld"]) := upd_same
  revert s3 hb3
  generalize upd H2 l3 (.lst ([] ++ [.str "BadWorld"])) = H3
  intro s3 hb3
  have s13 : Same H1 H3 := fun y o e => s3 _ _ (s2 _ _ e)
  have hd3 := s13 _ _ hd1
  refine ⟨_, rfl, ?_⟩
  refine ⟨hf, ?_⟩
  subst ea
  refine ⟨rfl, dd, x, hdd, hc, hx, hd3, fun H4 l4 hl4 s4 hb4 => ?_⟩
  refine r_cat (s4 _ _ hb3) hb4 (show 1 + 0 ≤ sizeLine by rw [sizeLine_eq]; omega) (fun l5 hl5 => ?_)
  have s5 : Same H4 (upd H4 l5 (.lst ([.str "BadWorld"] ++ []))) := Same.new (fun _ _ z => z) hl5
  have hb5 : upd H4 l5 (.lst ([.str "BadWorld"] ++ [])) l5 = some (.lst [.str "BadWorld"]) := upd_same
  revert s5 hb5
  generalize upd H4 l5 (.lst ([.str "BadWorld"] ++ [])) = H5
  intro s5 hb5
  have sAll : Same H H5 := fun y o e => s5 _ _ (s4 _ _ (s13 _ _ (s1 _ _ e)))
  have hd5 := sAll _ _ hd
  have fl : H l5 = none := by
    cases z : H l5 with
    | none => rfl
    | some o => have := s4 _ _ (s13 _ _ (s1 _ _ z)); rw [hl5] at this; cases this
  acc_peel
  refine e_is1 hd5 (F.one _ (by decide +kernel)) ?_
  acc_peel
  refine e_is1 hd5 (F.one _ (by decide +kernel)) ?_
  acc_peel
  refine e_is1 hd5 (F.one _ (by decide +kernel)) ?_
  acc_peel
  refine e_is1 hd5 (F.one _ (by decide +kernel)) ?_
  acc_peel
  refine e_is1 hd5 (F.one _ (by decide +kernel)) ?_
  acc_peel
  refine e_is1 hd5 (F.one _ (by decide +kernel)) ?_
  acc_peel
  refine e_is1 hd5 (F.one _ (by decide +kernel)) ?_
  acc_peel
  refine e_is1 hd5 (F.one _ (by decide +kernel)) ?_
  acc_peel
  refine e_is1 hd5 (F.one _ (by decide +kernel)) ?_
  acc_peel
  refine e_is1 hd5 (F.one _ (by decide +kernel)) ?_
  acc_peel
  refine e_is1 hd5 (F.one _ (by decide +kernel)) ?_
  acc_peel
  refine e_is1 hd5 (F.one _ (by decide +kernel)) ?_
  acc_peel
  refine e_is1 hd5 (F.one _ (by decide +kernel)) ?_
  acc_peel
  exact q H5 l5 fl sAll hb5
structure TxtF (K : PySem.W.Frag) (mg : Str → Option Value) : Prop where
  n_isinstance : mg "isinstance" = none
  n_str : mg "str" = none
  c_BadBook : mg "BadBook" = some (.ref (He.ga K "BadBook"))
  c_BadCourse : mg "BadCourse" = some (.ref (He.ga K "BadCourse"))
  c_BadDie : mg "BadDie" = some (.ref (He.ga K "BadDie"))
  c_BadMill : mg "BadMill" = some (.ref (He.ga K "BadMill"))
  c_BadPlay : mg "BadPlay" = some (.ref (He.ga K "BadPlay"))
  c_BadRoster : mg "BadRoster" = some (.ref (He.ga K "BadRoster"))
  c_BadRota : mg "BadRota" = some (.ref (He.ga K "BadRota"))
  c_BadScript : mg "BadScript" = some (.ref (He.ga K "BadScript"))
  c_BadTree : mg "BadTree" = some (.ref (He.ga K "BadTree"))
  c_BadWorld : mg "BadWorld" = some (.ref (He.ga K "BadWorld"))
  c_Ended : mg "Ended" = some (.ref (He.ga K "Ended"))
  c_NoSuch : mg "NoSuch" = some (.ref (He.ga K "NoSuch"))
  c_NoTree : mg "NoTree" = some (.ref (He.ga K "NoTree"))
  c_OutOf : mg "OutOf" = some (.ref (He.ga K "OutOf"))
  c_TooMany : mg "TooMany" = some (.ref (He.ga K "TooMany"))
section
variable {P : Program} {w : World} {K : PySem.W.Frag} {mg : Str → Option Value} {base : Heap}
theorem ok__law_why {f : Addr} {fd : FuncData} {dvs : List V} {kws : List (Str × V)} (F : FunD K "_law_why" "_law_why" (defArgs s__law_why) (defBody s__law_why) (defScope s__law_why) dvs kws f fd) (T : TxtF K mg) (XC : ExcC K (He.ga K "BadWorld")) (XF : XfC K (He.ga K "BadWorld"))
    (no_why : PySem.W.findIn K (.ref (He.ga K "BadWorld")) "why" = some none) : FnE P w K mg base C8.CX0 1 f fd P__law_why (spP (spX__law_why K)) := by
  obtain ⟨oc, od, dV, kV, doc, pm, an, cdv, ct, osl, rfl, lk, hcd, _, _⟩ := F.ex
  refine fn_ofE2 (N := N__law_why) lk hcd sc__law_why (fun p vs H Q E h => by obtain ⟨_, rfl, _⟩ := h; rfl) fun A outer s H vs Q E p hr h => ?_
  obtain ⟨hf, rfl, dd, x, hdict, hc, hx, hd, q⟩ := h
  have hz : Zc (.ref (He.ga K "BadWorld")) (some dd) p.2 := ⟨hc, hdict⟩
  have hp : ∀ {qual : Str} {cd : Value}, (p.1, p.2) ∈ (cxH C8.CX0 P w K mg base N__law_why qual (defScope s__law_why) f cd A outer s H E p).pn := List.mem_cons_self
  refine ⟨r__law_why K p.1 dd, ?_, pure__law_why hx hd q⟩
  exact (pss_one (ps_ret (pe_ifExp (PW.pt (pw_and (pt_val (pe_callB call_isi (by rfl) T.n_isinstance (by decide +kernel) (pa_cons (pe_xp XF no_why hz hf hp (pv 0)) (pa_cons (pe_bltn (by rfl) T.n_str (by decide +kernel) rfl) pa_nil)))) (pw_and1 (pt_cmpR op_ne (pe_xp XF no_why hz hf hp (pv 0)) pe_str (nomark _))))) (pe_lst pa_nil) (pe_lst (pa_cons pe_str pa_nil)))))
theorem ok__law_error {f : Addr} {fd : FuncData} {dvs : List V} {kws : List (Str × V)} (F : FunD K "_law_error" "_law_error" (defArgs s__law_error) (defBody s__law_error) (defScope s__law_error) dvs kws f fd) (T : TxtF K mg) (XC : ExcC K (He.ga K "BadWorld")) (XF : XfC K (He.ga K "BadWorld"))
    (no_why : PySem.W.findIn K (.ref (He.ga K "BadWorld")) "why" = some none) (ew : EFW K) {fF : Addr} {fdF : FuncData} (FF : FnE P w K mg base C8.CX0 1 fF fdF P__law_why (spP (spX__law_why K))) (hmF : mg "_law_why" = some (.ref fF)) (hkF : PySem.W.keepIn K (.ref fF) = true) (hbF : Binds K fdF P__law_why []) : FnE P w K mg base C8.CX0 2 f fd P__law_error (spP (spX__law_error K)) := by
  obtain ⟨oc, od, dV, kV, doc, pm, an, cdv, ct, osl, rfl, lk, hcd, _, _⟩ := F.ex
  refine fn_ofE2 (N := N__law_error) lk hcd sc__law_error (fun p vs H Q E h => by obtain ⟨_, rfl, _⟩ := h; rfl) fun A outer s H vs Q E p hr h => ?_
  obtain ⟨hf, rfl, dd, x, hdict, hc, hx, hd, q⟩ := h
  have hz : Zc (.ref (He.ga K "BadWorld")) (some dd) p.2 := ⟨hc, hdict⟩
  have hp : ∀ {qual : Str} {cd : Value}, (p.1, p.2) ∈ (cxH C8.CX0 P w K mg base N__law_error qual (defScope s__law_error) f cd A outer s H E p).pn := List.mem_cons_self
  refine ⟨r__law_error K p p.1 dd, ?_, pure__law_error ew rfl hf hc hdict hx hd q⟩
  exact (pss_cons (ps_set (i := 1) sc__law_error.nd rfl (Or.inl rfl) (pe_lst pa_nil))
  (pss_cons (ps_if (pt_val (pe_callB (call_isP XC hz hf hp) (by rfl) T.n_isinstance (by decide +kernel) (pa_cons (pv 0) (pa_cons (pe_glob rfl T.c_BadRota rfl) pa_nil)))) pss_never pss_nil)
  (pss_cons (ps_if (pt_val (pe_callB (call_isP XC hz hf hp) (by rfl) T.n_isinstance (by decide +kernel) (pa_cons (pv 0) (pa_cons (pe_glob rfl T.c_BadWorld rfl) pa_nil)))) (pss_one (ps_set (i := 1) sc__law_error.nd rfl (Or.inl rfl) (pe_op op_cat (pe_op op_cat (pv 1) (pe_lst (pa_cons pe_str pa_nil))) (pe_callE (x := "_law_why") FF hr hp rfl hmF hkF hbF (fun _ _ _ _ _ _ _ z => (show False from z).elim) (pa_cons (pv 0) pa_nil))))) pss_nil)
  (pss_cons (ps_if (pt_val (pe_callB (call_isP XC hz hf hp) (by rfl) T.n_isinstance (by decide +kernel) (pa_cons (pv 0) (pa_cons (pe_glob rfl T.c_BadTree rfl) pa_nil)))) pss_never pss_nil)
  (pss_cons (ps_if (pt_val (pe_callB (call_isP XC hz hf hp) (by rfl) T.n_isinstance (by decide +kernel) (pa_cons (pv 0) (pa_cons (pe_glob rfl T.c_BadPlay rfl) pa_nil)))) pss_never pss_nil)
  (pss_cons (ps_if (pt_val (pe_callB (call_isP XC hz hf hp) (by rfl) T.n_isinstance (by decide +kernel) (pa_cons (pv 0) (pa_cons (pe_glob rfl T.c_BadBook rfl) pa_nil)))) pss_never pss_nil)
  (pss_cons (ps_if (pt_val (pe_callB (call_isP XC hz hf hp) (by rfl) T.n_isinstance (by decide +kernel) (pa_cons (pv 0) (pa_cons (pe_glob rfl T.c_BadCourse rfl) pa_nil)))) pss_never pss_nil)
  (pss_cons (ps_if (pt_val (pe_callB (call_isP XC hz hf hp) (by rfl) T.n_isinstance (by decide +kernel) (pa_cons (pv 0) (pa_cons (pe_glob rfl T.c_BadDie rfl) pa_nil)))) pss_never pss_nil)
  (pss_cons (ps_if (pt_val (pe_callB (call_isP XC hz hf hp) (by rfl) T.n_isinstance (by decide +kernel) (pa_cons (pv 0) (pa_cons (pe_glob rfl T.c_BadMill rfl) pa_nil)))) pss_never pss_nil)
  (pss_cons (ps_if (pt_val (pe_callB (call_isP XC hz hf hp) (by rfl) T.n_isinstance (by decide +kernel) (pa_cons (pv 0) (pa_cons (pe_glob rfl T.c_BadRoster rfl) pa_nil)))) pss_never pss_nil)
  (pss_cons (ps_if (pt_val (pe_callB (call_isP XC hz hf hp) (by rfl) T.n_isinstance (by decide +kernel) (pa_cons (pv 0) (pa_cons (pe_glob rfl T.c_BadScript rfl) pa_nil)))) pss_never pss_nil)
  (pss_cons (ps_if (pt_val (pe_callB (call_isP XC hz hf hp) (by rfl) T.n_isinstance (by decide +kernel) (pa_cons (pv 0) (pa_cons (pe_glob rfl T.c_NoTree rfl) pa_nil)))) pss_never pss_nil)
  (pss_cons (ps_if (pt_val (pe_callB (call_isP XC hz hf hp) (by rfl) T.n_isinstance (by decide +kernel) (pa_cons (pv 0) (pa_cons (pe_glob rfl T.c_OutOf rfl) pa_nil)))) pss_never pss_nil)
  (pss_cons (ps_if (pt_val (pe_callB (call_isP XC hz hf hp) (by rfl) T.n_isinstance (by decide +kernel) (pa_cons (pv 0) (pa_cons (pe_glob rfl T.c_TooMany rfl) pa_nil)))) pss_never pss_nil)
  (pss_cons (ps_if (pt_val (pe_callB (call_isP XC hz hf hp) (by rfl) T.n_isinstance (by decide +kernel) (pa_cons (pv 0) (pa_cons (pe_glob rfl T.c_NoSuch rfl) pa_nil)))) pss_never pss_nil)
  (pss_cons (ps_if (pt_val (pe_callB (call_isP XC hz hf hp) (by rfl) T.n_isinstance (by decide +kernel) (pa_cons (pv 0) (pa_cons (pe_glob rfl T.c_Ended rfl) pa_nil)))) pss_never pss_nil)
  (pss_one (ps_ret (pv 1)))))))))))))))))))
end
theorem tx_of {K : PySem.W.Frag} (hexW : PySem.W.exmAny K (.ref (He.ga K "BadWorld")) (csE K) = some true) : TX K := by
  intro cn fs l h
  unfold erTab at h
  split at h
  · rename_i e
    subst e
    refine ⟨hexW, fun M H a dd vs Q dom hd rf ha k => ?_⟩
    split at h
    · rename_i n x
      split at h
      · rename_i e
        obtain ⟨e, hx⟩ := e
        cases h
        have e1 : n = "why" := List.head_eq_of_cons_eq e
        subst e1
        obtain ⟨r1, r2⟩ := rf
        match vs, r1, r2 with
        | [(n2, v)], r1, r2 =>
          have e2 : n2 = "why" := List.head_eq_of_cons_eq r1
          subst e2
          have e3 := r2 0 _ _ rfl rfl
          cases e3
          refine ⟨rfl, dd, x, rfl, rfl, hx, hd, fun H' l hl sm e1 => k H' (.ref l) sm ?_⟩
          exact kt_lst dom hl e1 (.cons (.str _) .nil)
        | [], r1, r2 => cases r1
        | _ :: _ :: _, r1, r2 => exact absurd (congrArg List.length r1) (by simp)
      · cases h
    · cases h
  · cases h
theorem smZ_ok {P : Program} {w : World} {K : PySem.W.Frag} {mg : Str → Option Value} {base : Heap} {k : Nat} {C : Addr} {m : Str} {ps : List Str} {sp : Sp} {fd : FuncData} (h : smB K C m = true) (hk : PySem.W.keepIn K (.ref (smAt K C m)) = true)
    (F : FnOk P w K mg base (L2.CX P w) k (smAt K C m) fd ps sp) (B : Binds K fd ps []) : CalZS P w K mg base k C m ps sp := by
  obtain ⟨h1, h2⟩ := He.ba h
  obtain ⟨h3, h4⟩ := He5.wrapB_ok h2
  exact ⟨⟨_, _, _, fd, cread_of h1, ⟨h3, h4, hk⟩, F, B⟩⟩

end My
end

section
set_option Elab.async false
set_option maxRecDepth 100000
set_option maxHeartbeats 4000000
set_option linter.all false
namespace My
open PySem L2
open LamX L2H
/-! ### each def keeps its promise -/
structure Txt (w : World) (K : PySem.W.Frag) (mg : Str → Option Value) : Prop where
  n_bool : mg "bool" = none
  n_enumerate : mg "enumerate" = none
  n_int : mg "int" = none
  n_isinstance : mg "isinstance" = none
  n_len : mg "len" = none
  n_list : mg "list" = none
  n_range : mg "range" = none
  n_str : mg "str" = none
  n_tuple : mg "tuple" = none
  i_EMPTY : ∃ t, mg "EMPTY" = some (.str "-" t)
  i_LETTERS : ∃ t, mg "LETTERS" = some (.str ".hHabB" t)
  i_MOST_CHARACTERS : ∃ t, mg "MOST_CHARACTERS" = some (.int 100000 t)
  i_MOST_LATE : ∃ t, mg "MOST_LATE" = some (.int 4 t)
  i_MOST_SLOTS : ∃ t, mg "MOST_SLOTS" = some (.int 40 t)
  c_KINDS : mg "KINDS" = some (.ref (He.ga K "KINDS"))
  c_LATENESSES : mg "LATENESSES" = some (.ref (He.ga K "LATENESSES"))
  c_Rota : mg "Rota" = some (.ref (He.ga K "Rota"))
  c_World : mg "World" = some (.ref (He.ga K "World"))
section
variable {P : Program} {w : World} {K : PySem.W.Frag} {mg : Str → Option Value} {base : Heap}
theorem ok__law_bag {f : Addr} {fd : FuncData} {dvs : List V} {kws : List (Str × V)} (F : FunD K "_law_bag" "_law_bag" (defArgs s__law_bag) (defBody s__law_bag) (defScope s__law_bag) dvs kws f fd) (T : Txt w K mg) : FnOk P w K mg base CX0 1 f fd P__law_bag (sp__law_bag K) := by
  refine F.ok sc__law_bag (fun vs H Q E h => len__law_bag h) (fun cdv A outer s H vs Q E hr h => ⟨r__law_bag K, PSs.nox ?_, pure__law_bag vs H Q E h⟩)
  exact (pss_cons (ps_set (i := 1) sc__law_bag.nd rfl (Or.inl rfl) pe_int)
  (pss_cons (ps_for PassesOwn.never rfl (pi_list (pe_slice sl_list (pv 0) po_none (po_some pe_int))) (pg_name (i := 2) sc__law_bag.nd rfl (Or.inl rfl))
   (pss_one (ps_set (i := 1) sc__law_bag.nd rfl (Or.inl rfl) (pe_op op_mod (pe_callTy call_int1 (by rfl) T.n_int (by decide +kernel) (pa_cons (pe_op op_add (pe_op op_add (pe_op op_mul (pv 1) pe_int) (pe_op op_mod (pe_callTy call_int1 (by rfl) T.n_int (by decide +kernel) (pa_cons (pv 2) pa_nil)) pe_int)) pe_int) pa_nil)) pe_int))))
  (pss_one (ps_ret (pe_lst (pa_cons (pe_callTy call_list_of (by rfl) T.n_list (by decide +kernel) (pa_cons (pe_slice sl_list (pv 0) po_none (po_some pe_int)) pa_nil)) (pa_cons pe_int (pa_cons pe_int (pa_cons (pv 1) (pa_cons pe_int (pa_cons pe_int pa_nil)))))))))))
theorem ok__law_texts {f : Addr} {fd : FuncData} {dvs : List V} {kws : List (Str × V)} (F : FunD K "_law_texts" "_law_texts" (defArgs s__law_texts) (defBody s__law_texts) (defScope s__law_texts) dvs kws f fd) (T : Txt w K mg) (kt : KT K) (ka : KAt K attrs) (tx : TX K) : FnOk P w K mg base (L2.CX P w) 1 f fd P__law_texts (sp__law_texts K) := by
  refine F.ok sc__law_texts (fun vs H Q E h => spP_len (N := []) h) (fun cdv A outer s H vs Q E hr h => ⟨r__law_texts K E, ?_, spP_run (v__law_texts kt ka tx) h⟩)
  exact (pss_one (ps_ret (pe_lst (pa_cons pe_str (pa_cons pe_str (pa_cons pe_str (pa_cons pe_str (pa_cons pe_str (pa_cons pe_str (pa_cons pe_str (pa_cons pe_str (pa_cons pe_str (pa_cons pe_str pa_nil)))))))))))))
theorem ok__law_draw {f : Addr} {fd : FuncData} {dvs : List V} {kws : List (Str × V)} (F : FunD K "_law_draw" "_law_draw" (defArgs s__law_draw) (defBody s__law_draw) (defScope s__law_draw) dvs kws f fd) (T : Txt w K mg) : FnOk P w K mg base (L2.CX P w) 1 f fd P__law_draw (sm__law_draw K) := by
  refine F.ok sc__law_draw (fun vs H Q E h => len__law_draw h) (fun cdv A outer s H vs Q E hr h => ⟨r__law_draw K, PSs.nox ?_, pure__law_draw vs H Q E h⟩)
  exact (pss_cons (ps_asg (pe_op op_add (pe_ix ix_list (pv 0) pe_int (fun _ _ => rfl)) pe_int) (pg_sub (pv 0) pe_int set_list))
  (C8.pss_cut (ps_if (PW.pt (pw_and (pt_cmpR op_eq (pe_ix ix_list (pv 0) pe_int (fun _ _ => rfl)) pe_int (nomark _)) (pw_and1 (pt_cmpR op_lt (pe_ix ix_list (pv 0) pe_int (fun _ _ => rfl)) (pe_callB call_len_seq (by rfl) T.n_len boot_len (pa_cons (pe_ix ix_list (pv 0) pe_int (fun _ _ => rfl)) pa_nil)) (nomark _))))) (pss_cons (ps_set (i := 2) sc__law_draw.nd rfl (Or.inl rfl) (pe_ix ix_list (pe_ix ix_list (pv 0) pe_int (fun _ _ => rfl)) (pe_ix ix_list (pv 0) pe_int (fun _ _ => rfl)) (fun _ _ => rfl)))
  (pss_cons (ps_asg (pe_op op_add (pe_ix ix_list (pv 0) pe_int (fun _ _ => rfl)) pe_int) (pg_sub (pv 0) pe_int set_list))
  (pss_one (ps_if (pt_cmpR op_ge (pv 2) (pe_op op_pow pe_int pe_int) (nomark _)) (pss_cons (ps_asg (pv 2) (pg_sub (pv 0) pe_int set_list))
  (pss_one (ps_asg pe_int (pg_sub (pv 0) pe_int set_list)))) (pss_one (ps_asg (pe_op op_mod (pe_callTy call_int1 (by rfl) T.n_int (by decide +kernel) (pa_cons (pe_op op_add (pe_op op_add (pe_op op_mul (pe_ix ix_list (pv 0) pe_int (fun _ _ => rfl)) pe_int) (pe_op op_mul (pe_op op_mod (pe_callTy call_int1 (by rfl) T.n_int (by decide +kernel) (pa_cons (pv 2) pa_nil)) pe_int) pe_int)) pe_int) pa_nil)) pe_int) (pg_sub (pv 0) pe_int set_list))))))) pss_nil)
  (pss_cons (ps_if (pt_cmpR op_gt (pe_ix ix_list (pv 0) pe_int (fun _ _ => rfl)) pe_int (nomark _)) (pss_cons (ps_set (i := 3) sc__law_draw.nd rfl (Or.inl rfl) (pe_op op_mod (pe_callTy call_int1 (by rfl) T.n_int (by decide +kernel) (pa_cons (pe_ix ix_list (pv 0) pe_int (fun _ _ => rfl)) pa_nil)) (pv 1)))
  (pss_cons (ps_asg (pe_op op_sub (pe_ix ix_list (pv 0) pe_int (fun _ _ => rfl)) pe_int) (pg_sub (pv 0) pe_int set_list))
  (pss_cons (ps_asg (pe_ifExp (pt_cmpR op_gt (pe_ix ix_list (pv 0) pe_int (fun _ _ => rfl)) pe_int (nomark _)) (pe_op op_fdivN (pe_ix ix_list (pv 0) pe_int (fun _ _ => rfl)) (pv 1)) pe_int) (pg_sub (pv 0) pe_int set_list))
  (pss_one (ps_ret (pv 3)))))) pss_nil)
  (pss_cons (ps_asg (pe_op op_mod (pe_callTy call_int1 (by rfl) T.n_int (by decide +kernel) (pa_cons (pe_op op_add (pe_op op_add (pe_op op_pow (pe_ix ix_list (pv 0) pe_int (fun _ _ => rfl)) pe_int) (pe_op op_mul (pe_ix ix_list (pv 0) pe_int (fun _ _ => rfl)) pe_int)) pe_int) pa_nil)) pe_int) (pg_sub (pv 0) pe_int set_list))
  (pss_one (ps_ret (pe_op op_mod (pe_callTy call_int1 (by rfl) T.n_int (by decide +kernel) (pa_cons (pe_op op_add (pe_op op_fdivN (pe_ix ix_list (pv 0) pe_int (fun _ _ => rfl)) pe_int) (pe_op op_mul (pe_op op_mod (pe_callTy call_int1 (by rfl) T.n_int (by decide +kernel) (pa_cons (pe_ix ix_list (pv 0) pe_int (fun _ _ => rfl)) pa_nil)) pe_int) pe_int)) pa_nil)) (pv 1))))))))
theorem ok__law_of {f : Addr} {fd : FuncData} {dvs : List V} {kws : List (Str × V)} (F : FunD K "_law_of" "_law_of" (defArgs s__law_of) (defBody s__law_of) (defScope s__law_of) dvs kws f fd) (T : Txt w K mg) (kt : KT K) (ka : KAt K attrs) (tx : TX K) (Z__law_draw : CalZ P w K mg base 1 "_law_draw" P__law_draw [] (sp__law_draw K)) : FnOk P w K mg base (L2.CX P w) 2 f fd P__law_of (sp__law_of K) := by
  refine F.ok sc__law_of (fun vs H Q E h => spP_len (N := []) h) (fun cdv A outer s H vs Q E hr h => ⟨r__law_of K E, ?_, spP_run (v__law_of kt ka tx) h⟩)
  exact (pss_one (ps_ret (pe_ix ix_list (pv 1) (pe_callZ Z__law_draw (pass_tk (takes_fn (CX := CX0))) hr rfl (pa_cons (pv 0) (pa_cons (pe_callB call_len_seq (by rfl) T.n_len boot_len (pa_cons (pv 1) pa_nil)) pa_nil))) (fun _ _ => rfl))))
theorem ok__law_ofS {f : Addr} {fd : FuncData} {dvs : List V} {kws : List (Str × V)} (F : FunD K "_law_of" "_law_of" (defArgs s__law_ofS) (defBody s__law_ofS) (defScope s__law_ofS) dvs kws f fd) (T : Txt w K mg) (kt : KT K) (ka : KAt K attrs) (tx : TX K) (Z__law_draw : CalZ P w K mg base 1 "_law_draw" P__law_draw [] (sp__law_draw K)) : FnOk P w K mg base (L2.CX P w) 2 f fd P__law_ofS (sp__law_ofS K) := by
  refine F.ok sc__law_ofS (fun vs H Q E h => spP_len (N := []) h) (fun cdv A outer s H vs Q E hr h => ⟨r__law_ofS K E, ?_, spP_run (v__law_ofS kt ka tx) h⟩)
  exact (pss_one (ps_ret (pe_item_str (pv 1) (pe_callZ Z__law_draw (pass_tk (takes_fn (CX := CX0))) hr rfl (pa_cons (pv 0) (pa_cons (pe_callB call_lenS (by rfl) T.n_len boot_len (pa_cons (pv 1) pa_nil)) pa_nil))) (fun _ _ => rfl))))
theorem ok__law_bent {f : Addr} {fd : FuncData} {dvs : List V} {kws : List (Str × V)} (F : FunD K "_law_bent" "_law_bent" (defArgs s__law_bent) (defBody s__law_bent) (defScope s__law_bent) dvs kws f fd) (T : Txt w K mg) (kt : KT K) (ka : KAt K attrs) (tx : TX K) (Z__law_draw : CalZ P w K mg base 2 "_law_draw" P__law_draw [] (sp__law_draw K)) (Z__law_ofS : CalZ P w K mg base 2 "_law_of" P__law_ofS [] (sp__law_ofS K)) : FnOk P w K mg base (L2.CX P w) 3 f fd P__law_bent (sp__law_bent K) := by
  refine F.ok sc__law_bent (fun vs H Q E h => spP_len (N := []) h) (fun cdv A outer s H vs Q E hr h => ⟨r__law_bent K E, ?_, spP_run (v__law_bent kt ka tx) h⟩)
  exact (pss_cons (ps_set (i := 2) sc__law_bent.nd rfl (Or.inl rfl) (pe_callZ Z__law_draw (pass_tk (takes_fn (CX := CX0))) hr rfl (pa_cons (pv 0) (pa_cons pe_int pa_nil))))
  (pss_cons (ps_set (i := 3) sc__law_bent.nd rfl (Or.inl rfl) (pe_callZ Z__law_draw (pass_tk (takes_fn (CX := CX0))) hr rfl (pa_cons (pv 0) (pa_cons (pe_op op_add (pe_callB call_lenS (by rfl) T.n_len boot_len (pa_cons (pv 1) pa_nil)) pe_int) pa_nil))))
  (pss_cons (ps_set (i := 4) sc__law_bent.nd rfl (Or.inl rfl) (pe_callZ Z__law_ofS (pass_tk (takes_fn (CX := CX0))) hr rfl (pa_cons (pv 0) (pa_cons pe_str pa_nil))))
  (pss_cons (ps_if (pt_cmpR op_eq (pv 2) pe_int (nomark _)) (pss_one (ps_ret (pe_op op_add_str (pe_slice sl_str (pv 1) po_none (po_some (pv 3))) (pe_slice sl_str (pv 1) (po_some (pe_op op_add (pv 3) pe_int)) po_none)))) pss_nil)
  (pss_cons (ps_if (pt_cmpR op_eq (pv 2) pe_int (nomark _)) (pss_one (ps_ret (pe_op op_add_str (pe_op op_add_str (pe_slice sl_str (pv 1) po_none (po_some (pv 3))) (pv 4)) (pe_slice sl_str (pv 1) (po_some (pv 3)) po_none)))) pss_nil)
  (pss_cons (ps_if (pt_cmpR op_eq (pv 2) pe_int (nomark _)) (pss_one (ps_ret (pe_op op_add_str (pv 1) (pv 4)))) pss_nil)
  (pss_one (ps_ret (pe_op op_add_str (pe_op op_add_str (pe_slice sl_str (pv 1) po_none (po_some (pv 3))) (pv 4)) (pe_slice sl_str (pv 1) (po_some (pe_op op_add (pv 3) pe_int)) po_none))))))))))
theorem ok__law_like0 {f : Addr} {fd : FuncData} {dvs : List V} {kws : List (Str × V)} (F : FunD K "_law_like" "_law_like" (defArgs s__law_like0) (defBody s__law_like0) (defScope s__law_like0) dvs kws f fd) (T : Txt w K mg) (kt : KT K) (ka : KAt K attrs) (tx : TX K) (Z__law_likeZ : CalZ P w K mg base 0 "_law_like" P__law_like0 [] (sp__law_likeZ K)) : FnOk P w K mg base (L2.CX P w) 1 f fd P__law_like0 (sp__law_like0 K) := by
  refine F.ok sc__law_like0 (fun vs H Q E h => spP_len (N := []) h) (fun cdv A outer s H vs Q E hr h => ⟨r__law_like0 K E, ?_, spP_run (v__law_like0 kt ka tx) h⟩)
  exact (pss_cons (ps_if (pt_val (pe_callB call_isi (by rfl) T.n_isinstance (by decide +kernel) (pa_cons (pv 1) (pa_cons (pe_bltn (by rfl) T.n_bool (by decide +kernel) rfl) pa_nil)))) (pss_one (ps_ret (pe_and (pe_callB call_isi (by rfl) T.n_isinstance (by decide +kernel) (pa_cons (pv 0) (pa_cons (pe_bltn (by rfl) T.n_bool (by decide +kernel) rfl) pa_nil))) (pe_one (pe_cmpR op_eq (pv 0) (pv 1) (nomark _)))))) pss_nil)
  (pss_cons (ps_if (pt_val (pe_callB call_isi (by rfl) T.n_isinstance (by decide +kernel) (pa_cons (pv 1) (pa_cons (pe_bltn (by rfl) T.n_int (by decide +kernel) rfl) pa_nil)))) (pss_one (ps_ret (pe_and (pe_callB call_isi (by rfl) T.n_isinstance (by decide +kernel) (pa_cons (pv 0) (pa_cons (pe_bltn (by rfl) T.n_int (by decide +kernel) rfl) pa_nil))) (pe_and (pe_not (pe_callB call_isi (by rfl) T.n_isinstance (by decide +kernel) (pa_cons (pv 0) (pa_cons (pe_bltn (by rfl) T.n_bool (by decide +kernel) rfl) pa_nil)))) (pe_one (pe_cmpR op_eq (pv 0) (pv 1) (nomark _))))))) pss_nil)
  (pss_cons (ps_if (pt_val (pe_callB call_isi (by rfl) T.n_isinstance (by decide +kernel) (pa_cons (pv 1) (pa_cons (pe_bltn (by rfl) T.n_str (by decide +kernel) rfl) pa_nil)))) (pss_one (ps_ret (pe_and (pe_callB call_isi (by rfl) T.n_isinstance (by decide +kernel) (pa_cons (pv 0) (pa_cons (pe_bltn (by rfl) T.n_str (by decide +kernel) rfl) pa_nil))) (pe_one (pe_cmpR op_eq (pv 0) (pv 1) (nomark _)))))) pss_nil)
  (pss_cons (ps_if (PW.pt (pw_or (pt_val (pe_callB call_isi (by rfl) T.n_isinstance (by decide +kernel) (pa_cons (pv 1) (pa_cons (pe_bltn (by rfl) T.n_list (by decide +kernel) rfl) pa_nil)))) (pw_or1 (pt_val (pe_callB call_isi (by rfl) T.n_isinstance (by decide +kernel) (pa_cons (pv 1) (pa_cons (pe_bltn (by rfl) T.n_tuple (by decide +kernel) rfl) pa_nil))))))) (pss_cons (ps_if (PW.pt (pw_or (pt_cmpR op_ne (pe_callB call_isi (by rfl) T.n_isinstance (by decide +kernel) (pa_cons (pv 0) (pa_cons (pe_bltn (by rfl) T.n_list (by decide +kernel) rfl) pa_nil))) (pe_callB call_isi (by rfl) T.n_isinstance (by decide +kernel) (pa_cons (pv 1) (pa_cons (pe_bltn (by rfl) T.n_list (by decide +kernel) rfl) pa_nil))) (nomark _)) (pw_or1 (pt_cmpR op_ne (pe_callB call_isi (by rfl) T.n_isinstance (by decide +kernel) (pa_cons (pv 0) (pa_cons (pe_bltn (by rfl) T.n_tuple (by decide +kernel) rfl) pa_nil))) (pe_callB call_isi (by rfl) T.n_isinstance (by decide +kernel) (pa_cons (pv 1) (pa_cons (pe_bltn (by rfl) T.n_tuple (by decide +kernel) rfl) pa_nil))) (nomark _))))) (pss_one (ps_ret pe_bl)) pss_nil)
  (pss_cons (ps_if (pt_cmpR op_ne (pe_callB call_len_seq (by rfl) T.n_len boot_len (pa_cons (pv 0) pa_nil)) (pe_callB call_len_seq (by rfl) T.n_len boot_len (pa_cons (pv 1) pa_nil)) (nomark _)) (pss_one (ps_ret pe_bl)) pss_nil)
  (pss_cons (ps_for (passes_of rfl) rfl (pi_range1 (by rfl) T.n_range (pa_cons (pe_callB call_len_seq (by rfl) T.n_len boot_len (pa_cons (pv 1) pa_nil)) pa_nil)) (pg_name (i := 2) sc__law_like0.nd rfl (Or.inl rfl))
   (pss_one (ps_if (pt_not (pt_val (pe_callZ Z__law_likeZ (pass_tk (takes_fn (CX := CX0))) hr rfl (pa_cons (pe_ix ix_seq (pv 0) (pv 2) (fun _ _ => rfl)) (pa_cons (pe_ix ix_seq (pv 1) (pv 2) (fun _ _ => rfl)) pa_nil))))) (pss_one (ps_ret pe_bl)) pss_nil)))
  (pss_one (ps_ret pe_bl))))) pss_nil)
  (pss_one (ps_ret (pe_and (pe_cmpR op_isN (pv 1) pe_non (nomark _)) (pe_one (pe_cmpR op_isN (pv 0) pe_non (nomark _))))))))))
theorem ok__law_like1 {f : Addr} {fd : FuncData} {dvs : List V} {kws : List (Str × V)} (F : FunD K "_law_like" "_law_like" (defArgs s__law_like1) (defBody s__law_like1) (defScope s__law_like1) dvs kws f fd) (T : Txt w K mg) (kt : KT K) (ka : KAt K attrs) (tx : TX K) (Z__law_like0 : CalZ P w K mg base 1 "_law_like" P__law_like0 [] (sp__law_like0 K)) : FnOk P w K mg base (L2.CX P w) 2 f fd P__law_like1 (sp__law_like1 K) := by
  refine F.ok sc__law_like1 (fun vs H Q E h => spP_len (N := []) h) (fun cdv A outer s H vs Q E hr h => ⟨r__law_like1 K E, ?_, spP_run (v__law_like1 kt ka tx) h⟩)
  exact (pss_cons (ps_if (pt_val (pe_callB call_isi (by rfl) T.n_isinstance (by decide +kernel) (pa_cons (pv 1) (pa_cons (pe_bltn (by rfl) T.n_bool (by decide +kernel) rfl) pa_nil)))) (pss_one (ps_ret (pe_and (pe_callB call_isi (by rfl) T.n_isinstance (by decide +kernel) (pa_cons (pv 0) (pa_cons (pe_bltn (by rfl) T.n_bool (by decide +kernel) rfl) pa_nil))) (pe_one (pe_cmpR op_eq (pv 0) (pv 1) (nomark _)))))) pss_nil)
  (pss_cons (ps_if (pt_val (pe_callB call_isi (by rfl) T.n_isinstance (by decide +kernel) (pa_cons (pv 1) (pa_cons (pe_bltn (by rfl) T.n_int (by decide +kernel) rfl) pa_nil)))) (pss_one (ps_ret (pe_and (pe_callB call_isi (by rfl) T.n_isinstance (by decide +kernel) (pa_cons (pv 0) (pa_cons (pe_bltn (by rfl) T.n_int (by decide +kernel) rfl) pa_nil))) (pe_and (pe_not (pe_callB call_isi (by rfl) T.n_isinstance (by decide +kernel) (pa_cons (pv 0) (pa_cons (pe_bltn (by rfl) T.n_bool (by decide +kernel) rfl) pa_nil)))) (pe_one (pe_cmpR op_eq (pv 0) (pv 1) (nomark _))))))) pss_nil)
  (pss_cons (ps_if (pt_val (pe_callB call_isi (by rfl) T.n_isinstance (by decide +kernel) (pa_cons (pv 1) (pa_cons (pe_bltn (by rfl) T.n_str (by decide +kernel) rfl) pa_nil)))) (pss_one (ps_ret (pe_and (pe_callB call_isi (by rfl) T.n_isinstance (by decide +kernel) (pa_cons (pv 0) (pa_cons (pe_bltn (by rfl) T.n_str (by decide +kernel) rfl) pa_nil))) (pe_one (pe_cmpR op_eq (pv 0) (pv 1) (nomark _)))))) pss_nil)
  (pss_cons (ps_if (PW.pt (pw_or (pt_val (pe_callB call_isi (by rfl) T.n_isinstance (by decide +kernel) (pa_cons (pv 1) (pa_cons (pe_bltn (by rfl) T.n_list (by decide +kernel) rfl) pa_nil)))) (pw_or1 (pt_val (pe_callB call_isi (by rfl) T.n_isinstance (by decide +kernel) (pa_cons (pv 1) (pa_cons (pe_bltn (by rfl) T.n_tuple (by decide +kernel) rfl) pa_nil))))))) (pss_cons (ps_if (PW.pt (pw_or (pt_cmpR op_ne (pe_callB call_isi (by rfl) T.n_isinstance (by decide +kernel) (pa_cons (pv 0) (pa_cons (pe_bltn (by rfl) T.n_list (by decide +kernel) rfl) pa_nil))) (pe_callB call_isi (by rfl) T.n_isinstance (by decide +kernel) (pa_cons (pv 1) (pa_cons (pe_bltn (by rfl) T.n_list (by decide +kernel) rfl) pa_nil))) (nomark _)) (pw_or1 (pt_cmpR op_ne (pe_callB call_isi (by rfl) T.n_isinstance (by decide +kernel) (pa_cons (pv 0) (pa_cons (pe_bltn (by rfl) T.n_tuple (by decide +kernel) rfl) pa_nil))) (pe_callB call_isi (by rfl) T.n_isinstance (by decide +kernel) (pa_cons (pv 1) (pa_cons (pe_bltn (by rfl) T.n_tuple (by decide +kernel) rfl) pa_nil))) (nomark _))))) (pss_one (ps_ret pe_bl)) pss_nil)
  (pss_cons (ps_if (pt_cmpR op_ne (pe_callB call_len_seq (by rfl) T.n_len boot_len (pa_cons (pv 0) pa_nil)) (pe_callB call_len_seq (by rfl) T.n_len boot_len (pa_cons (pv 1) pa_nil)) (nomark _)) (pss_one (ps_ret pe_bl)) pss_nil)
  (pss_cons (ps_for (passes_of rfl) rfl (pi_range1 (by rfl) T.n_range (pa_cons (pe_callB call_len_seq (by rfl) T.n_len boot_len (pa_cons (pv 1) pa_nil)) pa_nil)) (pg_name (i := 2) sc__law_like1.nd rfl (Or.inl rfl))
   (pss_one (ps_if (pt_not (pt_val (pe_callZ Z__law_like0 (pass_tk (takes_fn (CX := CX0))) hr rfl (pa_cons (pe_ix ix_seq (pv 0) (pv 2) (fun _ _ => rfl)) (pa_cons (pe_ix ix_seq (pv 1) (pv 2) (fun _ _ => rfl)) pa_nil))))) (pss_one (ps_ret pe_bl)) pss_nil)))
  (pss_one (ps_ret pe_bl))))) pss_nil)
  (pss_one (ps_ret (pe_and (pe_cmpR op_isN (pv 1) pe_non (nomark _)) (pe_one (pe_cmpR op_isN (pv 0) pe_non (nomark _))))))))))
theorem ok__law_plain {f : Addr} {fd : FuncData} {dvs : List V} {kws : List (Str × V)} (F : FunD K "_law_plain" "_law_plain" (defArgs s__law_plain) (defBody s__law_plain) (defScope s__law_plain) dvs kws f fd) (T : Txt w K mg) (kt : KT K) (ka : KAt K attrs) (tx : TX K) : FnOk P w K mg base (L2.CX P w) 1 f fd P__law_plain (sp__law_plain K) := by
  refine F.ok sc__law_plain (fun vs H Q E h => spP_len (N := []) h) (fun cdv A outer s H vs Q E hr h => ⟨r__law_plain K E, ?_, spP_run (v__law_plain kt ka tx) h⟩)
  exact (pss_one (ps_ret (pe_lst (pa_cons (pe_fld (pv 0) rfl) (pa_cons (pe_fld (pv 0) rfl) (pa_cons (pe_fld (pv 0) rfl) pa_nil))))))
theorem ok_check_length {f : Addr} {fd : FuncData} {dvs : List V} {kws : List (Str × V)} (F : FunD K "check_length" "check_length" (defArgs s_check_length) (defBody s_check_length) (defScope s_check_length) dvs kws f fd) (T : Txt w K mg) (kt : KT K) (ka : KAt K attrs) (tx : TX K) : FnOk P w K mg base (L2.CX P w) 1 f fd P_check_length (sp_check_length K) := by
  refine F.ok sc_check_length (fun vs H Q E h => spP_len (N := []) h) (fun cdv A outer s H vs Q E hr h => ⟨r_check_length K E, ?_, spP_run (v_check_length kt ka tx) h⟩)
  exact (pss_one (ps_if (pt_cmpR op_gt (pe_callB call_lenS (by rfl) T.n_len boot_len (pa_cons (pv 0) pa_nil)) (pe_glob rfl T.i_MOST_CHARACTERS.choose_spec ⟨_, rfl⟩) (nomark _)) pss_never pss_nil))
theorem ok_world_words {f : Addr} {fd : FuncData} {dvs : List V} {kws : List (Str × V)} (F : FunD K "world_words" "world_words" (defArgs s_world_words) (defBody s_world_words) (defScope s_world_words) dvs kws f fd) (T : Txt w K mg) (kt : KT K) (ka : KAt K attrs) (tx : TX K) : FnOk P w K mg base (L2.CX P w) 1 f fd P_world_words (sp_world_words K) := by
  refine F.ok sc_world_words (fun vs H Q E h => spP_len (N := []) h) (fun cdv A outer s H vs Q E hr h => ⟨r_world_words K E, ?_, spP_run (v_world_words kt ka tx) h⟩)
  exact (pss_cons (ps_set (i := 1) sc_world_words.nd rfl (Or.inl rfl) (pe_bm PySem.F.plainAttrs_str PySem.F.slot_str_split PySem.F.type_str_split mt_split (pv 0) (pa_cons pe_str pa_nil)))
  (pss_cons (ps_if (PW.pt (pw_or (pt_cmpR op_ne (pe_callB call_len_seq (by rfl) T.n_len boot_len (pa_cons (pv 1) pa_nil)) pe_int (nomark _)) (pw_or (pt_cmpR op_notIn_seq (pe_ix ix_list (pv 1) pe_int (fun _ _ => rfl)) (pe_glob rfl T.c_KINDS rfl) (by rfl)) (pw_or1 (pt_cmpR op_notIn_seq (pe_ix ix_list (pv 1) pe_int (fun _ _ => rfl)) (pe_glob rfl T.c_LATENESSES rfl) (by rfl)))))) (pss_one (ps_ret pe_non)) pss_nil)
  (pss_one (ps_ret (pe_tup (pa_cons (pe_ix ix_list (pv 1) pe_int (fun _ _ => rfl)) (pa_cons (pe_callTy call_int_str (by rfl) T.n_int (by decide +kernel) (pa_cons (pe_ix ix_list (pv 1) pe_int (fun _ _ => rfl)) pa_nil)) pa_nil)))))))
theorem ok_World___init__ {f : Addr} {fd : FuncData} {dvs : List V} {kws : List (Str × V)} (F : FunD K "__init__" "World.__init__" (defArgs s_World___init__) (defBody s_World___init__) (defScope s_World___init__) dvs kws f fd) (T : Txt w K mg) (kt : KT K) (ka : KAt K attrs) (tx : TX K) (Z_check_length : CalZ P w K mg base 2 "check_length" P_check_length [] (sp_check_length K)) (Z_world_words : CalZ P w K mg base 2 "world_words" P_world_words [] (sp_world_words K)) (R_BadWorld : CalR P w K mg base 1 "BadWorld" (He.ga K "BadWorld") P_BadWorld (sp_BadWorld K)) : FnOk P w K mg base (L2.CX P w) 3 f fd P_World___init__ (sp_World___init__ K) := by
  refine F.ok sc_World___init__ (fun vs H Q E h => spN_len h) (fun cdv A outer s H vs Q E hr h => ⟨r_World___init__ K E, ?_, spN_run (v_World___init__ kt ka tx) h⟩)
  exact (pss_cons (ps_expr (pe_callZ Z_check_length (pass_tk (takes_fn (CX := CX0))) hr rfl (pa_cons (pv 1) pa_nil)))
  (pss_cons (ps_set (i := 2) sc_World___init__.nd rfl (Or.inl rfl) (pe_callZ Z_world_words (pass_tk (takes_fn (CX := CX0))) hr rfl (pa_cons (pv 1) pa_nil)))
  (pss_cons (ps_if (pt_cmpR op_isN (pv 2) pe_non (nomark _)) (pss_one (ps_raiseC R_BadWorld (takes_fn (CX := CX0)) rfl (hr.mono (by decide)) rfl (pa_cons pe_str pa_nil))) pss_nil)
  (pss_cons (ps_fld (pv 0) (pe_ix ix_tup (pv 2) pe_int (fun _ _ => rfl)) rfl)
  (pss_cons (ps_fld (pv 0) (pe_ix ix_tup (pv 2) pe_int (fun _ _ => rfl)) rfl)
  (pss_one (ps_fld (pv 0) (pv 1) rfl)))))))
theorem ok__law_read {f : Addr} {fd : FuncData} {dvs : List V} {kws : List (Str × V)} (F : FunD K "_law_read" "_law_read" (defArgs s__law_read) (defBody s__law_read) (defScope s__law_read) dvs kws f fd) (T : Txt w K mg) (kt : KT K) (ka : KAt K attrs) (tx : TX K) (T__law_error : CalT P w K mg base 4 "_law_error" (spX__law_error K) NMS) (Z__law_plain : CalZ P w K mg base 4 "_law_plain" P__law_plain [] (sp__law_plain K)) (I_World : CalZI P w K mg base 3 "World" (He.ga K "World") P_World___init__ (sp_World___init__ K)) : FnOk P w K mg base (L2.CX P w) 5 f fd P__law_read (sp__law_read K) := by
  refine F.ok sc__law_read (fun vs H Q E h => spP_len (N := []) h) (fun cdv A outer s H vs Q E hr h => ⟨r__law_read K E, ?_, spP_run (v__law_read kt ka tx) h⟩)
  exact (pss_tellC T__law_error (i := 1) rfl rfl sc__law_read.nd rfl rfl rfl (.cons (nmT T__law_error (by decide +kernel) (by rfl) (by decide)) (.cons (nmT T__law_error (by decide +kernel) (by rfl) (by decide)) (.cons (nmT T__law_error (by decide +kernel) (by rfl) (by decide)) (.cons (nmT T__law_error (by decide +kernel) (by rfl) (by decide)) (.cons (nmT T__law_error (by decide +kernel) (by rfl) (by decide)) (.cons (nmT T__law_error (by decide +kernel) (by rfl) (by decide)) (.cons (nmT T__law_error (by decide +kernel) (by rfl) (by decide)) .nil))))))) (Nat.le_of_ble_eq_true rfl) takes0 (fun W pn xe Ec tk hW => (pe_op op_cat (pe_lst (pa_cons pe_str pa_nil)) (pe_callZ Z__law_plain (passes_call tk hW) hr rfl (pa_cons (pe_makeZ I_World (passes_call tk hW) hr rfl (pa_cons (pv 0) pa_nil)) pa_nil)))) ⟨hr.dp, hr.un⟩ rfl)
theorem ok__law_due {f : Addr} {fd : FuncData} {dvs : List V} {kws : List (Str × V)} (F : FunD K "_law_due" "_law_due" (defArgs s__law_due) (defBody s__law_due) (defScope s__law_due) dvs kws f fd) (T : Txt w K mg) (kt : KT K) (ka : KAt K attrs) (tx : TX K) : FnOk P w K mg base (L2.CX P w) 1 f fd P__law_due (sp__law_due K) := by
  refine F.ok sc__law_due (fun vs H Q E h => spP_len (N := []) h) (fun cdv A outer s H vs Q E hr h => ⟨r__law_due K E, ?_, spP_run (v__law_due kt ka tx) h⟩)
  exact (pss_cons (ps_if (PW.pt (pw_and (pt_cmpR op_in_seq (pv 0) (pe_lst (pa_cons pe_str (pa_cons pe_str pa_nil))) (by rfl)) (pw_and1 (pt_chain op_le op_le pe_int (pv 1) pe_int)))) (pss_one (ps_ret (pe_lst (pa_cons pe_str (pa_cons (pv 0) (pa_cons (pv 1) (pa_cons (pe_op op_add_str (pe_op op_add_str (pv 0) pe_str) (pe_callTy call_str_int (by rfl) T.n_str (by decide +kernel) (pa_cons (pv 1) pa_nil))) pa_nil))))))) pss_nil)
  (pss_one (ps_ret (pe_lst (pa_cons pe_str pa_nil)))))
theorem ok_World_of {f : Addr} {fd : FuncData} {dvs : List V} {kws : List (Str × V)} (F : FunD K "of" "World.of" (defArgs s_World_of) (defBody s_World_of) (defScope s_World_of) dvs kws f fd) (T : Txt w K mg) (kt : KT K) (ka : KAt K attrs) (tx : TX K) (R_BadWorld : CalR P w K mg base 3 "BadWorld" (He.ga K "BadWorld") P_BadWorld (sp_BadWorld K)) (I_World : CalZI P w K mg base 3 "World" (He.ga K "World") P_World___init__ (sp_World___init__ K)) : FnOk P w K mg base (L2.CX P w) 5 f fd P_World_of (sp_World_of K) := by
  refine F.ok sc_World_of (fun vs H Q E h => spP_len (N := []) h) (fun cdv A outer s H vs Q E hr h => ⟨r_World_of K E, ?_, spP_run (v_World_of kt ka tx) h⟩)
  exact (pss_cons (ps_if (pt_cmpR op_notIn_seq (pv 0) (pe_glob rfl T.c_KINDS rfl) (by rfl)) (pss_one (ps_raiseC R_BadWorld (takes_fn (CX := CX0)) rfl (hr.mono (by decide)) rfl (pa_cons pe_str pa_nil))) pss_nil)
  (pss_cons (ps_if (PW.pt (pw_or (pt_cmpR op_lt (pv 1) pe_int (nomark _)) (pw_or1 (pt_cmpR op_gt (pv 1) (pe_glob rfl T.i_MOST_LATE.choose_spec ⟨_, rfl⟩) (nomark _))))) (pss_one (ps_raiseC R_BadWorld (takes_fn (CX := CX0)) rfl (hr.mono (by decide)) rfl (pa_cons pe_str pa_nil))) pss_nil)
  (pss_one (ps_ret (pe_makeZ I_World (pass_tk (takes_fn (CX := CX0))) hr rfl (pa_cons (pe_joined (PJ.cons (pe_fmt (pv 0)) (PJ.cons pe_str (PJ.cons (pe_fmt (pv 1)) PJ.nil)))) pa_nil))))))
theorem ok__law_put {f : Addr} {fd : FuncData} {dvs : List V} {kws : List (Str × V)} (F : FunD K "_law_put" "_law_put" (defArgs s__law_put) (defBody s__law_put) (defScope s__law_put) dvs kws f fd) (T : Txt w K mg) (kt : KT K) (ka : KAt K attrs) (tx : TX K) (T__law_error : CalT P w K mg base 5 "_law_error" (spX__law_error K) NMS) (Z__law_plain : CalZ P w K mg base 5 "_law_plain" P__law_plain [] (sp__law_plain K)) (S_World_of : CalZS P w K mg base 5 (He.ga K "World") "of" P_World_of (sp_World_of K)) : FnOk P w K mg base (L2.CX P w) 6 f fd P__law_put (sp__law_put K) := by
  refine F.ok sc__law_put (fun vs H Q E h => spP_len (N := []) h) (fun cdv A outer s H vs Q E hr h => ⟨r__law_put K E, ?_, spP_run (v__law_put kt ka tx) h⟩)
  exact (pss_tellC T__law_error (i := 2) rfl rfl sc__law_put.nd rfl rfl rfl (.cons (nmT T__law_error (by decide +kernel) (by rfl) (by decide)) (.cons (nmT T__law_error (by decide +kernel) (by rfl) (by decide)) (.cons (nmT T__law_error (by decide +kernel) (by rfl) (by decide)) (.cons (nmT T__law_error (by decide +kernel) (by rfl) (by decide)) (.cons (nmT T__law_error (by decide +kernel) (by rfl) (by decide)) (.cons (nmT T__law_error (by decide +kernel) (by rfl) (by decide)) (.cons (nmT T__law_error (by decide +kernel) (by rfl) (by decide)) .nil))))))) (Nat.le_of_ble_eq_true rfl) takes0 (fun W pn xe Ec tk hW => (pe_op op_cat (pe_lst (pa_cons pe_str pa_nil)) (pe_callZ Z__law_plain (passes_call tk hW) hr rfl (pa_cons (pe_smethZ S_World_of (passes_call tk hW) hr (pe_glob rfl T.c_World rfl) (pa_cons (pv 0) (pa_cons (pv 1) pa_nil))) pa_nil)))) ⟨hr.dp, hr.un⟩ rfl)
theorem ok_World___eq__ {f : Addr} {fd : FuncData} {dvs : List V} {kws : List (Str × V)} (F : FunD K "__eq__" "World.__eq__" (defArgs s_World___eq__) (defBody s_World___eq__) (defScope s_World___eq__) dvs kws f fd) (T : Txt w K mg) (kt : KT K) (ka : KAt K attrs) (tx : TX K) : FnOk P w K mg base (L2.CX P w) 1 f fd P_World___eq__ (sp_World___eq__ K) := by
  refine F.ok sc_World___eq__ (fun vs H Q E h => spP_len (N := []) h) (fun cdv A outer s H vs Q E hr h => ⟨r_World___eq__ K E, ?_, spP_run (v_World___eq__ kt ka tx) h⟩)
  exact (pss_one (ps_ret (pe_and (pe_callB call_isi (by rfl) T.n_isinstance (by decide +kernel) (pa_cons (pv 1) (pa_cons (pe_glob rfl T.c_World rfl) pa_nil))) (pe_one (pe_cmpR op_eq (pe_fld (pv 0) rfl) (pe_fld (pv 1) rfl) (nomark _))))))
theorem ok_first_strange {f : Addr} {fd : FuncData} {dvs : List V} {kws : List (Str × V)} (F : FunD K "first_strange" "first_strange" (defArgs s_first_strange) (defBody s_first_strange) (defScope s_first_strange) dvs kws f fd) (T : Txt w K mg) (kt : KT K) (ka : KAt K attrs) (tx : TX K) : FnOk P w K mg base (L2.CX P w) 1 f fd P_first_strange (sp_first_strange K) := by
  refine F.ok sc_first_strange (fun vs H Q E h => spP_len (N := []) h) (fun cdv A outer s H vs Q E hr h => ⟨r_first_strange K E, ?_, spP_run (v_first_strange kt ka tx) h⟩)
  exact (pss_cons (ps_for (passes_of rfl) rfl (pi_enumS (by rfl) T.n_enumerate (pa_cons (pv 0) pa_nil)) (pg_tup (by rfl) (pgs_cons (pg_name (i := 1) sc_first_strange.nd rfl (Or.inl rfl)) (pgs_cons (pg_name (i := 2) sc_first_strange.nd rfl (Or.inl rfl)) pgs_nil)))
   (pss_one (ps_if (pt_cmpR op_notInS (pv 2) (pe_glob rfl T.i_LETTERS.choose_spec ⟨_, rfl⟩) (by rfl)) (pss_one (ps_ret (pv 1))) pss_nil)))
  (pss_one (ps_ret pe_non)))
theorem ok_rota_fault {f : Addr} {fd : FuncData} {dvs : List V} {kws : List (Str × V)} (F : FunD K "rota_fault" "rota_fault" (defArgs s_rota_fault) (defBody s_rota_fault) (defScope s_rota_fault) dvs kws f fd) (T : Txt w K mg) (kt : KT K) (ka : KAt K attrs) (tx : TX K) (Z_first_strange : CalZ P w K mg base 1 "first_strange" P_first_strange [] (sp_first_strange K)) : FnOk P w K mg base (L2.CX P w) 2 f fd P_rota_fault (sp_rota_fault K) := by
  refine F.ok sc_rota_fault (fun vs H Q E h => spP_len (N := []) h) (fun cdv A outer s H vs Q E hr h => ⟨r_rota_fault K E, ?_, spP_run (v_rota_fault kt ka tx) h⟩)
  exact (pss_cons (ps_if (pt_cmpR op_eq (pv 0) (pe_glob rfl T.i_EMPTY.choose_spec ⟨_, rfl⟩) (nomark _)) (pss_one (ps_ret pe_non)) pss_nil)
  (pss_cons (ps_if (pt_cmpR op_eq (pv 0) pe_str (nomark _)) (pss_one (ps_ret pe_int)) pss_nil)
  (pss_one (ps_ret (pe_callZ Z_first_strange (pass_tk (takes_fn (CX := CX0))) hr rfl (pa_cons (pv 0) pa_nil))))))
theorem ok_letters_of_text {f : Addr} {fd : FuncData} {dvs : List V} {kws : List (Str × V)} (F : FunD K "letters_of_text" "letters_of_text" (defArgs s_letters_of_text) (defBody s_letters_of_text) (defScope s_letters_of_text) dvs kws f fd) (T : Txt w K mg) (kt : KT K) (ka : KAt K attrs) (tx : TX K) : FnOk P w K mg base (L2.CX P w) 1 f fd P_letters_of_text (sp_letters_of_text K) := by
  refine F.ok sc_letters_of_text (fun vs H Q E h => spP_len (N := []) h) (fun cdv A outer s H vs Q E hr h => ⟨r_letters_of_text K E, ?_, spP_run (v_letters_of_text kt ka tx) h⟩)
  exact (pss_cons (ps_if (pt_cmpR op_eq (pv 0) (pe_glob rfl T.i_EMPTY.choose_spec ⟨_, rfl⟩) (nomark _)) (pss_one (ps_ret pe_str)) pss_nil)
  (pss_one (ps_ret (pv 0))))
theorem ok_Rota___init__ {f : Addr} {fd : FuncData} {dvs : List V} {kws : List (Str × V)} (F : FunD K "__init__" "Rota.__init__" (defArgs s_Rota___init__) (defBody s_Rota___init__) (defScope s_Rota___init__) dvs kws f fd) (T : Txt w K mg) (kt : KT K) (ka : KAt K attrs) (tx : TX K) (Z_check_length : CalZ P w K mg base 2 "check_length" P_check_length [] (sp_check_length K)) (Z_rota_fault : CalZ P w K mg base 2 "rota_fault" P_rota_fault [] (sp_rota_fault K)) (Z_letters_of_text : CalZ P w K mg base 2 "letters_of_text" P_letters_of_text [] (sp_letters_of_text K)) : FnOk P w K mg base (L2.CX P w) 3 f fd P_Rota___init__ (sp_Rota___init__ K) := by
  refine F.ok sc_Rota___init__ (fun vs H Q E h => spN_len h) (fun cdv A outer s H vs Q E hr h => ⟨r_Rota___init__ K E, ?_, spN_run (v_Rota___init__ kt ka tx) h⟩)
  exact (pss_cons (ps_expr (pe_callZ Z_check_length (pass_tk (takes_fn (CX := CX0))) hr rfl (pa_cons (pv 1) pa_nil)))
  (pss_cons (ps_set (i := 2) sc_Rota___init__.nd rfl (Or.inl rfl) (pe_callZ Z_rota_fault (pass_tk (takes_fn (CX := CX0))) hr rfl (pa_cons (pv 1) pa_nil)))
  (pss_cons (ps_if (pt_cmpR op_notN (pv 2) pe_non (nomark _)) pss_never pss_nil)
  (pss_cons (ps_set (i := 3) sc_Rota___init__.nd rfl (Or.inl rfl) (pe_callZ Z_letters_of_text (pass_tk (takes_fn (CX := CX0))) hr rfl (pa_cons (pv 1) pa_nil)))
  (pss_cons (ps_if (pt_cmpR op_gt (pe_callB call_lenS (by rfl) T.n_len boot_len (pa_cons (pv 3) pa_nil)) (pe_glob rfl T.i_MOST_SLOTS.choose_spec ⟨_, rfl⟩) (nomark _)) pss_never pss_nil)
  (pss_cons (ps_fld (pv 0) (pv 3) rfl)
  (pss_one (ps_fld (pv 0) (pv 1) rfl))))))))
theorem ok_Rota___eq__ {f : Addr} {fd : FuncData} {dvs : List V} {kws : List (Str × V)} (F : FunD K "__eq__" "Rota.__eq__" (defArgs s_Rota___eq__) (defBody s_Rota___eq__) (defScope s_Rota___eq__) dvs kws f fd) (T : Txt w K mg) (kt : KT K) (ka : KAt K attrs) (tx : TX K) : FnOk P w K mg base (L2.CX P w) 1 f fd P_Rota___eq__ (sp_Rota___eq__ K) := by
  refine F.ok sc_Rota___eq__ (fun vs H Q E h => spP_len (N := []) h) (fun cdv A outer s H vs Q E hr h => ⟨r_Rota___eq__ K E, ?_, spP_run (v_Rota___eq__ kt ka tx) h⟩)
  exact (pss_one (ps_ret (pe_and (pe_callB call_isi (by rfl) T.n_isinstance (by decide +kernel) (pa_cons (pv 1) (pa_cons (pe_glob rfl T.c_Rota rfl) pa_nil))) (pe_one (pe_cmpR op_eq (pe_fld (pv 0) rfl) (pe_fld (pv 1) rfl) (nomark _))))))
theorem ok_law {f : Addr} {fd : FuncData} {dvs : List V} {kws : List (Str × V)} (F : FunD K "law" "law" (defArgs s_law) (defBody s_law) (defScope s_law) dvs kws f fd) (T : Txt w K mg) (kt : KT K) (ka : KAt K attrs) (tx : TX K) (C__law_bag : Cal P w K mg base 6 "_law_bag" P__law_bag (sp__law_bag K)) (Z__law_texts : CalZ P w K mg base 6 "_law_texts" P__law_texts [] (sp__law_texts K)) (Z__law_of : CalZ P w K mg base 6 "_law_of" P__law_of [] (sp__law_of K)) (Z__law_bent : CalZ P w K mg base 6 "_law_bent" P__law_bent [] (sp__law_bent K)) (Z__law_like1 : CalZ P w K mg base 6 "_law_like" P__law_like1 [] (sp__law_like1 K)) (Z__law_read : CalZ P w K mg base 6 "_law_read" P__law_read [] (sp__law_read K)) (Z__law_draw : CalZ P w K mg base 6 "_law_draw" P__law_draw [] (sp__law_draw K)) (Z__law_due : CalZ P w K mg base 6 "_law_due" P__law_due [] (sp__law_due K)) (Z__law_put : CalZ P w K mg base 6 "_law_put" P__law_put [] (sp__law_put K)) (I_World : CalZI P w K mg base 5 "World" (He.ga K "World") P_World___init__ (sp_World___init__ K)) (S_World_of : CalZS P w K mg base 6 (He.ga K "World") "of" P_World_of (sp_World_of K)) (Q_World : CalQ P w K mg base 6 (He.ga K "World") P_World___eq__ (sp_World___eq__ K)) (I_Rota : CalZI P w K mg base 5 "Rota" (He.ga K "Rota") P_Rota___init__ (sp_Rota___init__ K)) (Z__law_plain : CalZ P w K mg base 6 "_law_plain" P__law_plain [] (sp__law_plain K)) (Q_Rota : CalQ P w K mg base 6 (He.ga K "Rota") P_Rota___eq__ (sp_Rota___eq__ K)) : FnOk P w K mg base CX0 7 f fd P_law (sp_law K) := by
  refine F.ok sc_law (fun vs H Q E h => by obtain ⟨a, ns, rfl, _⟩ := h; rfl) (fun cdv A outer s H vs Q E hr h => ⟨r_law K, PSs.nox ?_, by obtain ⟨a, ns, rfl, hs, hl, tb, q⟩ := h; exact law_bag rfl (v_law kt ka tx) hs hl tb sv_law q⟩)
  exact (pss_cons (ps_set (i := 1) sc_law.nd rfl (Or.inl rfl) (pe_callC C__law_bag hr rfl (pa_cons (pv 0) pa_nil)))
  (pss_cons (ps_set (i := 2) sc_law.nd rfl (Or.inl rfl) (pe_callZ0 Z__law_texts pass_none hr rfl))
  (pss_cons (ps_for PassesOwn.never rfl (pi_range1 (by rfl) T.n_range (pa_cons pe_int pa_nil)) (pg_name (i := 3) sc_law.nd rfl (Or.inl rfl))
   (pss_cons (ps_set (i := 4) sc_law.nd rfl (Or.inl rfl) (pe_callZ Z__law_of pass_none hr rfl (pa_cons (pv 1) (pa_cons (pv 2) pa_nil))))
  (pss_cons (ps_for PassesOwn.never rfl (pi_range1 (by rfl) T.n_range (pa_cons (pe_callZ Z__law_of pass_none hr rfl (pa_cons (pv 1) (pa_cons (pe_lst (pa_cons pe_int (pa_cons pe_int (pa_cons pe_int (pa_cons pe_int (pa_cons pe_int pa_nil)))))) pa_nil))) pa_nil)) (pg_name (i := 5) sc_law.nd rfl (Or.inl rfl))
   (pss_one (ps_set (i := 4) sc_law.nd rfl (Or.inl rfl) (pe_callZ Z__law_bent pass_none hr rfl (pa_cons (pv 1) (pa_cons (pv 4) pa_nil))))))
  (pss_cons (ps_set (i := 6) sc_law.nd rfl (Or.inl rfl) (pe_ifExp (pt_cmpR op_in_seq (pv 4) (pv 2) (by rfl)) (pe_lst (pa_cons pe_str (pa_cons (pe_slice sl_str (pv 4) po_none (po_some pe_int)) (pa_cons (pe_m1 PySem.F.slot_str_find PySem.F.type_str_find mt_find pe_str (pe_slice sl_str (pv 4) (po_some pe_int) po_none)) (pa_cons (pv 4) pa_nil))))) (pe_lst (pa_cons pe_str pa_nil))))
  (pss_cons (ps_if (pt_not (pt_val (pe_callZ Z__law_like1 pass_none hr rfl (pa_cons (pe_callZ Z__law_read pass_none hr rfl (pa_cons (pv 4) pa_nil)) (pa_cons (pv 6) pa_nil))))) (pss_one (ps_ret pe_bl)) pss_nil)
  (pss_cons (ps_set (i := 7) sc_law.nd rfl (Or.inl rfl) (pe_callZ Z__law_of pass_none hr rfl (pa_cons (pv 1) (pa_cons (pe_lst (pa_cons pe_str (pa_cons pe_str (pa_cons pe_str (pa_cons pe_str (pa_cons pe_str (pa_cons pe_str (pa_cons pe_str (pa_cons pe_str (pa_cons pe_str (pa_cons pe_str pa_nil))))))))))) pa_nil))))
  (pss_cons (ps_if (pt_cmpR op_eq (pe_callZ Z__law_draw pass_none hr rfl (pa_cons (pv 1) (pa_cons pe_int pa_nil))) pe_int (nomark _)) (pss_one (ps_set (i := 7) sc_law.nd rfl (Or.inl rfl) (pe_callZ Z__law_bent pass_none hr rfl (pa_cons (pv 1) (pa_cons (pv 7) pa_nil))))) pss_nil)
  (pss_cons (ps_set (i := 8) sc_law.nd rfl (Or.inl rfl) (pe_callZ Z__law_of pass_none hr rfl (pa_cons (pv 1) (pa_cons (pe_lst (pa_cons pe_int (pa_cons pe_int (pa_cons pe_int (pa_cons pe_int (pa_cons pe_int (pa_cons pe_int (pa_cons (pe_un un_neg pe_int) (pa_cons pe_int (pa_cons pe_int (pa_cons pe_int (pa_cons pe_int (pa_cons (pe_un un_neg pe_int) (pa_cons pe_int (pa_cons pe_int (pa_cons pe_int (pa_cons pe_int pa_nil))))))))))))))))) pa_nil))))
  (pss_cons (ps_if (pt_not (pt_val (pe_callZ Z__law_like1 pass_none hr rfl (pa_cons (pe_callZ Z__law_put pass_none hr rfl (pa_cons (pv 7) (pa_cons (pv 8) pa_nil))) (pa_cons (pe_callZ Z__law_due pass_none hr rfl (pa_cons (pv 7) (pa_cons (pv 8) pa_nil))) pa_nil))))) (pss_one (ps_ret pe_bl)) pss_nil)
  (pss_cons (ps_set (i := 7) sc_law.nd rfl (Or.inl rfl) (pe_callZ Z__law_of pass_none hr rfl (pa_cons (pv 1) (pa_cons (pe_lst (pa_cons pe_str (pa_cons pe_str pa_nil))) pa_nil))))
  (pss_cons (ps_set (i := 8) sc_law.nd rfl (Or.inl rfl) (pe_callZ Z__law_draw pass_none hr rfl (pa_cons (pv 1) (pa_cons pe_int pa_nil))))
  (pss_one (ps_if (pt_not (pt_val (pe_callZ Z__law_like1 pass_none hr rfl (pa_cons (pe_callZ Z__law_put pass_none hr rfl (pa_cons (pv 7) (pa_cons (pv 8) pa_nil))) (pa_cons (pe_callZ Z__law_due pass_none hr rfl (pa_cons (pv 7) (pa_cons (pv 8) pa_nil))) pa_nil))))) (pss_one (ps_ret pe_bl)) pss_nil)))))))))))))
  (pss_cons (ps_setLc (i := 9) (own := [("text", 4)]) (by rfl) sc_law.nd rfl rfl (sw_true rfl rfl rfl (by decide +kernel)) (pi_list (pv 2)) (blkOk_by (own := [("text", 4)]) (N := N_law) (sc := defScope s_law) (by decide +kernel))
     (fun _ _ _ _ _ => (pg_name (i := 4) sc_law.nd rfl (by first | exact Or.inl rfl | exact Or.inr rfl))) (fun _ _ _ _ _ => pts_nil) (fun _ _ _ _ _ => (pe_makeZ I_World pass_none hr rfl (pa_cons (pv 4) pa_nil))))
  (pss_cons (ps_setLc (i := 10) (own := [("text", 4)]) (by rfl) sc_law.nd rfl rfl (sw_true rfl rfl rfl (by decide +kernel)) (pi_list (pv 2)) (blkOk_by (own := [("text", 4)]) (N := N_law) (sc := defScope s_law) (by decide +kernel))
     (fun _ _ _ _ _ => (pg_name (i := 4) sc_law.nd rfl (by first | exact Or.inl rfl | exact Or.inr rfl))) (fun _ _ _ _ _ => pts_nil) (fun _ _ _ _ _ => (pe_smethZ S_World_of pass_none hr (pe_glob rfl T.c_World rfl) (pa_cons (pe_slice sl_str (pv 4) po_none (po_some pe_int)) (pa_cons (pe_callTy call_int_str (by rfl) T.n_int (by decide +kernel) (pa_cons (pe_slice sl_str (pv 4) (po_some pe_int) po_none) pa_nil)) pa_nil)))))
  (pss_cons (ps_for PassesOwn.never rfl (pi_range1 (by rfl) T.n_range (pa_cons pe_int pa_nil)) (pg_name (i := 11) sc_law.nd rfl (Or.inl rfl))
   (pss_cons (ps_for PassesOwn.never rfl (pi_range1 (by rfl) T.n_range (pa_cons pe_int pa_nil)) (pg_name (i := 12) sc_law.nd rfl (Or.inl rfl))
   (pss_one (ps_if (pt_not (pt_val (pe_callZ Z__law_like1 pass_none hr rfl (pa_cons (pe_lst (pa_cons (pe_cmpR (op_eqC Q_World hr) (pe_ix ix_list (pv 9) (pv 11) (fun _ _ => rfl)) (pe_ix ix_list (pv 10) (pv 12) (fun _ _ => rfl)) (nomark _)) (pa_cons (pe_cmpR (op_eqC Q_World hr) (pe_ix ix_list (pv 9) (pv 11) (fun _ _ => rfl)) (pe_ix ix_list (pv 9) (pv 12) (fun _ _ => rfl)) (nomark _)) pa_nil))) (pa_cons (pe_lst (pa_cons (pe_cmpR op_eq (pv 11) (pv 12) (nomark _)) (pa_cons (pe_cmpR op_eq (pv 11) (pv 12) (nomark _)) pa_nil))) pa_nil))))) (pss_one (ps_ret pe_bl)) pss_nil)))
  (pss_cons (ps_set (i := 13) sc_law.nd rfl (Or.inl rfl) (pe_makeZ I_Rota pass_none hr rfl (pa_cons (pe_callZ Z__law_of pass_none hr rfl (pa_cons (pv 1) (pa_cons (pe_lst (pa_cons pe_str (pa_cons pe_str (pa_cons pe_str pa_nil)))) pa_nil))) pa_nil)))
  (pss_one (ps_if (pt_not (pt_val (pe_callZ Z__law_like1 pass_none hr rfl (pa_cons (pe_lst (pa_cons (pe_cmpR (op_eqC Q_World hr) (pe_ix ix_list (pv 9) (pv 11) (fun _ _ => rfl)) (pe_ix ix_list (pv 2) (pv 11) (fun _ _ => rfl)) (nomark _)) (pa_cons (pe_cmpR (op_eqC Q_World hr) (pe_ix ix_list (pv 10) (pv 11) (fun _ _ => rfl)) (pv 13) (nomark _)) (pa_cons (pe_cmpR (op_eqC Q_Rota hr) (pv 13) (pe_ix ix_list (pv 9) (pv 11) (fun _ _ => rfl)) (nomark _)) (pa_cons (pe_ix ix_list (pe_callZ Z__law_plain pass_none hr rfl (pa_cons (pe_ix ix_list (pv 9) (pv 11) (fun _ _ => rfl)) pa_nil)) pe_int (fun _ _ => rfl)) pa_nil))))) (pa_cons (pe_lst (pa_cons pe_bl (pa_cons pe_bl (pa_cons pe_bl (pa_cons (pe_ix ix_list (pv 2) (pv 11) (fun _ _ => rfl)) pa_nil))))) pa_nil))))) (pss_one (ps_ret pe_bl)) pss_nil)))))
  (pss_one (ps_ret pe_bl))))))))
theorem mkCal {k : Nat} {x qual : Str} {params : Arguments} {body : List Stmt} {scope : Scope} {kws : List (Str × V)} {f : Addr} {fd : FuncData} {ps : List Str} {sp : Sp} (F : FunD K x qual params body scope [] kws f fd) (ok : FnOk P w K mg base CX0 k f fd ps sp) (hm : mg x = some (.ref f))
    (hb : ∀ (kV doc pm : Value) (an : Option Addr) (cdv ct : Value) (us : List Value), us.length = ps.length → bindArgs (PySem.W.fnOf x qual params body scope .none kV doc pm an cdv ct) ⟨us, []⟩ = pure (ps.zip us)) : Cal P w K mg base k x ps sp := ⟨f, fd, ok, hm, F.kp, F.bindsN hb⟩
end
end My
end

section
set_option Elab.async false
set_option maxRecDepth 100000
set_option maxHeartbeats 4000000
set_option linter.all false
namespace My
open PySem L2
open LamX L2H
theorem facts {w : World} {K : PySem.W.Frag} {h : Heap} {mg : Str → Option Value} {f : Addr} (X : K.In h) (G : h.Ns mainGlobals mg) (hfa : mg ("law" : Str) = some (.ref f)) (cy : SaysY fa fn ts tf sf file0 ex w h K) :
    LamX.LawAtS PySem.Challenge.rw_buriedsure_k01_worlds_told w K CX0 7 63 "script" mg f h := by
  have cc := cy.z
  have c := cc.d
  have hx := cc.more
  obtain ⟨P, hP⟩ : ∃ P, (PySem.Challenge.rw_buriedsure_k01_worlds_told).prog = P := ⟨_, rfl⟩
  have hfile : file0 = P.main.file := by rw [← hP]; rfl
  obtain ⟨fd__law_bag, F__law_bag⟩ := c.def_ 0 (d := d__law_bag) rfl
  obtain ⟨fd__law_texts, F__law_texts⟩ := c.def_ 1 (d := d__law_texts) rfl
  obtain ⟨fd__law_draw, F__law_draw⟩ := c.def_ 2 (d := d__law_draw) rfl
  obtain ⟨fd__law_of, F__law_of⟩ := c.def_ 3 (d := d__law_of) rfl
  obtain ⟨fd__law_ofS, F__law_ofS⟩ := c.def_ 4 (d := d__law_ofS) rfl
  obtain ⟨fd__law_bent, F__law_bent⟩ := c.def_ 5 (d := d__law_bent) rfl
  obtain ⟨fd__law_like0, F__law_like0⟩ := c.def_ 6 (d := d__law_like0) rfl
  obtain ⟨fd__law_like1, F__law_like1⟩ := c.def_ 7 (d := d__law_like1) rfl
  obtain ⟨fd__law_plain, F__law_plain⟩ := c.def_ 8 (d := d__law_plain) rfl
  obtain ⟨fd_check_length, F_check_length⟩ := c.def_ 9 (d := d_check_length) rfl
  obtain ⟨fd_world_words, F_world_words⟩ := c.def_ 10 (d := d_world_words) rfl
  obtain ⟨fd_World___init__, F_World___init__⟩ := c.def_ 11 (d := d_World___init__) rfl
  obtain ⟨fd__law_read, F__law_read⟩ := c.def_ 12 (d := d__law_read) rfl
  obtain ⟨fd__law_due, F__law_due⟩ := c.def_ 13 (d := d__law_due) rfl
  obtain ⟨fd_World_of, F_World_of⟩ := c.def_ 14 (d := d_World_of) rfl
  obtain ⟨fd__law_put, F__law_put⟩ := c.def_ 15 (d := d__law_put) rfl
  obtain ⟨fd_World___eq__, F_World___eq__⟩ := c.def_ 16 (d := d_World___eq__) rfl
  obtain ⟨fd_first_strange, F_first_strange⟩ := c.def_ 17 (d := d_first_strange) rfl
  obtain ⟨fd_rota_fault, F_rota_fault⟩ := c.def_ 18 (d := d_rota_fault) rfl
  obtain ⟨fd_letters_of_text, F_letters_of_text⟩ := c.def_ 19 (d := d_letters_of_text) rfl
  obtain ⟨fd_Rota___init__, F_Rota___init__⟩ := c.def_ 20 (d := d_Rota___init__) rfl
  obtain ⟨fd_Rota___eq__, F_Rota___eq__⟩ := c.def_ 21 (d := d_Rota___eq__) rfl
  obtain ⟨fd_law, F_law⟩ := c.def_ 22 (d := d_law) rfl
  obtain ⟨fd__law_error, F__law_error⟩ := c.def_ 23 (d := d__law_error) rfl
  obtain ⟨fd__law_why, F__law_why⟩ := c.def_ 24 (d := d__law_why) rfl
  have e := hfa.symm.trans (He.glo_ok X G (c.fact 15 (f := .glo "law") rfl))
  cases e
  have b := FunD.bindsA (ps := P_law) F_law fun _ _ _ _ _ _ us hl => match us, hl with | [_], _ => rfl
  have T : Txt w K mg := ⟨He.free_ok X G (c.fact 18 (f := .free "bool") rfl), He.free_ok X G (c.fact 19 (f := .free "enumerate") rfl), He.free_ok X G (c.fact 20 (f := .free "int") rfl), He.free_ok X G (c.fact 21 (f := .free "isinstance") rfl), He.free_ok X G (c.fact 22 (f := .free "len") rfl), He.free_ok X G (c.fact 23 (f := .free "list") rfl), He.free_ok X G (c.fact 24 (f := .free "range") rfl), He.free_ok X G (c.fact 25 (f := .free "str") rfl), He.free_ok X G (c.fact 26 (f := .free "tuple") rfl), He.str_ok X G (c.fact 27 (f := .str "EMPTY" "-") rfl), He.str_ok X G (c.fact 28 (f := .str "LETTERS" ".hHabB") rfl), He.int_ok X G (c.fact 29 (f := .int "MOST_CHARACTERS" 100000) rfl), He.int_ok X G (c.fact 30 (f := .int "MOST_LATE" 4) rfl), He.int_ok X G (c.fact 31 (f := .int "MOST_SLOTS" 40) rfl), He.glo_ok X G (c.fact 32 (f := .glo "KINDS") rfl), He.glo_ok X G (c.fact 33 (f := .glo "LATENESSES") rfl), He.glo_ok X G (c.fact 34 (f := .glo "Rota") rfl), He.glo_ok X G (c.fact 35 (f := .glo "World") rfl)⟩
  obtain ⟨x1, hx⟩ := He.ba hx
  obtain ⟨x2, hx⟩ := He.ba hx
  obtain ⟨x3, hx⟩ := He.ba hx
  obtain ⟨x4, hx⟩ := He.ba hx
  obtain ⟨x5, hx⟩ := He.ba hx
  obtain ⟨x6, hx⟩ := He.ba hx
  obtain ⟨x7, hx⟩ := He.ba hx
  obtain ⟨x8, hx⟩ := He.ba hx
  obtain ⟨x9, hx⟩ := He.ba hx
  obtain ⟨x10, hx⟩ := He.ba hx
  obtain ⟨x11, hx⟩ := He.ba hx
  obtain ⟨x12, hx⟩ := He.ba hx
  obtain ⟨x13, x14⟩ := He.ba hx
  have oW : OwnT K "World" := ownB_ok x9 (He.cls_ok (c.fact 40 (f := .cls "World") rfl))
  have oR : OwnT K "Rota" := ownB_ok x10 (He.cls_ok (c.fact 38 (f := .cls "Rota") rfl))
  have kt : KT K := ⟨fun M H => repS (ss := ["many", "once"]) fun H' => He.tupB_ok x6 H', fun M H => repS (ss := ["0", "1", "2", "3", "4"]) fun H' => He.tupB_ok x7 H', isB_ok (.inl rfl) x11 oW oR, isB_ok (.inr rfl) x12 oW oR, eqB_ok x13, eqB_ok x14⟩
  have tx : TX K := tx_of (of_decide_eq_true x5)
  have ka : KAt K attrs := fun q hq => by
    simp only [attrs, List.mem_cons, List.not_mem_nil, or_false] at hq
    rcases hq with rfl | rfl | rfl | rfl | rfl
    · exact ⟨He.cls_ok (c.fact 38 (f := .cls "Rota") rfl), He.noat_ok (c.fact 42 (f := .noat "Rota" "letters") rfl)⟩
    · exact ⟨He.cls_ok (c.fact 38 (f := .cls "Rota") rfl), He.noat_ok (c.fact 43 (f := .noat "Rota" "text") rfl)⟩
    · exact ⟨He.cls_ok (c.fact 40 (f := .cls "World") rfl), He.noat_ok (c.fact 44 (f := .noat "World" "kind") rfl)⟩
    · exact ⟨He.cls_ok (c.fact 40 (f := .cls "World") rfl), He.noat_ok (c.fact 45 (f := .noat "World" "late") rfl)⟩
    · exact ⟨He.cls_ok (c.fact 40 (f := .cls "World") rfl), He.noat_ok (c.fact 46 (f := .noat "World" "text") rfl)⟩
  refine ⟨fd_law, [], sp_law K, fun p hp => ?_, fun p hp => ?_, fun p hp => ?_, fun s v => b s [v] rfl, fun H a ns hl _ hT hS => ⟨a, ns, rfl, hS, hl, ?_, fun _ => rfl⟩, fun base _ _ hTB => ?_⟩
  · cases hp
  · cases hp
  · cases hp
  · exact tabs_nil fun p hp => by cases hp
  have ew : EFW K := by
    obtain ⟨y1, y2⟩ := He.ba x1
    exact ⟨fun n hn => of_decide_eq_true (List.all_eq_true.mp y1 n hn), of_decide_eq_true y2⟩
  have xc : ExcC K (He.ga K "BadWorld") := by
    obtain ⟨y1, hy⟩ := He.ba x2
    obtain ⟨y2, hy⟩ := He.ba hy
    obtain ⟨y3, hy⟩ := He.ba hy
    obtain ⟨y4, hy⟩ := He.ba hy
    obtain ⟨y5, hy⟩ := He.ba hy
    obtain ⟨y6, hy⟩ := He.ba hy
    obtain ⟨y7, y8⟩ := He.ba hy
    exact ⟨of_decide_eq_true y1, of_decide_eq_true y2, of_decide_eq_true y3, of_decide_eq_true y4, of_decide_eq_true y5, of_decide_eq_true y6, of_decide_eq_true y7, of_decide_eq_true y8⟩
  have TF : TxtF K mg := ⟨He.free_ok X G (c.fact 21 (f := .free "isinstance") rfl), He.free_ok X G (c.fact 25 (f := .free "str") rfl), He.glo_ok X G (c.fact 52 (f := .glo "BadBook") rfl), He.glo_ok X G (c.fact 53 (f := .glo "BadCourse") rfl), He.glo_ok X G (c.fact 54 (f := .glo "BadDie") rfl), He.glo_ok X G (c.fact 55 (f := .glo "BadMill") rfl), He.glo_ok X G (c.fact 51 (f := .glo "BadPlay") rfl), He.glo_ok X G (c.fact 56 (f := .glo "BadRoster") rfl), He.glo_ok X G (c.fact 49 (f := .glo "BadRota") rfl), He.glo_ok X G (c.fact 57 (f := .glo "BadScript") rfl), He.glo_ok X G (c.fact 50 (f := .glo "BadTree") rfl), He.glo_ok X G (c.fact 48 (f := .glo "BadWorld") rfl), He.glo_ok X G (c.fact 62 (f := .glo "Ended") rfl), He.glo_ok X G (c.fact 61 (f := .glo "NoSuch") rfl), He.glo_ok X G (c.fact 58 (f := .glo "NoTree") rfl), He.glo_ok X G (c.fact 59 (f := .glo "OutOf") rfl), He.glo_ok X G (c.fact 60 (f := .glo "TooMany") rfl)⟩
  have R_BadWorld : CalR P w K mg base 1 "BadWorld" (He.ga K "BadWorld") P_BadWorld (sp_BadWorld K) := ok_BadWorld (cy.sup 0 (d := d_BadWorld)).1 (by rw [← hfile]; exact (cy.sup 0 (d := d_BadWorld)).2) (He.free_ok X G (c.fact 47 (f := .free "super") rfl)) (by rw [← hP]; decide +kernel) (of_decide_eq_true x4) (He.glo_ok X G (c.fact 48 (f := .glo "BadWorld") rfl))
  have O__law_why := ok__law_why (P := P) (base := base) (w := w) F__law_why TF xc (xfB_ok x3) (of_decide_eq_true x4)
  have B__law_why : Binds K fd__law_why ["e"] [] := F__law_why.bindsN fun _ _ _ _ _ _ us hl => match us, hl with | [_], _ => rfl
  have O__law_error := ok__law_error (P := P) (base := base) (w := w) F__law_error TF xc (xfB_ok x3) (of_decide_eq_true x4) ew O__law_why (He.glo_ok X G (c.fact 17 (f := .glo "_law_why") rfl)) F__law_why.kp B__law_why
  have B__law_error : Binds K fd__law_error ["e"] [] := F__law_error.bindsN fun _ _ _ _ _ _ us hl => match us, hl with | [_], _ => rfl
  have T__law_error : CalT P w K mg base 2 "_law_error" (spX__law_error K) NMS := ⟨⟨_, fd__law_error, O__law_error, He.glo_ok X G (c.fact 16 (f := .glo "_law_error") rfl), F__law_error.kp, B__law_error⟩, fun n hn => by
    simp only [NMS, List.mem_cons, List.not_mem_nil, or_false] at hn
    rcases hn with rfl | rfl | rfl | rfl | rfl | rfl | rfl
    · exact He.glo_ok X G (c.fact 48 (f := .glo "BadWorld") rfl)
    · exact He.glo_ok X G (c.fact 49 (f := .glo "BadRota") rfl)
    · exact He.glo_ok X G (c.fact 60 (f := .glo "TooMany") rfl)
    · exact He.glo_ok X G (c.fact 59 (f := .glo "OutOf") rfl)
    · exact He.glo_ok X G (c.fact 58 (f := .glo "NoTree") rfl)
    · exact He.glo_ok X G (c.fact 61 (f := .glo "NoSuch") rfl)
    · exact He.glo_ok X G (c.fact 62 (f := .glo "Ended") rfl)⟩
  have Z__law_likeZ : CalZ P w K mg base 0 "_law_like" P__law_like0 [] (sp__law_likeZ K) := calZ_all F__law_like0 (fnOk_falseZ fun _ _ _ _ z => false_spP z) (He.glo_ok X G (c.fact 5 (f := .glo "_law_like") rfl)) fun _ _ _ _ _ _ us hl => match us, hl with | [_, _], _ => rfl
  have O__law_bag := ok__law_bag (P := P) (base := base) F__law_bag T
  have C__law_bag : Cal P w K mg base 1 "_law_bag" P__law_bag (sp__law_bag K) := mkCal F__law_bag O__law_bag (He.glo_ok X G (c.fact 0 (f := .glo "_law_bag") rfl)) fun _ _ _ _ _ _ us hl => match us, hl with | [_], _ => rfl
  have O__law_texts := ok__law_texts (P := P) (base := base) F__law_texts T kt ka tx
  have Z__law_texts : CalZ P w K mg base 1 "_law_texts" P__law_texts [] (sp__law_texts K) := calZ_all F__law_texts O__law_texts (He.glo_ok X G (c.fact 1 (f := .glo "_law_texts") rfl)) fun _ _ _ _ _ _ us hl => match us, hl with | [], _ => rfl
  have O__law_draw := ok__law_draw (P := P) (base := base) F__law_draw T
  have O__law_draw := O__law_draw.imp (sp' := sp__law_draw K) (fun vs H Q E h => draw_imp h)
  have Z__law_draw : CalZ P w K mg base 1 "_law_draw" P__law_draw [] (sp__law_draw K) := calZ_all F__law_draw O__law_draw (He.glo_ok X G (c.fact 2 (f := .glo "_law_draw") rfl)) fun _ _ _ _ _ _ us hl => match us, hl with | [_, _], _ => rfl
  have O__law_like0 := ok__law_like0 (P := P) (base := base) F__law_like0 T kt ka tx (Z__law_likeZ.mono (by decide))
  have Z__law_like0 : CalZ P w K mg base 1 "_law_like" P__law_like0 [] (sp__law_like0 K) := calZ_all F__law_like0 O__law_like0 (He.glo_ok X G (c.fact 5 (f := .glo "_law_like") rfl)) fun _ _ _ _ _ _ us hl => match us, hl with | [_, _], _ => rfl
  have O__law_plain := ok__law_plain (P := P) (base := base) F__law_plain T kt ka tx
  have Z__law_plain : CalZ P w K mg base 1 "_law_plain" P__law_plain [] (sp__law_plain K) := calZ_all F__law_plain O__law_plain (He.glo_ok X G (c.fact 6 (f := .glo "_law_plain") rfl)) fun _ _ _ _ _ _ us hl => match us, hl with | [_], _ => rfl
  have O_check_length := ok_check_length (P := P) (base := base) F_check_length T kt ka tx
  have Z_check_length : CalZ P w K mg base 1 "check_length" P_check_length [] (sp_check_length K) := calZ_all F_check_length O_check_length (He.glo_ok X G (c.fact 7 (f := .glo "check_length") rfl)) fun _ _ _ _ _ _ us hl => match us, hl with | [_], _ => rfl
  have O_world_words := ok_world_words (P := P) (base := base) F_world_words T kt ka tx
  have Z_world_words : CalZ P w K mg base 1 "world_words" P_world_words [] (sp_world_words K) := calZ_all F_world_words O_world_words (He.glo_ok X G (c.fact 8 (f := .glo "world_words") rfl)) fun _ _ _ _ _ _ us hl => match us, hl with | [_], _ => rfl
  have O__law_due := ok__law_due (P := P) (base := base) F__law_due T kt ka tx
  have Z__law_due : CalZ P w K mg base 1 "_law_due" P__law_due [] (sp__law_due K) := calZ_all F__law_due O__law_due (He.glo_ok X G (c.fact 10 (f := .glo "_law_due") rfl)) fun _ _ _ _ _ _ us hl => match us, hl with | [_, _], _ => rfl
  have O_World___eq__ := ok_World___eq__ (P := P) (base := base) F_World___eq__ T kt ka tx
  have B_World___eq__ : Binds K fd_World___eq__ P_World___eq__ [] := F_World___eq__.bindsN fun _ _ _ _ _ _ us hl => match us, hl with | [_, _], _ => rfl
  have Q_World : CalQ P w K mg base 1 (He.ga K "World") P_World___eq__ (sp_World___eq__ K) := ⟨_, fd_World___eq__, He.meth_ok (c.fact 41 (f := .meth "World" "__eq__") rfl), O_World___eq__, B_World___eq__⟩
  have O_first_strange := ok_first_strange (P := P) (base := base) F_first_strange T kt ka tx
  have Z_first_strange : CalZ P w K mg base 1 "first_strange" P_first_strange [] (sp_first_strange K) := calZ_all F_first_strange O_first_strange (He.glo_ok X G (c.fact 12 (f := .glo "first_strange") rfl)) fun _ _ _ _ _ _ us hl => match us, hl with | [_], _ => rfl
  have O_letters_of_text := ok_letters_of_text (P := P) (base := base) F_letters_of_text T kt ka tx
  have Z_letters_of_text : CalZ P w K mg base 1 "letters_of_text" P_letters_of_text [] (sp_letters_of_text K) := calZ_all F_letters_of_text O_letters_of_text (He.glo_ok X G (c.fact 14 (f := .glo "letters_of_text") rfl)) fun _ _ _ _ _ _ us hl => match us, hl with | [_], _ => rfl
  have O_Rota___eq__ := ok_Rota___eq__ (P := P) (base := base) F_Rota___eq__ T kt ka tx
  have B_Rota___eq__ : Binds K fd_Rota___eq__ P_Rota___eq__ [] := F_Rota___eq__.bindsN fun _ _ _ _ _ _ us hl => match us, hl with | [_, _], _ => rfl
  have Q_Rota : CalQ P w K mg base 1 (He.ga K "Rota") P_Rota___eq__ (sp_Rota___eq__ K) := ⟨_, fd_Rota___eq__, He.meth_ok (c.fact 39 (f := .meth "Rota" "__eq__") rfl), O_Rota___eq__, B_Rota___eq__⟩
  have O__law_of := ok__law_of (P := P) (base := base) F__law_of T kt ka tx (Z__law_draw.mono (by decide))
  have Z__law_of : CalZ P w K mg base 2 "_law_of" P__law_of [] (sp__law_of K) := calZ_all F__law_of O__law_of (He.glo_ok X G (c.fact 3 (f := .glo "_law_of") rfl)) fun _ _ _ _ _ _ us hl => match us, hl with | [_, _], _ => rfl
  have O__law_ofS := ok__law_ofS (P := P) (base := base) F__law_ofS T kt ka tx (Z__law_draw.mono (by decide))
  have Z__law_ofS : CalZ P w K mg base 2 "_law_of" P__law_ofS [] (sp__law_ofS K) := calZ_all F__law_ofS O__law_ofS (He.glo_ok X G (c.fact 3 (f := .glo "_law_of") rfl)) fun _ _ _ _ _ _ us hl => match us, hl with | [_, _], _ => rfl
  have O__law_like1 := ok__law_like1 (P := P) (base := base) F__law_like1 T kt ka tx (Z__law_like0.mono (by decide))
  have Z__law_like1 : CalZ P w K mg base 2 "_law_like" P__law_like1 [] (sp__law_like1 K) := calZ_all F__law_like1 O__law_like1 (He.glo_ok X G (c.fact 5 (f := .glo "_law_like") rfl)) fun _ _ _ _ _ _ us hl => match us, hl with | [_, _], _ => rfl
  have O_rota_fault := ok_rota_fault (P := P) (base := base) F_rota_fault T kt ka tx (Z_first_strange.mono (by decide))
  have Z_rota_fault : CalZ P w K mg base 2 "rota_fault" P_rota_fault [] (sp_rota_fault K) := calZ_all F_rota_fault O_rota_fault (He.glo_ok X G (c.fact 13 (f := .glo "rota_fault") rfl)) fun _ _ _ _ _ _ us hl => match us, hl with | [_], _ => rfl
  have O__law_bent := ok__law_bent (P := P) (base := base) F__law_bent T kt ka tx (Z__law_draw.mono (by decide)) (Z__law_ofS.mono (by decide))
  have Z__law_bent : CalZ P w K mg base 3 "_law_bent" P__law_bent [] (sp__law_bent K) := calZ_all F__law_bent O__law_bent (He.glo_ok X G (c.fact 4 (f := .glo "_law_bent") rfl)) fun _ _ _ _ _ _ us hl => match us, hl with | [_, _], _ => rfl
  have O_World___init__ := ok_World___init__ (P := P) (base := base) F_World___init__ T kt ka tx (Z_check_length.mono (by decide)) (Z_world_words.mono (by decide)) (R_BadWorld.mono (by decide))
  have B_World___init__ : Binds K fd_World___init__ P_World___init__ [] := F_World___init__.bindsN fun _ _ _ _ _ _ us hl => match us, hl with | [_, _], _ => rfl
  have I_World : CalZI P w K mg base 3 "World" (He.ga K "World") P_World___init__ (sp_World___init__ K) := ⟨_, fd_World___init__, He.mkr_ok (c.fact 37 (f := .mkr "World") rfl), O_World___init__, He.glo_ok X G (c.fact 35 (f := .glo "World") rfl), B_World___init__⟩
  have O_Rota___init__ := ok_Rota___init__ (P := P) (base := base) F_Rota___init__ T kt ka tx (Z_check_length.mono (by decide)) (Z_rota_fault.mono (by decide)) (Z_letters_of_text.mono (by decide))
  have B_Rota___init__ : Binds K fd_Rota___init__ P_Rota___init__ [] := F_Rota___init__.bindsN fun _ _ _ _ _ _ us hl => match us, hl with | [_, _], _ => rfl
  have I_Rota : CalZI P w K mg base 3 "Rota" (He.ga K "Rota") P_Rota___init__ (sp_Rota___init__ K) := ⟨_, fd_Rota___init__, He.mkr_ok (c.fact 36 (f := .mkr "Rota") rfl), O_Rota___init__, He.glo_ok X G (c.fact 34 (f := .glo "Rota") rfl), B_Rota___init__⟩
  have O__law_read := ok__law_read (P := P) (base := base) F__law_read T kt ka tx (T__law_error.mono (by decide)) (Z__law_plain.mono (by decide)) (I_World.mono (by decide))
  have Z__law_read : CalZ P w K mg base 5 "_law_read" P__law_read [] (sp__law_read K) := calZ_all F__law_read O__law_read (He.glo_ok X G (c.fact 9 (f := .glo "_law_read") rfl)) fun _ _ _ _ _ _ us hl => match us, hl with | [_], _ => rfl
  have O_World_of := ok_World_of (P := P) (base := base) F_World_of T kt ka tx (R_BadWorld.mono (by decide)) (I_World.mono (by decide))
  have B_World_of : Binds K fd_World_of P_World_of [] := F_World_of.bindsN fun _ _ _ _ _ _ us hl => match us, hl with | [_, _], _ => rfl
  have S_World_of : CalZS P w K mg base 5 (He.ga K "World") "of" P_World_of (sp_World_of K) := smZ_ok (x8) F_World_of.kp O_World_of B_World_of
  have O__law_put := ok__law_put (P := P) (base := base) F__law_put T kt ka tx (T__law_error.mono (by decide)) (Z__law_plain.mono (by decide)) (S_World_of.mono (by decide))
  have Z__law_put : CalZ P w K mg base 6 "_law_put" P__law_put [] (sp__law_put K) := calZ_all F__law_put O__law_put (He.glo_ok X G (c.fact 11 (f := .glo "_law_put") rfl)) fun _ _ _ _ _ _ us hl => match us, hl with | [_, _], _ => rfl
  rw [hP]
  exact ok_law (P := P) (base := base) F_law T kt ka tx (C__law_bag.mono (by decide)) (Z__law_texts.mono (by decide)) (Z__law_of.mono (by decide)) (Z__law_bent.mono (by decide)) (Z__law_like1.mono (by decide)) (Z__law_read.mono (by decide)) (Z__law_draw.mono (by decide)) (Z__law_due.mono (by decide)) (Z__law_put.mono (by decide)) (I_World.mono (by decide)) (S_World_of.mono (by decide)) (Q_World.mono (by decide)) (I_Rota.mono (by decide)) (Z__law_plain.mono (by decide)) (Q_Rota.mono (by decide))
end My
open PySem PySem.W PySem.Calls PyProof.Rows
theorem PySem.Challenge.cw_buriedsure_k01_worlds_told_holds : PySem.Challenge.rw_buriedsure_k01_worlds_told.Holds := by
  w_on; o_law
  refine HandSHeadRun.head_any (r := OpenLaw.row PySem.Challenge.rw_buriedsure_k01_worlds_told) (q := view (OpenLaw.row PySem.Challenge.rw_buriedsure_k01_worlds_told).prog [54]) (H := My.hk) (ob := My.ob) (M := 12000) (loose := My.loose) (d := HandSHeadRun.topDef (OpenLaw.row PySem.Challenge.rw_buriedsure_k01_worlds_told).prog 54) (kwd := []) My.ob_eq
    (by kernel_rfl) (fun s => by kernel_rfl) My.run (by kernel_rfl) (by kernel_rfl) (by kernel_rfl) (by rfl) (by first | assumption | decide +kernel) (by decide +kernel) ⟨rfl, rfl, rfl, rfl, rfl, by decide +kernel⟩ ?hw ?hc
  case hw => w_witness2
  case hc =>
    refine LamX.walk_ofTsE (l := PySem.Challenge.rw_buriedsure_k01_worlds_told) (n := 63) (k := 7) (x := "script") (CX := fun _ => L2.CX0) rfl (by decide) (by kernel_rfl) ⟨rfl, by decide, by decide⟩ ?F (fun _ _ _ _ _ z => z)
    intro w mg fa h Y G hmg0
    obtain ⟨K, KX, c⟩ := Y
    have hmg : mg ("law" : PySem.Str) = some (.ref fa) := by
      have e : (HandSHeadRun.topDef (OpenLaw.row PySem.Challenge.rw_buriedsure_k01_worlds_told).prog 54).name = ("law" : PySem.Str) := by kernel_rfl
      rw [← e]
      exact hmg0
    exact ⟨K, KX, My.facts KX G hmg c⟩
end
