import PyProof.Rows.All
import Wide.All
import OpenK.AllK
import Wide.FinOn
import HandS.ForMost
import HandS.IsInst
import HandS.FStr
import HandS.Zip
import HandS.Walk
import HandS.Codes
import HandS.Defaults
import HandS.Head0
import HandS.Head1
import HandS.Head2
import HandS.HeadEnd
import HandS.HeadHook1
import HandS.HeadHook2
import HandS.HeadHook3
import HandS.HeadHook4
import KE.GoesEnumKw
import OpenK.KWalk
import HandS.ClsMeth
import HandS.Style
import HandS.More
import HandS.RevRange
import HandS.Conv
import HandS.Steps
import HandS.Text
import HandS.MapObj
import HandS.HeadNt
import HandS.NoneIn
import HandS.ExcInit
import HandS.ExcIs
import HandS.ExcField
import HandS.HotCalls
import HandS.Nested
import HandS.Lambda
import KE.KExcSuper
import KE.KSuper
import HandS.HeadWalk
import HandS.OwnEq
import HandS.Small
import HandS.Strs
import HandS.Wide
import PyProof.StrLawsChain
import HandS.Dict
import PySem.Challenge.RW_buriedsure_k09_whole_common_blocks
section
set_option Elab.async false
set_option maxRecDepth 100000
set_option maxHeartbeats 4000000
set_option linter.all false
namespace My
open PySem L2
/-! ### calls by one bundle -/
structure Cal (P : Program) (w : World) (K : PySem.W.Frag) (mg : Str → Option Value) (base : Heap) (k : Nat) (x : Str) (ps : List Str) (sp : Sp) : Prop where
  ex : ∃ f fd, FnOk P w K mg base CX0 k f fd ps sp ∧ mg x = some (.ref f) ∧ PySem.W.keepIn K (.ref f) = true ∧ Binds K fd ps []
structure CalM (P : Program) (w : World) (K : PySem.W.Frag) (mg : Str → Option Value) (base : Heap) (k : Nat) (x : Str) (C : Addr) (ps : List Str) (sp : Sp) : Prop where
  ex : ∃ f fd, Mk K C f ∧ FnOk P w K mg base CX0 k f fd ps sp ∧ mg x = some (.ref C) ∧ Binds K fd ps []
section
variable {X : Cx} {k : Nat} {x : Str} {C : Addr} {ps : List Str} {sp : Sp} {p pos : Pos} {e : Expr} {es : List Expr} {t : TA}
theorem pe_callC (c : Cal X.prog X.w X.K X.mg X.base k x ps sp) (hr : Room k X.A) (hg : Gl X x) (ha : PA X (e :: es) t) (hdb : (x == ("__debug__" : Str)) = false := by decide)
    (he : starEach (e :: es) X.env = (false, eval e X.env) :: starEach es X.env := by rfl) (hpl : (backTo pos (starEach es X.env)).any (·.1) = false := by rfl) : PE X (.Call (.Name x p) (e :: es) [] pos) (tCall sp [] E0 t) := by
  obtain ⟨f, fd, F, hm, hk, hb⟩ := c.ex
  exact pe_call F hr hg hm hk hb .nil pass0 ha hdb he hpl
theorem pe_callC0 (c : Cal X.prog X.w X.K X.mg X.base k x ps sp) (hr : Room k X.A) (hg : Gl X x) (hdb : (x == ("__debug__" : Str)) = false := by decide) : PE X (.Call (.Name x p) [] [] pos) (tCall sp [] E0 tNil) := by
  obtain ⟨f, fd, F, hm, hk, hb⟩ := c.ex
  exact pe_call0 F hr hg hm hk hb .nil pass0 hdb
theorem pe_makeC (c : CalM X.prog X.w X.K X.mg X.base k x C ps sp) (hr : Room (k + 1) X.A) (hg : Gl X x) (ha : PA X (e :: es) t) (hdb : (x == ("__debug__" : Str)) = false := by decide)
    (he : starEach (e :: es) X.env = (false, eval e X.env) :: starEach es X.env := by rfl) (hpl : (backTo pos (starEach es X.env)).any (·.1) = false := by rfl) : PE X (.Call (.Name x p) (e :: es) [] pos) (tMake C sp [] E0 t) := by
  obtain ⟨f, fd, M, F, hm, hb⟩ := c.ex
  exact pe_make M F hr hg hm hb .nil pass0 ha hdb he hpl
end
theorem Cal.mono {P : Program} {w : World} {K : PySem.W.Frag} {mg : Str → Option Value} {base : Heap} {j k : Nat} {x : Str} {ps : List Str} {sp : Sp} (c : Cal P w K mg base j x ps sp) (h : j ≤ k) : Cal P w K mg base k x ps sp := by
  obtain ⟨f, fd, F, a⟩ := c.ex
  exact ⟨f, fd, F.mono h, a⟩
theorem CalM.mono {P : Program} {w : World} {K : PySem.W.Frag} {mg : Str → Option Value} {base : Heap} {j k : Nat} {x : Str} {C : Addr} {ps : List Str} {sp : Sp} (c : CalM P w K mg base j x C ps sp) (h : j ≤ k) : CalM P w K mg base k x C ps sp := by
  obtain ⟨f, fd, M, F, a⟩ := c.ex
  exact ⟨f, fd, M, F.mono h, a⟩

/-! ### named operators -/
def rPlus : R2 := rI0 fun i j => .int (i + j)
def rMinus : R2 := rI0 fun i j => .int (i - j)
def rTimes : R2 := rI CMul fun i j => .int (i * j)
def rModP : R2 := rI (fun _ j => 0 < j) fun i j => .int (i % j)
def rFdivN : R2 := rI CDivN fun i j => .int (i.fdiv j)
def rPow0 : R2 := rI CPow fun i j => .int (i ^ j.toNat)
def rLt0 : R2 := rI0 fun i j => .bl (decide (i < j))
def rLe0 : R2 := rI0 fun i j => .bl (decide (i ≤ j))
def rGt0 : R2 := rI0 fun i j => .bl (decide (j < i))
def rGe0 : R2 := rI0 fun i j => .bl (decide (j ≤ i))
def rIsN0 : R2 := fun x y H Q => y = .non ∧ Q (.bl (decide (x = .non))) H
def rNotN0 : R2 := fun x y H Q => y = .non ∧ Q (.bl (!decide (x = .non))) H
def rAddS : R2 := fun x y H Q => ∃ i j, x = .str i ∧ y = .str j ∧ i.length + j.length ≤ sizeLine ∧ Q (.str (i ++ j)) H
def uNeg : V → Hp → VK → Prop := rU fun i => .int (-i)
def bInt : List V → Hp → VK → Prop := fun xs H Q => (∃ i, xs = [.int i] ∧ Q (.int i) H) ∨ ∃ k, xs = [.bl k] ∧ Q (.int (if k then 1 else 0)) H
def bMax2 : List V → Hp → VK → Prop := fun xs H Q => ∃ i j, xs = [.int i, .int j] ∧ Q (.int (if j > i then j else i)) H
def bMin2 : List V → Hp → VK → Prop := fun xs H Q => ∃ i j, xs = [.int i, .int j] ∧ Q (.int (if j < i then j else i)) H
def bAbs : List V → Hp → VK → Prop := fun xs H Q => ∃ i, xs = [.int i] ∧ Q (.int (if i < 0 then -i else i)) H
def bStr : List V → Hp → VK → Prop := fun xs H Q => ∃ i, xs = [.int i] ∧ i.natAbs.log2 < 1920 ∧ Q (.str (Str.ofString (toString i))) H
def bLen (K : PySem.W.Frag) : List V → Hp → VK → Prop := fun xs H Q => ∃ p ys, xs = [V.ref p] ∧ (SqL K H p ys ∨ SqT K H p ys) ∧ Q (.int (ys.length : Int)) H
def bList (K : PySem.W.Frag) : List V → Hp → VK → Prop := fun xs H Q => ∃ p ys, xs = [V.ref p] ∧ (SqL K H p ys ∨ SqT K H p ys) ∧ ∀ l, H l = none → Q (.ref l) (upd H l (.lst ys))
def bTuple (K : PySem.W.Frag) : List V → Hp → VK → Prop := fun xs H Q => ∃ p ys, xs = [V.ref p] ∧ ((SqL K H p ys ∧ ∀ l, H l = none → Q (.ref l) (upd H l (.tup ys))) ∨ SqT K H p ys ∧ Q (.ref p) H)
def mJoin (K : PySem.W.Frag) : V → List V → Hp → VK → Prop := fun x xs H Q => ∃ a p ys, x = .str a ∧ xs = [.ref p] ∧ (SqL K H p (ys.map V.str) ∨ SqT K H p (ys.map V.str)) ∧ (ys.map (·.length)).sum + ys.length * a.length ≤ 16777216 ∧ Q (.str (Txt.join a ys)) H
def tTru (K : PySem.W.Frag) (ta : TE) : TT := fun σ H Q => ta σ H fun x H' => ∃ k, TruV K x H' k ∧ Q k H'
def tJoin (ts : List TE) : TE := fun σ H Q => tJs ts Str.empty σ H fun out H1 => Q (.str out) H1
def rItemS : R2 := fun x y H Q => ∃ z i c, x = .str z ∧ y = .int i ∧ 0 ≤ i ∧ i < 2 ^ 63 ∧ i < (z.length : Int) ∧ z.cps[i.toNat]? = some c ∧ Q (.str { cps := #[c] }) H

/-! ### steps: statements -/
section
variable {t u : TS} {c ta tt : TT} {D : Ends} {σ : St} {H : Hp} {te tf : TE} {g : TG} {gs : TGs} {i j n : Nat} {x y v : V} {xs ys : List V} {Q : VK} {R : St → Hp → Prop} {K : PySem.W.Frag} {a b p l : Addr} {B : Bool → Hp → Prop} {LQ : List V → Hp → Prop} {tas tar : TA}
theorem s_seq (h : t { D with nx := u D } σ H) : tSeq t u D σ H := h
theorem s_cut (M : St → Hp → Prop) (h : t { D with nx := M } σ H) (k : ∀ σ' H', M σ' H' → u D σ' H') : C8.tCut t u D σ H := ⟨M, h, k⟩
theorem s_asg (h : te σ H fun x H1 => g x σ H1 D.nx) : tAsg te g D σ H := h
theorem s_ret (h : te σ H D.rt) : tRet te D σ H := h
theorem s_retN (h : D.rt .non H) : tRetN D σ H := h
theorem s_drop (h : te σ H fun _ H1 => D.nx σ H1) : tDrop te D σ H := h
theorem s_next (h : D.nx σ H) : tNext D σ H := h
theorem s_if (h : c σ H fun b H1 => if b = true then t D σ H1 else u D σ H1) : tIfS c t u D σ H := h
theorem s_par (h : tas σ H fun vs H1 => ∃ v w, vs = [v, w] ∧ D.nx ((σ.set i (some v)).set j (some w)) H1) : tPar i j tas D σ H := h
theorem s_brk (h : D.bk σ H) : tBreak D σ H := h
theorem s_cont (h : D.ct σ H) : tCont D σ H := h
theorem x_par {w : V} {P : V → V → Prop} (h : P v w) : ∃ v' w', [v, w] = [v', w'] ∧ P v' w' := ⟨v, w, rfl, h⟩
theorem g_name (h : R (σ.set i (some v)) H) : gName i v σ H R := h
theorem g_tup (h : SqT K H a xs) (hl : xs.length = n) (q : gs xs σ H R) : gTup K n gs (.ref a) σ H R := ⟨a, xs, rfl, h, hl, q⟩
theorem g_cons (h : g x σ H fun σ' H' => gs xs σ' H' R) : gCons g gs (x :: xs) σ H R := ⟨x, xs, rfl, h⟩
theorem g_nil (h : R σ H) : gNil [] σ H R := ⟨rfl, h⟩
theorem g_sub {to ti : TE} {ts : TSet} (h : to σ H fun o H1 => ti σ H1 fun i H2 => ts o i v H2 fun H3 => R σ H3) : gSub to ti ts v σ H R := h
/-! ### expressions -/
theorem e_var (h : σ[i]? = some (some v)) (q : Q v H) : tVar i σ H Q := ⟨v, h, q⟩
theorem e_c (q : Q v H) : tC v σ H Q := q
theorem e_op {r : R2} (h : te σ H fun x H1 => tf σ H1 fun y H2 => r x y H2 Q) : tOp r te tf σ H Q := h
theorem e_un {r : V → Hp → VK → Prop} (h : te σ H fun x H1 => r x H1 Q) : tUn r te σ H Q := h
theorem e_if (h : c σ H fun b H1 => if b = true then te σ H1 Q else tf σ H1 Q) : tIf c te tf σ H Q := h
theorem e_tup (h : tas σ H fun xs H1 => xs.length ≤ sizeLine ∧ ∀ p, H1 p = none → Q (.ref p) (upd H1 p (.tup xs))) : tTup tas σ H Q := h
theorem e_lst (h : tas σ H fun xs H1 => xs.length ≤ sizeLine ∧ ∀ p, H1 p = none → Q (.ref p) (upd H1 p (.lst xs))) : tLst tas σ H Q := h
theorem e_call {sp : Sp} {E : XK} (h : tas σ H fun vs H1 => sp (vs ++ []) H1 Q E) : tCall sp [] E tas σ H Q := h
theorem e_cb {r : List V → Hp → VK → Prop} (h : tas σ H fun vs H1 => r vs H1 Q) : tCB r tas σ H Q := h
theorem e_bm {T : String} {r : V → List V → Hp → VK → Prop} (h : te σ H fun x H1 => tyV K T x H1 ∧ tas σ H1 fun xs H2 => r x xs H2 Q) : tBM K T r te tas σ H Q := h
theorem e_bm0 {T : String} {r : V → List V → Hp → VK → Prop} (h : te σ H fun x H1 => tyV K T x H1 ∧ r x [] H1 Q) : tBM0 K T r te σ H Q := h
theorem e_sl {r : V → Option Int → Option Int → Hp → VK → Prop} {tl th : TO} (h : te σ H fun x H1 => tl σ H1 fun l H2 => th σ H2 fun u H3 => r x l u H3 Q) : tSl r te tl th σ H Q := h
theorem o_no {R : Option Int → Hp → Prop} (h : R none H) : tNoPart σ H R := h
theorem o_part {R : Option Int → Hp → Prop} (h : te σ H fun x H1 => ∃ i, x = .int i ∧ R (some i) H1) : tPart te σ H R := h
theorem x_part {P : Int → Prop} {i : Int} (h : P i) : ∃ i', V.int i = .int i' ∧ P i' := ⟨i, rfl, h⟩
theorem e_and (h : te σ H fun x H1 => ∃ c, x = .bl c ∧ if c = true then tf σ H1 Q else Q (.bl false) H1) : tAndV te tf σ H Q := h
theorem e_or (h : te σ H fun x H1 => ∃ c, x = .bl c ∧ if c = true then Q (.bl true) H1 else tf σ H1 Q) : tOrV te tf σ H Q := h
theorem e_not (h : te σ H fun x H1 => ∃ c, x = .bl c ∧ Q (.bl (!c)) H1) : tNotV te σ H Q := h
theorem e_fld {f : Str} (h : te σ H fun x H1 => ∃ a C dx fs v, x = .ref a ∧ H1 a = some (.ins C dx fs) ∧ Cls K C ∧ NoAttr K C f ∧ fs.lookup f = some v ∧ Q v H1) : tFld K te f σ H Q := h
theorem s_fld {f : Str} (h : tf σ H fun y H1 => te σ H1 fun x H2 => ∃ a C dx fs, x = .ref a ∧ H2 a = some (.ins C dx fs) ∧ Cls K C ∧ NoAttr K C f ∧ fs.length < 1000 ∧ D.nx σ (upd H2 a (.ins C dx (putF f y fs)))) : sFld K te tf f D σ H := h
theorem a_nil (q : LQ [] H) : tNil σ H LQ := q
theorem a_cons (h : te σ H fun x H1 => tas σ H1 fun xs H2 => LQ (x :: xs) H2) : tCons te tas σ H LQ := h
/-! ### tests -/
theorem t_test (h : te σ H fun x H' => ∃ k, x = .bl k ∧ B k H') : tTest te σ H B := h
theorem t_b (h : te σ H fun x H1 => ∃ c, x = .bl c ∧ B c H1) : tB te σ H B := h
theorem t_and (h : c σ H fun d H1 => if d = true then tt σ H1 B else B false H1) : tAnd c tt σ H B := h
theorem t_or (h : c σ H fun d H1 => if d = true then B true H1 else tt σ H1 B) : tOr c tt σ H B := h
theorem t_not (h : c σ H fun d H1 => B (!d) H1) : tNot c σ H B := h
theorem t_tru (h : te σ H fun x H' => ∃ k, TruV K x H' k ∧ B k H') : tTru K te σ H B := h
theorem x_bl {R : Bool → Hp → Prop} {k : Bool} (h : R k H) : ∃ k', V.bl k = .bl k' ∧ R k' H := ⟨k, rfl, h⟩
theorem x_blE {R : Bool → Prop} {k : Bool} (h : R k) : ∃ k', V.bl k = .bl k' ∧ R k' := ⟨k, rfl, h⟩
theorem x_trT {P : Bool → Prop} (h : SqT K H p xs) (q : P (!xs.isEmpty)) : ∃ k, TruV K (.ref p) H k ∧ P k := ⟨_, Or.inr (Or.inl ⟨xs, h, rfl⟩), q⟩
theorem x_trL {P : Bool → Prop} (h : SqL K H p xs) (q : P (!xs.isEmpty)) : ∃ k, TruV K (.ref p) H k ∧ P k := ⟨_, Or.inl ⟨xs, h, rfl⟩, q⟩
theorem x_trB {P : Bool → Prop} {d : Bool} (q : P d) : ∃ k, TruV K (.bl d) H k ∧ P k := ⟨_, rfl, q⟩
theorem i_dec {p : Prop} [Decidable p] {A B : Prop} (h1 : p → A) (h2 : ¬ p → B) : if decide p = true then A else B := by
  by_cases h : p
  · rw [if_pos (decide_eq_true h)]; exact h1 h
  · rw [if_neg (by rw [decide_eq_false h]; exact Bool.false_ne_true)]; exact h2 h
theorem i_ndec {p : Prop} [Decidable p] {A B : Prop} (h1 : ¬ p → A) (h2 : p → B) : if (!decide p) = true then A else B := by
  by_cases h : p
  · rw [decide_eq_true h, if_neg (by exact Bool.false_ne_true)]; exact h2 h
  · rw [decide_eq_false h, Bool.not_false, if_pos rfl]; exact h1 h
theorem i_t {A B : Prop} (h : A) : if true = true then A else B := by rw [if_pos rfl]; exact h
theorem i_f {A B : Prop} (h : B) : if false = true then A else B := by rw [if_neg Bool.false_ne_true]; exact h
theorem i_nt {A B : Prop} (h : B) : if (!true) = true then A else B := i_f h
theorem i_nf {A B : Prop} (h : A) : if (!false) = true then A else B := i_t h
theorem i_b {d : Bool} {A B : Prop} (h1 : d = true → A) (h2 : d = false → B) : if d = true then A else B := by
  cases d
  · exact i_f (h2 rfl)
  · exact i_t (h1 rfl)
/-! ### operators -/
theorem r_0 {g : Int → Int → V} {i j : Int} (q : Q (g i j) H) : rI0 g (.int i) (.int j) H Q := ⟨i, j, rfl, rfl, q⟩
theorem r_1 {C : Int → Int → Prop} {g : Int → Int → V} {i j : Int} (h : C i j) (q : Q (g i j) H) : rI C g (.int i) (.int j) H Q := ⟨i, j, rfl, rfl, h, q⟩
theorem r_plus {i j : Int} (q : Q (.int (i + j)) H) : rPlus (.int i) (.int j) H Q := r_0 q
theorem r_minus {i j : Int} (q : Q (.int (i - j)) H) : rMinus (.int i) (.int j) H Q := r_0 q
theorem r_times {i j : Int} (h : CMul i j) (q : Q (.int (i * j)) H) : rTimes (.int i) (.int j) H Q := r_1 h q
theorem r_mod {i j : Int} (h : 0 < j) (q : Q (.int (i % j)) H) : rModP (.int i) (.int j) H Q := r_1 h q
theorem r_fdiv {i j : Int} (h : CDivN i j) (q : Q (.int (i.fdiv j)) H) : rFdivN (.int i) (.int j) H Q := r_1 h q
theorem r_pow {i j : Int} (h : CPow i j) (q : Q (.int (i ^ j.toNat)) H) : rPow0 (.int i) (.int j) H Q := r_1 h q
theorem r_lt {i j : Int} (q : Q (.bl (decide (i < j))) H) : rLt0 (.int i) (.int j) H Q := r_0 q
theorem r_le {i j : Int} (q : Q (.bl (decide (i ≤ j))) H) : rLe0 (.int i) (.int j) H Q := r_0 q
theorem r_gt {i j : Int} (q : Q (.bl (decide (j < i))) H) : rGt0 (.int i) (.int j) H Q := r_0 q
theorem r_ge {i j : Int} (q : Q (.bl (decide (j ≤ i))) H) : rGe0 (.int i) (.int j) H Q := r_0 q
theorem dec_int {i j : Int} : decide (V.int i = V.int j) = decide (i = j) := by
  by_cases h : i = j
  · rw [decide_eq_true h, decide_eq_true (congrArg V.int h)]
  · rw [decide_eq_false h, decide_eq_false (fun e => h (V.int.inj e))]
theorem dec_bl {i j : Bool} : decide (V.bl i = V.bl j) = decide (i = j) := by
  by_cases h : i = j
  · rw [decide_eq_true h, decide_eq_true (congrArg V.bl h)]
  · rw [decide_eq_false h, decide_eq_false (fun e => h (V.bl.inj e))]
theorem dec_str {i j : Str} : decide (V.str i = V.str j) = decide (i = j) := by
  by_cases h : i = j
  · rw [decide_eq_true h, decide_eq_true (congrArg V.str h)]
  · rw [decide_eq_false h, decide_eq_false (fun e => h (V.str.inj e))]
theorem r_eqI {i j : Int} (q : Q (.bl (decide (i = j))) H) : rEq (.int i) (.int j) H Q := ⟨rfl, by rw [dec_int]; exact q⟩
theorem r_eqB {i j : Bool} (q : Q (.bl (decide (i = j))) H) : rEq (.bl i) (.bl j) H Q := ⟨rfl, by rw [dec_bl]; exact q⟩
theorem r_eqS {i j : Str} (q : Q (.bl (decide (i = j))) H) : rEq (.str i) (.str j) H Q := ⟨rfl, by rw [dec_str]; exact q⟩
theorem r_neI {i j : Int} (q : Q (.bl (!decide (i = j))) H) : rNe (.int i) (.int j) H Q := ⟨rfl, by rw [dec_int]; exact q⟩
theorem r_neB {i j : Bool} (q : Q (.bl (!decide (i = j))) H) : rNe (.bl i) (.bl j) H Q := ⟨rfl, by rw [dec_bl]; exact q⟩
theorem r_neS {i j : Str} (q : Q (.bl (!decide (i = j))) H) : rNe (.str i) (.str j) H Q := ⟨rfl, by rw [dec_str]; exact q⟩
theorem r_isNi {i : Int} (q : Q (.bl false) H) : rIsN0 (.int i) .non H Q := ⟨rfl, q⟩
theorem r_isNr (q : Q (.bl false) H) : rIsN0 (.ref a) .non H Q := ⟨rfl, q⟩
theorem r_isNs {z : Str} (q : Q (.bl false) H) : rIsN0 (.str z) .non H Q := ⟨rfl, q⟩
theorem r_isNb {d : Bool} (q : Q (.bl false) H) : rIsN0 (.bl d) .non H Q := ⟨rfl, q⟩
theorem r_isNn (q : Q (.bl true) H) : rIsN0 .non .non H Q := ⟨rfl, q⟩
theorem r_notNi {i : Int} (q : Q (.bl true) H) : rNotN0 (.int i) .non H Q := ⟨rfl, q⟩
theorem r_notNr (q : Q (.bl true) H) : rNotN0 (.ref a) .non H Q := ⟨rfl, q⟩
theorem r_notNn (q : Q (.bl false) H) : rNotN0 .non .non H Q := ⟨rfl, q⟩
theorem r_neg {i : Int} (q : Q (.int (-i)) H) : uNeg (.int i) H Q := ⟨i, rfl, q⟩
theorem atI_nn {α : Type} {xs : List α} {i : Int} {v : α} (h0 : 0 ≤ i) (ha : xs[i.toNat]? = some v) : atI xs i = some v := by
  obtain ⟨n, rfl⟩ := Int.eq_ofNat_of_zero_le h0
  exact atI_nat ha
theorem ixN_nn {i : Int} {n k : Nat} (h0 : 0 ≤ i) (hk : i.toNat = k) (h : k < n) : ixN n i = some k := by
  obtain ⟨m, rfl⟩ := Int.eq_ofNat_of_zero_le h0
  have : m = k := by rw [← hk]; rfl
  rw [this]
  unfold ixN
  rw [if_pos (Int.natCast_nonneg k), if_pos (by omega)]
  simp
theorem r_ixL {i : Int} (h : SqL K H p xs) (h0 : 0 ≤ i) (ha : xs[i.toNat]? = some v) (q : Q v H) : rIxL K (.ref p) (.int i) H Q := ⟨p, xs, i, v, rfl, rfl, h, atI_nn h0 ha, q⟩
theorem r_ixT {i : Int} (h : SqT K H p xs) (h0 : 0 ≤ i) (ha : xs[i.toNat]? = some v) (q : Q v H) : rIxT K (.ref p) (.int i) H Q := ⟨p, xs, i, v, rfl, rfl, h, atI_nn h0 ha, q⟩
theorem r_set {k : Int} (h : H p = some (.lst xs)) (h0 : 0 ≤ k) (hk : k.toNat = j) (hj : j < xs.length) {R : Hp → Prop} (q : R (upd H p (.lst (xs.set j v)))) : rSetL (.ref p) (.int k) v H R := ⟨p, xs, k, j, rfl, rfl, h, ixN_nn h0 hk hj, q⟩
theorem r_app (h : H p = some (.lst xs)) (hl : xs.length < sizeLine) (q : Q .non (upd H p (.lst (xs ++ [y])))) : rAppend (.ref p) [y] H Q := ⟨p, xs, y, rfl, rfl, h, hl, q⟩
theorem r_ext (h : H p = some (.lst xs)) (h2 : H b = some (.lst ys)) (hl : xs.length + ys.length ≤ sizeLine) (q : Q .non (upd H p (.lst (xs ++ ys)))) : rExtend (.ref p) [.ref b] H Q := ⟨p, b, xs, ys, rfl, rfl, h, h2, hl, q⟩
theorem r_popAt {i : Int} {k : Nat} (h : H p = some (.lst xs)) (h1 : -(2 ^ 63) ≤ i) (h2 : i < 2 ^ 63) (h3 : seqIndex? i xs.length = some k) (h4 : xs[k]? = some y) (q : Q y (upd H p (.lst (xs.eraseIdx k)))) : rPopAt (.ref p) [.int i] H Q := ⟨p, xs, i, k, y, rfl, rfl, h, h1, h2, h3, h4, q⟩
theorem r_cat (h : H p = some (.lst xs)) (h2 : H b = some (.lst ys)) (hl : xs.length + ys.length ≤ sizeLine) (q : ∀ l, H l = none → Q (.ref l) (upd H l (.lst (xs ++ ys)))) : rCat (.ref p) (.ref b) H Q := ⟨p, b, xs, ys, rfl, rfl, h, h2, hl, q⟩
theorem r_slL {lo hi : Option Int} (h : SqL K H p xs) (q : ∀ l, H l = none → Q (.ref l) (upd H l (.lst (cutV xs lo hi)))) : rSlL K (.ref p) lo hi H Q := ⟨p, xs, rfl, h, q⟩
theorem b_int {i : Int} (q : Q (.int i) H) : bInt [.int i] H Q := .inl ⟨i, rfl, q⟩
theorem b_max2 {i j : Int} (q : Q (.int (if j > i then j else i)) H) : bMax2 [.int i, .int j] H Q := ⟨i, j, rfl, q⟩
theorem b_min2 {i j : Int} (q : Q (.int (if j < i then j else i)) H) : bMin2 [.int i, .int j] H Q := ⟨i, j, rfl, q⟩
theorem b_str {i : Int} (h : i.natAbs.log2 < 1920) (q : Q (.str (Str.ofString (toString i))) H) : bStr [.int i] H Q := ⟨i, rfl, h, q⟩
theorem b_lenL (h : SqL K H p xs) (q : Q (.int (xs.length : Int)) H) : bLen K [.ref p] H Q := ⟨p, xs, rfl, .inl h, q⟩
theorem b_lenT (h : SqT K H p xs) (q : Q (.int (xs.length : Int)) H) : bLen K [.ref p] H Q := ⟨p, xs, rfl, .inr h, q⟩
theorem b_listL (h : SqL K H p xs) (q : ∀ l, H l = none → Q (.ref l) (upd H l (.lst xs))) : bList K [.ref p] H Q := ⟨p, xs, rfl, .inl h, q⟩
theorem b_tupL (h : SqL K H p xs) (q : ∀ l, H l = none → Q (.ref l) (upd H l (.tup xs))) : bTuple K [.ref p] H Q := ⟨p, xs, rfl, .inl ⟨h, q⟩⟩
theorem b_tupT (h : SqT K H p xs) (q : Q (.ref p) H) : bTuple K [.ref p] H Q := ⟨p, xs, rfl, .inr ⟨h, q⟩⟩
theorem ty_list (h : SqL K H p xs) : tyV K "list" (.ref p) H := .inl ⟨rfl, xs, h⟩
theorem ty_str {z : Str} : tyV K "str" (.str z) H := rfl
theorem x_tl {A : Prop} (h : SqL K H p xs) (q : A) : tyV K "list" (.ref p) H ∧ A := ⟨ty_list h, q⟩
theorem x_ts {z : Str} {A : Prop} (q : A) : tyV K "str" (.str z) H ∧ A := ⟨rfl, q⟩
theorem x_isi {x c : V} {t u : Value} {d : Bool} (hc : ClsV c u) (ht : TyX K H x t) (hk : PySem.W.kitOne K t u = some d) (q : Q (.bl d) H) : rIsi K [x, c] H Q := ⟨x, c, t, u, d, rfl, hc, ht, hk, q⟩
end
/-! ### frames -/
/-- all that was tracked stands as it was, but at a -/
def Sb (a : Addr) (H H' : Hp) : Prop := ∀ b o, b ≠ a → H b = some o → H' b = some o
theorem Sb.refl (a : Addr) (H : Hp) : Sb a H H := fun _ _ _ h => h
theorem Sb.trans {a : Addr} {H H1 H2 : Hp} (x : Sb a H H1) (y : Sb a H1 H2) : Sb a H H2 := fun b o n h => y b o n (x b o n h)
theorem Sb.new {a : Addr} {H H1 : Hp} {p : Addr} {o : HO} (x : Sb a H H1) (h : H1 p = none) : Sb a H (upd H1 p o) := fun b u n e => by
  rw [upd_ne (ne_of_none (x b u n e) h)]
  exact x b u n e
theorem Sb.mut {a : Addr} {H H1 : Hp} {p : Addr} {o : HO} (x : Sb a H H1) (h : H p = none) : Sb a H (upd H1 p o) := fun b u n e => by
  rw [upd_ne (ne_of_none e h)]
  exact x b u n e
theorem Sb.own {a : Addr} {H H1 : Hp} {o : HO} (x : Sb a H H1) : Sb a H (upd H1 a o) := fun b u n e => by
  rw [upd_ne n]
  exact x b u n e
theorem Sb.same {a : Addr} {H H1 : Hp} (x : Same H H1) : Sb a H H1 := fun b o _ h => x b o h
theorem Same.sb {a : Addr} {H H1 : Hp} (x : Same H H1) : Sb a H H1 := fun b o _ h => x b o h
theorem Same.new {H H1 : Hp} {p : Addr} {o : HO} (x : Same H H1) (h : H1 p = none) : Same H (upd H1 p o) := fun b u e => by
  rw [upd_ne (ne_of_none (x b u e) h)]
  exact x b u e
theorem Same.mut {H H1 : Hp} {p : Addr} {o : HO} (x : Same H H1) (h : H p = none) : Same H (upd H1 p o) := fun b u e => by
  rw [upd_ne (ne_of_none e h)]
  exact x b u e
theorem Sb.free {a : Addr} {H H' : Hp} (e : Sb a H H') {l : Addr} (n : l ≠ a) (h : H' l = none) : H l = none := by
  cases q : H l with
  | none => rfl
  | some o =>
    rw [e l o n q] at h
    cases h
theorem SqL.at {K : PySem.W.Frag} {H : Hp} {a : Addr} {xs : List V} (h : H a = some (.lst xs)) : SqL K H a xs := L2.SqL.of h
theorem SqT.at {K : PySem.W.Frag} {H : Hp} {a : Addr} {xs : List V} (h : H a = some (.tup xs)) : SqT K H a xs := L2.SqT.of h
/-! ### finding an index -/
theorem ixN_nat {n i : Nat} (h : i < n) : ixN n (i : Int) = some i := by
  unfold ixN
  first
    | (simp; omega)
    | (rw [if_pos (by omega)]; simp; omega)
theorem atI_at {α : Type} {xs : List α} {i : Nat} {v : α} (h : xs[i]? = some v) : atI xs (i : Int) = some v := by
  have hi : i < xs.length := (List.getElem?_eq_some_iff.mp h).1
  unfold atI
  rw [ixN_nat hi]
  exact h
/-! ### more steps -/
theorem upd_at {H : Hp} {p b : Addr} {o : HO} {u : Option HO} (n : b ≠ p) (h : H b = u) : upd H p o b = u := by rw [upd_ne n]; exact h
theorem sb_at {a b : Addr} {H H' : Hp} {o : HO} (s : Sb a H H') (n : b ≠ a) (h : H b = some o) : H' b = some o := s b o n h
theorem same_at {b : Addr} {H H' : Hp} {o : HO} (s : Same H H') (h : H b = some o) : H' b = some o := s b o h
theorem ne_new {H : Hp} {b p : Addr} {o : HO} (n : H p = none) (h : H b = some o) : b ≠ p := ne_of_none h n
theorem ne_new' {H : Hp} {b p : Addr} {o : HO} (n : H p = none) (h : H b = some o) : p ≠ b := (ne_of_none h n).symm
theorem ne_tl {H : Hp} {a b : Addr} {xs ys : List V} (h : H b = some (.tup xs)) (g : H a = some (.lst ys)) : b ≠ a := ne_of h g (by intro z; cases z)
theorem ne_lt {H : Hp} {a b : Addr} {xs ys : List V} (h : H b = some (.lst xs)) (g : H a = some (.tup ys)) : b ≠ a := ne_of h g (by intro z; cases z)
theorem SqL.mono {K : PySem.W.Frag} {H H' : Hp} {a : Addr} {xs : List V} (h : SqL K H a xs) (s : Same H H') : SqL K H' a xs := s.seq h
theorem s_for {wi : TI} {g : TG} {tb : TS} {D : Ends} {σ : L2.St} {H : Hp} (h : wi σ H fun J H1 => ∃ W : Nat → Nat → L2.St → Hp → Prop, (∃ m, W 0 m σ H1) ∧ ∀ i m σ H, W i m σ H →
  (J.stop i H ∧ D.nx σ H) ∨ (J.go i H ∧ ∃ N : L2.St → Hp → Prop, (∀ σ' H', N σ' H' → ∃ m', m' < m ∧ W (i + 1) m' σ' H') ∧ ∀ x H', J.yld i H x H' → g x σ H' fun σ2 H2 => tb { D with nx := N, ct := N, bk := D.nx } σ2 H2)) : tFor wi g tb D σ H := h
theorem i_tup {K : PySem.W.Frag} {te : TE} {σ : L2.St} {H : Hp} {R : It → Hp → Prop} (h : te σ H fun x H1 => ∃ a, x = .ref a ∧ (∃ xs, SqT K H1 a xs) ∧ R (Itt K a) H1) : iTup K te σ H R := h
theorem i_list {K : PySem.W.Frag} {te : TE} {σ : L2.St} {H : Hp} {R : It → Hp → Prop} (h : te σ H fun x H1 => ∃ a, x = .ref a ∧ (∃ xs, SqL K H1 a xs) ∧ R (Itl K a) H1) : iList K te σ H R := h
theorem i_rng1 {ta : TA} {σ : L2.St} {H : Hp} {R : It → Hp → Prop} (h : ta σ H fun vs H1 => ∃ j : Int, vs = [.int j] ∧ -(2 ^ 62) ≤ j ∧ j < 2 ^ 62 ∧ R (Itr 0 j.toNat) H1) : iRng1 ta σ H R := h
theorem i_rng2 {ta : TA} {σ : L2.St} {H : Hp} {R : It → Hp → Prop} (h : ta σ H fun vs H1 => ∃ i j : Int, vs = [.int i, .int j] ∧ (-(2 ^ 62) ≤ i ∧ i < 2 ^ 62 ∧ -(2 ^ 62) ≤ j ∧ j < 2 ^ 62) ∧ R (Itr i (j - i).toNat) H1) : iRng2 ta σ H R := h
theorem i_zip {K : PySem.W.Frag} {ta : TA} {σ : L2.St} {H : Hp} {R : It → Hp → Prop} (h : ta σ H fun vs H1 => ∃ a b xs ys, vs = [.ref a, .ref b] ∧ ((SqL K H1 a xs ∧ SqL K H1 b ys ∧ R (Itz K a b) H1) ∨ (SqT K H1 a xs ∧ SqT K H1 b ys ∧ R (RZ.ItzT K a b) H1))) : RZ.iZipA K ta σ H R := h
theorem e_join {ts : List TE} {σ : L2.St} {H : Hp} {Q : VK} (h : tJs ts Str.empty σ H fun out H1 => Q (.str out) H1) : tJoin ts σ H Q := h
theorem j_nil {acc : Str} {σ : L2.St} {H : Hp} {R : Str → Hp → Prop} (h : R acc H) : tJs [] acc σ H R := h
theorem j_cons {t : TE} {ts : List TE} {acc : Str} {σ : L2.St} {H : Hp} {R : Str → Hp → Prop} (h : t σ H fun x H1 => ∃ y : Str, x = .str y ∧ (acc ++ y).length ≤ sizeLine ∧ tJs ts (acc ++ y) σ H1 R) : tJs (t :: ts) acc σ H R := h
theorem mapI_get {ns : List Int} {i : Nat} {x : V} (h : (ns.map V.int)[i]? = some x) : ∃ n, x = V.int n ∧ ns[i]? = some n := by
  rw [List.getElem?_map] at h
  cases e : ns[i]? with
  | none => rw [e] at h; cases h
  | some n => rw [e] at h; exact ⟨n, (Option.some.inj h).symm, rfl⟩
theorem e_lc {wi : TI} {g : TG} {tt : TT} {te : TE} {vs : List Nat} {σ : L2.St} {H : Hp} {Q : VK} (h : wi σ H fun J H1 => ∀ D, H1 D = none → ∃ W : Nat → Nat → Hp → Prop, (∃ m, W 0 m (upd H1 D (.lst []))) ∧ ∀ i m H, W i m H →
  (J.stop i H ∧ Q (.ref D) H) ∨ (J.go i H ∧ ∃ Nx : Hp → Prop, (∀ H', Nx H' → ∃ m', m' < m ∧ W (i + 1) m' H') ∧ ∀ x H', J.yld i H x H' → g x (wipe σ vs) H' fun σ2 H2 => wipe σ2 vs = wipe σ vs ∧ tt σ2 H2 fun b H3 =>
    if b = true then te σ2 H3 fun y H4 => ∃ acc, H4 D = some (.lst acc) ∧ acc.length < sizeLine ∧ Nx (upd H4 D (.lst (acc ++ [y]))) else Nx H3)) : tLc wi g tt te vs σ H Q := h
theorem t_yes {σ : L2.St} {H : Hp} {B : Bool → Hp → Prop} (q : B true H) : tYes σ H B := q
theorem e_fmtS {te : TE} {σ : L2.St} {H : Hp} {Q : VK} (h : te σ H fun x H1 => (∃ y : Str, x = .str y ∧ y.length ≤ sizeLine ∧ Q (.str y) H1) ∨ ∃ i : Int, x = .int i ∧ i.natAbs.log2 < 1920 ∧ Q (.str (toString i)) H1) : tFmt te σ H Q := h
theorem sz {n : Nat} (h : n ≤ 100000) : n ≤ sizeLine := Nat.le_trans h (by decide)
theorem szl {n : Nat} (h : n ≤ 100000) : n < sizeLine := Nat.lt_of_le_of_lt h (by decide)
theorem walk_zipT {K : PySem.W.Frag} {a b : Addr} {xs ys : List V} {n : Nat} (hn : n = min xs.length ys.length) : Walk (RZ.ItzT K a b) n (fun H => SqT K H a xs ∧ SqT K H b ys) (YPair (fun i => xs[i]?) (fun i => ys[i]?)) := by
  subst hn
  refine ⟨fun i _ hi q => ?_, fun _ q => ⟨xs, ys, q.1, q.2, by omega⟩, fun i H v H' _ q y => ?_⟩
  · have h1 : i < xs.length := by omega
    have h2 : i < ys.length := by omega
    exact ⟨xs, ys, xs[i], ys[i], q.1, q.2, by simp [h1], by simp [h2]⟩
  · obtain ⟨T, x, z, h1, h2, h3, h4, h5⟩ := y
    exact ⟨T, x, z, h1, h2, h3, h4 xs q.1, h5 ys q.2⟩
theorem x_max {i j : Int} {H : Hp} {Q : VK} (q : ∀ m : Int, i ≤ m → j ≤ m → (m = i ∨ m = j) → Q (.int m) H) : bMax2 [.int i, .int j] H Q := by
  refine ⟨i, j, rfl, ?_⟩
  by_cases h : j > i
  · rw [if_pos h]; exact q j (by omega) (Int.le_refl _) (.inr rfl)
  · rw [if_neg h]; exact q i (Int.le_refl _) (by omega) (.inl rfl)
theorem x_min {i j : Int} {H : Hp} {Q : VK} (q : ∀ m : Int, m ≤ i → m ≤ j → (m = i ∨ m = j) → Q (.int m) H) : bMin2 [.int i, .int j] H Q := by
  refine ⟨i, j, rfl, ?_⟩
  by_cases h : j < i
  · rw [if_pos h]; exact q j (by omega) (Int.le_refl _) (.inr rfl)
  · rw [if_neg h]; exact q i (Int.le_refl _) (by omega) (.inl rfl)
theorem e_make {C : Addr} {sp : Sp} {E : XK} {t : TA} {σ : L2.St} {H : Hp} {Q : VK} (h : t σ H fun vs H1 => ∀ x dx, H1 x = none → H1 dx = none → dx ≠ x →
  sp (.ref x :: (vs ++ [])) (upd (upd H1 dx (.own x)) x (.ins C dx [])) (fun v H2 => v = .non ∧ Q (.ref x) H2) E) : tMake C sp [] E t σ H Q := h
theorem Same.mut2 {p : Addr} {H H' : Hp} (h : H p = none) (s : Sb p H H') : Same H H' := fun b o e => s b o (ne_of_none e h) e
end My
end

section
set_option Elab.async false
set_option maxRecDepth 100000
set_option maxHeartbeats 4000000
set_option linter.all false
namespace My
open PySem L2
/-! ### enumerate over a text, from k0 -/
def Ites (x : Str) (k0 : Int) : It :=
  ⟨fun i _ => i < x.cps.size, fun i H v H' => ∃ (T : Addr) (c : Nat), v = .ref T ∧ H T = none ∧ H' = upd H T (.tup [.int (k0 + (i : Nat)), .str ⟨#[c]⟩]) ∧ x.cps[i]? = some c, fun i _ => i = x.cps.size⟩
theorem turn_enumS {P : Program} {w : World} {K : PySem.W.Frag} {elts : List Expr} {kk : Nat} {tpos : Pos} (x : Str) (t : Tok) (k0 : Int) (e it : Addr) :
    Turn P w K (.Tuple elts kk tpos) (Ites x k0) [e, it] e (fun i h => (∃ old, IsEnum h e it (k0 + ((i : Nat) : Int)) old) ∧ h.IsStrIter it (strIterType x) x t i ∧ e ≠ it) where
  mem := by simp
  obj := fun i h st b hb => by
    obtain ⟨⟨old, he⟩, ⟨o, ho, hc, hd⟩, _⟩ := st
    have e' : b = e ∨ b = it := by simpa using hb
    rcases e' with z | z
    · rw [z]; exact ⟨_, he, fun v q => nomatch q⟩
    · rw [z]; exact ⟨o, ho, fun v q => by rw [hd] at q; cases q⟩
  keep := fun i h h' st k => by
    obtain ⟨⟨old, he⟩, ⟨o, ho, r⟩, hne⟩ := st
    exact ⟨⟨old, k e (by simp) _ he⟩, ⟨o, k it (by simp) o ho, r⟩, hne⟩
  item := by
    intro X hP hw hK hc i pins s σ H E I hf st hg
    subst hP hw hK
    obtain ⟨⟨old, he⟩, hit, hne⟩ := st
    have hel : e < s.heap.objs.size := Heap.lt_size he
    have hil : it < s.heap.objs.size := by obtain ⟨_, q, _⟩ := id hit; exact Heap.lt_size q
    have hh : X.A.in1.handled = none := I.ok.hd hc
    have D : Draws X.prog X.w X.A.in1 it [it] x.cps.size _ _ := Draws.text hh it x t
    refine wpAny_pyNext_enum_itemC D he hit hg hne (by simpa using hne) fun u h' tk hu ho hit' hT hsz hk => ?_
    obtain ⟨c, tc, hx, rfl⟩ := hu
    refine ⟨_, rfl, wpAny_letOwnedTupleGo_enum (s := { s with heap := h', toks := tk + 1 }) ho fun h'' he' sb => ?_⟩
    have hT2 : h''.get? s.heap.objs.size = some { cls := .type "tuple", data := .seq #[.int (k0 + (i : Nat)) tk, .str ⟨#[c]⟩ tc] } := (sb.2 _ (Nat.ne_of_gt hel)).trans hT
    have new : ObjOk X.prog X.w (upd H s.heap.objs.size (.tup [.int (k0 + (i : Nat)), .str ⟨#[c]⟩])) h'' s.heap.objs.size (.tup [.int (k0 + (i : Nat)), .str ⟨#[c]⟩]) :=
      ⟨by show 2 ≤ sizeLine; decide, [.int (k0 + (i : Nat)) tk, .str ⟨#[c]⟩ tc], .cons ⟨_, rfl⟩ (.cons ⟨_, rfl⟩ .nil), ⟨_, hT2, rfl, _, rfl⟩⟩
    have I1 : Inv X pins σ (upd H s.heap.objs.size (.tup [.int (k0 + (i : Nat)), .str ⟨#[c]⟩])) { s with heap := h'', toks := tk + 1 } :=
      I.turnedNew (ch := [e, it]) (fun b ob hb q => (sb.2 b (fun z => hb (by simp [z]))).trans (hk b ob (fun z => hb (by simp [z])) (fun z => hb (by simp [z])) q)) hf (Nat.le_refl _) new
    obtain ⟨oi, ei, ri⟩ := hit'
    refine ⟨.ref s.heap.objs.size, _, I1, rfl, ⟨_, c, rfl, I.hok.fresh (Nat.le_refl _), rfl, hx⟩, ⟨⟨.str ⟨#[c]⟩ tc, ?_⟩, ⟨oi, (sb.2 it (Ne.symm hne)).trans ei, ri⟩, hne⟩, fun b hb => ?_⟩
    · have e1 : k0 + ((i + 1 : Nat) : Int) = k0 + (i : Int) + 1 := by omega
      rw [e1]; exact he'
    · have hb' : b < s.heap.objs.size := by
        have e' : b = e ∨ b = it := by simpa using hb
        rcases e' with z | z
        · rw [z]; exact hel
        · rw [z]; exact hil
      rw [upd_ne (Nat.ne_of_lt hb')]
      exact (hf b hb).1
  done := by
    intro X hP hw hK hc i pins s σ H E I hf st hg
    subst hP hw hK
    obtain ⟨⟨old, he⟩, hit, hne⟩ := st
    obtain ⟨f0, f1, f2, f3, f4, f5⟩ := hf it (by simp)
    have hh : X.A.in1.handled = none := I.ok.hd hc
    have D : Draws X.prog X.w X.A.in1 it [it] x.cps.size _ _ := Draws.text hh it x t
    have hg' : i = x.cps.size := hg
    rw [hg'] at he hit
    exact wpAny_pyNext_enum_endD D he hit fun h' eb => ⟨rfl, I.turned (t' := s.toks) (fun b o hb q => eb b o hb q) f0 f1 f3 f4 f5⟩
  self := fun A i s Q E st h => let ⟨⟨_, he⟩, _⟩ := st; wpAny_pyIter_enum he h
def iEnumS (ta : TA) : TI := fun σ H R => ta σ H fun vs H1 => ∃ x : Str, vs = [.str x] ∧ R (Ites x 0) H1
def iEnumSK (ta tk : TA) : TI := fun σ H R => ta σ H fun vs H1 => tk σ H1 fun us H2 => ∃ (x : Str) (k0 : Int), vs = [.str x] ∧ us = [.int k0] ∧ -(2 ^ 63) ≤ k0 ∧ k0 < 2 ^ 63 ∧ R (Ites x k0) H2
section
variable {X : Cx} {e e2 : Expr} {ta tk : TA} {kpos : Pos} {p pos tpos : Pos} {elts : List Expr} {kk : Nat}
theorem fin_enumS {pins : List (Addr × Obj)} {σ : L2.St} {H : Hp} {s : Shared} {x : Str} {t : Tok} {k0 : Int} {R : It → Hp → Prop} {h' : Heap} (I : Inv X pins σ H s) (he : IsEnum h' (s.heap.objs.size + 1) s.heap.objs.size k0 .none) (hit : h'.IsStrIter s.heap.objs.size (strIterType x) x t 0)
    (hk : ∀ b o, s.heap.get? b = some o → h'.get? b = some o) (q : R (Ites x k0) H) : wpAny (model X.prog X.w) X.A (pyIter (.ref (s.heap.objs.size + 1))) (PIE X pins σ (.Tuple elts kk tpos) R) X.xe { s with heap := h' } := by
  refine wpAny_pyIter_enum he ?_
  have I2 : Inv X pins σ H { s with heap := h' } := I.kept (t' := s.toks) hk
  refine ⟨s.heap.objs.size + 1, [s.heap.objs.size + 1, s.heap.objs.size], _, _, H, rfl, I2, turn_enumS x t k0 (s.heap.objs.size + 1) s.heap.objs.size, ⟨⟨.none, ?_⟩, hit, Nat.succ_ne_self _⟩, fun b hb => ?_, q⟩
  · rw [show k0 + ((0 : Nat) : Int) = k0 by omega]; exact he
  have e' : b = s.heap.objs.size + 1 ∨ b = s.heap.objs.size := by simpa using hb
  have hle : s.heap.objs.size ≤ b := by
    rcases e' with z | z
    · rw [z]; exact Nat.le_add_right _ _
    · rw [z]; exact Nat.le_refl _
  exact I.fpOk hle (I.hok.fresh hle)
theorem pi_enumS (hg : Gl X "enumerate") (hm : X.mg "enumerate" = none) (ha : PA X [e] ta) (hs : starEach [e] X.env = [(false, eval e X.env)] := by rfl) :
    PI X (.Tuple elts kk tpos) (.Call (.Name "enumerate" p) [e] [] pos) (iEnumS ta) := by
  refine ⟨fun pins s σ H R I h => ?_⟩
  refine PyProof.Rows.Call_ (ld_blt I hg hm PyProof.Rows.boot_enumerate (PyProof.Rows.callWith_type1 (thn (ha.run pos pins s σ H _ I h) fun us s1 ⟨vs, H1, I1, r1, q1⟩ => ?_) hs rfl))
  obtain ⟨x, ex, q⟩ := q1
  subst ex
  cases r1 with
  | cons r rr =>
    cases rr
    obtain ⟨t, rfl⟩ := r
    exact call_enumerate_str fun h' he hit hsz hk => fin_enumS I1 he hit hk q
theorem callWith_typeK {M : Model} {A : Around} {E : Value → Shared → Prop} {s : Shared} {env : Env} {pos : Pos} {T : String} {e : Expr} {rest : List Expr} {kws : List Keyword} {Q : Value → Shared → Prop}
    (h : wpAny M A (spliced (backTo pos (starEach (e :: rest) env))) (fun vs s₁ => wpAny M A (evalAll ((backToKw pos (keywordEach kws env)).map (·.2)))
      (fun kvs s₂ => wpAny M A (call (.type T) vs (((backToKw pos (keywordEach kws env)).filterMap (·.1)).zip kvs)) Q E s₂) E s₁) E s)
    (he : backTo pos (starEach (e :: rest) env) = (false, eval e env) :: backTo pos (starEach rest env))
    (hplain : (backTo pos (starEach (e :: rest) env)).any (·.1) = false)
    (hall : (backToKw pos (keywordEach kws env)).all (·.1.isSome) = true)
    (hkw : (backToKw pos (keywordEach kws env)).any (·.1.isNone) = false) :
    wpAny M A (callWith pos (.type T) [] (backTo pos (starEach (e :: rest) env)) (backToKw pos (keywordEach kws env))) Q E s := by
  unfold callWith
  have h2 : wpAny M A (evalArgs (.type T) true (backTo pos (starEach (e :: rest) env)) (backToKw pos (keywordEach kws env))) (fun a s₁ => wpAny M A (call (.type T) ([] ++ a.pos) a.kw) Q E s₁) E s := by
    rw [he] at h ⊢
    exact PyProof.Rows.evalArgs_kwB hall h
  refine wpAny_bind (wpAny_holding (wpAny_mono h2 (fun a s₁ h₁ => wpAny_bind (wpAny_standAt ?_)) fun _ _ x => x))
  simp only [hplain, hkw, Bool.or_false]
  refine wpAny_bind (wpAny_pure ?_)
  exact wpAny_bind (wpAny_mono h₁ (fun r s₂ hr => wpAny_bind (wpAny_holding (wpAny_point (wpAny_pure hr)))) fun _ _ x => x)
theorem pi_enumSK (hg : Gl X "enumerate") (hm : X.mg "enumerate" = none) (ha : PA X [e] ta) (hk : PK X [⟨some "start", e2, kpos⟩] tk)
    (he : backTo pos (starEach [e] X.env) = (false, eval e X.env) :: backTo pos (starEach [] X.env) := by rfl) (hpl : (backTo pos (starEach [e] X.env)).any (·.1) = false := by rfl) :
    PI X (.Tuple elts kk tpos) (.Call (.Name "enumerate" p) [e] [⟨some "start", e2, kpos⟩] pos) (iEnumSK ta tk) := by
  refine ⟨fun pins s σ H R I h => ?_⟩
  refine wpAny_Call_Name_kw (ld_blt I hg hm PyProof.Rows.boot_enumerate ?_)
  refine callWith_typeK (thn (ha.run pos pins s σ H _ I h) fun us s1 ⟨vs, H1, I1, r1, q1⟩ => thn (hk.run pos pins s1 σ H1 _ I1 q1) fun ws s2 ⟨zs, H2, I2, r2, q2⟩ => ?_) he hpl rfl rfl
  obtain ⟨x, k0, ex, ek, h0, h1, q⟩ := q2
  subst ex
  subst ek
  cases r1 with
  | cons r rr =>
    cases rr
    obtain ⟨t, rfl⟩ := r
    cases r2 with
    | cons r' rr' =>
      cases rr'
      obtain ⟨t', rfl⟩ := r'
      refine enum_begins_start (begins_text x t) trivial h0 h1 fun h' he hit hsz hk => fin_enumS I2 he ⟨_, hit, rfl, rfl⟩ hk q
end
end My
end

section
set_option Elab.async false
set_option maxRecDepth 100000
set_option maxHeartbeats 4000000
set_option linter.all false
namespace My
open PySem L2
/-! ### C.m(..), m a staticmethod of the class at C -/
structure SMet (K : PySem.W.Frag) (C : Addr) (mc : Value) (m : Str) (p g : Addr) : Prop where
  at_ : PySem.W.findCls K (.ref C) mc m = some (.get (.builtin "staticmethod.__get__") (.ref p) .none (.ref C))
  rc : ∃ rest, PySem.W.recIn K p "staticmethod" = some (.ref g :: rest)
  kp : PySem.W.keepIn K (.ref g) = true
section
variable {X : Cx} {CX : CXT} {k : Nat} {C p g f : Addr} {fd : FuncData} {ps : List Str} {mc : Value} {sp : Sp} {E : XK} {o e : Expr} {es : List Expr} {m : Str} {pos apos : Pos} {ta : TE} {t : TA} {pl : Sem Bool}
def tSMeth (C : Addr) (sp : Sp) (E : XK) (ta : TE) (t : TA) : TE := fun σ H Q => ta σ H fun x H1 => x = .ref C ∧ t σ H1 fun vs H2 => sp (vs ++ []) H2 Q E
theorem getsm_ok {pins : List (Addr × Obj)} {σ : L2.St} {H : Hp} {s : Shared} {A : Around} {E : Value → Shared → Prop} {pl : Sem Bool} {Q : Value × List Value → Shared → Prop} (I : Inv X pins σ H s) (r : ClX.CRead X.K C mc) (c : SMet X.K C mc m p g)
    (h : ∀ s', Inv X pins σ H s' → Q (.ref g, []) s') : wpAny (model X.prog X.w) A (getMethod (.ref C) m pl) Q E s := by
  obtain ⟨rest, hp⟩ := c.rc
  refine PySem.W.method_cls I.kIn r.ga (PySem.W.cls_bind I.kIn r.rd c.at_ ?_)
  exact wpAny_call (PySem.W.sm_get (s := { s with toks := s.toks + 1 }) I.kIn hp (PySem.W.handed_on rfl (h _ (I.tok _))))
theorem pe_smeth (he : PE X o ta) (r : ClX.CRead X.K C mc) (c : SMet X.K C mc m p g) (F : FnOk X.prog X.w X.K X.mg X.base CX k g fd ps sp) (hr : Room k X.A) (hb : Binds X.K fd ps []) (hx : Passes CX X E) (ha : PA X (e :: es) t)
    (hst : starEach (e :: es) X.env = (false, eval e X.env) :: starEach es X.env := by rfl) (hpl : (backTo pos (starEach es X.env)).any (·.1) = false := by rfl)
    (ht : eval (.Call (.Attribute o m apos) (e :: es) [] pos) X.env = (do
      let ov ← eval o X.env
      standAt apos.atName
      let (fn, first) ← holding [ov] (getMethod ov m pl)
      callWith pos fn first (backTo pos (starEach (e :: es) X.env)) (backToKw pos (keywordEach [] X.env))) := by rfl) :
    PE X (.Call (.Attribute o m apos) (e :: es) [] pos) (tSMeth C sp E ta t) := by
  refine ⟨fun pins s σ H Q I h => ?_⟩
  refine PySem.W.methodCall_KW (pl := pl) (thn (he.run pins s σ H _ I h) fun u s1 ⟨x, H1, I1, rx, ex, q⟩ => ?_) ht
  subst ex
  obtain rfl : u = Value.ref C := rx
  refine getsm_ok I1 r c fun s2 I2 => ?_
  refine PySem.W.callWith_K (first := []) (h₀ := X.base) I2.ok.mod.kin c.kp (thn (ha.run pos pins s2 σ H1 _ I2 q) fun us s3 ⟨vs, H2, I3, rv, q2⟩ => ⟨I3.kIn, ?_⟩) hst hpl
  exact run_fn (us := us) (vs := vs) F hr hb .nil hx I3 rv q2
end
/-! ### len of an instance of a class with its own __len__ -/
structure LenOwn (K : PySem.W.Frag) (C f : Addr) : Prop where
  cl : Cls K C
  at_ : PySem.W.findIn K (.ref C) "__len__" = some (some (.ref f))
  fn : PySem.W.isFn K (.ref f) = true
section
variable {X : Cx} {k : Nat} {C f : Addr} {fd : FuncData} {ps : List Str} {sp : Sp}
def rLenOwn (C : Addr) (sp : Sp) : List V → Hp → VK → Prop := fun xs H Q => ∃ a dx fs, xs = [.ref a] ∧ H a = some (.ins C dx fs) ∧ sp [.ref a] H (fun y H' => ∃ n : Int, y = .int n ∧ 0 ≤ n ∧ n < 2 ^ 63 ∧ Q (.int n) H') E0
theorem call_lenOwn (lo : LenOwn X.K C f) (F : FnOk X.prog X.w X.K X.mg X.base CX0 k f fd ps sp) (hr : Room (k + 1) X.A) (hb : Binds X.K fd ps []) : CallR X (.builtin "len") (rLenOwn C sp) := by
  intro pins s σ H xs us Q I r h
  obtain ⟨a, dx, fs, rfl, ea, q⟩ := h
  obtain ⟨u, rfl, rx⟩ := vals1 r
  obtain rfl : u = Value.ref a := rx
  obtain ⟨mA, O, rr, _, _, _⟩ := ins_get I.hok ea
  obtain ⟨od, J, hl⟩ := O.look
  have r1 : Vals [V.ref a] [Value.ref a] := .cons rfl .nil
  have body : wpAny (model X.prog X.w) X.A.in1 (call (.ref f) [.ref a]) (EP X pins σ fun y H' => ∃ n : Int, y = .int n ∧ 0 ≤ n ∧ n < 2 ^ 63 ∧ Q (.int n) H') X.xe s := by
    have hlen : ([Value.ref a] ++ []).length = ps.length := by
      have := F.len _ _ _ _ q
      exact this
    refine wpAny_call (codeAny_mono (F.run X.A.in1 X.stack s H ⟨[.ref a], []⟩ ([.ref a] ++ []) [V.ref a] _ E0 hr.in1 I.env0.in1 (hb s [.ref a] I.kIn hlen) r1 q) fun fl s' hq => ?_)
    cases fl with
    | error e => exact pass0 pins σ H s e s' I hq
    | ok fl =>
      cases fl with
      | ret u => exact I.after hq
      | next => exact False.elim hq
      | brk => exact False.elim hq
      | cont => exact False.elim hq
  refine PySem.Calls.call_function_entry PySem.kind_len PySem.plain_len PySem.entry_len (PySem.args_len1 _) ?_
  unfold Builtin.«len»
  refine wpAny_bind (m := oneArg "len" _) (wpAny_pure ?_)
  refine wpAny_bind (m := callSpecial? (.ref a) (Str.ofString "__len__")) (PySem.W.special_fn I.kIn J lo.at_ (beq_iff_eq.mp lo.fn) (wpAny_mono body (fun v s1 hv => ?_) fun _ _ y => y))
  obtain ⟨y, H1, I1, ry, n, rfl, h0, h1, q1⟩ := hv
  obtain ⟨t, rfl⟩ := ry
  refine wpAny_bind (wpAny_holding (wpAny_pure (wpAny_bind (wpAny_letGo ?_))))
  show wpAny _ _ (if n < 0 then _ else _) _ _ _
  rw [if_neg (Int.not_lt.mpr h0)]
  show wpAny _ _ (if n ≥ 2 ^ 63 then _ else _) _ _ _
  rw [if_neg (Int.not_le.mpr h1)]
  exact wpAny_bind (wpAny_mkInt (wpAny_pure ⟨_, rfl, .int n, H1, I1.tok _, ⟨_, rfl⟩, q1⟩))
end
end My
end

section
set_option Elab.async false
set_option maxRecDepth 100000
set_option maxHeartbeats 4000000
set_option linter.all false
namespace My
open PySem L2
/-! ### a written dict with text keys, read by its address -/
def KGet (K : PySem.W.Frag) (a : Addr) (z : Str) (v : V) : Prop := ∃ u0, PySem.W.nsIn K a z = some (some u0) ∧ RelV v u0
def rIxK (K : PySem.W.Frag) (a : Addr) : R2 := fun x y H Q => ∃ z v, x = .ref a ∧ y = .str z ∧ KGet K a z v ∧ Q v H
theorem ix_k {X : Cx} {a : Addr} (D : ∃ es n, KDict X.K X.w a es n) : IxR X (rIxK X.K a) := by
  intro value slice pins s σ H x y v u Q I rx ry h hs
  obtain ⟨z, w, rfl, rfl, ⟨u0, e, r⟩, q⟩ := h
  obtain ⟨es, n, d⟩ := D
  exact ix_kdict value slice pins s σ H _ _ v u Q I rx ry ⟨a, z, w, rfl, rfl, ⟨es, n, u0, d.1, d.2, e, r⟩, q⟩ hs
/-! ### xs[-2::-1] -/
theorem rev2_bounds (n : Nat) : sliceBounds (some (-2)) none (some (-1)) n = (((n - 1 : Nat) : Int) - 1, -1, -1) := by
  show (max (-1) (min (if (-2 : Int) < 0 then -2 + (n : Int) else -2) ((n : Int) - 1)), (-1 : Int), (-1 : Int)) = _
  rw [if_pos (by decide)]
  have : max (-1) (min (-2 + (n : Int)) ((n : Int) - 1)) = ((n - 1 : Nat) : Int) - 1 := by omega
  rw [this]
theorem fm_congr {α β : Type} {f g : α → Option β} : ∀ {l : List α}, (∀ x ∈ l, f x = g x) → l.filterMap f = l.filterMap g
  | [], _ => rfl
  | x :: l, h => by rw [List.filterMap_cons, List.filterMap_cons, h x (.head _), fm_congr fun y hy => h y (.tail _ hy)]
theorem rev2_pick (items : Array Value) : slicePick items (some (-2)) none (some (-1)) = items.toList.dropLast.reverse.toArray := by
  unfold slicePick
  rw [rev2_bounds]
  show ((sliceRange (((items.size - 1 : Nat) : Int) - 1) (-1) (-1)).filterMap (items[·]?)).toArray = _
  rw [PySem.W.krv_sliceRange, PySem.W.krv_range, List.filterMap_reverse]
  have e : (List.range (items.size - 1)).filterMap (items[·]?) = items.toList.dropLast := by
    have h := PySem.W.krv_all items.pop
    rw [Array.size_pop, Array.toList_pop] at h
    rw [← h]
    refine fm_congr fun k hk => ?_
    have hk' := List.mem_range.mp hk
    rw [Array.getElem?_pop]
    simp [hk']
  rw [e]
def tRevL2 (K : PySem.W.Frag) (te : TE) : TE := fun σ H Q => te σ H fun x H1 => ∃ a xs, x = .ref a ∧ SqL K H1 a xs ∧ ∀ p, H1 p = none → Q (.ref p) (upd H1 p (.lst xs.dropLast.reverse))
open PySem.Spec PyProof.Rows in
theorem pe_revL2 {X : Cx} {e : Expr} {te : TE} {k k2 : Nat} {p1 p2 p3 p4 p5 pos : Pos} (he : PE X e te) :
    PE X (.Subscript e (.Slice (some (.UnaryOp .USub (.Constant (.int 2) k2 p4) p5)) none (some (.UnaryOp .USub (.Constant (.int 1) k p1) p2)) p3) pos) (tRevL2 X.K te) := by
  refine ⟨fun pins s σ H Q I h => ?_⟩
  refine PyProof.Rows.Subscript_ (thn (he.run pins s σ H _ I h) fun v s1 ⟨x, H1, I1, r1, q1⟩ => ?_)
  obtain ⟨a, xs, ex, hx, q⟩ := q1
  subst ex
  cases r1
  have hst : PO X (some (.UnaryOp .USub (.Constant (.int 1) k p1) p2)) (tPart (tUn (rU fun i => .int (-i)) (tC (.int 1)))) := po_some (pe_un un_neg pe_int)
  have hlo : PO X (some (.UnaryOp .USub (.Constant (.int 2) k2 p4) p5)) (tPart (tUn (rU fun i => .int (-i)) (tC (.int 2)))) := po_some (pe_un un_neg pe_int)
  refine wpAny_Slice (thn (hlo.run pins s1 σ H1 (fun o H2 => o = some (-2) ∧ H2 = H1) I1 ⟨2, rfl, -2, rfl, rfl, rfl⟩) fun vl s2 ⟨l, H2, I2, pl, el, e2⟩ => ?_)
  subst el e2
  refine thn (po_none.run pins s2 σ H2 (fun o H3 => o = none ∧ H3 = H2) I2 ⟨rfl, rfl⟩) fun vu s3 ⟨u, H3, I3, pu, eu, e3⟩ => ?_
  subst eu e3
  refine thn (hst.run pins s3 σ H3 (fun o H4 => o = some (-1) ∧ H4 = H3) I3 ⟨1, rfl, -1, rfl, rfl, rfl⟩) fun vs s4 ⟨o, H4, I4, ps, eo, e4⟩ => ?_
  subst eo e4
  have I5 : Inv X pins σ H4 { s4 with heap := s4.heap.push { cls := .type "slice", data := .fields #[vl, vu, vs] } } := I4.kept (t' := s4.toks) fun b ob q => Heap.get?_push_of_some _ q
  obtain ⟨its, r, ht, hz⟩ := I5.list hx
  have hlen := r.length
  show wpAny (model X.prog X.w) X.A (PyProof.Rows.subscriptTail e (.Slice (some (.UnaryOp .USub (.Constant (.int 2) k2 p4) p5)) none (some (.UnaryOp .USub (.Constant (.int 1) k p1) p2)) p3) (.ref a) (.ref s4.heap.objs.size)) (EP X pins σ Q) X.xe _
  refine tail_any (ops := [.ref a, .ref s4.heap.objs.size]) ht.isList.typeIs (PySem.slot_list_getitem.lookup) ?_ (by with_unfolding_all rfl)
  refine wpAny_getItem_list_slice ht.isList (Heap.IsSliceOf.new _ vl vu vs) pl pu ps (by decide) ?_ (by rw [List.size_toArray]; omega)
  rw [rev2_pick]
  refine ⟨.ref _, _, I5.laid (t' := s4.toks) (o := .lst xs.dropLast.reverse) (fun b ob q => Heap.get?_push_of_some _ q) (Nat.le_refl _) ?_, rfl, q _ (I5.hok.fresh (Nat.le_refl _))⟩
  have rd : Vals xs.dropLast its.dropLast := by
    exact r.dropLast
  exact ⟨by rw [List.length_reverse, List.length_dropLast]; exact Nat.le_trans (Nat.sub_le _ _) hz, _, 0, rd.reverse, Heap.get?_push_size _ rfl⟩
end My
end

section
set_option Elab.async false
set_option maxRecDepth 100000
set_option maxHeartbeats 4000000
set_option linter.all false
namespace My
open PySem L2
/-! ### more bundles -/
structure CalLen (P : Program) (w : World) (K : PySem.W.Frag) (mg : Str → Option Value) (base : Heap) (k : Nat) (C : Addr) (sp : Sp) : Prop where
  ex : ∃ f fd ps, LenOwn K C f ∧ FnOk P w K mg base CX0 k f fd ps sp ∧ Binds K fd ps []
structure CalD (P : Program) (w : World) (K : PySem.W.Frag) (mg : Str → Option Value) (base : Heap) (k : Nat) (x : Str) (ps : List Str) (dvs : List V) (sp : Sp) : Prop where
  ex : ∃ f fd ds, FnOk P w K mg base CX0 k f fd ps sp ∧ mg x = some (.ref f) ∧ PySem.W.keepIn K (.ref f) = true ∧ Binds K fd ps ds ∧ Vals dvs ds
structure CalS (P : Program) (w : World) (K : PySem.W.Frag) (mg : Str → Option Value) (base : Heap) (k : Nat) (C : Addr) (m : Str) (ps : List Str) (sp : Sp) : Prop where
  ex : ∃ mc p g fd, ClX.CRead K C mc ∧ SMet K C mc m p g ∧ FnOk P w K mg base CX0 k g fd ps sp ∧ Binds K fd ps []
section
variable {P : Program} {w : World} {K : PySem.W.Frag} {mg : Str → Option Value} {base : Heap} {j k : Nat} {x m : Str} {C : Addr} {ps : List Str} {dvs : List V} {sp : Sp}
theorem CalLen.mono (c : CalLen P w K mg base j C sp) (h : j ≤ k) : CalLen P w K mg base k C sp := by
  obtain ⟨f, fd, ps, a, F, b⟩ := c.ex
  exact ⟨f, fd, ps, a, F.mono h, b⟩
theorem CalD.mono (c : CalD P w K mg base j x ps dvs sp) (h : j ≤ k) : CalD P w K mg base k x ps dvs sp := by
  obtain ⟨f, fd, ds, F, b⟩ := c.ex
  exact ⟨f, fd, ds, F.mono h, b⟩
theorem CalS.mono (c : CalS P w K mg base j C m ps sp) (h : j ≤ k) : CalS P w K mg base k C m ps sp := by
  obtain ⟨mc, p, g, fd, a, b, F, d⟩ := c.ex
  exact ⟨mc, p, g, fd, a, b, F.mono h, d⟩
end
section
variable {X : Cx} {k : Nat} {x m : Str} {C : Addr} {ps : List Str} {dvs : List V} {sp : Sp} {p pos apos : Pos} {o e : Expr} {es : List Expr} {ta : TE} {t : TA}
theorem pe_lenC (c : CalLen X.prog X.w X.K X.mg X.base k C sp) (hr : Room (k + 1) X.A) (hg : Gl X "len") (hm : X.mg "len" = none) (ha : PA X [e] t)
    (he : starEach [e] X.env = (false, eval e X.env) :: starEach [] X.env := by rfl) : PE X (.Call (.Name "len" p) [e] [] pos) (tCB (rLenOwn C sp) t) := by
  obtain ⟨f, fd, ps, a, F, b⟩ := c.ex
  exact pe_callB (call_lenOwn a F hr b) hg hm boot_len ha (he := he)
theorem pe_callD (c : CalD X.prog X.w X.K X.mg X.base k x ps dvs sp) (hr : Room k X.A) (hg : Gl X x) (ha : PA X (e :: es) t) (hdb : (x == ("__debug__" : Str)) = false := by decide)
    (he : starEach (e :: es) X.env = (false, eval e X.env) :: starEach es X.env := by rfl) (hpl : (backTo pos (starEach es X.env)).any (·.1) = false := by rfl) : PE X (.Call (.Name x p) (e :: es) [] pos) (tCall sp dvs E0 t) := by
  obtain ⟨f, fd, ds, F, hm, hk, hb, hd⟩ := c.ex
  exact pe_call F hr hg hm hk hb hd pass0 ha hdb he hpl
theorem pe_smethC {pl : Sem Bool} (c : CalS X.prog X.w X.K X.mg X.base k C m ps sp) (hr : Room k X.A) (ho : PE X o ta) (ha : PA X (e :: es) t)
    (hst : starEach (e :: es) X.env = (false, eval e X.env) :: starEach es X.env := by rfl) (hpl : (backTo pos (starEach es X.env)).any (·.1) = false := by rfl)
    (ht : eval (.Call (.Attribute o m apos) (e :: es) [] pos) X.env = (do
      let ov ← eval o X.env
      standAt apos.atName
      let (fn, first) ← holding [ov] (getMethod ov m pl)
      callWith pos fn first (backTo pos (starEach (e :: es) X.env)) (backToKw pos (keywordEach [] X.env))) := by rfl) :
    PE X (.Call (.Attribute o m apos) (e :: es) [] pos) (tSMeth C sp E0 ta t) := by
  obtain ⟨mc, q, g, fd, a, b, F, d⟩ := c.ex
  exact pe_smeth ho a b F hr d pass0 ha hst hpl ht
end
/-! ### named readings -/
def mSplit : V → List V → Hp → VK → Prop := fun x xs H Q => ∃ a b, x = .str a ∧ xs = [.str b] ∧ (b.length == 0) = false ∧ a.length + 2 ≤ sizeLine ∧ rNewStrs (Txt.split a b) H Q
def mFind : V → List V → Hp → VK → Prop := fun x xs H Q => ∃ a b, x = .str a ∧ xs = [.str b] ∧ Q (.int (Txt.find a b)) H
def mCount : V → List V → Hp → VK → Prop := fun x xs H Q => ∃ a b, x = .str a ∧ xs = [.str b] ∧ Q (.int (Txt.count a b)) H
def bLenS : List V → Hp → VK → Prop := fun xs H Q => ∃ z : Str, xs = [.str z] ∧ z.length ≤ sizeLine ∧ Q (.int (z.length : Int)) H
theorem call_lenS {X : Cx} : CallR X (.builtin "len") bLenS := by
  intro pins s σ H xs us Q I r h
  obtain ⟨z, rfl, hz, q⟩ := h
  exact call_len pins s σ H [.str z] us Q I r ⟨.str z, z.length, rfl, ⟨hz, rfl⟩, q⟩
def bIntS : List V → Hp → VK → Prop := fun xs H Q => ∃ a n, xs = [.str a] ∧ PySem.intText? a = some n ∧ a.length ≤ 640 ∧ Q (.int n) H
/-! ### more steps -/
section
variable {D : Ends} {σ : L2.St} {H : Hp} {te tf : TE} {ta tb : TA} {v : V} {xs : List V} {Q : VK} {R : It → Hp → Prop} {K : PySem.W.Frag} {a p : Addr} {C : Addr} {sp : Sp} {E : XK}
theorem e_callD {dvs : List V} (h : ta σ H fun vs H1 => sp (vs ++ dvs) H1 Q E) : tCall sp dvs E ta σ H Q := h
theorem e_smeth (h : te σ H fun x H1 => x = .ref C ∧ ta σ H1 fun vs H2 => sp (vs ++ []) H2 Q E) : tSMeth C sp E te ta σ H Q := h
theorem i_enumS (h : ta σ H fun vs H1 => ∃ x : Str, vs = [.str x] ∧ R (Ites x 0) H1) : iEnumS ta σ H R := h
theorem i_enumSK (h : ta σ H fun vs H1 => tb σ H1 fun us H2 => ∃ (x : Str) (k0 : Int), vs = [.str x] ∧ us = [.int k0] ∧ -(2 ^ 63) ≤ k0 ∧ k0 < 2 ^ 63 ∧ R (Ites x k0) H2) : iEnumSK ta tb σ H R := h
theorem i_str (h : te σ H fun x H1 => ∃ z : Str, x = .str z ∧ R (Its z) H1) : iStr te σ H R := h
theorem e_revL (h : te σ H fun x H1 => ∃ a xs, x = .ref a ∧ SqL K H1 a xs ∧ ∀ p, H1 p = none → Q (.ref p) (upd H1 p (.lst xs.reverse))) : tRevL K te σ H Q := h
theorem e_revL2 (h : te σ H fun x H1 => ∃ a xs, x = .ref a ∧ SqL K H1 a xs ∧ ∀ p, H1 p = none → Q (.ref p) (upd H1 p (.lst xs.dropLast.reverse))) : tRevL2 K te σ H Q := h
theorem r_ixK {z : Str} (h : KGet K a z v) (q : Q v H) : rIxK K a (.ref a) (.str z) H Q := ⟨z, v, rfl, rfl, h, q⟩
theorem r_inS {c : Nat} {z : Str} (q : Q (.bl (decide (c ∈ z.cps.toList))) H) : rInS (.str ⟨#[c]⟩) (.str z) H Q := ⟨c, z, rfl, rfl, q⟩
theorem r_notInS {c : Nat} {z : Str} (q : Q (.bl (!decide (c ∈ z.cps.toList))) H) : rNotInS (.str ⟨#[c]⟩) (.str z) H Q := ⟨c, z, rfl, rfl, q⟩
theorem r_addS {x y : Str} (h : x.length + y.length ≤ sizeLine) (q : Q (.str (x ++ y)) H) : rAddS (.str x) (.str y) H Q := ⟨x, y, rfl, rfl, h, q⟩
theorem r_itemS {z : Str} {i : Int} {c : Nat} (h0 : 0 ≤ i) (h1 : i < (z.length : Int)) (hz : z.length ≤ sizeLine) (hc : z.cps[i.toNat]? = some c) (q : Q (.str ⟨#[c]⟩) H) : rItemS (.str z) (.int i) H Q := by
  refine ⟨z, i, c, rfl, rfl, h0, ?_, h1, hc, q⟩
  have : sizeLine = 16777216 := sizeLine_eq
  omega
theorem b_lenS {z : Str} (hz : z.length ≤ 100000) (q : Q (.int (z.length : Int)) H) : bLenS [.str z] H Q := ⟨z, rfl, Nat.le_trans hz (by decide), q⟩
theorem b_intS {a : Str} {n : Int} (h : PySem.intText? a = some n) (hl : a.length ≤ 640) (q : Q (.int n) H) : bIntS [.str a] H Q := ⟨a, n, rfl, h, hl, q⟩
theorem x_trI {P : Bool → Prop} {i : Int} (q : P (!decide (i = 0))) : ∃ k, TruV K (.int i) H k ∧ P k := ⟨_, rfl, q⟩
end
/-! ### sep.join(reversed(text)), sep empty -/
def tJoinRev (to te : TE) : TE := fun σ H Q => to σ H fun x H1 => x = .str "" ∧ te σ H1 fun y H2 => ∃ z : Str, y = .str z ∧ z.length ≤ 100000 ∧ Q (.str ⟨z.cps.toList.reverse.toArray⟩) H2
end My
end

section
set_option Elab.async false
set_option maxRecDepth 100000
set_option maxHeartbeats 4000000
set_option linter.all false
namespace Rvs
open PySem PySem.Spec PyProof.Rows
/-! ### facts of the type reversed -/
theorem slot_next : Slot "reversed" "__next__" "reversed.__next__" :=
  .of (owner := "reversed") (n := "__next__") (by rw [typeLookup_type, builtinLookup_eq_fast]; kernel_rfl) (by decide +kernel) (by decide +kernel) (by decide +kernel)
    (by first | exact .inl (by decide +kernel) | exact .inr (by decide +kernel)) (by rw [isSubtype_type]; kernel_rfl)
theorem entry_next : entryFor table "reversed.__next__" = some Builtin.«reversed.__next__» := entryFor_of_tree (by kernel_rfl)
theorem owner_rv : Manifest.owners.lookup (String.ofList ['d', 'e', 's', 'r', 'e', 'v', 'e', 'r'].reverse) = some Manifest.sig_reversed := by kernel_rfl
theorem args_next (a : Value) : argsOk "reversed.__next__" ⟨[a], []⟩ := by
  unfold argsOk; rw [signature?_of (id := "reversed.__next__") (n := ['_', '_', 't', 'x', 'e', 'n', '_', '_']) (o := ['d', 'e', 's', 'r', 'e', 'v', 'e', 'r']) (by kernel_rfl) owner_rv]; kernel_rfl
theorem slot_iter : Slot "reversed" "__iter__" "reversed.__iter__" :=
  .of (owner := "reversed") (n := "__iter__") (by rw [typeLookup_type, builtinLookup_eq_fast]; kernel_rfl) (by decide +kernel) (by decide +kernel) (by decide +kernel)
    (by first | exact .inl (by decide +kernel) | exact .inr (by decide +kernel)) (by rw [isSubtype_type]; kernel_rfl)
theorem args_iter (a : Value) : argsOk "reversed.__iter__" ⟨[a], []⟩ := by
  unfold argsOk; rw [signature?_of (id := "reversed.__iter__") (n := ['_', '_', 'r', 'e', 't', 'i', '_', '_']) (o := ['d', 'e', 's', 'r', 'e', 'v', 'e', 'r']) (by kernel_rfl) owner_rv]; kernel_rfl
theorem entry_iter : entryFor table "reversed.__iter__" = some Builtin.«dict_keyiterator.__iter__» :=
  entryFor_alias (id' := "dict_keyiterator.__iter__") (by kernel_rfl) (by first | rfl | decide +kernel | (unfold String.splitOn; simp +decide [String.splitOnAux])) (by decide +kernel) (by kernel_rfl)
theorem slot_hint : Slot "reversed" "__length_hint__" "reversed.__length_hint__" :=
  .of (owner := "reversed") (n := "__length_hint__") (by rw [typeLookup_type, builtinLookup_eq_fast]; kernel_rfl) (by decide +kernel) (by decide +kernel) (by decide +kernel)
    (by first | exact .inl (by decide +kernel) | exact .inr (by decide +kernel)) (by rw [isSubtype_type]; kernel_rfl)
theorem entry_hint : entryFor table "reversed.__length_hint__" = some Builtin.«reversed.__length_hint__» := entryFor_of_tree (by kernel_rfl)
theorem args_hint (a : Value) : argsOk "reversed.__length_hint__" ⟨[a], []⟩ := by
  unfold argsOk; rw [signature?_of (id := "reversed.__length_hint__") (n := ['_', '_', 't', 'n', 'i', 'h', '_', 'h', 't', 'g', 'n', 'e', 'l', '_', '_']) (o := ['d', 'e', 's', 'r', 'e', 'v', 'e', 'r']) (by kernel_rfl) owner_rv]; kernel_rfl
theorem slot_init : Slot "reversed" "__init__" "object.__init__" :=
  .of (owner := "object") (n := "__init__") (by rw [typeLookup_type, builtinLookup_eq_fast]; kernel_rfl) (by decide +kernel) (by decide +kernel) (by decide +kernel)
    (by first | exact .inl (by decide +kernel) | exact .inr (by decide +kernel)) (by rw [isSubtype_type]; kernel_rfl)
theorem nolen : typeLookup (.type "reversed") "__len__" = pure none := by rw [typeLookup_type, builtinLookup_eq_fast]; kernel_rfl
theorem called : TypeCalled "reversed" "reversed.__new__" "object.__init__" :=
  ⟨by decide +kernel, F.create_reversed, ⟨_, _, F.mro_reversed⟩, F.made_reversed, F.plain_reversed_new, F.sub_reversed_self, slot_init⟩
theorem str_norev : typeLookup (.type "str") "__reversed__" = pure none := by rw [typeLookup_type, builtinLookup_eq_fast]; kernel_rfl
abbrev IsRv (h : Heap) (m : Addr) (z : Str) (t : Tok) (i : Int) : Prop := h.get? m = some { cls := .type "reversed", dict := none, data := .fields #[.str z t, rawInt i], slots := #[] }
section
variable {prog : Program} {w : World} {A : Around} {E : Value → Shared → Prop} {s : Shared}
theorem new_rv (z : Str) (t : Tok) (hz : z.length ≤ sizeLine) : MeetsIn prog w (Builtin.«reversed.__new__» ⟨[.type "reversed", .str z t], []⟩)
    (fun A R s => R (.ok (.ret (.ref s.heap.objs.size))) { s with heap := s.heap.push { cls := .type "reversed", data := .fields #[.str z t, rawInt ((z.length : Int) - 1)] }, toks := s.toks + 1 + 1 }) :=
  .of_wp fun A R s h => by
    unfold Builtin.«reversed.__new__»
    refine wpAny_bind (wpAny_of_eq (newClass_reversed _) ?_)
    try dsimp only
    refine wpAny_bind (wpAny_of_eq (a := ()) (by first | rfl | kernel_rfl) ?_)
    refine wpAny_bind (wpAny_of_eq (a := ()) (by first | rfl | kernel_rfl) ?_)
    try dsimp only
    refine wpAny_bind (wpAny_specialOf (typeIs_str _ _ _) str_norev ?_)
    try dsimp only
    refine wpAny_bind ?_
    wp_delta
    refine wpAny_bind (wpAny_isInstance (T := "str") (b := false) (typeIs_str _ _ _) (by rw [isSubtype_type]; kernel_rfl) ?_)
    rw [if_neg Bool.false_ne_true]
    refine wpAny_bind (wpAny_specialOf (typeIs_str _ _ _) F.slot_str_getitem.lookup ?_)
    dsimp only
    rw [if_pos (by decide)]
    refine wpAny_pure ?_
    rw [if_neg (by decide)]
    have hl : sizeLine = 16777216 := sizeLine_eq
    refine wpAny_bind (len_str (by omega) ?_)
    refine wpAny_bind (m := asInt? _) (wpAny_pure ?_)
    dsimp only
    refine wpAny_bind (m := Builtin.SmallTypes.newRecord _ _) ?_
    show wpAny _ _ (newObj (.type "reversed") (.fields #[.str z t, rawInt ((z.length : Int) - 1)])) _ _ _
    refine wpAny_newObj_type ?_
    exact wpAny_pure ⟨_, rfl, h⟩
theorem call_rv {z : Str} {t : Tok} {Q : Value → Shared → Prop} (hz : z.length ≤ sizeLine)
    (h : ∀ h', IsRv h' s.heap.objs.size z t ((z.length : Int) - 1) → h'.objs.size = s.heap.objs.size + 1 → (∀ c o, s.heap.get? c = some o → h'.get? c = some o) → Q (.ref s.heap.objs.size) { s with heap := h', toks := s.toks + 1 + 1 }) :
    wpAny (model prog w) A (call (.type "reversed") [.str z t]) Q E s := by
  refine callType_newIn called (by decide) (F.typeCall_reversed_1 _) (F.newCall_reversed_1 _) (fun obj => F.args_object_init_2 obj _) F.entry_reversed_new (new_rv z t hz) ?_
  show _ ∧ _
  exact ⟨⟨_, Heap.get?_push_size _ rfl, rfl⟩, h _ (Heap.get?_push_size _ rfl) (Heap.size_push ..) fun c o e => Heap.get?_push_of_some _ e⟩
/-! ### drawn -/
theorem next_item {m : Addr} {z : Str} {t : Tok} {i c : Nat} {Q : Option Value → Shared → Prop} (hz : z.length ≤ sizeLine) (hit : IsRv s.heap m z t (i : Int)) (hx : z.cps[i]? = some c)
    (hQ : ∀ h', IsRv h' m z t ((i : Int) - 1) → Heap.SameBut m s.heap h' → ∀ tk u, s.toks ≤ tk → Q (some (.str ⟨#[c]⟩ u)) { s with heap := h', toks := tk }) : wpAny (model prog w) A (pyNext (.ref m)) Q E s := by
  have hT : s.TypeIs (.ref m) "reversed" := ⟨_, hit, rfl⟩
  have hl : sizeLine = 16777216 := sizeLine_eq
  have hi : i < z.length := by
    have := (Array.getElem?_eq_some_iff.mp hx).1
    exact this
  unfold pyNext
  refine wpAny_bind (wpAny_attempt (wpAny_callSpecial?_slot (name := Str.ofString "__next__") hT slot_next
    (wpAny_call_entry slot_next hT entry_next ?_ (args_next _))))
  unfold Builtin.«reversed.__next__»
  refine wpAny_bind (wpAny_of_eq (a := (Value.ref m, [])) rfl ?_)
  try dsimp only
  refine wpAny_bind (wpAny_field hit rfl (x := .str z t) rfl ?_)
  refine wpAny_bind (wpAny_field hit rfl (x := rawInt (i : Int)) rfl ?_)
  show wpAny _ _ (if (i : Int) < 0 then _ else _) _ _ s
  rw [if_neg (by omega)]
  refine wpAny_bind (wpAny_specialOf (typeIs_str _ _ _) F.slot_str_getitem.lookup ?_)
  rw [if_neg (by show ¬ ((some (Value.builtin "str.__getitem__")).isNone = true); exact Bool.false_ne_true)]
  refine wpAny_bind (wpAny_mkInt ?_)
  refine wpAny_bind (wpAny_attempt (P.getItem_str (c := c) (by
    have e1 : decide ((i : Int) < -(2 ^ 63 : Int)) = false := decide_eq_false (by omega)
    have e2 : decide ((i : Int) ≥ 2 ^ 63) = false := decide_eq_false (by omega)
    rw [e1, e2, Bool.or_false]) (by
      have : seqIndex? (i : Int) z.length = some i := by
        unfold seqIndex?
        simp
        omega
      rw [this]; exact hx) ?_))
  dsimp only
  refine wpAny_bind (wpAny_field hit rfl (x := rawInt (i : Int)) rfl ?_)
  show wpAny _ _ (setField (.ref m) 1 (rawInt ((i : Int) - 1)) >>= _) _ _ _
  refine wpAny_bind (wpAny_setField hit rfl (by simp) ?_)
  refine wpAny_pure ⟨_, rfl, wpAny_pure (hQ _ ?_ (Heap.SameBut.update ..) _ _ (by show s.toks ≤ s.toks + 1 + 1; omega))⟩
  exact Heap.get?_update_self _ hit rfl
theorem next_end {m : Addr} {z : Str} {t : Tok} {Q : Option Value → Shared → Prop} (hh : A.handled = none) (hit : IsRv s.heap m z t (-1))
    (hQ : ∀ h', Heap.ExtBut m s.heap h' → Q none { s with heap := h' }) : wpAny (model prog w) A (pyNext (.ref m)) Q E s := by
  have hT : s.TypeIs (.ref m) "reversed" := ⟨_, hit, rfl⟩
  unfold pyNext
  refine wpAny_bind (wpAny_attempt (wpAny_callSpecial?_slot (name := Str.ofString "__next__") hT slot_next
    (wpAny_call_entry slot_next hT entry_next ?_ (args_next _))))
  unfold Builtin.«reversed.__next__»
  refine wpAny_bind (wpAny_of_eq (a := (Value.ref m, [])) rfl ?_)
  try dsimp only
  refine wpAny_bind (wpAny_field hit rfl (x := .str z t) rfl ?_)
  refine wpAny_bind (wpAny_field hit rfl (x := rawInt (-1)) rfl ?_)
  show wpAny _ _ (if (-1 : Int) < 0 then _ else _) _ _ s
  rw [if_pos (by decide)]
  refine wpAny_bind (wpAny_rule ?_)
  refine wpAny_bind ?_
  wp_delta
  refine wpAny_bind (wpAny_setField hit rfl (by simp) ?_)
  have hit2 := Heap.get?_update_self (Obj.mapFields (·.setIfInBounds 1 (rawInt (-1)))) hit rfl
  refine wpAny_setField hit2 rfl (by simp [Obj.mapFields]) ?_
  generalize hH : ((s.heap.update m (Obj.mapFields (·.setIfInBounds 1 (rawInt (-1))))).update m (Obj.mapFields (·.setIfInBounds 0 .none))) = H2
  have hx : Heap.ExtBut m s.heap H2 := by
    rw [← hH]
    exact fun b o hb e => (Heap.get?_update_other _ _ (Ne.symm hb)).trans ((Heap.get?_update_other _ _ (Ne.symm hb)).trans e)
  show wpAny _ _ (Builtin.SmallTypes.stopIteration >>= _) _ _ _
  refine wpAny_bind ?_
  show wpAny _ _ (newExc (.type "StopIteration") [] >>= _) _ _ _
  refine wpAny_bind ?_
  simp only [newExc, newTuple]
  refine wpAny_bind (wpAny_newObj_type ?_ (by size_fits))
  refine wpAny_bind (m := firstArgMember _ _) (wpAny_of_eq (a := Value.none) (by first | rfl | (simp only [firstArgMember]; rfl)) ?_)
  refine wpAny_newObj_type ?_ (by size_fits)
  simp only [raiseNew]
  refine wpAny_bind (wpAny_handled ?_)
  first | rw [show A.in1.handled = none from hh] | rw [hh]
  refine wpAny_bind (wpAny_pure (wpAny_throw ?_))
  refine wpAny_bind (wpAny_isInstance (T := "StopIteration") (b := true) ⟨_, Heap.get?_push_size _ rfl, rfl⟩ isSubtype_stop ?_)
  exact wpAny_pure (hQ _ ((hx.push _).push _))
theorem rv_pyIter {m : Addr} {z : Str} {t : Tok} {i : Int} {Q : Value → Shared → Prop} (hm : IsRv s.heap m z t i) (h : Q (.ref m) s) : wpAny (model prog w) A (pyIter (.ref m)) Q E s := by
  have hT : s.TypeIs (.ref m) "reversed" := ⟨_, hm, rfl⟩
  refine wpAny_pyIter_slot hT slot_iter (wpAny_call_entry slot_iter hT entry_iter ?_ (args_iter _))
  show wpAny _ _ (ret (.ref m)) _ _ s
  exact wpAny_pure ⟨_, rfl, "reversed", _, hT, slot_next.lookup, h⟩
end
theorem walks_rv {prog : Program} {w : World} {A : Around} {m : Addr} {z : Str} {t : Tok} (hh : A.handled = none) (hz : z.length ≤ sizeLine) :
    WalksS prog w A m [m] [m] (fun a b => b = a) z.length (fun i v => ∃ c u, z.cps[z.length - 1 - i]? = some c ∧ v = .str ⟨#[c]⟩ u) (fun i s => IsRv s.heap m z t ((z.length : Int) - 1 - (i : Nat))) where
  sub := fun b hb => hb
  grefl := fun _ => rfl
  gtrans := fun _ _ _ h1 h2 => h2.trans h1
  frame := fun i s h' tk st _ hk => hk m (by simp) _ st
  item := fun i s Q E hi st hQ => by
    have e : (z.length : Int) - 1 - (i : Nat) = ((z.length - 1 - i : Nat) : Int) := by omega
    rw [e] at st
    have hlt : z.length - 1 - i < z.cps.size := by show z.length - 1 - i < z.length; omega
    refine next_item hz st (Array.getElem?_eq_getElem hlt) fun h' hit hs tk u htk => ?_
    have e2 : ((z.length - 1 - i : Nat) : Int) - 1 = (z.length : Int) - 1 - ((i + 1 : Nat) : Int) := by omega
    rw [e2] at hit
    exact hQ _ _ ⟨_, u, Array.getElem?_eq_getElem hlt, rfl⟩ hit ⟨fun b ob hb e => hs.extBut b ob (fun h => hb (by simp [h])) e, rfl, rfl, rfl, htk⟩
  done := fun s Q E st hQ => by
    have e : (z.length : Int) - 1 - (z.length : Nat) = -1 := by omega
    rw [e] at st
    exact next_end hh st fun h' hx => hQ _ ⟨fun b ob hb e => hx b ob (fun h => hb (by simp [h])) e, rfl, rfl, rfl, Nat.le_refl _⟩
  self := fun i s Q E st hQ => rv_pyIter st hQ
section
variable {prog : Program} {w : World} {A : Around} {E : Value → Shared → Prop} {s : Shared}
theorem hint_rv {m : Addr} {z : Str} {t : Tok} {Q : Bool → Shared → Prop} (hz : z.length ≤ sizeLine) (hit : IsRv s.heap m z t ((z.length : Int) - 1))
    (h : ∀ b tk, s.toks ≤ tk → Q b { s with toks := tk }) : wpAny (model prog w) A (Builtin.List.listLengthHint (.ref m)) Q E s := by
  have hT : s.TypeIs (.ref m) "reversed" := ⟨_, hit, rfl⟩
  have hl : sizeLine = 16777216 := sizeLine_eq
  unfold Builtin.List.listLengthHint
  refine wpAny_bind (wpAny_specialOf hT nolen ?_)
  show wpAny _ A (specialOf (Value.ref m) (Str.ofString "__length_hint__") >>= _) _ _ _
  refine wpAny_bind (wpAny_specialOf hT slot_hint.lookup ?_)
  (generalize hid : ("reversed.__length_hint__" : String) = id0; (fail_if_success (clear hid id0)); wp_delta; rw [show splitId id0 = some ("reversed", "__length_hint__") from by subst hid; decide +kernel]; subst hid)
  refine wpAny_bind (wpAny_isInstance (b := true) hT (by rw [isSubtype_type]; kernel_rfl) ?_)
  refine wpAny_ite_split (fun hab => absurd hab (by decide)) (fun _ => ?_)
  refine wpAny_ite_split (fun hab => absurd hab (by decide +kernel)) (fun _ => ?_)
  refine wpAny_bind (wpAny_rule ?_)
  refine wpAny_bind (wpAny_of_eq (slot_hint.bind _) ?_)
  dsimp only
  refine wpAny_bind (wpAny_attempt (wpAny_call_entry slot_hint hT entry_hint ?_ (args_hint _)))
  unfold Builtin.«reversed.__length_hint__»
  refine wpAny_bind (wpAny_of_eq (a := Value.ref m) rfl ?_)
  refine wpAny_bind (wpAny_field hit rfl (x := .str z t) rfl ?_)
  rw [if_neg (show ¬ ((Value.str z t == Value.none) = true) from Bool.false_ne_true)]
  refine wpAny_bind (len_str (by omega) ?_)
  refine wpAny_bind (m := asInt? _) (wpAny_pure ?_)
  dsimp only
  refine wpAny_bind (wpAny_field hit rfl (x := rawInt ((z.length : Int) - 1)) rfl ?_)
  show wpAny _ _ (if (z.length : Int) < (z.length : Int) - 1 + 1 then _ else _) _ _ _
  rw [if_neg (by omega)]
  refine wpAny_bind (m := mkInt _) (wpAny_mkInt ?_)
  refine wpAny_pure ⟨_, rfl, ?_⟩
  show wpAny _ _ (asInt? (.int _ _) >>= _) _ _ _
  refine wpAny_bind (m := asInt? _) (wpAny_pure ?_)
  dsimp only
  have ez : (z.length : Int) - 1 + 1 = z.length := by omega
  rw [ez]
  have h1 : Builtin.List.listFitsIndex (z.length : Int) = true := by unfold Builtin.List.listFitsIndex; simp; omega
  have h2 : Builtin.List.listTooLong ((z.length : Int).toNat) = false := by simp [Builtin.List.listTooLong]; omega
  rw [h1]
  refine wpAny_ite_split (fun hab => absurd hab (by decide)) (fun _ => ?_)
  refine wpAny_ite_split (fun hab => absurd hab (by omega)) (fun _ => ?_)
  refine wpAny_ite_split (fun hab => absurd hab (by rw [h2]; decide)) (fun _ => ?_)
  exact wpAny_pure (h _ _ (by show s.toks ≤ s.toks + 1 + 1 + 1; omega))
end
section
variable {prog : Program} {w : World} {A : Around} {E : Value → Shared → Prop} {s : Shared}
theorem collect_rv {m : Addr} {z : Str} {t : Tok} {Q : List Value → Shared → Prop} (hh : A.handled = none) (hz : z.length ≤ sizeLine) (hit : IsRv s.heap m z t ((z.length : Int) - 1))
    (hQ : ∀ s' acc, Moved [m] (fun a b => b = a) s s' → ItemsOf (fun i v => ∃ (c : Nat) (u : Tok), z.cps[z.length - 1 - i]? = some c ∧ v = Value.str ⟨#[c]⟩ u) acc z.length → Q acc.toList s') : wpAny (model prog w) A (collect (.ref m)) Q E s := by
  have W := walks_rv (prog := prog) (w := w) (A := A.in1) (m := m) (z := z) (t := t) hh hz
  have hml := Heap.lt_size hit
  have hSf : s.heap.objs.size ∉ [m] := fun hm => Nat.lt_irrefl _ ((List.mem_singleton.mp hm) ▸ hml)
  have hSI : s.heap.objs.size ≠ m := fun e => Nat.lt_irrefl _ (e ▸ hml)
  unfold collect
  refine wpAny_bind (wpAny_runValue (codeAny_builtin F.entry_proto_collect ?_))
  rw [Around.under_plainId F.plain_proto_collect _]
  show wpAny _ A.in1 (newList [] >>= fun l => again (.builtin "list.__iadd__" ⟨[l, .ref m], []⟩)) _ _ s
  refine wpAny_bind (wpAny_newObj_type ?_)
  refine wpAny_pure ⟨plainId_quiet F.plain_list_iadd _, codeAny_builtin F.entry_list_iadd ?_⟩
  rw [Around.under_plainId F.plain_list_iadd _]
  have hst₁ : IsRv (s.heap.push { cls := .type "list", data := .seq ([] : List Value).toArray }) m z t ((z.length : Int) - 1) := Heap.get?_push_of_some _ hit
  have hT₁ : ({ s with heap := s.heap.push { cls := .type "list", data := .seq ([] : List Value).toArray } } : Shared).TypeIs (.ref m) "reversed" := ⟨_, hst₁, rfl⟩
  show wpAny _ A.in1 (Builtin.List.listExtendWith (.ref s.heap.objs.size) (.ref m) (.ref s.heap.objs.size)) _ _ _
  unfold Builtin.List.listExtendWith
  refine wpAny_bind (wpAny_typeOf hT₁ ?_)
  have h1 : Builtin.List.listSameRef (.ref s.heap.objs.size) (.ref m) = false := by simp [Builtin.List.listSameRef, hSI]
  have h2 : (Value.type "reversed" == Value.type "list") = false := by decide
  have h3 : (Value.type "reversed" == Value.type "tuple") = false := by decide
  simp only [h1, h2, h3, Bool.or_false, Bool.false_eq_true, if_false]
  refine wpAny_bind (rv_pyIter hst₁ ?_)
  refine wpAny_bind (wpAny_holding (hint_rv hz hst₁ fun b tk htk => ?_))
  have key : ∀ (h : Heap) (c₁ tk : Nat), s.toks ≤ tk → IsRv h m z t ((z.length : Int) - 1) → (∀ b o, b ≠ s.heap.objs.size → (s.heap.push { cls := .type "list", data := .seq ([] : List Value).toArray }).get? b = some o → h.get? b = some o) →
      h.get? s.heap.objs.size = some { cls := .type "list", data := .seq #[] c₁ } →
      codeAny (model prog w) A (.builtin "list.extend.loop" ⟨[.ref s.heap.objs.size, .ref m, .ref s.heap.objs.size], []⟩)
        (fun r s' => match r with
          | .ok (.ret v) => wpAny (model prog w) A (match v with
            | .ref a => do
              match (← load a).data with
                | .seq xs _ => pure xs.toList
                | _ => unsupported "internal:collect"
            | _ => unsupported "internal:collect") Q E s'
          | .ok _ => False
          | .error e => E e s') { s with heap := h, toks := tk } := by
    intro h c₁ tk htk hit₁ hk hS₁
    have hit0 : IsRv h m z t ((z.length : Int) - 1 - ((0 : Nat) : Int)) := by
      have e0 : (z.length : Int) - 1 - ((0 : Nat) : Int) = (z.length : Int) - 1 := by omega
      rw [e0]; exact hit₁
    refine codeAny_extend_loopS W hz _ hSf _ z.length 0 ({ s with heap := h, toks := tk } : Shared) _ _ rfl (Nat.zero_le _) hit0 hS₁ (ItemsOf.nil _) fun s' acc' c' hm hS' hacc => ?_
    show wpAny _ A (load s.heap.objs.size >>= _) _ _ s'
    refine wpAny_bind (wpAny_load hS' ?_)
    refine wpAny_pure (hQ s' acc' (Moved.drop_new (o := { cls := .type "list", data := .seq ([] : List Value).toArray }) (tk := s.toks) (Moved.trans W.gtrans ((Moved.refl (G := fun a b => b = a) (s := ({ s with heap := s.heap.push { cls := .type "list", data := .seq ([] : List Value).toArray } } : Shared)) W.grefl).then_heap (tk := tk) (by exact htk) fun b o hb e => ?_) hm) (Nat.le_refl _)) hacc)
    exact hk b o (fun h => hb (h ▸ List.mem_cons_self)) e
  have hS₁ : (s.heap.push { cls := .type "list", data := .seq ([] : List Value).toArray }).get? s.heap.objs.size = some { cls := .type "list", data := .seq ([] : List Value).toArray } := Heap.get?_push_size _ rfl
  refine wpAny_ite_split (fun _ => ?_) (fun _ => ?_)
  · refine wpAny_bind (wpAny_rule ?_)
    refine wpAny_bind ?_
    show wpAny _ A.in1 (updateSeq s.heap.objs.size (·.push .none) >>= fun _ => updateSeq s.heap.objs.size (·.pop)) _ _ _
    refine wpAny_bind (wpAny_updateSeq hS₁ rfl ?_)
    have hS₂ := Heap.get?_update_self (Obj.mapSeq (·.push Value.none)) hS₁ rfl
    refine wpAny_updateSeq hS₂ rfl ?_
    have hS₃ := Heap.get?_update_self (Obj.mapSeq (·.pop)) hS₂ rfl
    have oth : ∀ b o, b ≠ s.heap.objs.size → (s.heap.push { cls := .type "list", data := .seq ([] : List Value).toArray }).get? b = some o →
        (((s.heap.push { cls := .type "list", data := .seq ([] : List Value).toArray }).update s.heap.objs.size (Obj.mapSeq (·.push Value.none))).update s.heap.objs.size (Obj.mapSeq (·.pop))).get? b = some o :=
      fun b o hb e => (Heap.get?_update_other _ _ (Ne.symm hb)).trans ((Heap.get?_update_other _ _ (Ne.symm hb)).trans e)
    exact wpAny_pure ⟨plainId_quiet F.plain_extend_loop _, key _ _ _ htk (oth _ _ (Ne.symm hSI) hst₁) oth hS₃⟩
  · exact wpAny_pure ⟨plainId_quiet F.plain_extend_loop _, key _ _ _ htk hst₁ (fun b o _ e => e) hS₁⟩
theorem ones_sum : ∀ l : List Nat, (l.map fun _ => 1).sum = l.length
  | [] => rfl
  | _ :: l => by rw [List.map_cons, List.sum_cons, ones_sum l, List.length_cons]; omega
theorem strs_of_get : ∀ {vs : List Value} {ys : List Str}, vs.length = ys.length → (∀ (j : Nat) (v : Value) (y : Str), vs[j]? = some v → ys[j]? = some y → ∃ u, v = Value.str y u) → StrsAre vs ys
  | [], [], _, _ => .nil
  | v :: vs, y :: ys, hl, h => by
    obtain ⟨u, rfl⟩ := h 0 v y rfl rfl
    exact .cons y u (strs_of_get (Nat.succ.inj hl) fun j a b ha hb => h (j + 1) a b ha hb)
  | [], _ :: _, hl, _ => absurd hl (by simp)
  | _ :: _, [], hl, _ => absurd hl (by simp)
theorem rv_strs (z : Str) (acc : Array Value) (h : ItemsOf (fun i v => ∃ (c : Nat) (u : Tok), z.cps[z.length - 1 - i]? = some c ∧ v = Value.str ⟨#[c]⟩ u) acc z.length) : StrsAre acc.toList (z.cps.toList.reverse.map fun c => (⟨#[c]⟩ : Str)) := by
  refine strs_of_get (by rw [Array.length_toList, h.1, List.length_map, List.length_reverse]; simp [Str.length]) fun j v y hv hy => ?_
  obtain ⟨c, u, hc, rfl⟩ := h.2 j v (by simpa using hv)
  have hj : j < z.length := by
    have := (List.getElem?_eq_some_iff.mp hv).1
    rw [Array.length_toList, h.1] at this
    exact this
  rw [List.getElem?_map, List.getElem?_reverse (by show j < z.cps.toList.length; simpa [Str.length] using hj)] at hy
  have e : z.cps.toList.length - 1 - j = z.length - 1 - j := by simp [Str.length]
  rw [e, Array.getElem?_toList, hc] at hy
  cases hy
  exact ⟨u, rfl⟩
theorem joinL_nil : ∀ L : List (List Nat), TL.joinL [] L = L.flatten
  | [] => rfl
  | [p] => by show p = [p].flatten; simp
  | p :: r :: s => by
    show p ++ ([] ++ TL.joinL [] (r :: s)) = _
    rw [List.nil_append, joinL_nil (r :: s), List.flatten_cons (L := r :: s)]
theorem rv_join (cs : List Nat) : Txt.join "" (cs.map fun c => (⟨#[c]⟩ : Str)) = ⟨cs.toArray⟩ := by
  have e : TL.tl (Txt.join "" (cs.map fun c => (⟨#[c]⟩ : Str))) = cs := by
    rw [TL.join_eq, TL.tl_join, show TL.tl ("" : Str) = [] by decide +kernel, joinL_nil, List.map_map]
    show (cs.map fun c => [c]).flatten = cs
    induction cs with
    | nil => rfl
    | cons c cs ih => rw [List.map_cons, List.flatten_cons, ih]; rfl
  generalize Txt.join "" (cs.map fun c => (⟨#[c]⟩ : Str)) = y at e
  obtain ⟨a⟩ := y
  have e' : a.toList = cs := e
  rw [← e']
theorem join_rv {m : Addr} {z : Str} {t t0 : Tok} {Q : Value → Shared → Prop} (hh : A.handled = none) (hz : z.length ≤ 100000) (hit : IsRv s.heap m z t ((z.length : Int) - 1))
    (hq : ∀ s', Moved [m] (fun a b => b = a) s s' → ∀ t' k, Q (.str ⟨z.cps.toList.reverse.toArray⟩ t') { s' with toks := k }) :
    wpAny (model prog w) A (call (.builtin "str.join") [.str "" t0, .ref m]) Q E s := by
  have hl : sizeLine = 16777216 := sizeLine_eq
  refine wpAny_call (codeAny_call_builtin F.slot_str_join.plain F.entry_str_join (F.slot_str_join.check _ _ _ _ _ _ _ _ (typeIs_str _ _ _) (F.args_str_join_2 _ _) ?_))
  rw [join_tree_other]
  refine wpAny_bind (wpAny_typeOf (T := "reversed") ⟨_, hit, rfl⟩ ?_)
  show wpAny _ A.in1 ((pyIter (.ref m)).tryCatch _ >>= fun it => collect it >>= fun items => joinTail "" items) _ _ s
  refine wpAny_bind (wpAny_tryCatch (rv_pyIter hit ?_))
  refine wpAny_bind (collect_rv hh (by omega) hit fun s' acc hm hacc => ?_)
  obtain ⟨l, hl2, ht⟩ := strsAre_values (rv_strs z acc hacc)
  rw [hl2]
  have hlen : ((z.cps.toList.reverse.map fun c => (⟨#[c]⟩ : Str)).map (·.length)).sum = z.length := by
    rw [List.map_map]
    have : ((fun y : Str => y.length) ∘ fun c => (⟨#[c]⟩ : Str)) = fun _ => 1 := rfl
    rw [this, ones_sum, List.length_reverse]
    simp [Str.length]
  have hok : ((z.cps.toList.reverse.map fun c => (⟨#[c]⟩ : Str)).map (·.length)).sum + (z.cps.toList.reverse.map fun c => (⟨#[c]⟩ : Str)).length * ("" : Str).length ≤ 16777216 := by
    rw [hlen]
    have : ("" : Str).length = 0 := by decide
    rw [this]
    omega
  have hj := rv_join z.cps.toList.reverse
  rw [← ht] at hok hj
  have hok' := joinOk_of hok
  unfold JoinOk at hok'
  rw [Bool.not_eq_true'] at hok'
  have g : Gives (joinTail "" (strValues l)) (joinMade "" l) := by
    have g0 := gives_joinTail "" l hok'
    cases l with
    | nil => exact g0
    | cons p r => cases r with
      | nil => exact g0
      | cons q r' => exact g0
  exact g prog w A (wants Q E) s' (post_join l ⟨joinFit_length hok', fun t' k => by rw [← ht] at *; first | exact hj ▸ hq s' hm t' k | (rw [hj]; exact hq s' hm t' k)⟩)
end
end Rvs
namespace My
open PySem PySem.Spec PyProof.Rows L2
theorem pe_joinRev {X : Cx} {o e : Expr} {to te : TE} {apos pos p pos2 : Pos} (hc : X.calm = true) (hg : Gl X "reversed") (hm : X.mg "reversed" = none) (ho : PE X o to) (he : PE X e te)
    (hs1 : starEach [.Call (.Name "reversed" p) [e] [] pos2] X.env = [(false, eval (.Call (.Name "reversed" p) [e] [] pos2) X.env)] := by rfl)
    (hs : starEach [e] X.env = (false, eval e X.env) :: starEach [] X.env := by rfl)
    (hbase : attributeBase o "join" X.env (eval o X.env) = eval o X.env := by rfl) (hline : (apos.endLine == pos.line) = true := by rfl) :
    PE X (.Call (.Attribute o "join" apos) [.Call (.Name "reversed" p) [e] [] pos2] [] pos) (tJoinRev to te) := by
  refine ⟨fun pins s σ H Q I h => ?_⟩
  refine PySem.Call_method1 hbase hs1 hline (thn (ho.run pins s σ H _ I h) fun v s1 ⟨x, H1, I1, r1, ex, q1⟩ => ?_)
  subst ex
  obtain ⟨t, rfl⟩ := _root_.id r1
  refine ⟨"str", _, F.plainAttrs_str, F.slot_str_join, F.type_str_join, typeIs_str _ _ _, (fun _ e => nomatch e), Calls.callWith_builtin rfl (Calls.evalArgs_plain (Calls.spliced_cons ?_))⟩
  refine wpAny_Call_Name_kw (ld_blt I1 hg hm PyProof.Rows.boot_reversed ?_)
  refine PyProof.Rows.callWith_type1 ?_ hs rfl
  rw [hs]
  show wpAny _ _ (spliced ((false, eval e X.env) :: [])) _ _ s1
  refine Calls.spliced_cons (thn (he.run pins s1 σ H1 _ I1 q1) fun u s2 ⟨y, H2, I2, r2, z, ey, hz, q2⟩ => ?_)
  subst ey
  obtain ⟨tz, rfl⟩ := _root_.id r2
  have hsl : sizeLine = 16777216 := sizeLine_eq
  refine Calls.spliced_nil (Rvs.call_rv (by omega) fun h' hi hsz hk => Calls.spliced_nil ?_)
  refine Rvs.join_rv (I2.ok.hd hc) hz hi fun s' mv t' k => ?_
  refine ⟨.str _, H2, ?_, ⟨t', rfl⟩, q2⟩
  rw [Moved.eq_with mv]
  refine I2.kept (t' := k) fun b o eb => mv.heap b o (fun hm' => ?_) (hk _ _ eb)
  rw [List.mem_singleton.mp hm'] at eb
  exact absurd (Heap.lt_size eb) (Nat.lt_irrefl _)
end My
end

section
set_option Elab.async false
set_option maxRecDepth 100000
set_option maxHeartbeats 4000000
set_option linter.all false
namespace My
open PySem L2
/-! ### what a head tells: facts, defs at any address, tables with text keys, a Bool; the interpreter's statics are looked at too -/
abbrev AlZ : Type := (He.AlD × List (Option (List (Option (Str × Int))))) × Bool
def obsZK (fa : List He.Fa) (fn : List He5.DefA) (ts : List He.Tab) (ex : PySem.W.Frag → Bool) (K : PySem.W.Frag) : AlZ := ((He5.obsA fa fn K, ts.map fun t => He.dicW K (t.1 K)), ex K)
def valZ (fn : List He5.DefA) (ts : List He.Tab) (w : World) : AlZ := ((He5.valA fn, ts.map fun t => some (He.keysIn w.params t.2)), true)
def obsZ (n : Nat) (fa : List He.Fa) (fn : List He5.DefA) (ts : List He.Tab) (ex : PySem.W.Frag → Bool) (g : Addr → Option Obj) : AlZ := obsZK fa fn ts ex (He.frT g (He5.asA g n))
structure SaysZ (fa : List He.Fa) (fn : List He5.DefA) (ts : List He.Tab) (ex : PySem.W.Frag → Bool) (w : World) (K : PySem.W.Frag) : Prop where
  d : He5.SaysA fa fn K
  tabs : (ts.map fun t => He.dicW K (t.1 K)) = ts.map fun t => some (He.keysIn w.params t.2)
  more : ex K = true
theorem SaysZ.of_obs {fa : List He.Fa} {fn : List He5.DefA} {ts : List He.Tab} {ex : PySem.W.Frag → Bool} {w : World} {K : PySem.W.Frag} (e : obsZK fa fn ts ex K = valZ fn ts w) : SaysZ fa fn ts ex w K :=
  ⟨congrArg (fun z : AlZ => z.1.1) e, congrArg (fun z : AlZ => z.1.2) e, congrArg (fun z : AlZ => z.2) e⟩
def hookZ (n : Nat) (fa : List He.Fa) (fn : List He5.DefA) (ts : List He.Tab) (ex : PySem.W.Frag → Bool) : PySem.W.Hook where
  α := AlZ
  obs := fun s => obsZ n fa fn ts ex s.heap.get?
  val := fun w => valZ fn ts w
  says := fun w h => ∃ K : PySem.W.Frag, K.In h ∧ SaysZ fa fn ts ex w K
  of := fun _ _ e => ⟨_, He.frT_in, SaysZ.of_obs e⟩
  keeps := fun _ _ _ ⟨K, hK, c⟩ k => ⟨K, PySem.W.Frag.In.keeps hK k, c⟩
theorem obsZ_eq {n : Nat} {fa : List He.Fa} {fn : List He5.DefA} {ts : List He.Tab} {ex : PySem.W.Frag → Bool} {g : Addr → Option Obj} {s : Shared} (h : ∀ a, g a = s.heap.get? a) : obsZ n fa fn ts ex g = (hookZ n fa fn ts ex).obs s := by
  have e : g = s.heap.get? := funext h
  rw [e] <;> rfl
section
variable {fa : List He.Fa} {fn : List He5.DefA} {ts : List He.Tab} {ex : PySem.W.Frag → Bool} {w : World} {K : PySem.W.Frag}
theorem SaysZ.tab (c : SaysZ fa fn ts ex w K) (i : Nat) {t : He.Tab} (h : ts[i]? = some t := by rfl) : ∃ es n, KDict K w (t.1 K) es n := by
  have e2 : (ts.map fun t => He.dicW K (t.1 K))[i]? = (ts.map fun t => some (He.keysIn w.params t.2))[i]? := by rw [c.tabs]
  rw [List.getElem?_map, List.getElem?_map, h] at e2
  exact He.dicW_ok (Option.some.inj e2)
end
/-! ### a tuple of K at an address -/
def tupA (K : PySem.W.Frag) (a : Addr) (vs : List V) : Bool := match K.lookup a with
  | some ⟨.type c, _, .seq its _, _⟩ => decide (c = "tuple") && (decide (its.size ≤ sizeLine) && He.relAll vs its.toList)
  | _ => false
theorem tupA_ok {K : PySem.W.Frag} {a : Addr} {vs : List V} (h : tupA K a vs = true) (H : Hp) : SqT K H a vs := by
  unfold tupA at h
  split at h
  · rename_i c od its n sl q
    obtain ⟨h1, h2⟩ := He.ba h
    obtain ⟨h3, h4⟩ := He.ba h2
    exact .inr ⟨_, its, n, q, congrArg Value.type (of_decide_eq_true h1), rfl, of_decide_eq_true h3, He.relAll_ok h4⟩
  · cases h
/-! ### a class whose attributes are read plainly; its staticmethods; its own len -/
theorem cread_of {K : PySem.W.Frag} {C : Addr} (h0 : PySem.W.readsIn K C (.type "type") = true) : ClX.CRead K C (.type "type") := by
  refine ⟨h0, ?_⟩
  have h := h0
  unfold PySem.W.readsIn at h
  obtain ⟨h, _⟩ := He.ba h
  obtain ⟨h, _⟩ := He.ba h
  obtain ⟨h, h3⟩ := He.ba h
  obtain ⟨_, h2⟩ := He.ba h
  unfold PySem.W.specialIn
  rw [beq_iff_eq.mp h2, Option.bind_some]
  exact beq_iff_eq.mp h3
def smB (K : PySem.W.Frag) (C : Addr) (m : Str) : Bool := PySem.W.readsIn K C (.type "type") && He5.wrapB K C "staticmethod" "staticmethod.__get__" m
abbrev smAt (K : PySem.W.Frag) (C : Addr) (m : Str) : Addr := He5.wf K C "staticmethod" m
theorem smB_ok {P : Program} {w : World} {K : PySem.W.Frag} {mg : Str → Option Value} {base : Heap} {k : Nat} {C : Addr} {m : Str} {ps : List Str} {sp : Sp} {fd : FuncData} (h : smB K C m = true) (hk : PySem.W.keepIn K (.ref (smAt K C m)) = true)
    (F : FnOk P w K mg base CX0 k (smAt K C m) fd ps sp) (B : Binds K fd ps []) : CalS P w K mg base k C m ps sp := by
  obtain ⟨h1, h2⟩ := He.ba h
  obtain ⟨h3, h4⟩ := He5.wrapB_ok h2
  exact ⟨_, _, _, fd, cread_of h1, ⟨h3, h4, hk⟩, F, B⟩
theorem lenOwn_of {K : PySem.W.Frag} {x : Str} (cl : Cls K (He.ga K x)) (h : (He.Fa.meth x "__len__").ok K = true) : LenOwn K (He.ga K x) (He.ma K (He.ga K x) "__len__") := by
  obtain ⟨h1, h2⟩ := He.ba h
  obtain ⟨h3, h4⟩ := He.ba h2
  exact ⟨cl, He.eqO_ok h1, h3⟩
theorem fnOk_false {P : Program} {w : World} {K : PySem.W.Frag} {mg : Str → Option Value} {base : Heap} {k : Nat} {f : Addr} {fd : FuncData} {ps : List Str} {sp : Sp} (h : ∀ vs H Q E, ¬ sp vs H Q E) : FnOk P w K mg base CX0 k f fd ps sp :=
  ⟨fun vs H Q E z => absurd z (h vs H Q E), fun A outer s H args us vs Q E _ _ _ _ z => absurd z (h vs H Q E)⟩
theorem calD_of {P : Program} {w : World} {K : PySem.W.Frag} {mg : Str → Option Value} {base : Heap} {k n j : Nat} {x qual : Str} {params : Arguments} {body : List Stmt} {scope : Scope} {dvs : List V} {kws : List (Str × V)} {f : Addr} {fd : FuncData} {ps : List Str} {sp : Sp}
    (F : FunD K x qual params body scope dvs kws f fd) (ok : FnOk P w K mg base CX0 k f fd ps sp) (hm : mg x = some (.ref f)) (hd : dvs ≠ []) (hn : n + (dvs.length - j) = ps.length)
    (h : ∀ (T : Addr) (kV doc pm : Value) (an : Option Addr) (cdv ct : Value) (us its : List Value), us.length = n → its.length = dvs.length →
      ∃ k, bindArgs (PySem.W.fnOf x qual params body scope (.ref T) kV doc pm an cdv ct) ⟨us, []⟩ = seqItems? (.ref T) >>= k ∧ k (some its.toArray) = pure (ps.zip (us ++ its.drop j))) : CalD P w K mg base k x ps (dvs.drop j) sp := by
  obtain ⟨ds, hv, hb⟩ := F.binds1 (ps := ps) n j hd hn h
  exact ⟨f, fd, ds, ok, hm, F.kp, hb, hv⟩
end My
end

section
set_option Elab.async false
set_option maxRecDepth 100000
set_option maxHeartbeats 4000000
set_option linter.all false
namespace My
open PySem L2
/-! ### o.m(..) by one bundle -/
structure CalMt (P : Program) (w : World) (K : PySem.W.Frag) (mg : Str → Option Value) (base : Heap) (k : Nat) (C : Addr) (m : Str) (ps : List Str) (dvs : List V) (sp : Sp) : Prop where
  ex : ∃ f fd ds, Cls K C ∧ Meth K C m f ∧ FnOk P w K mg base CX0 k f fd ps sp ∧ Binds K fd ps ds ∧ Vals dvs ds
theorem CalMt.mono {P : Program} {w : World} {K : PySem.W.Frag} {mg : Str → Option Value} {base : Heap} {j k : Nat} {C : Addr} {m : Str} {ps : List Str} {dvs : List V} {sp : Sp} (c : CalMt P w K mg base j C m ps dvs sp) (h : j ≤ k) : CalMt P w K mg base k C m ps dvs sp := by
  obtain ⟨f, fd, ds, a, b, F, r⟩ := c.ex
  exact ⟨f, fd, ds, a, b, F.mono h, r⟩
section
variable {X : Cx} {k : Nat} {x m : Str} {C : Addr} {ps : List Str} {dvs : List V} {sp : Sp} {p pos apos : Pos} {o e : Expr} {es : List Expr} {ta : TE} {t : TA}
theorem pe_methC {pl : Sem Bool} (c : CalMt X.prog X.w X.K X.mg X.base k C m ps dvs sp) (hr : Room k X.A) (ho : PE X o ta) (ha : PA X (e :: es) t)
    (hst : starEach (e :: es) X.env = (false, eval e X.env) :: starEach es X.env := by rfl) (hpl : (backTo pos (starEach es X.env)).any (·.1) = false := by rfl)
    (ht : eval (.Call (.Attribute o m apos) (e :: es) [] pos) X.env = (do
      let ov ← eval o X.env
      standAt apos.atName
      let (f, first) ← holding [ov] (getMethod ov m pl)
      callWith pos f first (backTo pos (starEach (e :: es) X.env)) (backToKw pos (keywordEach [] X.env))) := by rfl) :
    PE X (.Call (.Attribute o m apos) (e :: es) [] pos) (tMeth C m sp dvs E0 ta t) := by
  obtain ⟨f, fd, ds, a, b, F, hb, hd⟩ := c.ex
  exact pe_meth ho a b F hr hb hd pass0 ha hst hpl ht
theorem pe_methC0 {pl : Sem Bool} (c : CalMt X.prog X.w X.K X.mg X.base k C m ps dvs sp) (hr : Room k X.A) (ho : PE X o ta)
    (ht : eval (.Call (.Attribute o m apos) [] [] pos) X.env = (do
      let ov ← eval o X.env
      standAt apos.atName
      let (f, first) ← holding [ov] (getMethod ov m pl)
      callWith pos f first (backTo pos (starEach [] X.env)) (backToKw pos (keywordEach [] X.env))) := by rfl) :
    PE X (.Call (.Attribute o m apos) [] [] pos) (tMeth C m sp dvs E0 ta tNil) := by
  obtain ⟨f, fd, ds, a, b, F, hb, hd⟩ := c.ex
  exact pe_meth0 ho a b F hr hb hd pass0 ht
end
theorem e_meth {C : Addr} {m : Str} {sp : Sp} {dvs : List V} {ta : TE} {t : TA} {σ : L2.St} {H : Hp} {Q : VK} (h : ta σ H fun x H1 => ∃ a dx fs, x = .ref a ∧ H1 a = some (.ins C dx fs) ∧ fs.lookup m = none ∧ t σ H1 fun vs H2 => sp (x :: (vs ++ dvs)) H2 Q E0) : tMeth C m sp dvs E0 ta t σ H Q := h
theorem g_unl {K : PySem.W.Frag} {n : Nat} {gs : TGs} {a : Addr} {xs : List V} {σ : L2.St} {H : Hp} {R : L2.St → Hp → Prop} (h : SqL K H a xs) (hl : xs.length = n) (q : gs xs σ H R) : gUnl K n gs (.ref a) σ H R := ⟨a, xs, rfl, h, hl, q⟩
end My
end

section
set_option Elab.async false
set_option maxRecDepth 100000
set_option maxHeartbeats 4000000
set_option linter.all false
/-! errors: an except clause over a tuple of classes; classes whose __init__ says super().__init__(..) -/
namespace My
open PySem PySem.Spec PySem.Calls PyProof.Rows
section
variable {M : Model} {A : Around} {E : Value → Shared → Prop} {s : Shared} {β : Type}
theorem forIn_same {u : β} {f : Value → β → Sem (ForInStep β)} {Q : β → Shared → Prop} : ∀ {l : List Value}, (∀ c ∈ l, ∀ {Q' : ForInStep β → Shared → Prop}, Q' (.yield u) s → wpAny M A (f c u) Q' E s) → Q u s → wpAny M A (forIn l u f) Q E s
  | [], _, q => by
    rw [List.forIn_nil]
    exact wpAny_pure q
  | c :: l, h, q => by
    rw [List.forIn_cons]
    exact wpAny_bind (h c (.head _) (forIn_same (fun d hd => h d (.tail _ hd)) q))
theorem forIn_find {u d : β} {f : Value → β → Sem (ForInStep β)} {Q : β → Shared → Prop} {K : PySem.W.Frag} {cls : Value} : ∀ {l : List Value} {b : Bool}, PySem.W.exmAny K cls l = some b →
    (∀ c ∈ l, ∀ b1, PySem.W.exmOne K cls c = some b1 → ∀ {Q' : ForInStep β → Shared → Prop}, Q' (if b1 = true then .done d else .yield u) s → wpAny M A (f c u) Q' E s) → Q (if b = true then d else u) s → wpAny M A (forIn l u f) Q E s
  | [], b, e, _, q => by
    cases (show some false = some b from e)
    rw [List.forIn_nil]
    exact wpAny_pure q
  | c :: l, b, e, h, q => by
    obtain ⟨b1, d1, h1, h2, rfl⟩ := PySem.W.exmAny_cons e
    rw [List.forIn_cons]
    refine wpAny_bind (h c (.head _) b1 h1 ?_)
    cases b1 with
    | true => exact wpAny_pure q
    | false => exact forIn_find (d := d) h2 (fun c hc => h c (.tail _ hc)) q
end
/-- an exception beside a tuple of classes -/
theorem exm_tupN {M : Model} {K : PySem.W.Frag} {cs : List Value} {cls : Value} {tp e : Addr} {b : Bool} {h : Heap} {od : Option Addr} {n : Nat} {sl : Array (Option Value)} (X : K.In h) (LT : PySem.W.Looks M h (typeOf (.ref e)) cls) (hp : h.get? tp = some ⟨.type "tuple", od, .seq cs.toArray n, sl⟩)
    (hx : PySem.W.exmAny K cls cs = some b) : PySem.W.Looks M h (excMatches (.ref e) (.ref tp)) b := by
  intro A Q E s k₀ q
  obtain ⟨hh, g, d, tk, os⟩ := s
  have k : ∀ b o, h.get? b = some o → hh.get? b = some o := k₀
  have LT0 : PySem.W.Looks M h (isInstance (.ref tp) (.type "tuple")) true := ((PySem.W.Looks.ld hp).andThen .now).andThen (PySem.W.Looks.of_pure isSubtype_tuple_tuple)
  have LT := LT.keeps k
  have LT0 := LT0.keeps k
  have hp' := k _ _ hp
  have one : ∀ c ∈ cs, ∃ b1, PySem.W.exmOne K cls c = some b1 := by
    clear hp hp' k₀ q
    have : ∀ (cs : List Value) (b : Bool), PySem.W.exmAny K cls cs = some b → ∀ c ∈ cs, ∃ b1, PySem.W.exmOne K cls c = some b1 := by
      intro cs
      induction cs with
      | nil => intro b _ c hc; cases hc
      | cons c0 cs ih =>
        intro b e c hc
        obtain ⟨b1, d1, h1, h2, _⟩ := PySem.W.exmAny_cons e
        rcases List.mem_cons.mp hc with rfl | hc
        · exact ⟨b1, h1⟩
        · exact ih d1 h2 c hc
    exact this cs b hx
  unfold excMatches
  refine wpAny_bind (LT0.at ?_)
  dsimp only
  rw [if_pos rfl]
  first
    | refine wpAny_bind (wpAny_seqItems hp' rfl ?_)
    | refine wpAny_bind (wpAny_bind (wpAny_seqItems hp' rfl (wpAny_pure ?_)))
  dsimp only [Option.getD_some, Option.getD]
  refine wpAny_bind (wpAny_pure ?_)
  refine wpAny_bind (forIn_same (fun c hc Q' hq => ?_) ?_)
  · obtain ⟨b1, h1⟩ := one c hc
    obtain ⟨e1, _⟩ := PySem.W.exm_cls (M := M) X h1
    have e1 := e1.keeps k
    refine wpAny_bind (e1.at ?_)
    simp only [Bool.not_true, Bool.false_eq_true, if_false]
    exact wpAny_pure hq
  refine wpAny_bind (LT.at ?_)
  refine wpAny_bind (forIn_find (K := K) (cls := cls) (d := ⟨some true, ⟨⟩⟩) hx (fun c hc b1 h1 Q' hq => ?_) ?_)
  · obtain ⟨_, S1⟩ := PySem.W.exm_cls (M := M) X h1
    have S1 := S1.keeps k
    refine wpAny_bind (S1.at ?_)
    cases b1 with
    | true => exact wpAny_pure hq
    | false => exact wpAny_pure hq
  · cases b with
    | true => exact wpAny_pure q
    | false => exact wpAny_pure q
end My
namespace L2
open PySem PySem.Spec PyProof.Rows My
theorem flyingZ_keep {B h h' : Heap} {l : List Env} {a : Addr} {Z : Obj → Prop} (x : HandSPX.FlyingZ B l a Z h) (k : ∀ q o, h.get? q = some o → h'.get? q = some o) : HandSPX.FlyingZ B l a Z h' := by
  obtain ⟨f1, f2, f3, oe, vs, T, oT, ts, he, hz, hd, h1, hnT, hTe, hT, hdT, h3⟩ := x
  exact ⟨fun b o e => k b o (f1 b o e), f2, f3.of_keeps fun b o e _ => ⟨o, k b o e, rfl⟩, oe, vs, T, oT, ts, k _ _ he, hz, hd, h1, hnT, hTe, k _ _ hT, hdT, h3⟩
/-- the classes that an except clause over a tuple names -/
inductive AllNames (X : Cx) : List Expr → List Value → Prop
  | nil : AllNames X [] []
  | cons {x : Str} {p : Pos} {c : Value} {es : List Expr} {cs : List Value} : Names X x c → AllNames X es cs → AllNames X (.Name x p :: es) (c :: cs)
theorem spl_names {X : Cx} {a : Addr} {pn pins : List (Addr × Obj)} {σ : St} {H : Hp} {E : Value → Shared → Prop} {np : Pos} {s : Shared} (S : Inv (X.suite a pn) pins σ H s) : ∀ {es : List Expr} {cs : List Value} {Q : List Value → Shared → Prop}, AllNames X es cs → Q cs s →
    wpAny (model X.prog X.w) (X.suite a pn).A (spliced (backTo np (starEach es X.env))) Q E s
  | _, _, _, .nil, q => by
    first | exact Calls.spliced_nil q | (simp only [starEach]; exact Calls.spliced_nil q)
  | _, _, _, .cons (x := x) (p := p) hc hr, q => by
    refine Calls.spliced_cons ?_
    obtain ⟨hg, hdbg, hm | ⟨hm, hv, hnn⟩⟩ := hc
    · exact ld_glob (X := X.suite a pn) S hg hm (spl_names S hr q) hdbg
    · exact ld_blt (X := X.suite a pn) S hg hm hv (spl_names S hr q) hnn hdbg
/-- what the clause 'except (..) as n' wishes of an exception of the body -/
def wAsT (K : PySem.W.Frag) (cs : List Value) (i : Nat) (ts : Addr → Value → Option Addr → TS) (Wout : WX) (D : Ends) : WX := fun cls d σ H =>
  ∃ b, PySem.W.exmAny K cls cs = some b ∧ (b = true → ∀ a, H a = none → ts a cls d { nx := fun σ' H' => D.nx (σ'.set i none) H', rt := D.rt, bk := fun σ' H' => D.bk (σ'.set i none) H', ct := fun σ' H' => D.ct (σ'.set i none) H' } (σ.set i (some (.ref a))) H) ∧
    (b = false → Wout cls d σ H)
section
variable {X : Cx} {es : List Expr} {x1 : Nat} {n : Str} {cs : List Value} {i : Nat} {body suite : List Stmt} {b₀ : Stmt} {np pos pos' : Pos} {tb : WX → TS} {ts : Addr → Value → Option Addr → TS} {Wout : WX}
theorem ps_try_asT (hs : X.stack = X.env :: X.outer) (hf : X.env.frame = some X.env.locals) (hN : X.N.Nodup) (hi : X.N[i]? = some n) (hln : X.env.kindOf n = some .local) (hc : AllNames X es cs) (hlen : cs.length ≤ sizeLine) (tk : Takes X Wout)
    (hb : ∀ (W : WX) (pn : List (Addr × Obj)) (xe : Value → Shared → Prop), Takes (X.tr pn xe) W → PassesOwn (model X.prog X.w) X.A X.env xe → PSs (X.tr pn xe) body (tb W))
    (hsu : ∀ (a : Addr) (oe : Obj) (cls : Value) (d : Option Addr) (pn : List (Addr × Obj)), Zc cls d oe → (∃ vs, oe.data = .fields vs) → PSs (X.suite a ((a, oe) :: pn)) (b₀ :: suite) (ts a cls d)) :
    PS X (.Try body [.ExceptHandler (some (.Tuple es x1 np)) (some n) (b₀ :: suite) pos'] [] [] pos) (fun D σ H => tb (wAsT X.K cs i ts Wout D) D σ H) := by
  refine ⟨fun pins s σ H D I h => ?_⟩
  have ok := I.ok
  have hfr : X.A.frames = some (X.env :: X.outer) := by rw [ok.frames, hs]
  have hloc : Loc X.env.scope n := .inl hln
  refine wpAny_Try_except ?_
  refine wpAny_mono ((hb (wAsT X.K cs i ts Wout D) (X.pn ++ pins) (fun e s₁ => wpAny (model X.prog X.w) X.A (noteFrame e X.env) (fun _ s₂ => wpAny (model X.prog X.w) X.A (setFlight e none) (fun _ s₃ =>
    wpAny (model X.prog X.w) X.A (handleBy e X.env [.ExceptHandler (some (.Tuple es x1 np)) (some n) (b₀ :: suite) pos']) (SP X pins D) X.xe s₃) X.xe s₂) X.xe s₁) (fun u s' xx => ?_) PassesOwn.looking).run [] s σ H D (I.toTry _) h) (fun f s1 hsp => ?_) (fun e s1 he => he)
  · -- the catch
    obtain ⟨a, B, sI, pins', σ', H', cls, d, rfl, J', nb, up, sky, na, os, ag, b, hb1, hyes, hno⟩ := xx
    have J : Inv X pins σ' H' sI := J'.ofTry ok
    have sky' : Sky B (X.env :: X.outer) a (Zc cls d) X.env.locals s'.heap := by rw [← hs]; exact sky
    show wpAny (model X.prog X.w) X.A (noteFrame (.ref a) X.env) _ _ _
    refine Sky.land Zc.steady hfr hf sky' fun h3 fl3 up3 => ?_
    have J3 : Inv X pins σ' H' { s' with heap := h3 } := J.landed nb fl3.1 (up.trans up3) os ag
    obtain ⟨oe3, vs3, he3, hz3, hd3⟩ := fl3.there
    have notFr : ∀ {h : Heap} {o : Obj} {vs : Array Value}, h.FunFrames B (X.env :: X.outer) → h.get? a = some o → o.data = .fields vs → a ∉ frs (X.env :: X.outer) := fun {h o vs} ff e dd hm => by
      obtain ⟨_, o', e', hnf⟩ := ff.mem hm
      rw [e] at e'; cases e'
      exact hnf _ dd
    have nfr := notFr fl3.2.2.1 he3 hd3
    have nL : a ≠ X.env.locals := fun z => nfr (List.mem_filterMap.mpr ⟨X.env, List.mem_cons_self, by rw [hf, z]⟩)
    have nF : a ∉ X.fs := fun hm => by
      obtain ⟨e, he, q⟩ := List.mem_filterMap.mp hm
      exact nfr (List.mem_filterMap.mpr ⟨e, List.mem_cons_of_mem _ he, q⟩)
    have S3 := J3.suite he3 hd3 na nL nF
    refine wpAny_handleBy_cons (codeAny_handlers_test ?_) (by intro q; cases q)
    have LT : PySem.W.Looks (model X.prog X.w) h3 (typeOf (.ref a)) cls := fun A Q E s k q => wpAny_typeOf_ref (k _ _ he3) (by rw [hz3.1]; exact q)
    refine wpAny_Tuple_spliced (spl_names (S := S3) hc ⟨hlen, ?_⟩)
    have kp : ∀ q o, h3.get? q = some o → (h3.push { cls := .type "tuple", data := .seq cs.toArray }).get? q = some o := fun _ _ z => Heap.get?_push_of_some _ z
    have LM := exm_tupN (M := model X.prog X.w) (fun q o z => kp q o (J3.kIn q o z)) (LT.keeps kp) (Heap.get?_push_size h3 rfl) hb1
    refine LM.here ?_
    have fl3p : HandSPX.FlyingZ B (X.env :: X.outer) a (Zc cls d) (h3.push { cls := .type "tuple", data := .seq cs.toArray }) := flyingZ_keep fl3 kp
    have up3p := up3.trans (Heap.UpToSlots.of_keeps kp)
    clear S3 he3 hz3 hd3 J3
    revert fl3p up3p
    generalize (h3.push { cls := .type "tuple", data := .seq cs.toArray }) = h3' at *
    intro fl3p up3p
    clear LM LT kp up3 fl3
    rename HandSPX.FlyingZ B (X.env :: X.outer) a (Zc cls d) h3' => fl3
    rename s'.heap.UpToSlots h3' => up3
    obtain ⟨oe3, vs3, he3, hz3, hd3⟩ := fl3.there
    cases b with
    | true =>
      refine codeAny_handlers_suite_as ?_
      refine HandSPX.lands_againZ fl3 fun h4 fl4 up4 => ?_
      have J4 : Inv X pins σ' H' { s' with heap := h4 } := J.landed nb fl4.1 ((up.trans up3).trans up4) os ag
      obtain ⟨oe4, vs4, he4, hz4, hd4⟩ := fl4.there
      have S4 := J4.suite he4 hd4 na nL nF
      refine store_ok (X := X.suite a ((a, oe4) :: (X.pn ++ pins))) (v := .ref a) S4 hN hi hloc rfl (fun s5 S5 => ?_) (.inr hln)
      refine wpAny_mono ((hsu a oe4 cls d (X.pn ++ pins) hz4 ⟨_, hd4⟩).run [] s5 _ H' _ S5 (hyes rfl a na)) (fun f s6 hsp => ?_) (fun _ _ z => False.elim z)
      have end_ : ∀ {σ6 : St} {H6 : Hp} {Q : Shared → Prop}, Inv (X.suite a ((a, oe4) :: (X.pn ++ pins))) [] σ6 H6 s6 → (∀ s7, Inv X pins (σ6.set i none) H6 s7 → Q s7) →
          wpAny (model X.prog X.w) X.A (do bindName X.env n .none; unbindBehindTheSuite X.env n pos') (fun _ s7 => Q s7) X.xe s6 := fun {σ6 H6 Q} S6 hq => gone_ok (S6.unsuite ok) hN hi hln hq
      cases f with
      | next =>
        obtain ⟨σ6, H6, S6, q6⟩ := hsp
        exact end_ S6 fun s7 J7 => ⟨_, _, J7, q6⟩
      | brk =>
        obtain ⟨σ6, H6, S6, q6⟩ := hsp
        exact end_ S6 fun s7 J7 => ⟨_, _, J7, q6⟩
      | cont =>
        obtain ⟨σ6, H6, S6, q6⟩ := hsp
        exact end_ S6 fun s7 J7 => ⟨_, _, J7, q6⟩
      | ret u =>
        obtain ⟨v6, σ6, H6, S6, r6, q6⟩ := hsp
        exact end_ S6 fun s7 J7 => ⟨_, _, _, J7, r6, q6⟩
    | false =>
      show wpAny _ X.A (handleBy (.ref a) X.env []) _ _ _
      refine wpAny_handleBy_nil ?_
      obtain ⟨k1, k2, k3, oe, vs, T, oT, ts', he, hz, hd, h1, hr⟩ := id fl3
      unfold PySem.passOn
      refine wpAny_bind (wpAny_field he hd h1 ?_)
      rw [if_neg (show ¬ ((Value.ref T == Value.none) = true) from by simp)]
      have fin : wpAny (model X.prog X.w) X.A (setFlight (.ref a) X.env.frame) (fun _ s4 => wpAny (model X.prog X.w) X.A (throw (.ref a) : Sem Flow) (SP X pins D) X.xe s4) X.xe { s' with heap := h3' } := by
        rw [hf]
        refine HandSPX.setFlight_upZ fl3 fun h4 hh4 up4 => wpAny_throw (tk _ _ ?_)
        exact ⟨a, B, sI, pins, σ', H', cls, d, rfl, J, nb, (up.trans up3).trans up4, .inr (.inr (by rw [hs]; exact hh4)), na, os, ag, hno rfl⟩
      first
        | exact wpAny_bind (wpAny_pure (wpAny_bind fin))
        | exact wpAny_bind fin
  · cases f with
    | next =>
      obtain ⟨σ', H', J', q⟩ := hsp
      exact wpAny_execs_nil ⟨σ', H', J'.ofTry ok, q⟩
    | brk =>
      obtain ⟨σ', H', J', q⟩ := hsp
      exact ⟨σ', H', J'.ofTry ok, q⟩
    | cont =>
      obtain ⟨σ', H', J', q⟩ := hsp
      exact ⟨σ', H', J'.ofTry ok, q⟩
    | ret u =>
      obtain ⟨v, σ', H', J', r, q⟩ := hsp
      exact ⟨v, σ', H', J'.ofTry ok, r, q⟩
end
end L2
end

section
set_option Elab.async false
set_option maxRecDepth 100000
set_option maxHeartbeats 4000000
set_option linter.all false
/-! errors: a class whose __init__ begins with super().__init__(..) -/
namespace My
open PySem PySem.Spec PySem.Calls PyProof.Rows L2 NdefX
/-- super().__init__(..) of an error of the class at C (self in slot 0), then the rest -/
def tSup (K : PySem.W.Frag) (C : Addr) (ta : TA) (t : TS) : TS := fun D σ H => ∃ a, σ[0]? = some (some (.ref a)) ∧ H a = some (exo a C none) ∧
  ta σ H fun vs H1 => vs.length ≤ 1000 ∧ H1 a = some (exo a C none) ∧ t D σ H1
abbrev supS (p0 p1 p2 p3 p4 : Pos) (e : Expr) (es : List Expr) : Stmt := .Expr (.Call (.Attribute (.Call (.Name "super" p0) [] [] p1) "__init__" p2) (e :: es) [] p3) p4
/-- what the written part tells -/
structure SupF (P : Program) (K : PySem.W.Frag) (mg : Str → Option Value) (C f cc cda : Addr) (fd : FuncData) (qual : Str) : Prop where
  ex : OexC K C
  fn : ∃ oc od osl, K.lookup f = some ⟨oc, od, .func fd, osl⟩
  cd : PySem.W.codeIn K (.ref cda) qual = true
  file : ∃ ccl cdd vs ccs file tf, K.lookup cda = some ⟨ccl, cdd, .fields vs, ccs⟩ ∧ vs[2]? = some (.str file tf) ∧ ((P.main.file : Str) == file) = true
  top : (P.main.scope.names.lookup ("super" : Str)).isSome = false
  cell : ∃ cl cld csl, K.lookup cc = some ⟨cl, cld, .cell (some (.ref C)), csl⟩
  sup : mg "super" = none
  oth : PySem.W.nsIn K cStatics "thirdparty.any" = some none
  meth : PySem.W.ks_superIn K C C "__init__" = some (some (.builtin "ValueError.__init__"))
  mro : PySem.W.mroIn K C (.ref C) = some true
  ve : PySem.W.subIn K (.ref C) (.type "ValueError") = some true
section
variable {CX : CXT} {P : Program} {w : World} {K : PySem.W.Frag} {mg : Str → Option Value} {base : Heap} {N ps : List Str} {C f cc cda : Addr} {k : Nat} {name qual : Str} {params : Arguments} {body : List Stmt} {scope : Scope} {dV kV doc pm ct : Value} {an : Option Addr} {sp : Sp} {p0 p1 p2 p3 p4 : Pos} {e : Expr} {es : List Expr} {ar : Arg}
theorem fn_sup {pl : Sem Bool} (Z : SupF P K mg C f cc cda (PySem.W.ksFn name qual params (supS p0 p1 p2 p3 p4 e es :: body) scope dV kV doc pm an (.ref cda) ct cc) qual)
    (S : NScope N ps ["__class__"] scope) (hks : scope.names.lookup ("super" : Str) = some .globalImplicit) (hp : (params.posonlyargs ++ params.args).head? = some ar) (hN0 : N[0]? = some ar.arg) (hpa : ar.arg ∈ ps)
    (len : ∀ vs H Q E, sp vs H Q E → vs.length = ps.length)
    (hc : ∀ env : Env, eval (.Call (.Attribute (.Call (.Name "super" p0) [] [] p1) "__init__" p2) (e :: es) [] p3) env = (do
      let ov ← attributeBase (.Call (.Name "super" p0) [] [] p1) "__init__" env (eval (.Call (.Name "super" p0) [] [] p1) env)
      standAt p2.atName
      let (f, first) ← holding [ov] (getMethod ov "__init__" pl)
      callWith p3 f first (backTo p3 (starEach (e :: es) env)) []))
    (hst : ∀ env : Env, starEach (e :: es) env = (false, eval e env) :: starEach es env) (hpl : ∀ env : Env, (backTo p3 (starEach es env)).any (·.1) = false)
    (hsw : ∀ (l : Nat) (env : Env), swapsWith (.Call (.Attribute (.Call (.Name "super" p0) [] [] p1) "__init__" p2) (e :: es) [] p3) none l env = pure false)
    (hbody : ∀ (A : Around) (outer : List Env) (s : Shared) (H : Hp) (vs : List V) (Q : VK) (E : XK), Room k (A.deeper (envF ⟨name, qual, params, supS p0 p1 p2 p3 p4 e es :: body, scope, [("__class__", cc)], cda⟩ f s.heap.objs.size)) → sp vs H Q E →
      ∃ ta t, PA (ncx CX P w K mg base N ⟨name, qual, params, supS p0 p1 p2 p3 p4 e es :: body, scope, [("__class__", cc)], cda⟩ f A outer s H E) (e :: es) ta ∧
        PSs (ncx CX P w K mg base N ⟨name, qual, params, supS p0 p1 p2 p3 p4 e es :: body, scope, [("__class__", cc)], cda⟩ f A outer s H E) body t ∧ tSup K C ta t { nx := fun _ H' => Q .non H', rt := Q } (startF N vs [none]) H) :
    FnOk P w K mg base CX (k + 1) f (PySem.W.ksFn name qual params (supS p0 p1 p2 p3 p4 e es :: body) scope dV kV doc pm an (.ref cda) ct cc) ps sp := by
  refine ⟨len, fun A outer s H args us vs Q E hr e0 hb r hsp => ?_⟩
  have hl := len _ _ _ _ hsp
  have X0 : K.In s.heap := fun b o q => (e0.bs b o (e0.mod.kin b o q)).1
  obtain ⟨oc, od, osl, ho⟩ := Z.fn
  obtain ⟨ccl, cdd, cvs, ccs, file, tf, hcode, hvs, hfile⟩ := Z.file
  obtain ⟨cl, cld, csl, hcell⟩ := Z.cell
  have C0 : CellsAt [("__class__", cc)] ["__class__"] [none] s.heap H := by
    refine ⟨rfl, fun y c q => ?_, fun x y c q1 q2 => ?_, fun i y q => ?_⟩
    · have q1 := List.mem_singleton.mp (PySem.mem_of_lookup q)
      obtain ⟨_, rfl⟩ := Prod.mk.inj q1
      exact ⟨(e0.bs _ _ (e0.mod.kin _ _ hcell)).2, _, _, X0 _ _ hcell, rfl⟩
    · have q1 := List.mem_singleton.mp (PySem.mem_of_lookup q1)
      have q2 := List.mem_singleton.mp (PySem.mem_of_lookup q2)
      exact (Prod.mk.inj q1).1.trans (Prod.mk.inj q2).1.symm
    · have hi : i = 0 := by
        cases i with
        | zero => rfl
        | succ i => simp at q
      subst hi
      obtain rfl : ("__class__" : Str) = y := Option.some.inj q
      exact ⟨cc, rfl, fun v z => by cases z⟩
  obtain ⟨ta, t, hA, hT, hq⟩ := hbody A outer s H vs Q E (hr.deeper _) hsp
  have lim : s.heap.NoLimit := e0.mod.nolimit.keeps fun b o q => (e0.bs b o q).1
  refine PySem.ks_codeAny_call_defAt (body := supS p0 p1 p2 p3 p4 e es :: body) (binds := ps.zip us) hr.depth (X0 _ _ ho) rfl lim (PySem.W.codeRec_of X0 Z.cd) rfl hb S.nocell (fun ⟨n, _⟩ hy => S.par n (List.of_mem_zip hy).1) (fun h₁ hns kp => ?_) S.co S.gen S.kind
  have I : Inv (ncx CX P w K mg base N ⟨name, qual, params, supS p0 p1 p2 p3 p4 e es :: body, scope, [("__class__", cc)], cda⟩ f A outer s H E) [] (startF N vs [none]) H { s with heap := h₁, toks := s.toks + (ps.zip us).length } := inv_startN S hr.hd e0 hl r C0 hns kp
  have hkc : scope.names.lookup ("__class__" : Str) = some .free := S.frk _ List.mem_cons_self
  have hka : scope.names.lookup ar.arg = some .local := S.par _ hpa
  obtain ⟨a, e1, ea, hq⟩ := hq
  obtain ⟨nm, q0, Nn, bs, bm, sn, sub, ab, col, dd, k0, k1, k2, k3, k5, hC, hbm⟩ := Z.ex.cls
  have hcl : PySem.W.clsIn K C = some { name := nm, bases := bs, mro := .ref C :: bm, ns := Nn, qualname := q0, hasDict := true, slotNames := sn, subclasses := sub, abstract := ab, collection := col, hasDel := false } := by unfold PySem.W.clsIn; rw [hC] <;> rfl
  have X1 : K.In h₁ := I.kIn
  obtain ⟨t1, hoa⟩ := exo_at I.hok ea
  have hoa : h₁.get? a = some ({ cls := .ref C, dict := none, data := .fields #[.ref t1, .none, .none, .none, .bool false, .none] } : Obj) := hoa
  have IA : ∀ {h : Heap} {t1 : Addr}, h.get? a = some ({ cls := .ref C, dict := none, data := .fields #[.ref t1, .none, .none, .none, .bool false, .none] } : Obj) → PySem.W.InstAt h a { cls := .ref C, dict := none, data := .fields #[.ref t1, .none, .none, .none, .bool false, .none] } C none := fun z => ⟨z, rfl, rfl, trivial⟩
  have hxC : a ≠ C := PySem.W.ks_ne X1 (IA hoa) hcl
  obtain ⟨m, hn, hlo⟩ := id I.loc
  obtain ⟨u, ru, lo⟩ := hlo 0 ar.arg (.ref a) hN0 e1 (.inl hka)
  obtain rfl : u = Value.ref a := ru
  have hm : m ar.arg = some (.ref a) := by
    rcases lo with ⟨_, z⟩ | ⟨z, _⟩
    · exact z
    · have z : scope.names.lookup ar.arg = some .cell ∨ scope.names.lookup ar.arg = some .free := z
      rw [hka] at z
      rcases z with z | z <;> cases z
  have hn : h₁.Ns s.heap.objs.size m := hn
  refine PySem.ks_wpAt_execs_cons (PySem.ks_wpAt_Expr_any ?_ (show (scope.kind == ScopeKind.module && _) = false by rw [S.kind]; rfl) (hsw _ _))
  refine PySem.ks_wpAt_MethodCall (pl := pl) ?_ (hc _)
  obtain ⟨mb, hb1, hb2⟩ := I.mod.blt
  refine PySem.ks_wpAt_super_base (ar := ar) hks hkc rfl rfl (X1 _ _ ho) rfl hp rfl (X1 _ _ hcode) rfl hvs hfile Z.top ?_
  refine PySem.W.ks_loadName_global S.kind hks (Calls.loadGlobal_builtin (I.mod.glob.keeps I.bk) Z.sup (hb1.keeps I.bk) ((hb2 "super" (by decide)).trans (show bootBuiltins "super" = some (.type "super") by kernel_rfl)) ⟨rfl, ?_⟩)
  refine wpAny_loadName_free S.kind hkc rfl ⟨_, X1 _ _ hcell, rfl⟩ ?_
  refine wpAny_loadName_local S.kind hka hn hm ?_
  refine PySem.ks_wpAny_isType_cls (X1 _ _ hC) rfl ⟨rfl, ?_⟩
  refine PySem.ks_wpAny_call_super (X1 _ _ hC) rfl hoa rfl (fun c z => by cases z) (PySem.W.looks_mroIn X1 Z.mro) (fun h2 hso kp2 => ?_)
  have I2 := I.kept (t' := s.toks + (ps.zip us).length) kp2
  have X2 : K.In h2 := I2.kIn
  have hoa2 := kp2 _ _ hoa
  have hmet : PySem.W.alongIn K "__init__" (((.ref C :: bm).dropWhile (· != .ref C)).drop 1) = some (some (.builtin "ValueError.__init__")) := by
    have z := Z.meth
    unfold PySem.W.ks_superIn at z
    rw [hcl] at z
    exact z
  refine PySem.W.kxs_getMethod PySem.W.kxs_ValueError (l₀ := .ref C :: bm) hso (PySem.W.looks_opaque X2 Z.oth) (fun A Q E s k q => wpAny_bind ((PySem.W.looks_clsIn X2 hcl) A _ E s k (wpAny_pure q))) rfl X2 hmet
    ((IA hoa2).type.andThen (PySem.W.looks_subIn X2 Z.ve)) hxC (by decide) ?_
  have hfree : H h2.objs.size = none := I2.hok.fresh (Nat.le_refl _)
  have I3 := I2.kept (t' := s.toks + (ps.zip us).length + 1) (h' := h2.push (PySem.W.kxs_mw "ValueError.__init__" a)) (fun b o z => Heap.get?_push_of_some _ z)
  have hu3 : (h2.push (PySem.W.kxs_mw "ValueError.__init__" a)).get? h2.objs.size = some (PySem.W.kxs_mw "ValueError.__init__" a) := Heap.get?_push_size _ rfl
  have notIn : h2.objs.size ∉ frs (envF ⟨name, qual, params, supS p0 p1 p2 p3 p4 e es :: body, scope, [("__class__", cc)], cda⟩ f s.heap.objs.size :: outer) := fun hm => by
    obtain ⟨_, o', e', _⟩ := I2.stack.mem hm
    exact absurd (Heap.lt_size e') (Nat.lt_irrefl _)
  have I4 := I3.pins_of (pins' := [(h2.objs.size, PySem.W.kxs_mw "ValueError.__init__" a)]) (fun p hp => by
    obtain rfl := List.mem_singleton.mp hp
    refine ⟨hu3, hfree, fun z => ?_, fun z => ?_, fun v z => by cases z⟩
    · exact notIn (List.mem_filterMap.mpr ⟨_, List.mem_cons_self, congrArg some z.symm⟩)
    · obtain ⟨e', he', q'⟩ := List.mem_filterMap.mp z
      exact notIn (List.mem_filterMap.mpr ⟨e', List.mem_cons_of_mem _ he', q'⟩))
  dsimp only
  rw [hst]
  refine PySem.W.kxs_callWith (i := "ValueError.__init__") (x := a) (by show (false || (backTo p3 (starEach es _)).any (·.1)) = false; rw [hpl]; rfl) (evalArgs_plain ?_)
  have hrun := hA.run p3 _ _ _ H _ I4 hq
  rw [hst] at hrun
  refine thn hrun fun us1 s1 ⟨vs1, H1, I5, r1, hz, ea1, q1⟩ => ?_
  have hus : us1.length ≤ sizeLine := by
    rw [← Paired.length r1, sizeLine_eq]
    omega
  obtain ⟨hu5, _⟩ := I5.pin (h2.objs.size, PySem.W.kxs_mw "ValueError.__init__" a) (List.mem_append_right _ List.mem_cons_self)
  refine ⟨hu5, ?_⟩
  obtain ⟨t5, ho5⟩ := exo_at I5.hok ea1
  have X5 : K.In s1.heap := I5.kIn
  obtain ⟨hp5, g5, d5, tk5, os5⟩ := s1
  refine wpAny_call (codeAny_of_tree ?_)
  show wpAny _ _ (callAny (.ref h2.objs.size) ⟨us1, []⟩) _ _ _
  simp only [callAny]
  refine wpAny_bind (wpAny_load hu5 ?_)
  simp only [PySem.W.kxs_mw, show (Value.type "method-wrapper" == Value.type "method" || Value.type "method-wrapper" == Value.type "builtin_function_or_method" || Value.type "method-wrapper" == Value.type "method-wrapper") = true by decide, if_true]
  refine PySem.W.KFB.if_so (by decide) ?_
  refine wpAny_bind (PySem.W.check_bound_init F.excBase_ValueError.toExcCallFacts (X5 _ _ hC) ho5 rfl ?_)
  refine wpAny_bind (wpAny_pure (wpAny_pure ?_))
  refine ⟨plainId_quiet F.excBase_ValueError.init.plain _, codeAny_builtin F.excBase_ValueError.initEntry ?_⟩
  refine PySem.W.exc_init_tree (cls := .ref C) (t0 := t5) (dv := none) (c2 := .none) (c3 := .none) (b4 := .bool false) ho5 hus fun h6 k6 e6 _ => ?_
  have J := I5.write (t' := tk5) (x := a) (e := a) (o := exo a C none) (by rw [ea1]; exact True.intro) (.inl rfl) k6 ⟨_, e6⟩ (exo_ok e6)
  have eu : upd H1 a (exo a C none) = H1 := by
    funext b
    by_cases hb : b = a
    · rw [hb, upd_same, ea1]
    · rw [upd_ne hb]
  rw [eu] at J
  refine wpAt_of_wpAny (wpAny_mono (hT.run _ _ _ H1 _ J q1) (fun fl s' hs => ?_) fun e s' hs => hs)
  have fin : ∀ {σ' : L2.St} {H' : Hp} {v : V} {u : Value} {pn' : List (Addr × Obj)}, L2.Inv (ncx CX P w K mg base N ⟨name, qual, params, supS p0 p1 p2 p3 p4 e es :: body, scope, [("__class__", cc)], cda⟩ f A outer s H E) pn' σ' H' s' → L2.RelV v u → Q v H' → CE outer P w H s Q u s' :=
    fun {σ' H' v u pn'} J rv q => ⟨v, H', J.os, J.bare, J.base, J.hok, rv, q⟩
  cases fl with
  | ret u =>
    obtain ⟨v, σ', H', J, rv, q⟩ := hs
    exact fin J rv q
  | next =>
    obtain ⟨σ', H', J, q⟩ := hs
    exact fin (v := V.non) (u := Value.none) J rfl q
  | brk =>
    obtain ⟨_, _, _, q⟩ := hs
    exact False.elim q
  | cont =>
    obtain ⟨_, _, _, q⟩ := hs
    exact False.elim q
end
end My
end

section
set_option Elab.async false
set_option maxRecDepth 100000
set_option maxHeartbeats 4000000
set_option linter.all false
/-! errors: a def called from an except suite with the error it got; isinstance and fields of the error there -/
namespace PySem.W
open PySem PySem.Spec PySem.Calls PyProof.Rows
section
variable {prog : Program} {w : World} {A : Around} {E : Value → Shared → Prop} {s : Shared} {K : Frag} {x D : Addr} {ox : Obj}
theorem findObj_dataO {C : Addr} {od : Option Obj} {name : Str} {a g : Value} (hc : (clsIn K C).isSome = true) (ha : findIn K (.ref C) name = some (some a)) (hg : specialIn K a "__get__" = some (some g)) (ht : takesIn K a = some true) : findObj K C od name = some (.bind g a) := by
  obtain ⟨cd, hc⟩ := Option.isSome_iff_exists.mp hc
  unfold findObj
  rw [hc, Option.bind_some, ha, Option.bind_some]
  simp [hg, ht]
theorem kin_classO {od : Option Obj} {Q : Option Value → Shared → Prop} (hga : findIn K (.ref D) "__getattribute__" = some (some (.builtin "BaseException.__getattribute__"))) (hgt : findIn K (.ref D) "__getattr__" = some none) (hsub : subIn K (.ref D) (.type "BaseException") = some true)
    (hdct : hasDictIn K D = true) (ha : findIn K (.ref D) "__class__" = some (some (.builtin "object.__class__")))
    (hn : specialIn K (.builtin "object.__class__") "__get__" = some (some (.builtin "getset_descriptor.__get__"))) (htk : takesIn K (.builtin "object.__class__") = some true) (hm : mroIn K D (.type "object") = some true)
    (X : K.In s.heap) (I : InstAt s.heap x ox D od) (h : Q (some (.ref D)) { s with toks := s.toks + 1 }) : wpAny (model prog w) A (getAttr? (.ref x) "__class__") Q E s := by
  have hf : findObj K D od "__class__" = some (.bind (.builtin "getset_descriptor.__get__") (.builtin "object.__class__")) := findObj_dataO (by obtain ⟨cd, hc, _⟩ := any_some hdct; rw [hc]; rfl) ha hn htk
  obtain ⟨hp, g, d, t, os⟩ := s
  have L0 := I.type (M := model prog w)
  have L1 := looks_findIn (M := model prog w) X hga
  have L2 := looks_findIn (M := model prog w) X hgt
  have L3 := looks_find (M := model prog w) X I hf
  have sub : Looks (model prog w) hp (isInstance (.ref x) (.type "BaseException")) true := L0.andThen (looks_subIn X hsub)
  have hx0 : (false && onTheHeap (Value.builtin "BaseException.__getattribute__")) = false := rfl
  have hx2 : (Value.builtin "BaseException.__getattribute__" == Value.builtin "object.__getattribute__") = false := by decide +kernel
  have hx1 : (onTheHeap (Value.ref D) && Value.builtin "BaseException.__getattribute__" == Value.builtin "object.__getattribute__") = false := by rw [hx2]; rfl
  unfold getAttr? getAttrBy? getAttrBy
  refine wpAny_bind (wpAny_mkText (wpAny_bind (wpAny_attempt (wpAny_holding (wpAny_bind (L0.at (wpAny_bind (L1.at ?_))))))))
  show wpAny _ _ (if (onTheHeap (Value.ref D) && Value.builtin "BaseException.__getattribute__" == Value.builtin "object.__getattribute__") = true then _ else _) _ _ _
  rw [hx1, if_neg Bool.false_ne_true]
  unfold getAttrByItsOwn hookBefore
  refine wpAny_bind ?_
  rw [if_pos (show onTheHeap (Value.ref D) = true from rfl)]
  refine L2.at ?_
  refine wpAny_bind (wpAny_attempt (wpAny_holding ?_))
  unfold callGetattribute
  rw [hx0, if_neg Bool.false_ne_true]
  unfold boundAndCalled
  rw [PySem.F.excAttr_ValueError.ga.bind (.ref x)]
  refine wpAny_bind (wpAny_pure ?_)
  show wpAny _ _ (call (.builtin "BaseException.__getattribute__") [.ref x, .str "__class__" t]) _ _ _
  refine wpAny_call (codeAny_call_builtin PySem.F.excAttr_ValueError.ga.plain PySem.F.entry_bexc_ga ?_)
  refine @check_slot (model prog w) _ _ ⟨hp, g, d, t + 1, os⟩ "BaseException.__getattribute__" "BaseException" "__getattribute__" (.ref x) [.str "__class__" t] [] _ (by decide +kernel) (by decide +kernel) sub (PySem.F.args_bexc_ga (.ref x) (.str "__class__" t)) ?_
  unfold Builtin.«object.__getattribute__»
  refine wpAny_bind (wpAny_of_eq (a := ((Value.ref x : Value), [Value.str "__class__" t])) (by first | rfl | (simp only [slotArgs]; rfl)) ?_)
  refine wpAny_bind (wpAny_pure (wpAny_bind (L0.at (wpAny_bind (L3.at ?_)))))
  show wpAny _ _ (holding [Value.builtin "object.__class__"] (call (.builtin "getset_descriptor.__get__") [.builtin "object.__class__", .ref x, .ref D]) >>= ret) _ _ _
  refine wpAny_bind (wpAny_holding (wpAny_call (class_get (s := ⟨hp, g, d, t + 1, os⟩) (ox := ox) (od := od) X I hm ?_)))
  refine wpAny_pure ?_
  show wpAny _ _ (handedOut (.ref D)) _ _ _
  rw [handedOut_of (v := .ref D) rfl]
  first
    | exact wpAny_pure (wpAny_pure h)
    | exact wpAny_pure h
    | exact wpAny_pure (wpAny_bind (wpAny_pure (wpAny_pure h)))
theorem kitx_excO {od : Option Obj} (hga : findIn K (.ref D) "__getattribute__" = some (some (.builtin "BaseException.__getattribute__"))) (hgt : findIn K (.ref D) "__getattr__" = some none) (hsub : subIn K (.ref D) (.type "BaseException") = some true) (hdct : hasDictIn K D = true) (ha : findIn K (.ref D) "__class__" = some (some (.builtin "object.__class__")))
    (hn : specialIn K (.builtin "object.__class__") "__get__" = some (some (.builtin "getset_descriptor.__get__"))) (htk : takesIn K (.builtin "object.__class__") = some true) (hm : mroIn K D (.type "object") = some true) :
    KitX K (.ref x) (.ref D) (fun h => InstAt h x ox D od) where
  ty := fun _ _ _ I => I.type
  it := fun _ _ X _ => by
    obtain ⟨cdD, hcD, _⟩ := any_some hdct
    unfold clsIn at hcD
    split at hcD
    · rename_i c' d' cd' sl' ho
      intro A' Q' E' s' k q
      unfold isType loadHead
      exact wpAny_bind (wpAny_loadPart (k _ _ (X _ _ ho)) (wpAny_pure q))
    · cases hcD
  ne := fun h tp dd its n sl X htp => by
    obtain ⟨cdD, hcD, _⟩ := any_some hdct
    refine Bool.eq_false_iff.mpr fun q => ?_
    have e : D = tp := Value.ref.inj (beq_iff_eq.mp q)
    subst e
    unfold clsIn at hcD
    split at hcD
    · rename_i c' d' cd' sl' ho
      have z := (X _ _ ho).symm.trans htp
      cases z
    · cases hcD
  ca := fun X I k => kin_classO hga hgt hsub hdct ha hn htk hm X I k
end
end PySem.W
namespace L2H
open PySem PySem.Spec PyProof.Rows L2 HotX
/-- what a def promises that is called while p's error is handled, and knows p -/
structure FnE (P : Program) (w : World) (K : PySem.W.Frag) (mg : Str → Option Value) (base : Heap) (CX : CXT) (k : Nat) (f : Addr) (fd : FuncData) (ps : List Str) (sp : Addr × Obj → Sp) : Prop where
  len : ∀ p vs H Q E, sp p vs H Q E → vs.length = ps.length
  run : ∀ (A : Around) (outer : List Env) (s : Shared) (H : Hp) (args : Args) (us : List Value) (vs : List V) (Q : VK) (E : XK) (p : Addr × Obj), RoomH k A → PinOk outer H s p → Env0 P w K mg base A outer s H → BindsTo s fd args (ps.zip us) → Vals vs us → sp p vs H Q E →
    codeAny (model P w) A (.call (.ref f) args) (CR CX outer P w H s Q E) s
theorem fn_ofE2 {CX : CXT} {P : Program} {w : World} {K : PySem.W.Frag} {mg : Str → Option Value} {base : Heap} {k : Nat} {f : Addr} {name qual : Str} {params : Arguments} {body : List Stmt} {scope : Scope} {dV kV doc pm cdv ct oc : Value} {an od : Option Addr}
    {osl : Array (Option Value)} {N ps : List Str} {sp : Addr × Obj → Sp} (lk : K.lookup f = some ⟨oc, od, .func (PySem.W.fnOf name qual params body scope dV kV doc pm an cdv ct), osl⟩) (hcd : PySem.W.codeIn K cdv qual = true) (S : FnScope N ps scope)
    (len : ∀ p vs H Q E, sp p vs H Q E → vs.length = ps.length)
    (hbody : ∀ (A : Around) (outer : List Env) (s : Shared) (H : Hp) (vs : List V) (Q : VK) (E : XK) (p : Addr × Obj), RoomH k (A.deeper (envOfC qual scope s.heap.objs.size f cdv)) → sp p vs H Q E →
      ∃ t, PSs (cxH CX P w K mg base N qual scope f cdv A outer s H E p) body t ∧ t { nx := fun _ H' => Q .non H', rt := Q } (L2.start N vs) H) :
    FnE P w K mg base CX (k + 1) f (PySem.W.fnOf name qual params body scope dV kV doc pm an cdv ct) ps sp := by
  refine ⟨len, fun A outer s H args us vs Q E p hr hpin e0 hb r hsp => ?_⟩
  have hl := len _ _ _ _ _ hsp
  have KX : K.In s.heap := e0.mod.kin.keeps fun b o e => (e0.bs b o e).1
  have lim : s.heap.NoLimit := e0.mod.nolimit.keeps fun b o e => (e0.bs b o e).1
  have hkind : ∀ y ∈ ps.zip us, scope.names.lookup y.1 = some .local ∨ (scope.names.lookup y.1 = some .cell ∧ ((cellsFrom (s.heap.objs.size + 1) scope.names []).lookup y.1).isSome = true) := fun ⟨n, v⟩ hy => by
    rcases S.par n (List.of_mem_zip hy).1 with q | q
    · exact .inl q
    · exact .inr ⟨q, PySem.W.cellsFrom_some _ _ _ (.inl q)⟩
  refine codeAny_call_function hr.depth (KX _ _ lk) rfl S.co S.gen rfl (PySem.W.codeRec_of KX hcd) (hb _ _ _ _ ?_)
  refine wpAny_newFunctionEnv_cells S.kind hkind fun env he s1 x => ?_
  subst he
  refine ⟨lim.keeps x.toInCall.keep, codeAny_func ?_⟩
  obtain ⟨t, ht, hq⟩ := hbody A outer s H vs Q E p (hr.deeper _) hsp
  have I : Inv (cxH CX P w K mg base N qual scope f cdv A outer s H E p) [] (L2.start N vs) H s1 := inv_startH S hpin e0 hl r x
  refine wpAny_mono (ht.run [] s1 (L2.start N vs) H _ I hq) (fun fl s' hs => ?_) fun e s' hs => hs
  have fin : ∀ {σ' : St} {H' : Hp} {v : V} {u : Value}, Inv (cxH CX P w K mg base N qual scope f cdv A outer s H E p) [] σ' H' s' → RelV v u → Q v H' → CE outer P w H s Q u s' :=
    fun {σ' H' v u} J rv q => ⟨v, H', J.os, J.bare, J.base, J.hok, rv, q⟩
  cases fl with
  | ret u =>
    obtain ⟨v, σ', H', J, rv, q⟩ := hs
    exact fin J rv q
  | next =>
    obtain ⟨σ', H', J, q⟩ := hs
    exact fin (v := V.non) (u := Value.none) J rfl q
  | brk =>
    obtain ⟨_, _, _, q⟩ := hs
    exact False.elim q
  | cont =>
    obtain ⟨_, _, _, q⟩ := hs
    exact False.elim q

section
variable {X : Cx} {CX : CXT} {k : Nat} {f C : Addr} {fd : FuncData} {ps : List Str} {sp : Addr × Obj → Sp} {E : St → XK} {x m : Str} {q pos apos : Pos} {e o : Expr} {es : List Expr} {ta : TE} {t : TA}
theorem run_fnE {pins : List (Addr × Obj)} {σ : St} {H : Hp} {s : Shared} {Q : VK} {us : List Value} {vs : List V} (F : FnE X.prog X.w X.K X.mg X.base CX k f fd ps sp) (hr : RoomH k X.A) {p : Addr × Obj} (hp : p ∈ X.pn) (hb : Binds X.K fd ps []) (hx : PassesAt CX X σ (E σ))
    (I : Inv X pins σ H s) (r : Vals vs us) (h : sp p vs H Q (E σ)) : wpAny (model X.prog X.w) X.A (call (.ref f) us) (EP X pins σ Q) X.xe s := by
  have hl : us.length = ps.length := by rw [← r.length]; exact F.len _ _ _ _ _ h
  have b := hb s us I.kIn (by rw [List.append_nil]; exact hl)
  rw [List.append_nil] at b
  have P1 := I.pin p (List.mem_append_left _ hp)
  have hpin : PinOk X.stack H s p := ⟨P1.1, P1.2.1, fun hm => (List.mem_cons.mp (I.stkSub p.1 hm)).elim P1.2.2.1 P1.2.2.2.1, P1.2.2.2.2⟩
  refine wpAny_call (codeAny_mono (F.run X.A X.stack s H ⟨us, []⟩ us vs Q (E σ) p hr hpin I.env0 b r h) fun r s' hq => ?_)
  cases r with
  | error e => exact hx pins H s e s' I hq
  | ok fl =>
    cases fl with
    | ret u => exact I.after hq
    | next => exact False.elim hq
    | brk => exact False.elim hq
    | cont => exact False.elim hq
theorem pe_callE (F : FnE X.prog X.w X.K X.mg X.base CX k f fd ps sp) (hr : RoomH k X.A) {p : Addr × Obj} (hp : p ∈ X.pn) (hg : Gl X x) (hm : X.mg x = some (.ref f)) (hk : PySem.W.keepIn X.K (.ref f) = true) (hb : Binds X.K fd ps []) (hx : ∀ σ, PassesAt CX X σ (E σ))
    (ha : PA X (e :: es) t) (hdb : (x == ("__debug__" : Str)) = false := by decide) (he : starEach (e :: es) X.env = (false, eval e X.env) :: starEach es X.env := by rfl) (hpl : (backTo pos (starEach es X.env)).any (·.1) = false := by rfl) :
    PE X (.Call (.Name x q) (e :: es) [] pos) (tCallS (sp p) E t) := by
  refine ⟨fun pins s σ H Q I h => ?_⟩
  refine wpAny_Call_Name_kw (ld_glob I hg hm ?_ hdb)
  refine PySem.W.callWith_K (h₀ := X.base) I.ok.mod.kin hk (thn (ha.run pos pins s σ H _ I h) fun us s1 ⟨vs, H1, I1, r, q⟩ => ⟨I1.kIn, ?_⟩) he hpl
  exact run_fnE F hr hp hb (hx σ) I1 r q
end
end L2H
namespace My
open PySem PySem.Spec PySem.Calls PyProof.Rows L2 L2H
/-- isinstance(e, c), e the error that is handled (at a, of the class at D, its dict at d); c a class or a tuple of classes -/
def rIsP (K : PySem.W.Frag) (D a d : Addr) : List V → Hp → VK → Prop := fun xs H Q => (∃ fs, H d = some (.xd fs)) ∧ ∃ (c : V) (b : Bool), xs = [.ref a, c] ∧ Q (.bl b) H ∧
  ((∃ cv, (∀ u, RelV c u → u = cv) ∧ PySem.W.kitOne K (.ref D) cv = some b) ∨ ∃ (tp : Addr) (cs : List V) (cvs : List Value), c = .ref tp ∧ H tp = some (.tup cs) ∧ (∀ us, Vals cs us → us = cvs) ∧ PySem.W.kitAny K (.ref D) cvs = some b)
theorem xd_dict {X : Cx} {pins : List (Addr × Obj)} {σ : L2.St} {H : Hp} {s : Shared} {d : Addr} {fs : List (Str × V)} (I : Inv X pins σ H s) (h : H d = some (.xd fs)) : ∃ od, s.heap.get? d = some od := by
  have hx : ObjOk X.prog X.w H s.heap d (.xd fs) := I.hok d _ h
  obtain ⟨mA, ⟨o, _, _, ho, _⟩, _⟩ := hx
  exact ⟨o, ho⟩
theorem call_isP {X : Cx} {a D d : Addr} {oe : Obj} (C : ExcC X.K D) (hz : Zc (.ref D) (some d) oe) (hf : ∃ vs, oe.data = .fields vs) (hp : (a, oe) ∈ X.pn) : CallR X (.builtin "isinstance") (rIsP X.K D a d) := by
  intro pins s σ H xs us Q I r h
  obtain ⟨⟨fs, hd⟩, c, b, rfl, q, hc⟩ := h
  cases r with
  | cons rx rr =>
    cases rr with
    | cons rt rr =>
      cases rr
      cases rx
      obtain ⟨hget, _⟩ := I.pin (a, oe) (List.mem_append.mpr (.inl hp))
      obtain ⟨od, hod⟩ := xd_dict I hd
      obtain ⟨vs, hv⟩ := hf
      have J : PySem.W.InstAt s.heap a oe D (some od) := ⟨hget, hz.1, by unfold PySem.W.notCls; rw [hv] <;> rfl, by rw [hz.2]; exact hod⟩
      have KT := PySem.W.kitx_excO (K := X.K) (x := a) (D := D) (ox := oe) (od := some od) C.hg C.hk C.hs C.hd C.ha C.hn C.ht C.hm
      rcases hc with ⟨cv, hcv, e⟩ | ⟨tp, cs, cvs, rfl, ht, hcv, e⟩
      · have ec := hcv _ rt
        subst ec
        exact PySem.W.kia_one KT I.kIn J e (fun z => nomatch z) fun tk => ⟨.bl b, H, I.kept (t' := tk) fun _ _ z => z, rfl, q⟩
      · cases rt
        have ht' : ObjOk X.prog X.w H s.heap tp (.tup cs) := I.hok tp _ ht
        obtain ⟨_, its, hvs, o, ho, hoc, n, hod2⟩ := ht'
        have ev := hcv _ hvs
        subst ev
        obtain ⟨oc, odd, oda, osl⟩ := o
        dsimp only at hoc hod2
        subst hoc hod2
        exact PySem.W.kia_tup KT I.kIn J ho e (fun z => nomatch z) fun tk => ⟨.bl b, H, I.kept (t' := tk) fun _ _ z => z, rfl, q⟩
/-- e.f of the error at a of the class at C, its dict at d -/
def tXp (a d : Addr) (f : Str) (te : TE) : TE := fun σ H Q => te σ H fun x H1 => x = .ref a ∧ ∃ (fs : List (Str × V)) (v : V), H1 d = some (.xd fs) ∧ fs.lookup f = some v ∧ Q v H1
theorem pe_xp {X : Cx} {a C d : Addr} {oe : Obj} {e : Expr} {te : TE} {pos : Pos} {n : Str} (T : XfC X.K C) (hno : PySem.W.findIn X.K (.ref C) n = some none)
    (hz : Zc (.ref C) (some d) oe) (hf : ∃ vs, oe.data = .fields vs) (hp : (a, oe) ∈ X.pn) (he : PE X e te) (hb : attributeBase e n X.env (eval e X.env) = eval e X.env := by rfl) :
    PE X (.Attribute e n pos) (tXp a d n te) := by
  refine ⟨fun pins s σ H Q I h => ?_⟩
  refine attr_of hb (thn (he.run pins s σ H _ I h) fun u s1 hh => ?_)
  obtain ⟨x, H1, I1, rx, ex, fs, v, ea, l, q⟩ := hh
  subst ex
  obtain rfl : u = Value.ref a := rx
  obtain ⟨ha, _⟩ := I1.pin (a, oe) (List.mem_append_left _ hp)
  obtain ⟨vs, hd⟩ := hf
  have hx : ObjOk X.prog X.w H1 s1.heap d (.xd fs) := I1.hok d _ ea
  obtain ⟨mA, hns, hr⟩ := hx
  obtain ⟨od, ho, hl⟩ := lookIn_ns hns
  obtain ⟨u, hu, ru⟩ := RelO.some_of (v := v) (o := mA n) (by rw [← l]; exact hr n)
  have J : PySem.W.InstAt s1.heap a oe C (some od) := ⟨ha, hz.1, by unfold PySem.W.notCls; rw [hd] <;> rfl, by rw [hz.2]; exact ho⟩
  exact HandSPX.exc_get I1.kIn J T.ga T.gg T.exC (PySem.W.findObj_own T.hdC hno rfl (by rw [hl, hu])) (handed_of ru) ⟨v, H1, I1.tok _, ru, q⟩
end My
end

section
set_option Elab.async false
set_option maxRecDepth 100000
set_option maxHeartbeats 4000000
set_option linter.all false
/-! errors: a def that calls a lambda and tells its error by another def -/
namespace My
open PySem PySem.Spec PySem.Calls PyProof.Rows L2 L2H LamX
/-- what a def tells that gets the error which is handled: it, its class, its dict -/
abbrev SpX : Type := Addr → Value → Option Addr → Sp
def spP (spF : SpX) : Addr × Obj → Sp := fun p vs H Q E => (∃ fv, p.2.data = .fields fv) ∧ spF p.1 p.2.cls p.2.dict vs H Q E
/-- try: return ["told", a()] / except (..) as e: return y(e) -/
def TSaid (K : PySem.W.Frag) (cs : List Value) (spF : SpX) : (XK → Hp → VK → Prop) → Hp → VK → Prop := fun tl H Q =>
  ∃ Ech : XK, (∀ cls d H', Ech cls d H' → PySem.W.exmAny K cls cs = some true ∧ ∀ a, H' a = none → spF a cls d [.ref a] H' Q C8.E0) ∧
   tl Ech H fun v H1 => [V.str "told", v].length ≤ sizeLine ∧ ∀ p, H1 p = none → Q (.ref p) (upd H1 p (.lst [.str "told", v]))
theorem said_gives {X : Cx} {Ng : List Str} {x a q e y pe : Str} {sg : Scope} {g fF : Addr} {cdg : Value} {k x1 jj : Nat} {fdF : FuncData} {es : List Expr} {cs : List Value} {spF : SpX} {p2 p3 p4 p5 p6 p7 p8 p9 p10 p11 p12 p13 : Pos}
    (hNd : Ng.Nodup) (h1 : Ng[1]? = some e) (hle : sg.names.lookup e = some .local) (h0 : ∀ f : Addr, (L2.start Ng [V.ref f])[0]? = some (some (V.ref f))) (hr : Room (k + 1) X.A)
    (hA : ∀ Z : Cx, Z.env.scope = sg → Z.mg = X.mg → AllNames Z es cs) (hlen : cs.length ≤ sizeLine)
    (F : FnE X.prog X.w X.K X.mg X.base C8.CX0 k fF fdF [pe] (spP spF)) (hgl : sg.names.lookup y = some .globalImplicit) (hm : X.mg y = some (.ref fF)) (hk : PySem.W.keepIn X.K (.ref fF) = true) (hb : Binds X.K fdF [pe] [])
    (hdb : (y == ("__debug__" : Str)) = false := by decide) (hd : (e == ("__debug__" : Str)) = false := by decide) (hcd : (e == ("__classdict__" : Str)) = false := by decide) :
    GivesTo X Ng x sg g cdg [.Try [.Return (some (.List [.Constant (.str "told") jj p2, .Call (.Name a p3) [] [] p4] p5)) p6] [.ExceptHandler (some (.Tuple es x1 p7)) (some e) [.Return (some (.Call (.Name y p8) [.Name e p9] [] p10)) p11] p12] [] [] p13] a q (TSaid X.K cs spF) := by
  intro f c' s H Q tl act hc h
  obtain ⟨Ech, hE, htl⟩ := h
  have hle' : (cxOf C8.CX0 X.prog X.w X.K X.mg X.base Ng x sg g cdg X.A X.stack s H C8.E0).nox.env.kindOf e = some .local := hle
  refine ⟨_, pss_one (ps_try_asT (X := (cxOf C8.CX0 X.prog X.w X.K X.mg X.base Ng x sg g cdg X.A X.stack s H C8.E0).nox) (cs := cs) (i := 1)
      (tb := fun W D σ H => ∃ Ech : XK, (∀ cls d σ' H', Ech cls d H' → W cls d σ' H') ∧ σ[0]? = some (some (.ref f)) ∧ H c' = some (CodeO c' q) ∧ tl Ech H fun v H1 => [V.str "told", v].length ≤ sizeLine ∧ ∀ p, H1 p = none → D.rt (.ref p) (upd H1 p (.lst [.str "told", v])))
      (ts := fun a cls d D σ H => (σ[1]? = some (some (.ref a)) ∨ σ.length ≤ 1) ∧ spF a cls d [.ref a] H D.rt C8.E0)
      rfl rfl hNd h1 hle' (hA _ rfl rfl) hlen takes0 (fun W pn xe tk _ => ?_) (fun a oe cls d pn hz hf => ?_)), ?_⟩
  · refine ⟨fun pins s' σ H' D I h' => ?_⟩
    obtain ⟨Ec, hW, g1, g2, g3⟩ := h'
    have hp := act W pn xe Ec p3 p4 tk hW
    have hq := pss_one (ps_ret (pos := p6) (pe_lst (pos := p5) (pa_cons (pe_str (x := "told") (j := jj) (pos := p2)) (pa_cons hp pa_nil))))
    exact hq.run pins s' σ H' D I ⟨g1, g2, g3⟩
  · have hr' : RoomH k (((cxOf C8.CX0 X.prog X.w X.K X.mg X.base Ng x sg g cdg X.A X.stack s H C8.E0).nox).suite a ((a, oe) :: pn)).A := ⟨(hr.deeper (envOfC x sg s.heap.objs.size g cdg)).dp, (hr.deeper (envOfC x sg s.heap.objs.size g cdg)).un⟩
    have hq := pss_one (ps_ret (pos := p11) (pe_callE (X := ((cxOf C8.CX0 X.prog X.w X.K X.mg X.base Ng x sg g cdg X.A X.stack s H C8.E0).nox).suite a ((a, oe) :: pn)) (x := y) (q := p8) (pos := p10) (E := fun _ => C8.E0) (p := (a, oe)) F hr' List.mem_cons_self hgl hm hk hb
      (fun _ _ _ _ _ _ _ z => (show False from z).elim) (pa_cons (pe_var (i := 1) (pos := p9) h1 (.inl hle) hd hcd) pa_nil) hdb))
    refine ⟨fun pins s' σ H' D I h' => hq.run pins s' σ H' D I ?_⟩
    obtain ⟨hs, h2⟩ := h'
    have hlen2 : 1 < σ.length := by
      rw [I.len]
      exact (List.getElem?_eq_some_iff.mp h1).1
    have hs : σ[1]? = some (some (.ref a)) := hs.elim id fun z => absurd z (by omega)
    refine ⟨_, hs, hf, ?_⟩
    obtain ⟨z1, z2⟩ := hz
    subst z1 z2
    exact h2
  · refine ⟨Ech, fun cls d σ' H' z => ⟨true, (hE cls d H' z).1, fun _ a ha => ⟨?_, (hE cls d H' z).2 a ha⟩, fun z => by cases z⟩, h0 f, hc, htl⟩
    by_cases hl : 1 < σ'.length
    · exact .inl (List.getElem?_set_self hl)
    · exact .inr (by rw [List.length_set]; omega)
end My
end

section
set_option Elab.async false
set_option maxRecDepth 100000
set_option maxHeartbeats 4000000
set_option linter.all false
/-! what a head tells where the law makes lambdas and raises errors of own classes with super().__init__ -/
namespace My
open PySem PySem.Spec PyProof.Rows L2
/-! ### an __init__ whose body begins with super().__init__(..) -/
abbrev FnS : Type := Option (Str × Str × Arguments × FuncBody × Scope × Addr × List Str × Value × Addr)
/-- the class' name in the module, the def's qualified name, parameters, body, scope -/
structure SupD where
  cls : Str
  qual : Str
  params : Arguments
  body : List Stmt
  scope : Scope
abbrev SupD.C (d : SupD) (K : PySem.W.Frag) : Addr := He.ga K d.cls
abbrev SupD.f (d : SupD) (K : PySem.W.Frag) : Addr := He.ma K (d.C K) "__init__"
def SupD.obs (d : SupD) (K : PySem.W.Frag) : FnS := match K.lookup (d.f K) with
  | some ⟨_, _, .func fd, _⟩ => some (fd.name, fd.qualname, fd.params, fd.body, fd.scope, fd.globals, fd.closure.map (·.1), fd.defaults, fd.builtins)
  | _ => none
def SupD.val (d : SupD) : FnS := some ("__init__", d.qual, d.params, .stmts d.body, d.scope, mainGlobals, ["__class__"], .none, builtinsNs)
def oexB (K : PySem.W.Frag) (C : Addr) : Bool := (match K.lookup C with
  | some ⟨.type ty, _, .cls cd, sl⟩ => decide (ty = "type") && ((match cd.mro with
      | .ref C' :: bm => decide (C' = C) && PySem.HandSPX.refsVE bm
      | _ => false) && (cd.hasDict && (!cd.hasDel && (match sl.toList with
      | [_, _, _, _, some (.builtin n), _] => decide (n = "ValueError.__new__")
      | _ => false))))
  | _ => false) && (decide (PySem.W.findIn K (.ref C) "__setattr__" = some (some (.builtin "object.__setattr__"))) && (decide (PySem.W.subIn K (.ref C) (.type "BaseException") = some true) &&
    (decide (PySem.W.typeIn K (.ref C) = some (.type "type")) && PySem.W.keepIn K (.ref C))))
theorem oexB_ok {K : PySem.W.Frag} {C : Addr} (h : oexB K C = true) : OexC K C := by
  obtain ⟨h1, h2⟩ := He.ba h
  obtain ⟨h3, h4⟩ := He.ba h2
  obtain ⟨h5, h6⟩ := He.ba h4
  obtain ⟨h7, h8⟩ := He.ba h6
  refine ⟨?_, of_decide_eq_true h3, of_decide_eq_true h5, of_decide_eq_true h7, h8⟩
  cases q : K.lookup C with
  | none =>
    rw [q] at h1
    cases h1
  | some o =>
    obtain ⟨oc, od, dt, sl⟩ := o
    rw [q] at h1
    cases oc with
    | type ty =>
      cases dt with
      | cls cd =>
        obtain ⟨nm, bs, mro, ns, qn, hd, sn, sub, ab, col, del⟩ := cd
        obtain ⟨g1, g2⟩ := He.ba h1
        obtain ⟨g3, g4⟩ := He.ba g2
        obtain ⟨g5, g6⟩ := He.ba g4
        obtain ⟨g7, g8⟩ := He.ba g6
        have e1 : ty = "type" := of_decide_eq_true g1
        subst e1
        dsimp only at g3 g5 g7
        subst g5
        have g7 : del = false := by
          cases del with
          | false => rfl
          | true => cases g7
        subst g7
        split at g3
        · rename_i C' bm
          obtain ⟨g9, g10⟩ := He.ba g3
          have e2 : C' = C := of_decide_eq_true g9
          subst e2
          split at g8
          · rename_i k0 k1 k2 k3 n k5 hs
            have e3 : n = "ValueError.__new__" := of_decide_eq_true g8
            subst e3
            have hsl : sl = #[k0, k1, k2, k3, some (.builtin "ValueError.__new__"), k5] := by
              obtain ⟨l⟩ := sl
              simp only at hs
              rw [hs]
            subst hsl
            exact ⟨nm, qn, ns, bs, bm, sn, sub, ab, col, od, k0, k1, k2, k3, k5, rfl, g10⟩
          · cases g8
        · cases g3
      | _ => cases h1
    | _ => cases dt <;> cases h1
/-- what else is asked of it; file: the text's file -/
def SupD.ok (d : SupD) (file : Str) (K : PySem.W.Frag) : Bool := (match K.lookup (d.f K) with
  | some ⟨_, _, .func fd, _⟩ => (match fd.code with
      | .ref c => PySem.W.codeIn K (.ref c) d.qual && (match K.lookup c with
        | some ⟨_, _, .fields vs, _⟩ => (match (vs[2]? : Option Value) with
          | some (Value.str x _) => file == x
          | _ => false)
        | _ => false)
      | _ => false) && (match fd.closure with
      | [(_, cc)] => (match K.lookup cc with
        | some ⟨_, _, .cell (some (.ref D)), _⟩ => decide (D = d.C K)
        | _ => false)
      | _ => false)
  | _ => false) && (oexB K (d.C K) && (decide (PySem.W.nsIn K cStatics "thirdparty.any" = some none) && (decide (PySem.W.ks_superIn K (d.C K) (d.C K) "__init__" = some (some (.builtin "ValueError.__init__"))) &&
    (decide (PySem.W.mroIn K (d.C K) (.ref (d.C K)) = some true) && (decide (PySem.W.subIn K (.ref (d.C K)) (.type "ValueError") = some true) &&
    (decide (PySem.W.findIn K (.ref (d.C K)) "__init__" = some (some (.ref (d.f K)))) && decide (PySem.W.typeIn K (.ref (d.f K)) = some (.type "function"))))))))
theorem SupD.says {P : Program} {K : PySem.W.Frag} {mg : Str → Option Value} {d : SupD} (e : d.obs K = d.val) (h : d.ok P.main.file K = true) (hs : mg "super" = none) (ht : (P.main.scope.names.lookup ("super" : Str)).isSome = false) :
    ∃ (dV kV doc pm ct : Value) (an : Option Addr) (cda cc : Addr), dV = .none ∧ SupF P K mg (d.C K) (d.f K) cc cda (PySem.W.ksFn "__init__" d.qual d.params d.body d.scope dV kV doc pm an (.ref cda) ct cc) d.qual ∧
      PySem.W.findIn K (.ref (d.C K)) "__init__" = some (some (.ref (d.f K))) ∧ PySem.W.typeIn K (.ref (d.f K)) = some (.type "function") := by
  obtain ⟨h1, h⟩ := He.ba h
  obtain ⟨h2, h⟩ := He.ba h
  obtain ⟨h3, h⟩ := He.ba h
  obtain ⟨h4, h⟩ := He.ba h
  obtain ⟨h5, h⟩ := He.ba h
  obtain ⟨h6, h⟩ := He.ba h
  obtain ⟨h7, h8⟩ := He.ba h
  unfold SupD.obs at e
  cases q : K.lookup (d.f K) with
  | none =>
    rw [q] at h1
    cases h1
  | some o =>
    obtain ⟨oc, od, dt, osl⟩ := o
    rw [q] at h1 e
    cases dt with
    | func fd =>
      obtain ⟨n1, n2, n3, n4, n5, n6, n7, n8, n9, n10, n11, n12, n13, n14, n15⟩ := fd
      have e2 : (some (n1, n2, n3, n4, n5, n6, n7.map (·.1), n8, n15) : FnS) = SupD.val d := e
      unfold SupD.val at e2
      simp only [Option.some.injEq, Prod.mk.injEq] at e2
      obtain ⟨f1, f2, f3, f4, f5, f6, f7, f8, f9⟩ := e2
      subst f1 f2 f3 f4 f5 f6 f8 f9
      obtain ⟨g1, g2⟩ := He.ba h1
      dsimp only at g1 g2
      cases n13 with
      | ref c =>
        obtain ⟨g3, g4⟩ := He.ba g1
        match n7, f7, g2 with
        | [(y, cc)], f7, g2 =>
          simp only [List.map_cons, List.map_nil, List.cons.injEq, and_true] at f7
          subst f7
          dsimp only at g2
          refine ⟨.none, n9, n10, n11, n14, n12, c, cc, rfl, ⟨oexB_ok h2, ⟨_, _, _, q⟩, g3, ?_, ht, ?_, hs, of_decide_eq_true h3, of_decide_eq_true h4, of_decide_eq_true h5, of_decide_eq_true h6⟩, of_decide_eq_true h7, of_decide_eq_true h8⟩
          · cases qc : K.lookup c with
            | none =>
              rw [qc] at g4
              cases g4
            | some o =>
              obtain ⟨a1, a2, a3, a4⟩ := o
              rw [qc] at g4
              cases a3 with
              | fields vs =>
                dsimp only at g4
                cases qv : vs[2]? with
                | none =>
                  rw [qv] at g4
                  cases g4
                | some v =>
                  rw [qv] at g4
                  cases v with
                  | str x t => exact ⟨_, _, vs, _, x, t, rfl, qv, g4⟩
                  | _ => cases g4
              | _ => cases g4
          · cases qc : K.lookup cc with
            | none =>
              rw [qc] at g2
              cases g2
            | some o =>
              obtain ⟨a1, a2, a3, a4⟩ := o
              rw [qc] at g2
              cases a3 with
              | cell v =>
                cases v with
                | none => cases g2
                | some v =>
                  cases v with
                  | ref D =>
                    have eD : D = d.C K := of_decide_eq_true g2
                    subst eD
                    exact ⟨_, _, _, rfl⟩
                  | _ => cases g2
              | _ => cases g2
      | _ => cases g1
    | _ => cases h1
end My
namespace My
open PySem PySem.Spec PyProof.Rows L2
/-! ### the Hook -/
abbrev AlY : Type := AlZ × (List FnS × Bool)
def obsYK (fa : List He.Fa) (fn : List He5.DefA) (ts : List He.Tab) (tf : List He.Defn) (sf : List SupD) (file : Str) (ex : PySem.W.Frag → Bool) (g : Addr → Option Obj) (K : PySem.W.Frag) : AlY :=
  (obsZK fa fn ts ex K, (sf.map fun d => d.obs K, (sf.all fun d => d.ok file K) && He.tabsB g tf K))
def valY (fn : List He5.DefA) (ts : List He.Tab) (sf : List SupD) (w : World) : AlY := (valZ fn ts w, (sf.map SupD.val, true))
def obsY (n : Nat) (fa : List He.Fa) (fn : List He5.DefA) (ts : List He.Tab) (tf : List He.Defn) (sf : List SupD) (file : Str) (ex : PySem.W.Frag → Bool) (g : Addr → Option Obj) : AlY := obsYK fa fn ts tf sf file ex g (He.frT g (He5.asA g n))
structure SaysY (fa : List He.Fa) (fn : List He5.DefA) (ts : List He.Tab) (tf : List He.Defn) (sf : List SupD) (file : Str) (ex : PySem.W.Frag → Bool) (w : World) (h : Heap) (K : PySem.W.Frag) : Prop where
  z : SaysZ fa fn ts ex w K
  sobs : (sf.map fun d => d.obs K) = sf.map SupD.val
  sok : (sf.all fun d => d.ok file K) = true
  hd : ∀ p ∈ tf, PySem.W.codeHdIn K (He.cT K p).1 (He.cT K p).2 = true
  out : ∀ p ∈ tf, K.lookup (He.cT K p).2 = none
  empty : ∀ p ∈ tf, h.get? (He.cT K p).2 = some { cls := .none, data := .fields #[] }
theorem saysY_of {fa : List He.Fa} {fn : List He5.DefA} {ts : List He.Tab} {tf : List He.Defn} {sf : List SupD} {file : Str} {ex : PySem.W.Frag → Bool} {w : World} {h : Heap} {n : Nat} (e : obsY n fa fn ts tf sf file ex h.get? = valY fn ts sf w) :
    SaysY fa fn ts tf sf file ex w h (He.frT h.get? (He5.asA h.get? n)) := by
  have e1 : obsZK fa fn ts ex (He.frT h.get? (He5.asA h.get? n)) = valZ fn ts w := congrArg (fun z : AlY => z.1) e
  have e2 : (sf.map fun d => d.obs (He.frT h.get? (He5.asA h.get? n))) = sf.map SupD.val := congrArg (fun z : AlY => z.2.1) e
  have e3 : ((sf.all fun d => d.ok file (He.frT h.get? (He5.asA h.get? n))) && He.tabsB h.get? tf (He.frT h.get? (He5.asA h.get? n))) = true := congrArg (fun z : AlY => z.2.2) e
  obtain ⟨h1, h2⟩ := He.ba e3
  have key : ∀ p ∈ tf, PySem.W.codeHdIn (He.frT h.get? (He5.asA h.get? n)) (He.cT (He.frT h.get? (He5.asA h.get? n)) p).1 (He.cT (He.frT h.get? (He5.asA h.get? n)) p).2 = true ∧ ∃ o, h.get? (He.cT (He.frT h.get? (He5.asA h.get? n)) p).2 = some o ∧ He.emptyTab o = true := fun p hp => by
    obtain ⟨h3, h4⟩ := He.ba (List.all_eq_true.mp h2 p hp)
    refine ⟨h3, ?_⟩
    cases q : h.get? (He.cT (He.frT h.get? (He5.asA h.get? n)) p).2 with
    | none =>
      rw [q] at h4
      cases h4
    | some o =>
      rw [q] at h4
      exact ⟨o, rfl, h4⟩
  exact ⟨SaysZ.of_obs e1, e2, h1, fun p hp => (key p hp).1, fun p hp => by
    obtain ⟨_, o, q, z⟩ := key p hp
    exact He.frT_none q z, fun p hp => by
    obtain ⟨_, o, q, z⟩ := key p hp
    rw [q, He.emptyTab_eq z]⟩
def hookY (n : Nat) (fa : List He.Fa) (fn : List He5.DefA) (ts : List He.Tab) (tf : List He.Defn) (sf : List SupD) (file : Str) (ex : PySem.W.Frag → Bool) : PySem.W.Hook where
  α := AlY
  obs := fun s => obsY n fa fn ts tf sf file ex s.heap.get?
  val := fun w => valY fn ts sf w
  says := fun w h => ∃ K : PySem.W.Frag, K.In h ∧ SaysY fa fn ts tf sf file ex w h K
  of := fun _ _ e => ⟨_, He.frT_in, saysY_of e⟩
  keeps := fun _ _ _ ⟨K, hK, c⟩ k => ⟨K, PySem.W.Frag.In.keeps hK k, ⟨c.z, c.sobs, c.sok, c.hd, c.out, fun p hp => k _ _ (c.empty p hp)⟩⟩
theorem obsY_eq {n : Nat} {fa : List He.Fa} {fn : List He5.DefA} {ts : List He.Tab} {tf : List He.Defn} {sf : List SupD} {file : Str} {ex : PySem.W.Frag → Bool} {g : Addr → Option Obj} {s : Shared} (h : ∀ a, g a = s.heap.get? a) : obsY n fa fn ts tf sf file ex g = (hookY n fa fn ts tf sf file ex).obs s := by
  have e : g = s.heap.get? := funext h
  rw [e] <;> rfl
section
variable {fa : List He.Fa} {fn : List He5.DefA} {ts : List He.Tab} {tf : List He.Defn} {sf : List SupD} {file : Str} {ex : PySem.W.Frag → Bool} {w : World} {h : Heap} {K : PySem.W.Frag}
theorem SaysY.sup (c : SaysY fa fn ts tf sf file ex w h K) (i : Nat) {d : SupD} (hi : sf[i]? = some d := by rfl) : d.obs K = d.val ∧ d.ok file K = true := by
  refine ⟨?_, List.all_eq_true.mp c.sok d (List.mem_of_getElem? hi)⟩
  have e2 : (sf.map fun d => d.obs K)[i]? = (sf.map SupD.val)[i]? := by rw [c.sobs]
  rw [List.getElem?_map, List.getElem?_map, hi] at e2
  exact Option.some.inj e2
end
end My
end

section
set_option Elab.async false
set_option maxRecDepth 100000
set_option maxHeartbeats 4000000
set_option linter.all false
/-! errors: defs that may raise (their context is L2.CX), how they are called, raise of an own error -/
namespace My
open PySem PySem.Spec PySem.Calls PyProof.Rows L2
theorem pass_none {X : Cx} : Passes (L2.CX X.prog X.w) X E0 := fun _ _ _ _ _ _ _ ⟨_, _, _, _, _, _, _, _, _, _, _, _, z⟩ => z.elim
theorem pass_tk {X : Cx} {E : XK} (tk : Takes X (fun cls d _ H => E cls d H)) : Passes (L2.CX X.prog X.w) X E := passes_call tk (fun _ _ _ _ h => h)
/-- a def that may raise: all its parameters, its last ones by their defaults, by keywords alone -/
structure CalE (P : Program) (w : World) (K : PySem.W.Frag) (mg : Str → Option Value) (base : Heap) (k : Nat) (x : Str) (ps : List Str) (sp : Sp) : Prop where
  ex : ∃ f fd, FnOk P w K mg base (L2.CX P w) k f fd ps sp ∧ mg x = some (.ref f) ∧ PySem.W.keepIn K (.ref f) = true ∧ Binds K fd ps []
structure CalED (P : Program) (w : World) (K : PySem.W.Frag) (mg : Str → Option Value) (base : Heap) (k : Nat) (x : Str) (ps : List Str) (dvs : List V) (sp : Sp) : Prop where
  ex : ∃ f fd ds, FnOk P w K mg base (L2.CX P w) k f fd ps sp ∧ mg x = some (.ref f) ∧ PySem.W.keepIn K (.ref f) = true ∧ Binds K fd ps ds ∧ Vals dvs ds
structure CalEK (P : Program) (w : World) (K : PySem.W.Frag) (mg : Str → Option Value) (base : Heap) (k : Nat) (x : Str) (ps ks : List Str) (gV : List V → List V → List V) (sp : Sp) : Prop where
  ex : ∃ f fd g, FnOk P w K mg base (L2.CX P w) k f fd ps sp ∧ mg x = some (.ref f) ∧ PySem.W.keepIn K (.ref f) = true ∧ KBinds K fd ps ks g gV
/-- an own error's class -/
structure CalR (P : Program) (w : World) (K : PySem.W.Frag) (mg : Str → Option Value) (base : Heap) (k : Nat) (x : Str) (C : Addr) (ps : List Str) (sp : Sp) : Prop where
  ex : ∃ fI fd, OexC K C ∧ PySem.W.findIn K (.ref C) "__init__" = some (some (.ref fI)) ∧ PySem.W.typeIn K (.ref fI) = some (.type "function") ∧ FnOk P w K mg base CX0 k fI fd ps sp ∧ Binds K fd ps [] ∧ mg x = some (.ref C)
section
variable {P : Program} {w : World} {K : PySem.W.Frag} {mg : Str → Option Value} {base : Heap} {j k : Nat} {x : Str} {C : Addr} {ps ks : List Str} {dvs : List V} {sp : Sp} {gV : List V → List V → List V}
theorem CalE.mono (c : CalE P w K mg base j x ps sp) (h : j ≤ k) : CalE P w K mg base k x ps sp := let ⟨f, fd, F, r⟩ := c.ex; ⟨f, fd, F.mono h, r⟩
theorem CalED.mono (c : CalED P w K mg base j x ps dvs sp) (h : j ≤ k) : CalED P w K mg base k x ps dvs sp := let ⟨f, fd, ds, F, r⟩ := c.ex; ⟨f, fd, ds, F.mono h, r⟩
theorem CalEK.mono (c : CalEK P w K mg base j x ps ks gV sp) (h : j ≤ k) : CalEK P w K mg base k x ps ks gV sp := let ⟨f, fd, g, F, r⟩ := c.ex; ⟨f, fd, g, F.mono h, r⟩
theorem CalR.mono (c : CalR P w K mg base j x C ps sp) (h : j ≤ k) : CalR P w K mg base k x C ps sp := let ⟨f, fd, a, b, d, F, r⟩ := c.ex; ⟨f, fd, a, b, d, F.mono h, r⟩
end
section
variable {X : Cx} {k : Nat} {x : Str} {C : Addr} {ps ks : List Str} {dvs : List V} {sp : Sp} {gV : List V → List V → List V} {E : XK} {p pos rpos : Pos} {e : Expr} {es : List Expr} {t tk : TA} {kws : List Keyword}
theorem pe_callE0 (c : CalE X.prog X.w X.K X.mg X.base k x ps sp) (hr : Room k X.A) (hg : Gl X x) (ha : PA X (e :: es) t) (hdb : (x == ("__debug__" : Str)) = false := by decide)
    (he : starEach (e :: es) X.env = (false, eval e X.env) :: starEach es X.env := by rfl) (hpl : (backTo pos (starEach es X.env)).any (·.1) = false := by rfl) : PE X (.Call (.Name x p) (e :: es) [] pos) (tCall sp [] E0 t) := by
  obtain ⟨f, fd, F, hm, hk, hb⟩ := c.ex
  exact pe_call F hr hg hm hk hb .nil pass_none ha hdb he hpl
theorem pe_callED0 (c : CalED X.prog X.w X.K X.mg X.base k x ps dvs sp) (hr : Room k X.A) (hg : Gl X x) (ha : PA X (e :: es) t) (hdb : (x == ("__debug__" : Str)) = false := by decide)
    (he : starEach (e :: es) X.env = (false, eval e X.env) :: starEach es X.env := by rfl) (hpl : (backTo pos (starEach es X.env)).any (·.1) = false := by rfl) : PE X (.Call (.Name x p) (e :: es) [] pos) (tCall sp dvs E0 t) := by
  obtain ⟨f, fd, ds, F, hm, hk, hb, hd⟩ := c.ex
  exact pe_call F hr hg hm hk hb hd pass_none ha hdb he hpl
/-- f(k = v, ..) -/
theorem pe_callEK0 (c : CalEK X.prog X.w X.K X.mg X.base k x ps ks gV sp) (hr : Room k X.A) (hg : Gl X x) (hkw : PK X kws tk) (hall : (backToKw pos (keywordEach kws X.env)).all (·.1.isSome) = true := by rfl)
    (hks : (backToKw pos (keywordEach kws X.env)).filterMap (·.1) = ks := by rfl) (hdb : (x == ("__debug__" : Str)) = false := by decide)
    (hpl : ((backTo pos (starEach [] X.env)).any (·.1) || (backToKw pos (keywordEach kws X.env)).any (·.1.isNone)) = false := by rfl) : PE X (.Call (.Name x p) [] kws pos) (tCallK sp gV E0 tNil tk) := by
  obtain ⟨f, fd, g, F, hm, hk, hb⟩ := c.ex
  refine ⟨fun pins s σ H Q I h => ?_⟩
  refine wpAny_Call_Name_kw (ld_glob I hg hm ?_ hdb)
  refine PySem.W.callWith_KW0 (h₀ := X.base) I.ok.mod.kin hk hall (thn (hkw.run pos pins s σ H _ I h) fun ws s2 ⟨zs, H2, I2, rz, q2⟩ => ⟨I2.kIn, ?_⟩) hpl
  rw [hks]
  exact run_fnk (us := []) (vs := []) F hr hb pass_none I2 .nil rz q2
/-- a call that hands its error on -/
theorem pe_callX (c : CalE X.prog X.w X.K X.mg X.base k x ps sp) (tk : Takes X (fun cls d _ H => E cls d H)) (hr : Room k X.A) (hg : Gl X x) (ha : PA X (e :: es) t) (hdb : (x == ("__debug__" : Str)) = false := by decide)
    (he : starEach (e :: es) X.env = (false, eval e X.env) :: starEach es X.env := by rfl) (hpl : (backTo pos (starEach es X.env)).any (·.1) = false := by rfl) : PE X (.Call (.Name x p) (e :: es) [] pos) (tCall sp [] E t) := by
  obtain ⟨f, fd, F, hm, hk, hb⟩ := c.ex
  exact pe_call F hr hg hm hk hb .nil (pass_tk tk) ha hdb he hpl
theorem pe_callXD (c : CalED X.prog X.w X.K X.mg X.base k x ps dvs sp) (tk : Takes X (fun cls d _ H => E cls d H)) (hr : Room k X.A) (hg : Gl X x) (ha : PA X (e :: es) t) (hdb : (x == ("__debug__" : Str)) = false := by decide)
    (he : starEach (e :: es) X.env = (false, eval e X.env) :: starEach es X.env := by rfl) (hpl : (backTo pos (starEach es X.env)).any (·.1) = false := by rfl) : PE X (.Call (.Name x p) (e :: es) [] pos) (tCall sp dvs E t) := by
  obtain ⟨f, fd, ds, F, hm, hk, hb, hd⟩ := c.ex
  exact pe_call F hr hg hm hk hb hd (pass_tk tk) ha hdb he hpl
/-- raise C(..), C an own error -/
def tRaise (C : Addr) (sp : Sp) (E : XK) (t : TA) : TS := fun _ σ H => tMkO C sp [] t σ H E
theorem ps_raiseC (c : CalR X.prog X.w X.K X.mg X.base k x C ps sp) (tk : Takes X (fun cls d _ H => E cls d H)) (hc : X.calm = true) (hr : Room (k + 1) X.A) (hg : Gl X x) (ha : PA X (e :: es) t) (hdb : (x == ("__debug__" : Str)) = false := by decide)
    (he : starEach (e :: es) X.env = (false, eval e X.env) :: starEach es X.env := by rfl) (hpl : (backTo pos (starEach es X.env)).any (·.1) = false := by rfl) : PS X (.Raise (some (.Call (.Name x p) (e :: es) [] pos)) none rpos) (tRaise C sp E t) := by
  obtain ⟨fI, fd, T, iC, tI, F1, hb, hm⟩ := c.ex
  exact ps_raise hc tk (pmk_oex T iC tI F1 hr hb .nil pass0 hg hm ha hdb he hpl)
/-- the body of a def that may raise, of a lambda's -/
theorem takes_fn {CX : CXT} {P : Program} {w : World} {K : PySem.W.Frag} {mg : Str → Option Value} {base : Heap} {N : List Str} {qual : Str} {scope : Scope} {f : Addr} {cd : Value} {A : Around} {outer : List Env} {s : Shared} {H : Hp} {E : XK} :
    Takes (cxOf (L2.CX P w) P w K mg base N qual scope f cd A outer s H E) (fun cls d _ H => E cls d H) := takes_of rfl rfl rfl rfl
theorem takes_lam {A : Around} {outer : List Env} {s : Shared} {H : Hp} {scope : Scope} {f c' : Addr} : Takes (LamX.lamCx X A outer s H E scope f c') (fun cls d _ H => E cls d H) := takes_of rfl rfl rfl rfl
end
end My
end

section
set_option Elab.async false
set_option maxRecDepth 100000
set_option maxHeartbeats 4000000
set_option linter.all false
/-! == by an own __eq__ whatever it says; try: return .. / except (..) as e: return y(e) -/
namespace My
open PySem PySem.Spec PySem.Calls PyProof.Rows L2 L2H LamX
/-- the type of what stands at the right of == -/
inductive TyE (H : Hp) : V → Value → Prop where
  | str (z : Str) : TyE H (.str z) (.type "str")
  | ins {b D dx : Addr} {gs : List (Str × V)} (h : H b = some (.ins D dx gs)) : TyE H (.ref b) (.ref D)
def rEqO (K : PySem.W.Frag) (C : Addr) (sp : Sp) (E : XK) : R2 := fun x y H Q => ∃ a dx fs tb, x = .ref a ∧ H a = some (.ins C dx fs) ∧ TyE H y tb ∧ PySem.W.notFirst K C tb = true ∧ sp [.ref a, y] H (fun v H' => (∃ b, v = .bl b) ∧ Q v H') E
theorem op_eqO {X : Cx} {n : Nat} {CX : CXT} {C f : Addr} {fd : FuncData} {ps : List Str} {sp : Sp} {E : XK} (F : FnOk X.prog X.w X.K X.mg X.base CX n f fd ps sp)
    (hs : PySem.W.findIn X.K (.ref C) "__eq__" = some (some (.ref f))) (hf : PySem.W.isFn X.K (.ref f) = true) (hb : Binds X.K fd ps []) (hx : Passes CX X E) (hr : Room n X.A) : OpR X (compareOp .Eq) (rEqO X.K C sp E) := by
  intro pins s σ H x y v u Q I rx ry hq
  obtain ⟨a, dx, fs, tb, rfl, ha, ht, hn, hsp⟩ := hq
  cases rx
  obtain ⟨mA, J, _⟩ := ins_get I.hok ha
  obtain ⟨od, J, _⟩ := J.look
  obtain ⟨m, hF⟩ := I.fr
  have hb2 : PySem.W.Looks (model X.prog X.w) s.heap (typeOf u) tb := by
    cases ht with
    | str z =>
      obtain ⟨t, q⟩ := (show ∃ t, u = Value.str z t from ry)
      subst q
      exact PySem.W.Looks.of_pure rfl
    | ins h =>
      cases (show u = Value.ref _ from ry)
      obtain ⟨mB, J', _⟩ := ins_get I.hok h
      obtain ⟨od', J', _⟩ := J'.look
      exact J'.type
  show wpAny (model X.prog X.w) X.A (richCompare .Eq (.ref a) u) (EP X pins σ Q) X.xe s
  refine PySem.W.cmp_K (op := .Eq) (tb := tb) hr.units0 hF I.ok.mod.kin J hb2 hn hs hf ?_
  have e0 : Env0 X.prog X.w X.K X.mg X.base X.A X.stack s H := I.env0
  have hl := F.len _ _ _ _ hsp
  have r2 : Vals [V.ref a, y] [Value.ref a, u] := .cons rfl (.cons ry .nil)
  refine wpAny_call (codeAny_mono (F.run X.A X.stack s H ⟨[.ref a, u], []⟩ [.ref a, u] [.ref a, y] _ E hr e0 (by
    have := hb s [.ref a, u] I.kIn (by simpa using hl)
    simpa using this) r2 hsp) fun r s' hq => ?_)
  cases r with
  | error e => exact hx pins σ H s e s' I hq
  | ok fl =>
    cases fl with
    | ret w =>
      obtain ⟨z, H', I', rz, ez⟩ := I.after hq
      obtain ⟨⟨b, eb⟩, q⟩ := ez
      subst eb
      cases (show w = Value.bool b from rz)
      exact ⟨.bl b, H', I', rfl, q⟩
    | next => exact False.elim hq
    | brk => exact False.elim hq
    | cont => exact False.elim hq
/-- try: return b / except (es) as n: return y(n) -/
def tTell (K : PySem.W.Frag) (cs : List Value) (spF : SpX) (t : XK → TE) : TS := fun D σ H => ∃ Ech : XK, (∀ cls d H', Ech cls d H' → PySem.W.exmAny K cls cs = some true ∧ ∀ a, H' a = none → spF a cls d [.ref a] H' D.rt C8.E0) ∧ t Ech σ H D.rt
theorem pss_tell {X : Cx} {i : Nat} {n y pe : Str} {b : Expr} {t : XK → TE} {es : List Expr} {cs : List Value} {spF : SpX} {k x1 : Nat} {fF : Addr} {fdF : FuncData} {p6 p7 p8 p9 p10 p11 p12 p13 : Pos}
    (hs : X.stack = X.env :: X.outer) (hf : X.env.frame = some X.env.locals) (hN : X.N.Nodup) (hi : X.N[i]? = some n) (hln : X.env.kindOf n = some .local) (hlo : X.env.scope.names.lookup n = some .local) (hA : AllNames X es cs) (hlen : cs.length ≤ sizeLine) (tk0 : Takes X (fun _ _ _ _ => False))
    (hE : ∀ (W : WX) (pn : List (Addr × Obj)) (xe : Value → Shared → Prop) (Ec : XK), Takes (X.tr pn xe) W → (∀ cls d σ H, Ec cls d H → W cls d σ H) → PE (X.tr pn xe) b (t Ec))
    (F : FnE X.prog X.w X.K X.mg X.base C8.CX0 k fF fdF [pe] (spP spF)) (hr : RoomH k X.A) (hg : X.env.scope.names.lookup y = some .globalImplicit) (hm : X.mg y = some (.ref fF)) (hk : PySem.W.keepIn X.K (.ref fF) = true) (hb : Binds X.K fdF [pe] [])
    (hdb : (y == ("__debug__" : Str)) = false := by decide) (hd : (n == ("__debug__" : Str)) = false := by decide) (hcd : (n == ("__classdict__" : Str)) = false := by decide) :
    PSs X [.Try [.Return (some b) p6] [.ExceptHandler (some (.Tuple es x1 p7)) (some n) [.Return (some (.Call (.Name y p8) [.Name n p9] [] p10)) p11] p12] [] [] p13] (tTell X.K cs spF t) := by
  refine ⟨fun pins s σ H D I h => ?_⟩
  obtain ⟨Ech, hEc, ht⟩ := h
  refine (pss_one (ps_try_asT (X := X) (cs := cs) (i := i)
      (tb := fun W D σ H => ∃ Ech : XK, (∀ cls d σ' H', Ech cls d H' → W cls d σ' H') ∧ t Ech σ H D.rt)
      (ts := fun a cls d D σ H => (σ[i]? = some (some (.ref a)) ∨ σ.length ≤ i) ∧ spF a cls d [.ref a] H D.rt C8.E0)
      hs hf hN hi hln hA hlen tk0 (fun W pn xe tk _ => ?_) (fun a oe cls d pn hz hfl => ?_))).run pins s σ H D I ?_
  · refine ⟨fun pins s' σ H' D I h' => ?_⟩
    obtain ⟨Ec, hW, g⟩ := h'
    exact (pss_one (ps_ret (pos := p6) (hE W pn xe Ec tk fun cls d σ H z => hW cls d σ H z))).run pins s' σ H' D I g
  · have hr' : RoomH k (X.suite a ((a, oe) :: pn)).A := ⟨hr.dp, hr.un⟩
    have hq := pss_one (ps_ret (pos := p11) (pe_callE (X := X.suite a ((a, oe) :: pn)) (x := y) (q := p8) (pos := p10) (E := fun _ => C8.E0) (p := (a, oe)) F hr' List.mem_cons_self hg hm hk hb
      (fun _ _ _ _ _ _ _ z => (show False from z).elim) (pa_cons (pe_var (i := i) (pos := p9) hi (.inl hlo) hd hcd) pa_nil) hdb))
    refine ⟨fun pins s' σ H' D I h' => hq.run pins s' σ H' D I ?_⟩
    obtain ⟨hs, h2⟩ := h'
    have hlen2 : i < σ.length := by
      rw [I.len]
      exact (List.getElem?_eq_some_iff.mp hi).1
    have hs : σ[i]? = some (some (.ref a)) := hs.elim id fun z => absurd z (by omega)
    refine ⟨_, hs, hfl, ?_⟩
    obtain ⟨z1, z2⟩ := hz
    subst z1 z2
    exact h2
  · refine ⟨Ech, fun cls d σ' H' z => ⟨true, (hEc cls d H' z).1, fun _ a ha => ⟨?_, (hEc cls d H' z).2 a ha⟩, fun z => by cases z⟩, ht⟩
    by_cases hl : i < σ'.length
    · exact .inl (List.getElem?_set_self hl)
    · exact .inr (by rw [List.length_set]; omega)
/-- the def that tells an error, and the names of the classes -/
structure CalT (P : Program) (w : World) (K : PySem.W.Frag) (mg : Str → Option Value) (base : Heap) (k : Nat) (y : Str) (spF : SpX) (ns : List Str) : Prop where
  ex : ∃ (fF : Addr) (fdF : FuncData), FnE P w K mg base C8.CX0 k fF fdF ["e"] (spP spF) ∧ mg y = some (.ref fF) ∧ PySem.W.keepIn K (.ref fF) = true ∧ Binds K fdF ["e"] []
  names : ∀ n ∈ ns, mg n = some (.ref (He.ga K n))
theorem CalT.mono {P : Program} {w : World} {K : PySem.W.Frag} {mg : Str → Option Value} {base : Heap} {j k : Nat} {y : Str} {spF : SpX} {ns : List Str} (c : CalT P w K mg base j y spF ns) (h : j ≤ k) : CalT P w K mg base k y spF ns := by
  obtain ⟨fF, fdF, F, r⟩ := c.ex
  exact ⟨⟨fF, fdF, ⟨F.len, fun A outer s H args us vs Q E p hr => F.run A outer s H args us vs Q E p (hr.mono h)⟩, r⟩, c.names⟩
theorem nmT {X : Cx} {k : Nat} {y n : Str} {spF : SpX} {ns : List Str} (c : CalT X.prog X.w X.K X.mg X.base k y spF ns) (h1 : n ∈ ns) (h2 : X.env.scope.names.lookup n = some .globalImplicit) (h3 : (n == ("__debug__" : Str)) = false) : Names X n (.ref (He.ga X.K n)) := ⟨h2, h3, .inl (c.names n h1)⟩
theorem pss_tellC {X : Cx} {i : Nat} {n y : Str} {b : Expr} {t : XK → TE} {es : List Expr} {cs : List Value} {spF : SpX} {ns : List Str} {k x1 : Nat} {p6 p7 p8 p9 p10 p11 p12 p13 : Pos} (C : CalT X.prog X.w X.K X.mg X.base k y spF ns)
    (hs : X.stack = X.env :: X.outer) (hf : X.env.frame = some X.env.locals) (hN : X.N.Nodup) (hi : X.N[i]? = some n) (hln : X.env.kindOf n = some .local) (hlo : X.env.scope.names.lookup n = some .local) (hA : AllNames X es cs) (hlen : cs.length ≤ 1000) (tk0 : Takes X (fun _ _ _ _ => False))
    (hE : ∀ (W : WX) (pn : List (Addr × Obj)) (xe : Value → Shared → Prop) (Ec : XK), Takes (X.tr pn xe) W → (∀ cls d σ H, Ec cls d H → W cls d σ H) → PE (X.tr pn xe) b (t Ec))
    (hr : RoomH k X.A) (hg : X.env.scope.names.lookup y = some .globalImplicit) (hdb : (y == ("__debug__" : Str)) = false := by decide) (hd : (n == ("__debug__" : Str)) = false := by decide) (hcd : (n == ("__classdict__" : Str)) = false := by decide) :
    PSs X [.Try [.Return (some b) p6] [.ExceptHandler (some (.Tuple es x1 p7)) (some n) [.Return (some (.Call (.Name y p8) [.Name n p9] [] p10)) p11] p12] [] [] p13] (tTell X.K cs spF t) := by
  obtain ⟨fF, fdF, F, hm, hk, hb⟩ := C.ex
  exact pss_tell hs hf hN hi hln hlo hA (Nat.le_trans hlen (by decide)) tk0 hE F hr hg hm hk hb hdb hd hcd
/-- a class with an own == -/
structure CalQ (P : Program) (w : World) (K : PySem.W.Frag) (mg : Str → Option Value) (base : Heap) (k : Nat) (C : Addr) (ps : List Str) (sp : Sp) : Prop where
  ex : ∃ f fd, Meth K C "__eq__" f ∧ FnOk P w K mg base (L2.CX P w) k f fd ps sp ∧ Binds K fd ps []
theorem CalQ.mono {P : Program} {w : World} {K : PySem.W.Frag} {mg : Str → Option Value} {base : Heap} {j k : Nat} {C : Addr} {ps : List Str} {sp : Sp} (c : CalQ P w K mg base j C ps sp) (h : j ≤ k) : CalQ P w K mg base k C ps sp := let ⟨f, fd, a, F, b⟩ := c.ex; ⟨f, fd, a, F.mono h, b⟩
theorem op_eqC {X : Cx} {k : Nat} {C : Addr} {ps : List Str} {sp : Sp} (c : CalQ X.prog X.w X.K X.mg X.base k C ps sp) (hr : Room k X.A) : OpR X (compareOp .Eq) (rEqO X.K C sp E0) := by
  obtain ⟨f, fd, m, F, b⟩ := c.ex
  exact op_eqO F m.at_ m.fn b pass_none hr
abbrev rFind : V → List V → Hp → VK → Prop := fun x xs H Q => ∃ a b, x = .str a ∧ xs = [.str b] ∧ Q (.int (Txt.find a b)) H
end My
end

section
set_option Elab.async false
set_option maxRecDepth 100000
set_option maxHeartbeats 4000000
set_option linter.all false
/-! in by an own __contains__; bool by an own __len__; try: a block / except (..) as e: return y(e) -/
namespace My
open PySem PySem.Spec PySem.Calls PyProof.Rows L2 L2H LamX
theorem contains_K {prog : Program} {w : World} {A : Around} {E : Value → Shared → Prop} {s : Shared} {K : PySem.W.Frag} {x C f : Addr} {ox : Obj} {od : Option Obj} {u : Value} {Q : Bool → Shared → Prop} (X : K.In s.heap) (I : PySem.W.InstAt s.heap x ox C od)
    (hs : PySem.W.findIn K (.ref C) "__contains__" = some (some (.ref f))) (hf : PySem.W.isFn K (.ref f) = true)
    (h : wpAny (model prog w) A (call (.ref f) [.ref x, u]) (fun v s' => ∃ b, v = .bool b ∧ Q b s') E s) : wpAny (model prog w) A (contains (.ref x) u) Q E s := by
  unfold contains
  refine wpAny_holding ?_
  show wpAny _ _ (_ >>= fun _ => _) _ _ _
  refine wpAny_bind (wpAny_bind (I.type.here ((PySem.W.looks_findIn X hs).here ?_)))
  show wpAny _ _ (if (some (Value.ref f) == some Value.none) = true then _ else _) _ _ _
  rw [if_neg (by simp)]
  refine wpAny_bind (m := callSpecialUnlessNone? (.ref x) (Str.ofString "__contains__") [u] _) (wpAny_bind (wpAny_bind (I.type.here ((PySem.W.looks_findIn X hs).here ?_))))
  refine wpAny_holding (wpAny_bind ((PySem.W.bind_fn X _ (beq_iff_eq.mp hf)).here ?_))
  show wpAny _ _ (if ((Value.ref f) == Value.none) = true then _ else _) _ _ _
  rw [if_neg (by simp)]
  refine wpAny_bind (wpAny_mono h (fun v s' hv => ?_) fun _ _ e => e)
  obtain ⟨b, rfl, hq⟩ := hv
  refine wpAny_pure ?_
  show wpAny _ _ (truthy (.bool b)) _ _ _
  exact wpAny_pure hq
def rInO (K : PySem.W.Frag) (neg : Bool) (C : Addr) (sp : Sp) (E : XK) : R2 := fun x y H Q => ∃ a dx fs, y = .ref a ∧ H a = some (.ins C dx fs) ∧ sp [.ref a, x] H (fun v H' => ∃ b, v = .bl b ∧ Q (.bl (if neg then !b else b)) H') E
theorem in_own {X : Cx} {n : Nat} {CX : CXT} {C f : Addr} {fd : FuncData} {ps : List Str} {sp : Sp} {E : XK} (F : FnOk X.prog X.w X.K X.mg X.base CX n f fd ps sp)
    (hs : PySem.W.findIn X.K (.ref C) "__contains__" = some (some (.ref f))) (hf : PySem.W.isFn X.K (.ref f) = true) (hb : Binds X.K fd ps []) (hx : Passes CX X E) (hr : Room n X.A)
    {pins : List (Addr × Obj)} {s : Shared} {σ : L2.St} {H : Hp} {a dx : Addr} {fs : List (Str × V)} {x : V} {v : Value} {R : Bool → Shared → Prop} {Q : VK} (I : L2.Inv X pins σ H s) (rx : RelV x v) (ha : H a = some (.ins C dx fs))
    (hsp : sp [.ref a, x] H Q E) (hR : ∀ (y : V) (H' : Hp) (s' : Shared) (u : Value), RelV y u → L2.Inv X pins σ H' s' → Q y H' → ∃ b, u = Value.bool b ∧ R b s') : wpAny (model X.prog X.w) X.A (contains (.ref a) v) R X.xe s := by
  obtain ⟨mA, J, _⟩ := ins_get I.hok ha
  obtain ⟨od, J, _⟩ := J.look
  have hl := F.len _ _ _ _ hsp
  have r2 : Vals [V.ref a, x] [Value.ref a, v] := .cons rfl (.cons rx .nil)
  refine contains_K I.kIn J hs hf (wpAny_call (codeAny_mono (F.run X.A X.stack s H ⟨[.ref a, v], []⟩ [.ref a, v] [.ref a, x] _ E hr I.env0 (by
    have := hb s [.ref a, v] I.kIn (by simpa using hl)
    simpa using this) r2 hsp) fun r s' hq => ?_))
  cases r with
  | error e => exact hx pins σ H s e s' I hq
  | ok fl =>
    cases fl with
    | ret w =>
      obtain ⟨z, H', I', rz, ez⟩ := I.after hq
      exact hR z H' s' w rz I' ez
    | next => exact False.elim hq
    | brk => exact False.elim hq
    | cont => exact False.elim hq
theorem op_inO {X : Cx} {n : Nat} {CX : CXT} {C f : Addr} {fd : FuncData} {ps : List Str} {sp : Sp} {E : XK} (F : FnOk X.prog X.w X.K X.mg X.base CX n f fd ps sp)
    (hs : PySem.W.findIn X.K (.ref C) "__contains__" = some (some (.ref f))) (hf : PySem.W.isFn X.K (.ref f) = true) (hb : Binds X.K fd ps []) (hx : Passes CX X E) (hr : Room n X.A) : OpR X (compareOp .In) (rInO X.K false C sp E) := by
  intro pins s σ H x y v u Q I rx ry hq
  obtain ⟨a, dx, fs, rfl, ha, hsp⟩ := hq
  cases ry
  refine wpAny_bind (in_own F hs hf hb hx hr I rx ha hsp fun y H' s' u ry I' h => ?_)
  obtain ⟨b, rfl, q⟩ := h
  cases (show u = Value.bool b from ry)
  exact ⟨b, rfl, wpAny_pure ⟨.bl b, H', I', rfl, q⟩⟩
theorem op_notInO {X : Cx} {n : Nat} {CX : CXT} {C f : Addr} {fd : FuncData} {ps : List Str} {sp : Sp} {E : XK} (F : FnOk X.prog X.w X.K X.mg X.base CX n f fd ps sp)
    (hs : PySem.W.findIn X.K (.ref C) "__contains__" = some (some (.ref f))) (hf : PySem.W.isFn X.K (.ref f) = true) (hb : Binds X.K fd ps []) (hx : Passes CX X E) (hr : Room n X.A) : OpR X (compareOp .NotIn) (rInO X.K true C sp E) := by
  intro pins s σ H x y v u Q I rx ry hq
  obtain ⟨a, dx, fs, rfl, ha, hsp⟩ := hq
  cases ry
  refine wpAny_bind (in_own F hs hf hb hx hr I rx ha hsp fun y H' s' u ry I' h => ?_)
  obtain ⟨b, rfl, q⟩ := h
  cases (show u = Value.bool b from ry)
  exact ⟨b, rfl, wpAny_pure ⟨.bl _, H', I', rfl, q⟩⟩
theorem truthy_len {prog : Program} {w : World} {A : Around} {E : Value → Shared → Prop} {s : Shared} {K : PySem.W.Frag} {x C f : Addr} {ox : Obj} {od : Option Obj} {Q : Bool → Shared → Prop} (X : K.In s.heap) (I : PySem.W.InstAt s.heap x ox C od)
    (hn : PySem.W.findIn K (.ref C) "__bool__" = some none) (hs : PySem.W.findIn K (.ref C) "__len__" = some (some (.ref f))) (hf : PySem.W.isFn K (.ref f) = true)
    (h : wpAny (model prog w) A.in1 (call (.ref f) [.ref x]) (fun v s' => ∃ (n : Int) (t : Tok), v = .int n t ∧ 0 ≤ n ∧ n < 2 ^ 63 ∧ Q (n != 0) { s' with toks := s'.toks + 1 }) E s) : wpAny (model prog w) A (truthy (.ref x)) Q E s := by
  unfold truthy
  refine wpAny_bind (m := callSpecial? (.ref x) (Str.ofString "__bool__")) (wpAny_bind (wpAny_bind (I.type.here ((PySem.W.looks_findIn X hn).here (wpAny_pure ?_)))))
  refine wpAny_bind (wpAny_bind (I.type.here ((PySem.W.looks_findIn X hs).here ?_)))
  show wpAny _ _ (if (some (Value.ref f)).isNone = true then _ else _) _ _ _
  rw [if_neg (by simp)]
  have key : wpAny (model prog w) A (runValue (.builtin "len" ⟨[.ref x], []⟩)) (fun r s' => ∃ (n : Int) (t : Tok), r = .int n t ∧ Q (n != 0) s') E s := by
    refine wpAny_runValue (codeAny_builtin entry_len ?_)
    rw [Around.under_plainId plain_len _]
    unfold Builtin.«len»
    refine wpAny_bind (m := oneArg "len" _) (wpAny_pure ?_)
    refine wpAny_bind (m := callSpecial? (.ref x) (Str.ofString "__len__")) (PySem.W.special_fn X I hs (beq_iff_eq.mp hf) (wpAny_mono h (fun v s1 hv => ?_) fun _ _ y => y))
    obtain ⟨n, t, rfl, h0, h1, q1⟩ := hv
    refine wpAny_bind (wpAny_holding (wpAny_pure (wpAny_bind (wpAny_letGo ?_))))
    show wpAny _ _ (if n < 0 then _ else _) _ _ _
    rw [if_neg (Int.not_lt.mpr h0)]
    show wpAny _ _ (if n ≥ 2 ^ 63 then _ else _) _ _ _
    rw [if_neg (Int.not_le.mpr h1)]
    exact wpAny_bind (wpAny_mkInt (wpAny_pure ⟨n, _, rfl, q1⟩))
  refine wpAny_bind (wpAny_mono key (fun r s' hr => ?_) fun _ _ y => y)
  obtain ⟨n, t, rfl, q⟩ := hr
  exact wpAny_pure q
theorem new_boolO {prog : Program} {w : World} (x : Addr) : MeetsIn prog w (Builtin.«bool.__new__» ⟨[.type "bool", .ref x], []⟩)
    (fun A R s => wpAny (model prog w) A.in1 (truthy (.ref x)) (fun b s1 => R (.ok (.ret (.bool b))) s1) (fun e s1 => R (.error e) s1) s) :=
  .of_wp fun A R s h => by
    obtain ⟨hp, g, d, tk, os⟩ := s
    have f1 := PySem.F.conv_sub_bool
    repeat (any_goals (first | assumption | (with_reducible refine wpAny_mono h (fun b s1 hb => ?_) (fun e s1 he => he)) | wp_step))
    all_goals exact ⟨_, rfl, hb⟩
def rBoolO (C : Addr) (sp : Sp) : List V → Hp → VK → Prop := fun xs H Q => ∃ a dx fs, xs = [.ref a] ∧ H a = some (.ins C dx fs) ∧ sp [.ref a] H (fun y H' => ∃ n : Int, y = .int n ∧ 0 ≤ n ∧ n < 2 ^ 63 ∧ Q (.bl (n != 0)) H') E0
theorem call_boolO {X : Cx} {k : Nat} {C f : Addr} {fd : FuncData} {ps : List Str} {sp : Sp} (lo : LenOwn X.K C f) (hn : PySem.W.findIn X.K (.ref C) "__bool__" = some none) (F : FnOk X.prog X.w X.K X.mg X.base (L2.CX X.prog X.w) k f fd ps sp) (hr : Room (k + 3) X.A) (hb : Binds X.K fd ps []) : CallR X (.type "bool") (rBoolO C sp) := by
  intro pins s σ H xs us Q I r h
  obtain ⟨a, dx, fs, rfl, ea, q⟩ := h
  obtain ⟨u, rfl, rx⟩ := vals1 r
  obtain rfl : u = Value.ref a := rx
  obtain ⟨mA, O, rr, _, _, _⟩ := ins_get I.hok ea
  obtain ⟨od, J, hl⟩ := O.look
  have r1 : Vals [V.ref a] [Value.ref a] := .cons rfl .nil
  have hlen : ([Value.ref a] ++ []).length = ps.length := by
    have := F.len _ _ _ _ q
    exact this
  have body : wpAny (model X.prog X.w) X.A.in1.in1.in1 (call (.ref f) [.ref a]) (EP X pins σ fun y H' => ∃ n : Int, y = .int n ∧ 0 ≤ n ∧ n < 2 ^ 63 ∧ Q (.bl (n != 0)) H') X.xe s := by
    refine wpAny_call (codeAny_mono (F.run X.A.in1.in1.in1 X.stack s H ⟨[.ref a], []⟩ ([.ref a] ++ []) [V.ref a] _ L2.E0 hr.in1.in1.in1 I.env0.in1.in1.in1 (hb s [.ref a] I.kIn hlen) r1 q) fun fl s' hq => ?_)
    cases fl with
    | error e => exact pass_none pins σ H s e s' I hq
    | ok fl =>
      cases fl with
      | ret u => exact I.after hq
      | next => exact False.elim hq
      | brk => exact False.elim hq
      | cont => exact False.elim hq
  refine callType_newIn PySem.F.called_bool PySem.F.newNe_bool (PySem.F.typeCall_bool_1 _) (PySem.F.newCall_bool_1 _) (fun obj => PySem.F.args_object_init_2 obj _) PySem.F.entry_bool_new (new_boolO a) ?_
  refine truthy_len I.kIn J hn lo.at_ lo.fn (wpAny_mono body (fun v s1 hv => ?_) fun _ _ y => y)
  obtain ⟨y, H1, I1, ry, n, rfl, h0, h1, q1⟩ := hv
  obtain ⟨t, rfl⟩ := ry
  exact ⟨n, t, rfl, h0, h1, rfl, .bl _, H1, I1.tok _, rfl, q1⟩
/-- try: a block / except (es) as n: return y(n) -/
def tTellB (K : PySem.W.Frag) (cs : List Value) (spF : SpX) (t : XK → TS) : TS := fun D σ H => ∃ Ech : XK, (∀ cls d H', Ech cls d H' → PySem.W.exmAny K cls cs = some true ∧ ∀ a, H' a = none → spF a cls d [.ref a] H' D.rt C8.E0) ∧ t Ech D σ H
theorem pss_tellB {X : Cx} {i : Nat} {n y pe : Str} {bs : List Stmt} {t : XK → TS} {es : List Expr} {cs : List Value} {spF : SpX} {k x1 : Nat} {fF : Addr} {fdF : FuncData} {p7 p8 p9 p10 p11 p12 p13 : Pos}
    (hs : X.stack = X.env :: X.outer) (hf : X.env.frame = some X.env.locals) (hN : X.N.Nodup) (hi : X.N[i]? = some n) (hln : X.env.kindOf n = some .local) (hlo : X.env.scope.names.lookup n = some .local) (hA : AllNames X es cs) (hlen : cs.length ≤ sizeLine) (tk0 : Takes X (fun _ _ _ _ => False))
    (hE : ∀ (W : WX) (pn : List (Addr × Obj)) (xe : Value → Shared → Prop) (Ec : XK), Takes (X.tr pn xe) W → (∀ cls d σ H, Ec cls d H → W cls d σ H) → PSs (X.tr pn xe) bs (t Ec))
    (F : FnE X.prog X.w X.K X.mg X.base C8.CX0 k fF fdF [pe] (spP spF)) (hr : RoomH k X.A) (hg : X.env.scope.names.lookup y = some .globalImplicit) (hm : X.mg y = some (.ref fF)) (hk : PySem.W.keepIn X.K (.ref fF) = true) (hb : Binds X.K fdF [pe] [])
    (hdb : (y == ("__debug__" : Str)) = false := by decide) (hd : (n == ("__debug__" : Str)) = false := by decide) (hcd : (n == ("__classdict__" : Str)) = false := by decide) :
    PSs X [.Try bs [.ExceptHandler (some (.Tuple es x1 p7)) (some n) [.Return (some (.Call (.Name y p8) [.Name n p9] [] p10)) p11] p12] [] [] p13] (tTellB X.K cs spF t) := by
  refine ⟨fun pins s σ H D I h => ?_⟩
  obtain ⟨Ech, hEc, ht⟩ := h
  refine (pss_one (ps_try_asT (X := X) (cs := cs) (i := i)
      (tb := fun W D σ H => ∃ Ech : XK, (∀ cls d σ' H', Ech cls d H' → W cls d σ' H') ∧ t Ech D σ H)
      (ts := fun a cls d D σ H => (σ[i]? = some (some (.ref a)) ∨ σ.length ≤ i) ∧ spF a cls d [.ref a] H D.rt C8.E0)
      hs hf hN hi hln hA hlen tk0 (fun W pn xe tk _ => ?_) (fun a oe cls d pn hz hfl => ?_))).run pins s σ H D I ?_
  · refine ⟨fun pins s' σ H' D I h' => ?_⟩
    obtain ⟨Ec, hW, g⟩ := h'
    exact (hE W pn xe Ec tk fun cls d σ H z => hW cls d σ H z).run pins s' σ H' D I g
  · have hr' : RoomH k (X.suite a ((a, oe) :: pn)).A := ⟨hr.dp, hr.un⟩
    have hq := pss_one (ps_ret (pos := p11) (pe_callE (X := X.suite a ((a, oe) :: pn)) (x := y) (q := p8) (pos := p10) (E := fun _ => C8.E0) (p := (a, oe)) F hr' List.mem_cons_self hg hm hk hb
      (fun _ _ _ _ _ _ _ z => (show False from z).elim) (pa_cons (pe_var (i := i) (pos := p9) hi (.inl hlo) hd hcd) pa_nil) hdb))
    refine ⟨fun pins s' σ H' D I h' => hq.run pins s' σ H' D I ?_⟩
    obtain ⟨hs, h2⟩ := h'
    have hlen2 : i < σ.length := by
      rw [I.len]
      exact (List.getElem?_eq_some_iff.mp hi).1
    have hs : σ[i]? = some (some (.ref a)) := hs.elim id fun z => absurd z (by omega)
    refine ⟨_, hs, hfl, ?_⟩
    obtain ⟨z1, z2⟩ := hz
    subst z1 z2
    exact h2
  · refine ⟨Ech, fun cls d σ' H' z => ⟨true, (hEc cls d H' z).1, fun _ a ha => ⟨?_, (hEc cls d H' z).2 a ha⟩, fun z => by cases z⟩, ht⟩
    by_cases hl : i < σ'.length
    · exact .inl (List.getElem?_set_self hl)
    · exact .inr (by rw [List.length_set]; omega)
theorem pss_tellBC {X : Cx} {i : Nat} {n y : Str} {bs : List Stmt} {t : XK → TS} {es : List Expr} {cs : List Value} {spF : SpX} {ns : List Str} {k x1 : Nat} {p7 p8 p9 p10 p11 p12 p13 : Pos} (C : CalT X.prog X.w X.K X.mg X.base k y spF ns)
    (hs : X.stack = X.env :: X.outer) (hf : X.env.frame = some X.env.locals) (hN : X.N.Nodup) (hi : X.N[i]? = some n) (hln : X.env.kindOf n = some .local) (hlo : X.env.scope.names.lookup n = some .local) (hA : AllNames X es cs) (hlen : cs.length ≤ 1000) (tk0 : Takes X (fun _ _ _ _ => False))
    (hE : ∀ (W : WX) (pn : List (Addr × Obj)) (xe : Value → Shared → Prop) (Ec : XK), Takes (X.tr pn xe) W → (∀ cls d σ H, Ec cls d H → W cls d σ H) → PSs (X.tr pn xe) bs (t Ec))
    (hr : RoomH k X.A) (hg : X.env.scope.names.lookup y = some .globalImplicit) (hdb : (y == ("__debug__" : Str)) = false := by decide) (hd : (n == ("__debug__" : Str)) = false := by decide) (hcd : (n == ("__classdict__" : Str)) = false := by decide) :
    PSs X [.Try bs [.ExceptHandler (some (.Tuple es x1 p7)) (some n) [.Return (some (.Call (.Name y p8) [.Name n p9] [] p10)) p11] p12] [] [] p13] (tTellB X.K cs spF t) := by
  obtain ⟨fF, fdF, F, hm, hk, hb⟩ := C.ex
  exact pss_tellB hs hf hN hi hln hlo hA (Nat.le_trans hlen (by decide)) tk0 hE F hr hg hm hk hb hdb hd hcd
/-- a class with an own __contains__ -/
structure CalI (P : Program) (w : World) (K : PySem.W.Frag) (mg : Str → Option Value) (base : Heap) (k : Nat) (C : Addr) (ps : List Str) (sp : Sp) : Prop where
  ex : ∃ f fd, Meth K C "__contains__" f ∧ FnOk P w K mg base (L2.CX P w) k f fd ps sp ∧ Binds K fd ps []
theorem CalI.mono {P : Program} {w : World} {K : PySem.W.Frag} {mg : Str → Option Value} {base : Heap} {j k : Nat} {C : Addr} {ps : List Str} {sp : Sp} (c : CalI P w K mg base j C ps sp) (h : j ≤ k) : CalI P w K mg base k C ps sp := let ⟨f, fd, a, F, b⟩ := c.ex; ⟨f, fd, a, F.mono h, b⟩
theorem op_inC {X : Cx} {k : Nat} {C : Addr} {ps : List Str} {sp : Sp} {E : XK} (c : CalI X.prog X.w X.K X.mg X.base k C ps sp) (hx : Passes (L2.CX X.prog X.w) X E) (hr : Room k X.A) : OpR X (compareOp .In) (rInO X.K false C sp E) := by
  obtain ⟨f, fd, m, F, b⟩ := c.ex
  exact op_inO F m.at_ m.fn b hx hr
theorem op_notInC {X : Cx} {k : Nat} {C : Addr} {ps : List Str} {sp : Sp} {E : XK} (c : CalI X.prog X.w X.K X.mg X.base k C ps sp) (hx : Passes (L2.CX X.prog X.w) X E) (hr : Room k X.A) : OpR X (compareOp .NotIn) (rInO X.K true C sp E) := by
  obtain ⟨f, fd, m, F, b⟩ := c.ex
  exact op_notInO F m.at_ m.fn b hx hr
end My
end

section
set_option Elab.async false
set_option maxRecDepth 100000
set_option maxHeartbeats 4000000
set_option linter.all false
/-! a set of ints: set(a list), in -/
namespace My
open PySem PySem.Spec PySem.Calls PyProof.Rows L2 L2H LamX
def rSetI (K : PySem.W.Frag) : List V → Hp → VK → Prop := fun xs H Q => ∃ (l : Addr) (ns : List Int), xs = [.ref l] ∧ SqL K H l (ns.map V.int) ∧ ns.length ≤ 4000 ∧ ∀ (p : Addr) (n : Nat), H p = none → Q (.ref p) (upd H p (.set (fun k => decide (k ∈ ns)) n))
theorem cr_setI {X : Cx} (hc : X.calm = true) : CallR X (.type "set") (rSetI X.K) := by
  intro pins s σ H xs us Q I r h
  obtain ⟨l, ns, rfl, hq, hl, q⟩ := h
  obtain ⟨u, rfl, rx⟩ := vals1 r
  cases rx
  obtain ⟨its, r', pl, hz⟩ := I.list hq
  have hlen : its.toArray.size = ns.length := by rw [List.size_toArray, ← r'.length, List.length_map]
  refine call_set_list (I.ok.hd hc) pl.isList (by simpa using RZ.intsAre_vals r') (by rw [hlen]; unfold scanBound; omega) fun h' tk hS hk => ?_
  have e : (fun k' : Int => (PyProof.Rows.firstMet (fun i => ns.getD i 0) its.toArray.size).any (· == k')) = fun k => decide (k ∈ ns) := funext fun k => by
    rw [hlen, PyProof.Rows.firstMet_any]
    have : (List.range ns.length).map (fun i => ns.getD i 0) = ns := by
      refine List.ext_getElem (by simp) fun i h1 h2 => ?_
      rw [List.getElem_map, List.getElem_range, List.getD_eq_getElem?_getD, List.getElem?_eq_getElem h2]
      rfl
    rw [this]
    by_cases hm : k ∈ ns
    · rw [decide_eq_true hm]; exact List.any_eq_true.mpr ⟨k, hm, beq_self_eq_true k⟩
    · rw [decide_eq_false hm, List.any_eq_false]
      intro x hx hb
      exact hm (eq_of_beq hb ▸ hx)
  rw [e] at hS
  exact ⟨.ref s.heap.objs.size, _, I.laid (t' := tk) (fun b o eb => hk b o (Heap.lt_size eb) eb) (Nat.le_refl _) (show ObjOk X.prog X.w _ h' _ (.set _ _) from hS), rfl, q _ _ (I.hok.fresh (Nat.le_refl _))⟩
def rSInI (neg : Bool) : R2 := fun x y H Q => ∃ (k : Int) (a : Addr) (S : Int → Bool) (n : Nat), x = V.int k ∧ y = V.ref a ∧ H a = some (.set S n) ∧ Q (.bl (if neg then !S k else S k)) H
theorem or_sinI {X : Cx} : OpR X (compareOp .In) (rSInI false) := by
  intro pins s σ H x y v u Q I rx ry h
  obtain ⟨k, a, S, n, rfl, rfl, ha, q⟩ := h
  obtain ⟨tk, rfl⟩ := rx
  cases ry
  have hS : s.heap.SetOf (intKind X.prog X.w) a S n := I.hok a _ ha
  exact wpAny_inSet_of (intKind_is _ _ _ _) rfl hS ⟨.bl (S k), H, I.tok _, rfl, q⟩
theorem or_snotinI {X : Cx} : OpR X (compareOp .NotIn) (rSInI true) := by
  intro pins s σ H x y v u Q I rx ry h
  obtain ⟨k, a, S, n, rfl, rfl, ha, q⟩ := h
  obtain ⟨tk, rfl⟩ := rx
  cases ry
  have hS : s.heap.SetOf (intKind X.prog X.w) a S n := I.hok a _ ha
  exact wpAny_notInSet_of (intKind_is _ _ _ _) rfl hS ⟨.bl (!S k), H, I.tok _, rfl, q⟩
end My
end

section
set_option Elab.async false
set_option maxRecDepth 100000
set_option maxHeartbeats 4000000
set_option linter.all false
namespace My
open PySem L2
/-! ### values without a heap -/
inductive PV where
  | non | bl (b : Bool) | int (i : Int) | str (s : Str) | lst (xs : List PV) | tup (xs : List PV) | obj (c : Str) (fs : List (Str × PV))
/-- not a table of code objects -/
def NT (o : HO) : Prop := ∀ ps, o ≠ .tbl ps
theorem NT.lst {xs : List V} : NT (.lst xs) := fun _ z => by cases z
theorem NT.tup {xs : List V} : NT (.tup xs) := fun _ z => by cases z
theorem NT.ins {C dx : Addr} {fs : List (Str × V)} : NT (.ins C dx fs) := fun _ z => by cases z
theorem NT.frz {o : Obj} {u : HO} : NT (.frz o u) := fun _ z => by cases z
theorem NT.xd {fs : List (Str × V)} : NT (.xd fs) := fun _ z => by cases z
theorem NT.dK {kvs : List (Key × V)} : NT (.dK kvs) := fun _ z => by cases z
/-- nothing but a table stands there -/
def Fresh (H : Hp) (a : Addr) : Prop := ∀ o, H a = some o → ¬ NT o
theorem Fresh.none {H : Hp} {a : Addr} (h : H a = none) : Fresh H a := fun o e => by rw [h] at e; cases e
/-- v stands for p; no cell of M is in it -/
inductive Rep (K : PySem.W.Frag) (M : List Addr) (H : Hp) : V → PV → Prop where
  | non : Rep K M H .non .non
  | bl (b : Bool) : Rep K M H (.bl b) (.bl b)
  | int (i : Int) : Rep K M H (.int i) (.int i)
  | str (s : Str) : Rep K M H (.str s) (.str s)
  | lst {a : Addr} {xs : List V} {ps : List PV} (hm : a ∉ M) (h : H a = some (.lst xs)) (hl : xs.length = ps.length) (hi : ∀ (i : Nat) (x : V) (p : PV), xs[i]? = some x → ps[i]? = some p → Rep K M H x p) : Rep K M H (.ref a) (.lst ps)
  | tup {a : Addr} {xs : List V} {ps : List PV} (hm : a ∉ M) (h : H a = some (.tup xs)) (hl : xs.length = ps.length) (hi : ∀ (i : Nat) (x : V) (p : PV), xs[i]? = some x → ps[i]? = some p → Rep K M H x p) : Rep K M H (.ref a) (.tup ps)
  | ktup {a : Addr} {xs : List V} {ps : List PV} (h : ∀ H', SqT K H' a xs) (hl : xs.length = ps.length) (hi : ∀ (i : Nat) (x : V) (p : PV), xs[i]? = some x → ps[i]? = some p → Rep K M H x p) : Rep K M H (.ref a) (.tup ps)
  | obj {a dx : Addr} {c : Str} {vs : List (Str × V)} {fs : List (Str × PV)} (hm : a ∉ M) (h : H a = some (.ins (He.ga K c) dx vs)) (hn : vs.map Prod.fst = fs.map Prod.fst) (hi : ∀ (i : Nat) (x : Str × V) (p : Str × PV), vs[i]? = some x → fs[i]? = some p → Rep K M H x.2 p.2) : Rep K M H (.ref a) (.obj c fs)
/-- what is not in M stays -/
def Ext (M : List Addr) (H H' : Hp) : Prop := ∀ x o, x ∉ M → NT o → H x = some o → H' x = some o
theorem Ext.refl (M : List Addr) (H : Hp) : Ext M H H := fun _ _ _ _ h => h
theorem Ext.trans {M : List Addr} {H H1 H2 : Hp} (a : Ext M H H1) (b : Ext M H1 H2) : Ext M H H2 := fun x o n t h => b x o n t (a x o n t h)
structure Nxt (M : List Addr) (H : Hp) (M' : List Addr) (H' : Hp) : Prop where
  ext : Ext M H H'
  new : ∀ a ∈ M', a ∈ M ∨ Fresh H a
theorem Nxt.refl (M : List Addr) (H : Hp) : Nxt M H M H := ⟨Ext.refl M H, fun _ h => .inl h⟩
theorem Ext.nxt {M : List Addr} {H H' : Hp} (e : Ext M H H') : Nxt M H M H' := ⟨e, fun _ h => .inl h⟩
theorem Nxt.trans {M M1 M2 : List Addr} {H H1 H2 : Hp} (a : Nxt M H M1 H1) (b : Nxt M1 H1 M2 H2) : Nxt M H M2 H2 := by
  refine ⟨fun x o n t h => b.ext x o (fun hx => ?_) t (a.ext x o n t h), fun x hx => ?_⟩
  · rcases a.new x hx with q | q
    · exact n q
    · exact q o h t
  · rcases b.new x hx with q | q
    · exact a.new x q
    · by_cases hm : x ∈ M
      · exact .inl hm
      · exact .inr fun o e t => q o (a.ext x o hm t e) t
theorem Rep.nxt {K : PySem.W.Frag} {M M' : List Addr} {H H' : Hp} (s : Nxt M H M' H') {v : V} {p : PV} (h : Rep K M H v p) : Rep K M' H' v p := by
  have nm : ∀ {a : Addr} {o : HO}, a ∉ M → NT o → H a = some o → a ∉ M' := fun {a o} n t e z => by
    rcases s.new a z with q | q
    · exact n q
    · exact q o e t
  induction h with
  | non => exact .non
  | bl b => exact .bl b
  | int i => exact .int i
  | str z => exact .str z
  | lst hm h hl hi ih => exact .lst (nm hm NT.lst h) (s.ext _ _ hm NT.lst h) hl ih
  | tup hm h hl hi ih => exact .tup (nm hm NT.tup h) (s.ext _ _ hm NT.tup h) hl ih
  | ktup h hl hi ih => exact .ktup h hl ih
  | obj hm h hn hi ih => exact .obj (nm hm NT.ins h) (s.ext _ _ hm NT.ins h) hn ih
theorem Rep.weak {K : PySem.W.Frag} {M M' : List Addr} {H : Hp} (s : ∀ a ∈ M', a ∈ M) {v : V} {p : PV} (h : Rep K M H v p) : Rep K M' H v p := h.nxt ⟨fun _ _ _ _ e => e, fun a ha => .inl (s a ha)⟩
theorem Rep.ext {K : PySem.W.Frag} {M : List Addr} {H H' : Hp} (s : Ext M H H') {v : V} {p : PV} (h : Rep K M H v p) : Rep K M H' v p := h.nxt s.nxt
theorem Rep.new {K : PySem.W.Frag} {M : List Addr} {H : Hp} {a : Addr} (n : Fresh H a) {v : V} {p : PV} (h : Rep K M H v p) : Rep K (a :: M) H v p := h.nxt ⟨fun _ _ _ _ e => e, fun b hb => by
  rcases List.mem_cons.mp hb with q | q
  · exact .inr (q ▸ n)
  · exact .inl q⟩
def RepL (K : PySem.W.Frag) (M : List Addr) (H : Hp) (xs : List V) (ps : List PV) : Prop := xs.length = ps.length ∧ ∀ (i : Nat) (x : V) (p : PV), xs[i]? = some x → ps[i]? = some p → Rep K M H x p
def RepF (K : PySem.W.Frag) (M : List Addr) (H : Hp) (vs : List (Str × V)) (fs : List (Str × PV)) : Prop := vs.map Prod.fst = fs.map Prod.fst ∧ ∀ (i : Nat) (x : Str × V) (p : Str × PV), vs[i]? = some x → fs[i]? = some p → Rep K M H x.2 p.2
section
variable {K : PySem.W.Frag} {M M' : List Addr} {H H' : Hp} {xs ys : List V} {ps qs : List PV} {x : V} {p : PV} {vs : List (Str × V)} {fs : List (Str × PV)}
theorem RepL.nxt (h : RepL K M H xs ps) (s : Nxt M H M' H') : RepL K M' H' xs ps := ⟨h.1, fun i x p a b => (h.2 i x p a b).nxt s⟩
theorem RepF.nxt (h : RepF K M H vs fs) (s : Nxt M H M' H') : RepF K M' H' vs fs := ⟨h.1, fun i x p a b => (h.2 i x p a b).nxt s⟩
theorem RepL.ext (h : RepL K M H xs ps) (s : Ext M H H') : RepL K M H' xs ps := h.nxt s.nxt
theorem RepL.weak (h : RepL K M H xs ps) (s : ∀ a ∈ M', a ∈ M) : RepL K M' H xs ps := ⟨h.1, fun i x p a b => (h.2 i x p a b).weak s⟩
theorem RepL.new {a : Addr} (h : RepL K M H xs ps) (n : Fresh H a) : RepL K (a :: M) H xs ps := ⟨h.1, fun i x p b c => (h.2 i x p b c).new n⟩
theorem RepF.new {a : Addr} (h : RepF K M H vs fs) (n : Fresh H a) : RepF K (a :: M) H vs fs := ⟨h.1, fun i x p b c => (h.2 i x p b c).new n⟩
theorem RepL.nil : RepL K M H [] [] := ⟨rfl, fun i x p a => by simp at a⟩
theorem RepL.cons (h : Rep K M H x p) (t : RepL K M H xs ps) : RepL K M H (x :: xs) (p :: ps) := by
  refine ⟨by simp [t.1], fun i y q a b => ?_⟩
  cases i with
  | zero => cases a; cases b; exact h
  | succ i => exact t.2 i y q a b
theorem RepL.head (t : RepL K M H (x :: xs) (p :: ps)) : Rep K M H x p := t.2 0 x p rfl rfl
theorem RepL.tail (t : RepL K M H (x :: xs) (p :: ps)) : RepL K M H xs ps := ⟨by simpa using t.1, fun i y q a b => t.2 (i + 1) y q a b⟩
theorem RepL.append (a : RepL K M H xs ps) (b : RepL K M H ys qs) : RepL K M H (xs ++ ys) (ps ++ qs) := by
  refine ⟨by simp [a.1, b.1], fun i y q h1 h2 => ?_⟩
  by_cases hi : i < xs.length
  · rw [List.getElem?_append_left hi] at h1
    rw [List.getElem?_append_left (a.1 ▸ hi)] at h2
    exact a.2 i y q h1 h2
  · rw [List.getElem?_append_right (by omega)] at h1
    rw [List.getElem?_append_right (by have := a.1; omega), ← a.1] at h2
    exact b.2 _ y q h1 h2
theorem RepL.snoc (a : RepL K M H xs ps) (h : Rep K M H x p) : RepL K M H (xs ++ [x]) (ps ++ [p]) := a.append (.cons h .nil)
theorem RepL.set (a : RepL K M H xs ps) (h : Rep K M H x p) (k : Nat) : RepL K M H (xs.set k x) (ps.set k p) := by
  refine ⟨by simp [a.1], fun i y q h1 h2 => ?_⟩
  by_cases e : k = i
  · subst e
    by_cases hk : k < xs.length
    · rw [List.getElem?_set_self hk] at h1
      rw [List.getElem?_set_self (a.1 ▸ hk)] at h2
      cases h1; cases h2; exact h
    · rw [List.getElem?_eq_none (by simpa using hk)] at h1; cases h1
  · rw [List.getElem?_set_ne e] at h1
    rw [List.getElem?_set_ne e] at h2
    exact a.2 i y q h1 h2
theorem RepL.sub {f : {α : Type} → List α → List α} (a : RepL K M H xs ps) (hl : (f xs).length = (f ps).length) (g : Nat → Nat) (h1 : ∀ (i : Nat) (y : V), (f xs)[i]? = some y → xs[g i]? = some y) (h2 : ∀ (i : Nat) (y : PV), (f ps)[i]? = some y → ps[g i]? = some y) : RepL K M H (f xs) (f ps) :=
  ⟨hl, fun i y q e1 e2 => a.2 (g i) y q (h1 i y e1) (h2 i q e2)⟩
theorem RepL.drop (a : RepL K M H xs ps) (n : Nat) : RepL K M H (xs.drop n) (ps.drop n) :=
  ⟨by simp [a.1], fun i y q e1 e2 => a.2 (n + i) y q (by rw [List.getElem?_drop] at e1; exact e1) (by rw [List.getElem?_drop] at e2; exact e2)⟩
theorem RepL.take (a : RepL K M H xs ps) (n : Nat) : RepL K M H (xs.take n) (ps.take n) :=
  ⟨by simp [a.1], fun i y q e1 e2 => a.2 i y q (by rw [List.getElem?_take] at e1; split at e1 <;> first | exact e1 | cases e1) (by rw [List.getElem?_take] at e2; split at e2 <;> first | exact e2 | cases e2)⟩
theorem RepL.get (a : RepL K M H xs ps) {i : Nat} (h : ps[i]? = some p) : ∃ x, xs[i]? = some x ∧ Rep K M H x p := by
  have hi : i < xs.length := by rw [a.1]; exact (List.getElem?_eq_some_iff.mp h).1
  exact ⟨xs[i], by simp [hi], a.2 i _ p (by simp [hi]) h⟩
theorem Rep.lstI {v : V} (h : Rep K M H v (.lst ps)) : ∃ a xs, v = .ref a ∧ a ∉ M ∧ H a = some (.lst xs) ∧ RepL K M H xs ps := by
  cases h with
  | lst hm h hl hi => exact ⟨_, _, rfl, hm, h, ⟨hl, hi⟩⟩
theorem Rep.tupI {v : V} (h : Rep K M H v (.tup ps)) : ∃ a xs, v = .ref a ∧ SqT K H a xs ∧ RepL K M H xs ps ∧ (∀ H', Ext M H H' → SqT K H' a xs) := by
  cases h with
  | tup hm h hl hi => exact ⟨_, _, rfl, SqT.of h, ⟨hl, hi⟩, fun H' e => SqT.of (e _ _ hm NT.tup h)⟩
  | ktup h hl hi => exact ⟨_, _, rfl, h _, ⟨hl, hi⟩, fun H' e => h _⟩
theorem RepF.lookup {f : Str} : ∀ {vs : List (Str × V)} {fs : List (Str × PV)}, RepF K M H vs fs → ∀ {p : PV}, fs.lookup f = some p → ∃ v, vs.lookup f = some v ∧ Rep K M H v p
  | [], [], _, p, e => by cases e
  | [], q :: fs, h, p, e => by cases h.1
  | v :: vs, [], h, p, e => by cases h.1
  | v :: vs, q :: fs, h, p, e => by
    obtain ⟨h1, h2⟩ := h
    have hn : v.1 = q.1 := by simpa using (List.cons.inj h1).1
    obtain ⟨vn, vv⟩ := v
    obtain ⟨qn, qq⟩ := q
    cases hn
    rw [List.lookup_cons] at e ⊢
    by_cases hf : (f == vn) = true
    · rw [hf] at e ⊢
      cases e
      exact ⟨vv, rfl, h2 0 _ _ rfl rfl⟩
    · rw [Bool.not_eq_true] at hf
      rw [hf] at e ⊢
      exact RepF.lookup (fs := fs) ⟨(List.cons.inj h1).2, fun i x p a b => h2 (i + 1) x p a b⟩ e
end
/-! ### the bag -/
def BagAt (a c : Addr) (H : Hp) : Prop := ∃ (cs : List Int) (i r m n d6 : Int), H a = some (.lst [.ref c, .int i, .int r, .int m, .int n, .int d6]) ∧ c ≠ a ∧ H c = some (.lst (cs.map V.int)) ∧ 0 ≤ i ∧ 0 ≤ r ∧ 0 ≤ m ∧ m < 2147483648
theorem BagAt.some {a c : Addr} {H : Hp} (b : BagAt a c H) : ∃ xs, H a = some (.lst xs) := by obtain ⟨_, _, _, _, _, _, h, _⟩ := b; exact ⟨_, h⟩
theorem BagAt.mut {a c p : Addr} {H : Hp} {o : HO} (b : BagAt a c H) (n : a ≠ p) (m : c ≠ p) : BagAt a c (upd H p o) := by
  obtain ⟨cs, i, r, m, k, d6, h, nc, hc, x⟩ := b
  exact ⟨cs, i, r, m, k, d6, upd_at n h, nc, upd_at (by assumption) hc, x⟩
theorem BagAt.na {a c p : Addr} {H : Hp} (b : BagAt a c H) (n : H p = none) : a ≠ p := by obtain ⟨_, h⟩ := b.some; exact ne_of_none h n
theorem BagAt.nc {a c p : Addr} {H : Hp} (b : BagAt a c H) (n : H p = none) : c ≠ p := by
  obtain ⟨cs, i, r, m, k, d6, h, nc, hc, x⟩ := b; exact ne_of_none hc n
theorem BagAt.new {a c p : Addr} {H : Hp} {o : HO} (b : BagAt a c H) (n : H p = none) : BagAt a c (upd H p o) := b.mut (b.na n) (b.nc n)
theorem ne_bag {a b c : Addr} {H : Hp} (g : BagAt a c H) (n : H b = none) : b ≠ a := (g.na n).symm
theorem ne_bagT {a b c : Addr} {H : Hp} {xs : List V} (g : BagAt a c H) (n : H b = some (.tup xs)) : b ≠ a := by obtain ⟨_, h⟩ := g.some; exact ne_tl n h
/-! ### states -/
/-- what a slot may own beside a list: a new instance, a dict -/
inductive CL where
  | nob (c : Str) (fs : List (Str × PV)) | dct (ds : List (Key × PV)) | set (S : Int → Bool)
inductive CelR (K : PySem.W.Frag) (M : List Addr) (H : Hp) : HO → CL → Prop where
  | nob {C : Str} {dx : Addr} {vs : List (Str × V)} {fs : List (Str × PV)} (h : RepF K M H vs fs) : CelR K M H (.ins (He.ga K C) dx vs) (.nob C fs)
  | dct {kvs : List (Key × V)} {ds : List (Key × PV)} (hk : kvs.map Prod.fst = ds.map Prod.fst) (h : RepL K M H (kvs.map Prod.snd) (ds.map Prod.snd)) : CelR K M H (.dK kvs) (.dct ds)
  | set {S : Int → Bool} {n : Nat} : CelR K M H (.set S n) (.set S)
theorem CelR.nt {K : PySem.W.Frag} {M : List Addr} {H : Hp} {o : HO} {k : CL} (h : CelR K M H o k) : NT o := by
  cases h with
  | nob _ => exact NT.ins
  | dct _ _ => exact NT.dK
  | set => exact fun _ z => by cases z
theorem CelR.nxt {K : PySem.W.Frag} {M M' : List Addr} {H H' : Hp} {o : HO} {k : CL} (h : CelR K M H o k) (s : Nxt M H M' H') : CelR K M' H' o k := by
  cases h with
  | nob h => exact .nob (h.nxt s)
  | dct hk h => exact .dct hk (h.nxt s)
  | set => exact .set
theorem CelR.weak {K : PySem.W.Frag} {M M' : List Addr} {H : Hp} {o : HO} {k : CL} (h : CelR K M H o k) (s : ∀ a ∈ M', a ∈ M) : CelR K M' H o k := h.nxt ⟨fun _ _ _ _ e => e, fun a ha => .inl (s a ha)⟩
inductive SV where
  | un | fz (p : PV) | own (ps : List PV) | bag | ob (c : Str) (fs : List (Str × PV)) | scr (ns : List Int) | ref (a : Addr) | cel (k : CL)
structure Cfg where
  K : PySem.W.Frag
  T : List (Addr × Str)
  H0 : Hp
  m : List Addr
  M0 : List Addr
  B : Option (Addr × Addr)
/-- the script stands at a -/
def ScrAt (K : PySem.W.Frag) (M : List Addr) (H : Hp) (a : Addr) (xs : List V) : Prop := (a ∉ M ∧ Rd H a (.lst xs)) ∨ ∀ H', SqL K H' a xs
theorem ScrAt.nxt {K : PySem.W.Frag} {M M' : List Addr} {H H' : Hp} {a : Addr} {xs : List V} (h : ScrAt K M H a xs) (s : Nxt M H M' H') : ScrAt K M' H' a xs := by
  rcases h with ⟨n, h⟩ | h
  · have key : ∀ o, NT o → H a = some o → a ∉ M' := fun o nt e z => by
      rcases s.new a z with q | q
      · exact n q
      · exact q o e nt
    rcases h with h | ⟨o, h⟩
    · exact .inl ⟨key _ NT.lst h, .inl (s.ext _ _ n NT.lst h)⟩
    · exact .inl ⟨key _ NT.frz h, .inr ⟨o, s.ext _ _ n NT.frz h⟩⟩
  · exact .inr h
theorem ScrAt.sq {K : PySem.W.Frag} {M : List Addr} {H : Hp} {a : Addr} {xs : List V} (h : ScrAt K M H a xs) : SqL K H a xs := by
  rcases h with ⟨_, h⟩ | h
  · exact .inl h
  · exact h H
theorem ScrAt.of {K : PySem.W.Frag} {H : Hp} {a : Addr} {xs : List V} (h : SqL K H a xs) : ScrAt K [] H a xs := by
  rcases h with h | h
  · exact .inl ⟨by simp, h⟩
  · exact .inr fun H' => .inr h
/-- what is so of one slot -/
inductive SlR (c : Cfg) (M : List Addr) (H : Hp) : Option V → SV → Prop where
  | un {o : Option V} : SlR c M H o .un
  | fz {v : V} {p : PV} (h : Rep c.K M H v p) : SlR c M H (some v) (.fz p)
  | own {a : Addr} {vs : List V} {ps : List PV} (hm : a ∈ M) (hb : ∀ x y, c.B = some (x, y) → a ≠ x ∧ a ≠ y) (h0 : Fresh c.H0 a) (h : H a = some (.lst vs)) (hi : RepL c.K M H vs ps) : SlR c M H (some (.ref a)) (.own ps)
  | bag {a b : Addr} (h : c.B = some (a, b)) : SlR c M H (some (.ref a)) .bag
  | ob {a dx : Addr} {C : Str} {vs : List (Str × V)} {fs : List (Str × PV)} (hm : a ∈ M) (hb : ∀ x y, c.B = some (x, y) → a ≠ x ∧ a ≠ y) (h0 : a ∈ c.m) (h : H a = some (.ins (He.ga c.K C) dx vs)) (hi : RepF c.K M H vs fs) : SlR c M H (some (.ref a)) (.ob C fs)
  | scr {a : Addr} {ns : List Int} (h : ScrAt c.K M H a (ns.map V.int)) : SlR c M H (some (.ref a)) (.scr ns)
  | ref {a : Addr} : SlR c M H (some (.ref a)) (.ref a)
  | cel {a : Addr} {o : HO} {k : CL} (hm : a ∈ M) (hb : ∀ x y, c.B = some (x, y) → a ≠ x ∧ a ≠ y) (h0 : Fresh c.H0 a) (h : H a = some o) (hi : CelR c.K M H o k) : SlR c M H (some (.ref a)) (.cel k)
def SV.isOwn : SV → Bool
  | .own _ => true
  | .ob _ _ => true
  | .cel _ => true
  | _ => false
structure StR (c : Cfg) (M : List Addr) (σ : St) (H : Hp) (ρ : List SV) : Prop where
  fr : ∀ x o, x ∉ c.m → NT o → c.H0 x = some o → H x = some o
  dom : ∀ a ∈ M, ∃ o, H a = some o ∧ NT o
  sub : ∀ a ∈ c.M0, a ∈ M
  mm : ∀ a ∈ c.m, a ∈ c.M0
  d0 : ∀ a ∈ c.M0, ∃ o, c.H0 a = some o ∧ NT o
  tabs : LamX.Tabs c.T H
  bag : ∀ a b, c.B = some (a, b) → BagAt a b H ∧ a ∈ M ∧ b ∈ M ∧ (a ∈ c.m ∨ Fresh c.H0 a)
  len : σ.length = ρ.length
  slots : ∀ (i : Nat) (o : Option V) (s : SV), σ[i]? = some o → ρ[i]? = some s → SlR c M H o s
  uniq : ∀ (i j : Nat) (a : Addr) (s t : SV), σ[i]? = some (some (.ref a)) → σ[j]? = some (some (.ref a)) → ρ[i]? = some s → ρ[j]? = some t → s.isOwn = true → t.isOwn = true → i = j
/-- a step that leaves all but the bag and the tables -/
structure Stp (c : Cfg) (H H' : Hp) : Prop where
  keep : ∀ x o, (∀ a b, c.B = some (a, b) → x ≠ a) → NT o → H x = some o → H' x = some o
  tabs : LamX.Tabs c.T H'
  bag : ∀ a b, c.B = some (a, b) → BagAt a b H'
theorem Stp.trans {c : Cfg} {H H1 H2 : Hp} (a : Stp c H H1) (b : Stp c H1 H2) : Stp c H H2 := ⟨fun x o n t h => b.keep x o n t (a.keep x o n t h), b.tabs, b.bag⟩
theorem bag_cell {a b : Addr} {H : Hp} (h : BagAt a b H) : ∃ xs, H b = some (.lst xs) := by
  obtain ⟨cs, i, r, m, n, d6, h1, h2, h3, h4⟩ := h
  exact ⟨_, h3⟩
section
variable {c : Cfg} {M M' : List Addr} {σ : St} {H H' : Hp} {ρ : List SV}
theorem Stp.refl (s : StR c M σ H ρ) : Stp c H H := ⟨fun _ _ _ _ h => h, s.tabs, fun a b e => (s.bag a b e).1⟩
theorem StR.ext (s : StR c M σ H ρ) (t : Stp c H H') : Ext M H H' := fun x o n nt h => t.keep x o (fun a b e z => n (z ▸ (s.bag a b e).2.1)) nt h
theorem SlR.stp (s : StR c M σ H ρ) (t : Stp c H H') {o : Option V} {q : SV} (h : SlR c M H o q) : SlR c M H' o q := by
  cases h with
  | un => exact .un
  | fz h => exact .fz (h.ext (s.ext t))
  | own hm hb h0 h hi => exact .own hm hb h0 (t.keep _ _ (fun a b e => (hb a b e).1) NT.lst h) (hi.ext (s.ext t))
  | bag h => exact .bag h
  | ob hm hb h0 h hi => exact .ob hm hb h0 (t.keep _ _ (fun a b e => (hb a b e).1) NT.ins h) (hi.nxt (s.ext t).nxt)
  | scr h => exact .scr (h.nxt (s.ext t).nxt)
  | ref => exact .ref
  | cel hm hb h0 h hi => exact .cel hm hb h0 (t.keep _ _ (fun a b e => (hb a b e).1) hi.nt h) (hi.nxt (s.ext t).nxt)
theorem StR.stp (s : StR c M σ H ρ) (t : Stp c H H') : StR c M σ H' ρ where
  fr := fun x o n nt h => t.keep x o (fun a b e z => by
    rcases (s.bag a b e).2.2.2 with q | q
    · exact n (z ▸ q)
    · exact q o (z ▸ h) nt) nt (s.fr x o n nt h)
  dom := fun a ha => by
    obtain ⟨o, h, nt⟩ := s.dom a ha
    by_cases hb : ∃ b, c.B = some (a, b)
    · obtain ⟨b, hb⟩ := hb
      obtain ⟨cs, i, r, m, n, d6, h1, _⟩ := t.bag a b hb
      exact ⟨_, h1, NT.lst⟩
    · exact ⟨o, t.keep a o (fun a' b e z => hb ⟨b, z ▸ e⟩) nt h, nt⟩
  sub := s.sub
  mm := s.mm
  d0 := s.d0
  tabs := t.tabs
  bag := fun a b e => ⟨t.bag a b e, (s.bag a b e).2⟩
  len := s.len
  slots := fun i o q h1 h2 => (s.slots i o q h1 h2).stp s t
  uniq := s.uniq
theorem Stp.new {p : Addr} {o : HO} (s : StR c M σ H ρ) (t : Stp c H H') (h : H' p = none) : Stp c H (upd H' p o) := by
  refine ⟨fun x u n nt e => ?_, fun q hq => ?_, fun a b e => ?_⟩
  · rw [upd_ne (ne_of_none (t.keep x u n nt e) h)]; exact t.keep x u n nt e
  · exact (t.tabs.ext (fun b u e => by rw [upd_ne (ne_of_none e h)]; exact e)) q hq
  · exact (t.bag a b e).new h
/-- fresh for the def -/
theorem StR.fresh0 (s : StR c M σ H ρ) {a : Addr} (h : Fresh H a) : Fresh c.H0 a := by
  by_cases hm : a ∈ c.m
  · obtain ⟨o, e, nt⟩ := s.dom a (s.sub a (s.mm a hm))
    exact absurd nt (h o e)
  · exact fun o e nt => h o (s.fr a o hm nt e) nt
theorem StR.notIn (s : StR c M σ H ρ) {a : Addr} (h : Fresh H a) : a ∉ M := fun z => by
  obtain ⟨o, e, nt⟩ := s.dom a z
  exact h o e nt
/-- reading a slot -/
theorem StR.get (s : StR c M σ H ρ) {i : Nat} {q : SV} (h : ρ[i]? = some q) : ∃ o, σ[i]? = some o ∧ SlR c M H o q := by
  have hi : i < σ.length := by rw [s.len]; exact (List.getElem?_eq_some_iff.mp h).1
  exact ⟨σ[i], by simp [hi], s.slots i _ q (by simp [hi]) h⟩
theorem StR.fz (s : StR c M σ H ρ) {i : Nat} {p : PV} (h : ρ[i]? = some (.fz p)) : ∃ v, σ[i]? = some (some v) ∧ Rep c.K M H v p := by
  obtain ⟨o, h1, h2⟩ := s.get h
  cases h2 with
  | fz r => exact ⟨_, h1, r⟩
/-- a slot set to what is frozen -/
theorem StR.set (s : StR c M σ H ρ) (i : Nat) {o : Option V} {q : SV} (h : SlR c M H o q) (hq : q.isOwn = false) : StR c M (σ.set i o) H (ρ.set i q) where
  fr := s.fr
  dom := s.dom
  sub := s.sub
  mm := s.mm
  d0 := s.d0
  tabs := s.tabs
  bag := s.bag
  len := by simp [s.len]
  slots := fun j u t h1 h2 => by
    by_cases e : i = j
    · subst e
      by_cases hi : i < σ.length
      · rw [List.getElem?_set_self hi] at h1
        rw [List.getElem?_set_self (s.len ▸ hi)] at h2
        cases h1; cases h2; exact h
      · rw [List.getElem?_eq_none (by simpa using hi)] at h1; cases h1
    · rw [List.getElem?_set_ne e] at h1
      rw [List.getElem?_set_ne e] at h2
      exact s.slots j u t h1 h2
  uniq := fun j k a t u h1 h2 h3 h4 h5 h6 => by
    by_cases e : i = j
    · subst e
      by_cases hi : i < ρ.length
      · rw [List.getElem?_set_self hi] at h3
        cases h3; rw [hq] at h5; cases h5
      · rw [List.getElem?_eq_none (by simpa using hi)] at h3; cases h3
    · by_cases e2 : i = k
      · subst e2
        by_cases hi : i < ρ.length
        · rw [List.getElem?_set_self hi] at h4
          cases h4; rw [hq] at h6; cases h6
        · rw [List.getElem?_eq_none (by simpa using hi)] at h4; cases h4
      · rw [List.getElem?_set_ne e] at h1 h3
        rw [List.getElem?_set_ne e2] at h2 h4
        exact s.uniq j k a t u h1 h2 h3 h4 h5 h6
end
end My
end

section
set_option Elab.async false
set_option maxRecDepth 100000
set_option maxHeartbeats 4000000
set_option linter.all false
namespace My
open PySem L2
/-! ### judgements -/
inductive Res (α : Type) where
  | ok (a : α) | er (c : Str) (fs : List (Str × PV))
/-- what is so where a def is left -/
structure Lv (c : Cfg) (H : Hp) : Prop where
  fr : ∀ x o, x ∉ c.m → NT o → c.H0 x = some o → H x = some o
  tabs : LamX.Tabs c.T H
  bag : ∀ a b, c.B = some (a, b) → BagAt a b H
theorem StR.lv {c : Cfg} {M : List Addr} {σ : L2.St} {H : Hp} {ρ : List SV} (s : StR c M σ H ρ) : Lv c H := ⟨s.fr, s.tabs, fun a b e => (s.bag a b e).1⟩
def ErW (c : Cfg) (E : XK) (post : Str → List (Str × PV) → Prop) : Prop := ∀ H' cn fs dd vs, Lv c H' → H' dd = some (.xd vs) → RepF c.K c.M0 H' vs fs → post cn fs → E (.ref (He.ga c.K cn)) (some dd) H'
abbrev WE : Type := List SV → (Res PV → Prop) → Prop
abbrev WA : Type := List SV → (Res (List PV) → Prop) → Prop
abbrev WT : Type := List SV → (Res Bool → Prop) → Prop
abbrev WC : Type := List SV → (Res (List SV) → Prop) → Prop
def EvE (K : PySem.W.Frag) (T : List (Addr × Str)) (E : XK) (te : TE) (w : WE) : Prop := ∀ (c : Cfg) (M : List Addr) (σ : L2.St) (H : Hp) (ρ : List SV) (post : Res PV → Prop) (Q : VK), c.K = K → c.T = T → StR c M σ H ρ → w ρ post →
  (∀ H' x p, Stp c H H' → Rep K M H' x p → post (.ok p) → Q x H') → ErW c E (fun cn fs => post (.er cn fs)) → te σ H Q
/-- a value that is looked at: an own list may be read so -/
inductive Bor (c : Cfg) (M : List Addr) (H : Hp) : V → PV → Prop where
  | lst {a : Addr} {xs : List V} {ps : List PV} (h : ∀ H', Stp c H H' → H' a = some (.lst xs)) (h0 : H a = some (.lst xs)) (hi : RepL c.K M H xs ps) : Bor c M H (.ref a) (.lst ps)
  | rep {v : V} {p : PV} (h : Rep c.K M H v p) : Bor c M H v p
def EvB (K : PySem.W.Frag) (T : List (Addr × Str)) (E : XK) (te : TE) (w : WE) : Prop := ∀ (c : Cfg) (M : List Addr) (σ : L2.St) (H : Hp) (ρ : List SV) (post : Res PV → Prop) (Q : VK), c.K = K → c.T = T → StR c M σ H ρ → w ρ post →
  (∀ H' x p, Stp c H H' → Bor c M H' x p → post (.ok p) → Q x H') → ErW c E (fun cn fs => post (.er cn fs)) → te σ H Q
def EvO (K : PySem.W.Frag) (T : List (Addr × Str)) (E : XK) (te : TE) (w : WA) : Prop := ∀ (c : Cfg) (M : List Addr) (σ : L2.St) (H : Hp) (ρ : List SV) (post : Res (List PV) → Prop) (Q : VK), c.K = K → c.T = T → StR c M σ H ρ → w ρ post →
  (∀ H' a vs ps, Stp c H H' → Fresh H a → H' a = some (.lst vs) → RepL K (a :: M) H' vs ps → post (.ok ps) → Q (.ref a) H') → ErW c E (fun cn fs => post (.er cn fs)) → te σ H Q
def EvA (K : PySem.W.Frag) (T : List (Addr × Str)) (E : XK) (ta : TA) (w : WA) : Prop := ∀ (c : Cfg) (M : List Addr) (σ : L2.St) (H : Hp) (ρ : List SV) (post : Res (List PV) → Prop) (Q : List V → Hp → Prop), c.K = K → c.T = T → StR c M σ H ρ → w ρ post →
  (∀ H' xs ps, Stp c H H' → RepL K M H' xs ps → post (.ok ps) → Q xs H') → ErW c E (fun cn fs => post (.er cn fs)) → ta σ H Q
def EvT (K : PySem.W.Frag) (T : List (Addr × Str)) (E : XK) (tt : TT) (w : WT) : Prop := ∀ (c : Cfg) (M : List Addr) (σ : L2.St) (H : Hp) (ρ : List SV) (post : Res Bool → Prop) (Q : Bool → Hp → Prop), c.K = K → c.T = T → StR c M σ H ρ → w ρ post →
  (∀ H' b, Stp c H H' → post (.ok b) → Q b H') → ErW c E (fun cn fs => post (.er cn fs)) → tt σ H Q
/-- arguments of a call -/
structure ArR (c : Cfg) (M : List Addr) (H : Hp) (vs : List V) (as : List SV) : Prop where
  len : vs.length = as.length
  at_ : ∀ (i : Nat) (v : V) (s : SV), vs[i]? = some v → as[i]? = some s → SlR c M H (some v) s ∧ s.isOwn = false
def EvC (K : PySem.W.Frag) (T : List (Addr × Str)) (E : XK) (n : Nat) (ta : TA) (w : WC) : Prop := ∀ (c : Cfg) (M : List Addr) (σ : L2.St) (H : Hp) (ρ : List SV) (post : Res (List SV) → Prop) (Q : List V → Hp → Prop), c.K = K → c.T = T → StR c M σ H ρ → w ρ post →
  (∀ H' xs ps, Stp c H H' → ArR c M H' xs ps → xs.length = n → post (.ok ps) → Q xs H') → ErW c E (fun cn fs => post (.er cn fs)) → ta σ H Q
section
variable {c : Cfg} {M : List Addr} {σ : L2.St} {H H' : Hp} {ρ : List SV} {K : PySem.W.Frag} {T : List (Addr × Str)} {E : XK} {te tf : TE} {w wa wb : WE} {i : Nat} {p : PV} {v : V}
theorem StR.rep (s : StR c M σ H ρ) (t : Stp c H H') (h : Rep c.K M H v p) : Rep c.K M H' v p := h.ext (s.ext t)
theorem StR.repL {xs : List V} {ps : List PV} (s : StR c M σ H ρ) (t : Stp c H H') (h : RepL c.K M H xs ps) : RepL c.K M H' xs ps := h.ext (s.ext t)
theorem StR.bor (s : StR c M σ H ρ) (t : Stp c H H') (h : Bor c M H v p) : Bor c M H' v p := by
  cases h with
  | lst h h0 hi => exact .lst (fun H2 t2 => h H2 (t.trans t2)) (h H' t) (s.repL t hi)
  | rep h => exact .rep (s.rep t h)
theorem Bor.lstI {ps : List PV} (s : StR c M σ H ρ) (h : Bor c M H v (.lst ps)) : ∃ a xs, v = .ref a ∧ H a = some (.lst xs) ∧ RepL c.K M H xs ps ∧ ∀ H', Stp c H H' → H' a = some (.lst xs) := by
  cases h with
  | lst h h0 hi => exact ⟨_, _, rfl, h0, hi, h⟩
  | rep h =>
    obtain ⟨a, xs, rfl, hm, h, hi⟩ := h.lstI
    exact ⟨a, xs, rfl, h, hi, fun H' t => s.ext t _ _ hm NT.lst h⟩
theorem Bor.tupI {ps : List PV} (s : StR c M σ H ρ) (h : Bor c M H v (.tup ps)) : ∃ a xs, v = .ref a ∧ SqT c.K H a xs ∧ RepL c.K M H xs ps ∧ ∀ H', Stp c H H' → SqT c.K H' a xs := by
  cases h with
  | rep h =>
    obtain ⟨a, xs, rfl, h, hi, hx⟩ := h.tupI
    exact ⟨a, xs, rfl, h, hi, fun H' t => hx H' (s.ext t)⟩
theorem ErW.imp {f g : Str → List (Str × PV) → Prop} (h : ErW c E f) (k : ∀ a b, g a b → f a b) : ErW c E g := fun H' cn fs dd vs a b d e => h H' cn fs dd vs a b d (k _ _ e)
/-! ### simple values -/
def pVar (i : Nat) : WE := fun ρ post => match ρ[i]? with
  | some (.fz p) => post (.ok p)
  | _ => False
theorem ev_var : EvE K T E (tVar i) (pVar i) := by
  rintro c M σ H ρ post Q rfl rfl s h q e
  unfold pVar at h
  split at h
  · rename_i p hp
    obtain ⟨v, h1, h2⟩ := s.fz hp
    exact ⟨v, h1, q H v p (.refl s) h2 h⟩
  · exact h.elim
def pVarB (i : Nat) : WE := fun ρ post => match ρ[i]? with
  | some (.fz p) => post (.ok p)
  | some (.own ps) => post (.ok (.lst ps))
  | _ => False
theorem eb_var : EvB K T E (tVar i) (pVarB i) := by
  rintro c M σ H ρ post Q rfl rfl s h q e
  unfold pVarB at h
  split at h
  · rename_i p hp
    obtain ⟨v, h1, h2⟩ := s.fz hp
    exact ⟨v, h1, q H v p (.refl s) (.rep h2) h⟩
  · rename_i ps hp
    obtain ⟨o, h1, h2⟩ := s.get hp
    cases h2 with
    | own hm hb h0 hh hi => exact ⟨_, h1, q H _ _ (.refl s) (.lst (fun H' t => t.keep _ _ (fun a b e => (hb a b e).1) NT.lst hh) hh hi) h⟩
  · exact h.elim
theorem EvE.b (h : EvE K T E te w) : EvB K T E te w := by
  rintro c M σ H ρ post Q rfl rfl s hw q e
  exact h c M σ H ρ post Q rfl rfl s hw (fun H' x p t r => q H' x p t (.rep r)) e
def pC (p : PV) : WE := fun _ post => post (.ok p)
theorem ev_c (h : ∀ M H, Rep K M H v p) : EvE K T E (tC v) (pC p) := by
  rintro c M σ H ρ post Q rfl rfl s hw q e
  exact q H v p (.refl s) (h M H) hw
theorem ev_int {n : Int} : EvE K T E (tC (.int n)) (pC (.int n)) := ev_c fun _ _ => .int n
theorem ev_bl {b : Bool} : EvE K T E (tC (.bl b)) (pC (.bl b)) := ev_c fun _ _ => .bl b
theorem ev_str {z : Str} : EvE K T E (tC (.str z)) (pC (.str z)) := ev_c fun _ _ => .str z
theorem ev_non : EvE K T E (tC .non) (pC .non) := ev_c fun _ _ => .non
/-! ### two operands -/
def bindR {α β : Type} (w : List SV → (Res α → Prop) → Prop) (k : α → (Res β → Prop) → Prop) : List SV → (Res β → Prop) → Prop := fun ρ post => w ρ fun r => match r with
  | .ok a => k a post
  | .er cn fs => post (.er cn fs)
def pOp (q : PV → PV → (Res PV → Prop) → Prop) (wa wb : WE) : WE := fun ρ => bindR wa (fun a => bindR wb (fun b => q a b) ρ) ρ
/-- an operator on values -/
def VOp (K : PySem.W.Frag) (r : R2) (q : PV → PV → (Res PV → Prop) → Prop) : Prop := ∀ (c : Cfg) (M : List Addr) (σ : L2.St) (H : Hp) (ρ : List SV) (x y : V) (a b : PV) (post : Res PV → Prop) (Q : VK), c.K = K → StR c M σ H ρ → Bor c M H x a → Bor c M H y b → q a b post →
  (∀ H' x p, Stp c H H' → Rep K M H' x p → post (.ok p) → Q x H') → r x y H Q
theorem ev_op {r : R2} {q : PV → PV → (Res PV → Prop) → Prop} (h : VOp K r q) (ha : EvB K T E te wa) (hb : EvB K T E tf wb) : EvE K T E (tOp r te tf) (pOp q wa wb) := by
  rintro c M σ H ρ post Q rfl rfl s hw k e
  refine ha c M σ H ρ _ _ rfl rfl s hw (fun H1 x a t1 r1 h1 => ?_) (e.imp fun _ _ z => z)
  have s1 := s.stp t1
  refine hb c M σ H1 ρ _ _ rfl rfl s1 h1 (fun H2 y b t2 r2 h2 => ?_) (e.imp fun _ _ z => z)
  exact h c M σ H2 ρ x y a b post Q rfl (s1.stp t2) (s1.bor t2 r1) r2 h2 (fun H' x p t => k H' x p (t1.trans (t2.trans t)))
theorem Bor.intI {i : Int} (h : Bor c M H v (.int i)) : v = .int i := by
  cases h with
  | rep h => cases h; rfl
theorem Bor.strI {z : Str} (h : Bor c M H v (.str z)) : v = .str z := by
  cases h with
  | rep h => cases h; rfl
theorem Bor.blI {b : Bool} (h : Bor c M H v (.bl b)) : v = .bl b := by
  cases h with
  | rep h => cases h; rfl
theorem Bor.nonI (h : Bor c M H v .non) : v = .non := by
  cases h with
  | rep h => cases h; rfl
/-- ints in -/
def qI (C : Int → Int → Prop) (g : Int → Int → PV) : PV → PV → (Res PV → Prop) → Prop := fun a b post => match a, b with
  | .int i, .int j => C i j ∧ post (.ok (g i j))
  | _, _ => False
theorem vop_I {C : Int → Int → Prop} {g : Int → Int → V} {g' : Int → Int → PV} (hg : ∀ i j M H, Rep K M H (g i j) (g' i j)) : VOp K (rI C g) (qI C g') := by
  rintro c M σ H ρ x y a b post Q rfl s ra rb h k
  unfold qI at h
  split at h
  · cases ra.intI
    cases rb.intI
    exact ⟨_, _, rfl, rfl, h.1, k H _ _ (.refl s) (hg _ _ M H) h.2⟩
  · exact h.elim
def qI0 (g : Int → Int → PV) : PV → PV → (Res PV → Prop) → Prop := fun a b post => match a, b with
  | .int i, .int j => post (.ok (g i j))
  | _, _ => False
theorem vop_I0 {g : Int → Int → V} {g' : Int → Int → PV} (hg : ∀ i j M H, Rep K M H (g i j) (g' i j)) : VOp K (rI0 g) (qI0 g') := by
  rintro c M σ H ρ x y a b post Q rfl s ra rb h k
  unfold qI0 at h
  split at h
  · cases ra.intI
    cases rb.intI
    exact ⟨_, _, rfl, rfl, k H _ _ (.refl s) (hg _ _ M H) h⟩
  · exact h.elim
def qPlus := qI0 fun i j => .int (i + j)
def qMinus := qI0 fun i j => .int (i - j)
def qTimes := qI CMul fun i j => .int (i * j)
def qModP := qI (fun _ j => 0 < j) fun i j => .int (i % j)
def qFdivN := qI CDivN fun i j => .int (i.fdiv j)
def qPow0 := qI CPow fun i j => .int (i ^ j.toNat)
def qLt0 := qI0 fun i j => .bl (decide (i < j))
def qLe0 := qI0 fun i j => .bl (decide (i ≤ j))
def qGt0 := qI0 fun i j => .bl (decide (j < i))
def qGe0 := qI0 fun i j => .bl (decide (j ≤ i))
theorem v_Plus : VOp K rPlus qPlus := vop_I0 fun _ _ _ _ => .int _
theorem v_Minus : VOp K rMinus qMinus := vop_I0 fun _ _ _ _ => .int _
theorem v_Times : VOp K rTimes qTimes := vop_I fun _ _ _ _ => .int _
theorem v_ModP : VOp K rModP qModP := vop_I fun _ _ _ _ => .int _
theorem v_FdivN : VOp K rFdivN qFdivN := vop_I fun _ _ _ _ => .int _
theorem v_Pow0 : VOp K rPow0 qPow0 := vop_I fun _ _ _ _ => .int _
theorem v_Lt0 : VOp K rLt0 qLt0 := vop_I0 fun _ _ _ _ => .bl _
theorem v_Le0 : VOp K rLe0 qLe0 := vop_I0 fun _ _ _ _ => .bl _
theorem v_Gt0 : VOp K rGt0 qGt0 := vop_I0 fun _ _ _ _ => .bl _
theorem v_Ge0 : VOp K rGe0 qGe0 := vop_I0 fun _ _ _ _ => .bl _
/-- flat values -/
def eqF : PV → PV → Option Bool
  | .non, .non => some true
  | .non, .int _ => some false | .int _, .non => some false | .non, .bl _ => some false | .bl _, .non => some false | .non, .str _ => some false | .str _, .non => some false
  | .int i, .int j => some (decide (i = j))
  | .bl i, .bl j => some (decide (i = j))
  | .str i, .str j => some (decide (i = j))
  | .int _, .str _ => some false | .str _, .int _ => some false | .bl _, .str _ => some false | .str _, .bl _ => some false
  | _, _ => none
def qEq : PV → PV → (Res PV → Prop) → Prop := fun a b post => match eqF a b with
  | some d => post (.ok (.bl d))
  | none => False
def qNe : PV → PV → (Res PV → Prop) → Prop := fun a b post => match eqF a b with
  | some d => post (.ok (.bl (!d)))
  | none => False
theorem eqF_ok {x y : V} {a b : PV} {d : Bool} (ra : Bor c M H x a) (rb : Bor c M H y b) (h : eqF a b = some d) : scal x y = true ∧ decide (x = y) = d := by
  unfold eqF at h
  split at h <;> first
    | (cases h; first | cases ra.intI | cases ra.strI | cases ra.blI | cases ra.nonI)
    | cases h
  all_goals first | cases rb.intI | cases rb.strI | cases rb.blI | cases rb.nonI
  all_goals refine ⟨rfl, ?_⟩
  all_goals first
    | rfl
    | exact dec_int
    | exact dec_bl
    | exact dec_str
    | exact decide_eq_false (fun z => nomatch z)
theorem v_Eq : VOp K rEq qEq := by
  rintro c M σ H ρ x y a b post Q rfl s ra rb h k
  unfold qEq at h
  split at h
  · rename_i d hd
    obtain ⟨h1, h2⟩ := eqF_ok ra rb hd
    exact ⟨h1, h2 ▸ k H _ _ (.refl s) (.bl _) h⟩
  · exact h.elim
theorem v_Ne : VOp K rNe qNe := by
  rintro c M σ H ρ x y a b post Q rfl s ra rb h k
  unfold qNe at h
  split at h
  · rename_i d hd
    obtain ⟨h1, h2⟩ := eqF_ok ra rb hd
    exact ⟨h1, h2 ▸ k H _ _ (.refl s) (.bl _) h⟩
  · exact h.elim
def PV.isNon : PV → Bool
  | .non => true
  | _ => false
theorem Bor.isNon {x : V} {a : PV} (ra : Bor c M H x a) : decide (x = V.non) = a.isNon := by
  cases ra with
  | lst _ _ _ => exact decide_eq_false (fun z => nomatch z)
  | rep h => cases h <;> first | exact decide_eq_true rfl | exact decide_eq_false (fun z => nomatch z)
def qIsN0 : PV → PV → (Res PV → Prop) → Prop := fun a b post => match b with
  | .non => post (.ok (.bl a.isNon))
  | _ => False
def qNotN0 : PV → PV → (Res PV → Prop) → Prop := fun a b post => match b with
  | .non => post (.ok (.bl (!a.isNon)))
  | _ => False
theorem v_IsN0 : VOp K rIsN0 qIsN0 := by
  rintro c M σ H ρ x y a b post Q rfl s ra rb h k
  unfold qIsN0 at h
  split at h
  · exact ⟨rb.nonI, ra.isNon ▸ k H _ _ (.refl s) (.bl _) h⟩
  · exact h.elim
theorem v_NotN0 : VOp K rNotN0 qNotN0 := by
  rintro c M σ H ρ x y a b post Q rfl s ra rb h k
  unfold qNotN0 at h
  split at h
  · exact ⟨rb.nonI, ra.isNon ▸ k H _ _ (.refl s) (.bl _) h⟩
  · exact h.elim
def qInS : PV → PV → (Res PV → Prop) → Prop := fun a b post => match a, b with
  | .str x, .str z => ∃ n, x = ⟨#[n]⟩ ∧ post (.ok (.bl (decide (n ∈ z.cps.toList))))
  | _, _ => False
def qNotInS : PV → PV → (Res PV → Prop) → Prop := fun a b post => match a, b with
  | .str x, .str z => ∃ n, x = ⟨#[n]⟩ ∧ post (.ok (.bl (!decide (n ∈ z.cps.toList))))
  | _, _ => False
theorem v_InS : VOp K rInS qInS := by
  rintro c M σ H ρ x y a b post Q rfl s ra rb h k
  unfold qInS at h
  split at h
  · obtain ⟨n, rfl, h⟩ := h
    cases ra.strI
    cases rb.strI
    exact ⟨_, _, rfl, rfl, k H _ _ (.refl s) (.bl _) h⟩
  · exact h.elim
theorem v_NotInS : VOp K rNotInS qNotInS := by
  rintro c M σ H ρ x y a b post Q rfl s ra rb h k
  unfold qNotInS at h
  split at h
  · obtain ⟨n, rfl, h⟩ := h
    cases ra.strI
    cases rb.strI
    exact ⟨_, _, rfl, rfl, k H _ _ (.refl s) (.bl _) h⟩
  · exact h.elim
def qAddS : PV → PV → (Res PV → Prop) → Prop := fun a b post => match a, b with
  | .str x, .str z => x.length + z.length ≤ 1000000 ∧ post (.ok (.str (x ++ z)))
  | _, _ => False
theorem szM {n : Nat} (h : n ≤ 1000000) : n ≤ sizeLine := Nat.le_trans h (by decide)
theorem szMl {n : Nat} (h : n ≤ 1000000) : n < sizeLine := Nat.lt_of_le_of_lt h (by decide)
theorem v_AddS : VOp K rAddS qAddS := by
  rintro c M σ H ρ x y a b post Q rfl s ra rb h k
  unfold qAddS at h
  split at h
  · cases ra.strI
    cases rb.strI
    exact ⟨_, _, rfl, rfl, szM h.1, k H _ _ (.refl s) (.str _) h.2⟩
  · exact h.elim
/-- x in a list or tuple of flat items -/
def flatP : PV → Option V
  | .non => some .non
  | .bl b => some (.bl b)
  | .int i => some (.int i)
  | .str z => some (.str z)
  | _ => none
theorem Rep.flat {v : V} {p : PV} {x : V} (h : Rep K M H v p) (e : flatP p = some x) : v = x := by
  cases h <;> first | (cases e; done) | (cases e; rfl)
theorem flatP_V {p : PV} {x : V} (e : flatP p = some x) : flatV x = true := by
  cases p <;> first | (cases e; done) | (cases e; rfl)
def flatL : List PV → Option (List V)
  | [] => some []
  | p :: ps => match flatP p, flatL ps with
    | some x, some xs => some (x :: xs)
    | _, _ => none
theorem RepL.flat : ∀ {xs : List V} {ps : List PV} {ys : List V}, RepL K M H xs ps → flatL ps = some ys → xs = ys ∧ ys.all flatV = true
  | [], [], ys, h, e => by cases e; exact ⟨rfl, rfl⟩
  | [], p :: ps, ys, h, e => by cases h.1
  | x :: xs, [], ys, h, e => by cases h.1
  | x :: xs, p :: ps, ys, h, e => by
    unfold flatL at e
    split at e
    · rename_i y zs e1 e2
      cases e
      obtain ⟨h1, h2⟩ := RepL.flat h.tail e2
      rw [h.head.flat e1, h1]
      exact ⟨rfl, by rw [List.all_cons, flatP_V e1, h2]; rfl⟩
    · cases e
def qInG (neg : Bool) : PV → PV → (Res PV → Prop) → Prop := fun a b post => match b with
  | .lst ps | .tup ps => ∃ x xs, flatP a = some x ∧ flatL ps = some xs ∧ post (.ok (.bl (if neg then !inV x xs else inV x xs)))
  | _ => False
theorem v_InG {neg : Bool} : VOp K (rIn K neg) (qInG neg) := by
  rintro c M σ H ρ x y a b post Q rfl s ra rb h k
  have hx : ∀ u, flatP a = some u → x = u ∧ flatV u = true := fun u e => by
    cases ra with
    | lst _ _ _ => cases e
    | rep h => exact ⟨h.flat e, flatP_V e⟩
  unfold qInG at h
  split at h
  · obtain ⟨u, us, h1, h2, h⟩ := h
    obtain ⟨p, xs, rfl, hp, hi, _⟩ := rb.lstI s
    obtain ⟨rfl, z2⟩ := hi.flat h2
    obtain ⟨rfl, z1⟩ := hx u h1
    exact ⟨p, _, rfl, .inl (SqL.of hp), z1, z2, k H _ _ (.refl s) (.bl _) h⟩
  · obtain ⟨u, us, h1, h2, h⟩ := h
    obtain ⟨p, xs, rfl, hp, hi, _⟩ := rb.tupI s
    obtain ⟨rfl, z2⟩ := hi.flat h2
    obtain ⟨rfl, z1⟩ := hx u h1
    exact ⟨p, _, rfl, .inr hp, z1, z2, k H _ _ (.refl s) (.bl _) h⟩
  · exact h.elim
/-- xs[i] -/
def qIxL : PV → PV → (Res PV → Prop) → Prop := fun a b post => match a, b with
  | .lst ps, .int i => ∃ p, atI ps i = some p ∧ post (.ok p)
  | _, _ => False
def qIxT : PV → PV → (Res PV → Prop) → Prop := fun a b post => match a, b with
  | .tup ps, .int i => ∃ p, atI ps i = some p ∧ post (.ok p)
  | _, _ => False
theorem RepL.atI {xs : List V} {ps : List PV} {i : Int} {p : PV} (h : RepL K M H xs ps) (e : atI ps i = some p) : ∃ x, L2.atI xs i = some x ∧ Rep K M H x p := by
  unfold L2.atI at e ⊢
  rw [h.1]
  cases hj : ixN ps.length i with
  | none => rw [hj] at e; cases e
  | some j =>
    rw [hj] at e
    exact h.get e
theorem v_IxL : VOp K (rIxL K) qIxL := by
  rintro c M σ H ρ x y a b post Q rfl s ra rb h k
  unfold qIxL at h
  split at h
  · obtain ⟨p, h1, h⟩ := h
    cases rb.intI
    obtain ⟨q, xs, rfl, hp, hi, _⟩ := ra.lstI s
    obtain ⟨x, h2, h3⟩ := hi.atI h1
    exact ⟨q, xs, _, x, rfl, rfl, SqL.of hp, h2, k H _ _ (.refl s) h3 h⟩
  · exact h.elim
theorem v_IxT : VOp K (rIxT K) qIxT := by
  rintro c M σ H ρ x y a b post Q rfl s ra rb h k
  unfold qIxT at h
  split at h
  · obtain ⟨p, h1, h⟩ := h
    cases rb.intI
    obtain ⟨q, xs, rfl, hp, hi, _⟩ := ra.tupI s
    obtain ⟨x, h2, h3⟩ := hi.atI h1
    exact ⟨q, xs, _, x, rfl, rfl, hp, h2, k H _ _ (.refl s) h3 h⟩
  · exact h.elim
def qIx : PV → PV → (Res PV → Prop) → Prop := fun a b post => match a, b with
  | .lst ps, .int i => ∃ p, atI ps i = some p ∧ post (.ok p)
  | .tup ps, .int i => ∃ p, atI ps i = some p ∧ post (.ok p)
  | _, _ => False
theorem v_Ix : VOp K (rIx K) qIx := by
  rintro c M σ H ρ x y a b post Q rfl s ra rb h k
  unfold qIx at h
  split at h
  · exact .inl (v_IxL c M σ H ρ x y _ _ post Q rfl s ra rb h k)
  · exact .inr (.inl (v_IxT c M σ H ρ x y _ _ post Q rfl s ra rb h k))
  · exact h.elim
def qItemS : PV → PV → (Res PV → Prop) → Prop := fun a b post => match a, b with
  | .str z, .int i => 0 ≤ i ∧ z.length ≤ 1000000 ∧ ∃ n, z.cps[i.toNat]? = some n ∧ post (.ok (.str ⟨#[n]⟩))
  | _, _ => False
theorem v_ItemS : VOp K rItemS qItemS := by
  rintro c M σ H ρ x y a b post Q rfl s ra rb h k
  unfold qItemS at h
  split at h
  · obtain ⟨h0, hz, n, h1, h⟩ := h
    cases rb.intI
    cases ra.strI
    rename_i z i
    have hi : i.toNat < z.length := (Array.getElem?_eq_some_iff.mp h1).1
    exact r_itemS h0 (by omega) (szM hz) h1 (k H _ _ (.refl s) (.str _) h)
  · exact h.elim
/-- D[z], D written at the top -/
def qIxK (f : Str → Option PV) : PV → (Res PV → Prop) → Prop := fun a post => match a with
  | .str z => ∃ p, f z = some p ∧ post (.ok p)
  | _ => False
def pIxK (f : Str → Option PV) (wb : WE) : WE := fun ρ => bindR wb (fun a => qIxK f a) ρ
theorem ev_ixK {a : Addr} {f : Str → Option PV} (hf : ∀ z p, f z = some p → ∃ v, KGet K a z v ∧ ∀ M H, Rep K M H v p) (hb : EvE K T E tf wb) : EvE K T E (tOp (rIxK K a) (tC (.ref a)) tf) (pIxK f wb) := by
  rintro c M σ H ρ post Q rfl rfl s hw k e
  refine hb c M σ H ρ _ _ rfl rfl s hw (fun H1 x p t1 r1 h1 => ?_) (e.imp fun _ _ z => z)
  unfold qIxK at h1
  dsimp only at h1
  split at h1
  · obtain ⟨p, h2, h⟩ := h1
    obtain ⟨v, h3, h4⟩ := hf _ _ h2
    cases r1
    exact r_ixK h3 (k H1 v p t1 (h4 M H1) h)
  · exact h1.elim
/-- -x -/
def pNeg (wa : WE) : WE := fun ρ => bindR wa (fun a post => match a with
  | .int i => post (.ok (.int (-i)))
  | _ => False) ρ
theorem ev_neg (ha : EvE K T E te wa) : EvE K T E (tUn uNeg te) (pNeg wa) := by
  rintro c M σ H ρ post Q rfl rfl s hw k e
  refine ha c M σ H ρ _ _ rfl rfl s hw (fun H1 x p t1 r1 h1 => ?_) (e.imp fun _ _ z => z)
  dsimp only at h1
  split at h1
  · cases r1
    exact r_neg (k H1 _ _ t1 (.int _) h1)
  · exact h1.elim
end
end My
end

section
set_option Elab.async false
set_option maxRecDepth 100000
set_option maxHeartbeats 4000000
set_option linter.all false
namespace My
open PySem L2
section
variable {c : Cfg} {M : List Addr} {σ : L2.St} {H H' : Hp} {ρ : List SV} {K : PySem.W.Frag} {T : List (Addr × Str)} {E : XK} {te tf tg : TE} {w wa wb wc : WE} {tt tu : TT} {vt vu : WT} {ta tb : TA} {va vb : WA} {i : Nat} {p : PV} {v : V}
/-! ### tests -/
def pTest (w : WE) : WT := fun ρ => bindR w (fun a post => match a with
  | .bl b => post (.ok b)
  | _ => False) ρ
theorem et_test (h : EvE K T E te w) : EvT K T E (tTest te) (pTest w) := by
  rintro c M σ H ρ post Q rfl rfl s hw k e
  refine h c M σ H ρ _ _ rfl rfl s hw (fun H1 x p t1 r1 h1 => ?_) (e.imp fun _ _ z => z)
  dsimp only at h1
  split at h1
  · cases r1
    exact ⟨_, rfl, k H1 _ t1 h1⟩
  · exact h1.elim
theorem et_b (h : EvE K T E te w) : EvT K T E (tB te) (pTest w) := et_test h
def pAnd (a b : WT) : WT := fun ρ => bindR a (fun d post => if d = true then b ρ post else post (.ok false)) ρ
def pOr (a b : WT) : WT := fun ρ => bindR a (fun d post => if d = true then post (.ok true) else b ρ post) ρ
def pNot (a : WT) : WT := fun ρ => bindR a (fun d post => post (.ok (!d))) ρ
theorem et_and (h : EvT K T E tt vt) (g : EvT K T E tu vu) : EvT K T E (tAnd tt tu) (pAnd vt vu) := by
  rintro c M σ H ρ post Q rfl rfl s hw k e
  refine h c M σ H ρ _ _ rfl rfl s hw (fun H1 d t1 h1 => ?_) (e.imp fun _ _ z => z)
  cases d with
  | true => exact g c M σ H1 ρ post Q rfl rfl (s.stp t1) h1 (fun H' b t => k H' b (t1.trans t)) e
  | false => exact k H1 false t1 h1
theorem et_or (h : EvT K T E tt vt) (g : EvT K T E tu vu) : EvT K T E (tOr tt tu) (pOr vt vu) := by
  rintro c M σ H ρ post Q rfl rfl s hw k e
  refine h c M σ H ρ _ _ rfl rfl s hw (fun H1 d t1 h1 => ?_) (e.imp fun _ _ z => z)
  cases d with
  | false => exact g c M σ H1 ρ post Q rfl rfl (s.stp t1) h1 (fun H' b t => k H' b (t1.trans t)) e
  | true => exact k H1 true t1 h1
theorem et_not (h : EvT K T E tt vt) : EvT K T E (tNot tt) (pNot vt) := by
  rintro c M σ H ρ post Q rfl rfl s hw k e
  exact h c M σ H ρ _ _ rfl rfl s hw (fun H1 d t1 h1 => k H1 _ t1 h1) (e.imp fun _ _ z => z)
def pYes : WT := fun _ post => post (.ok true)
theorem et_yes : EvT K T E tYes pYes := by
  rintro c M σ H ρ post Q rfl rfl s hw k e
  exact k H true (.refl s) hw
def truP : PV → Option Bool
  | .non => some false
  | .bl b => some b
  | .int i => some (i != 0)
  | .str z => if z.length ≤ 1000000 then some ((z.length : Int) != 0) else none
  | .lst ps => some (!ps.isEmpty)
  | .tup ps => some (!ps.isEmpty)
  | .obj _ _ => none
theorem isEmpty_len {α β : Type} {xs : List α} {ys : List β} (h : xs.length = ys.length) : xs.isEmpty = ys.isEmpty := by
  cases xs <;> cases ys <;> first | rfl | cases h
theorem Bor.tru {d : Bool} (s : StR c M σ H ρ) (h : Bor c M H v p) (e : truP p = some d) : TruV c.K v H d := by
  cases p with
  | non => cases h.nonI; cases e; rfl
  | bl b => cases h.blI; cases e; rfl
  | int i => cases h.intI; cases e; rfl
  | str z =>
    cases h.strI
    have e : (if z.length ≤ 1000000 then some ((z.length : Int) != 0) else none) = some d := e
    split at e
    · rename_i hz; cases e; exact ⟨szM hz, rfl⟩
    · cases e
  | lst ps =>
    obtain ⟨a, xs, rfl, h1, h2, _⟩ := h.lstI s
    cases e
    exact .inl ⟨xs, SqL.of h1, by rw [isEmpty_len h2.1]⟩
  | tup ps =>
    obtain ⟨a, xs, rfl, h1, h2, _⟩ := h.tupI s
    cases e
    exact .inr (.inl ⟨xs, h1, by rw [isEmpty_len h2.1]⟩)
  | obj a b => cases e
def pTru (w : WE) : WT := fun ρ => bindR w (fun a post => match truP a with
  | some d => post (.ok d)
  | none => False) ρ
theorem et_tru (h : EvB K T E te w) : EvT K T E (tTru K te) (pTru w) := by
  rintro c M σ H ρ post Q rfl rfl s hw k e
  refine h c M σ H ρ _ _ rfl rfl s hw (fun H1 x p t1 r1 h1 => ?_) (e.imp fun _ _ z => z)
  dsimp only at h1
  split at h1
  · rename_i d hd
    exact ⟨d, r1.tru (s.stp t1) hd, k H1 d t1 h1⟩
  · exact h1.elim
/-! ### by a test -/
def pIf (vt : WT) (wa wb : WE) : WE := fun ρ => bindR vt (fun d post => if d = true then wa ρ post else wb ρ post) ρ
theorem ev_if (h : EvT K T E tt vt) (ha : EvE K T E te wa) (hb : EvE K T E tf wb) : EvE K T E (tIf tt te tf) (pIf vt wa wb) := by
  rintro c M σ H ρ post Q rfl rfl s hw k e
  refine h c M σ H ρ _ _ rfl rfl s hw (fun H1 d t1 h1 => ?_) (e.imp fun _ _ z => z)
  cases d with
  | true => exact ha c M σ H1 ρ post Q rfl rfl (s.stp t1) h1 (fun H' x p t => k H' x p (t1.trans t)) e
  | false => exact hb c M σ H1 ρ post Q rfl rfl (s.stp t1) h1 (fun H' x p t => k H' x p (t1.trans t)) e
def pAndV (wa wb : WE) : WE := fun ρ => bindR wa (fun a post => match a with
  | .bl d => if d = true then wb ρ post else post (.ok (.bl false))
  | _ => False) ρ
def pOrV (wa wb : WE) : WE := fun ρ => bindR wa (fun a post => match a with
  | .bl d => if d = true then post (.ok (.bl true)) else wb ρ post
  | _ => False) ρ
def pNotV (wa : WE) : WE := fun ρ => bindR wa (fun a post => match a with
  | .bl d => post (.ok (.bl (!d)))
  | _ => False) ρ
theorem ev_andV (ha : EvE K T E te wa) (hb : EvE K T E tf wb) : EvE K T E (tAndV te tf) (pAndV wa wb) := by
  rintro c M σ H ρ post Q rfl rfl s hw k e
  refine ha c M σ H ρ _ _ rfl rfl s hw (fun H1 x p t1 r1 h1 => ?_) (e.imp fun _ _ z => z)
  dsimp only at h1
  split at h1
  · rename_i d
    cases r1
    refine ⟨d, rfl, ?_⟩
    cases d with
    | true => exact hb c M σ H1 ρ post Q rfl rfl (s.stp t1) h1 (fun H' x p t => k H' x p (t1.trans t)) e
    | false => exact k H1 _ _ t1 (.bl _) h1
  · exact h1.elim
theorem ev_orV (ha : EvE K T E te wa) (hb : EvE K T E tf wb) : EvE K T E (tOrV te tf) (pOrV wa wb) := by
  rintro c M σ H ρ post Q rfl rfl s hw k e
  refine ha c M σ H ρ _ _ rfl rfl s hw (fun H1 x p t1 r1 h1 => ?_) (e.imp fun _ _ z => z)
  dsimp only at h1
  split at h1
  · rename_i d
    cases r1
    refine ⟨d, rfl, ?_⟩
    cases d with
    | false => exact hb c M σ H1 ρ post Q rfl rfl (s.stp t1) h1 (fun H' x p t => k H' x p (t1.trans t)) e
    | true => exact k H1 _ _ t1 (.bl _) h1
  · exact h1.elim
theorem ev_notV (ha : EvE K T E te wa) : EvE K T E (tNotV te) (pNotV wa) := by
  rintro c M σ H ρ post Q rfl rfl s hw k e
  refine ha c M σ H ρ _ _ rfl rfl s hw (fun H1 x p t1 r1 h1 => ?_) (e.imp fun _ _ z => z)
  dsimp only at h1
  split at h1
  · rename_i d
    cases r1
    exact ⟨d, rfl, k H1 _ _ t1 (.bl _) h1⟩
  · exact h1.elim
/-! ### lists of values -/
def pNil : WA := fun _ post => post (.ok [])
def pCons (wa : WE) (vb : WA) : WA := fun ρ => bindR wa (fun a => bindR vb (fun ps post => post (.ok (a :: ps))) ρ) ρ
theorem ea_nil : EvA K T E tNil pNil := by
  rintro c M σ H ρ post Q rfl rfl s hw k e
  exact k H _ _ (.refl s) .nil hw
theorem ea_cons (ha : EvE K T E te wa) (hb : EvA K T E tb vb) : EvA K T E (tCons te tb) (pCons wa vb) := by
  rintro c M σ H ρ post Q rfl rfl s hw k e
  refine ha c M σ H ρ _ _ rfl rfl s hw (fun H1 x a t1 r1 h1 => ?_) (e.imp fun _ _ z => z)
  have s1 := s.stp t1
  refine hb c M σ H1 ρ _ _ rfl rfl s1 h1 (fun H2 xs ps t2 r2 h2 => ?_) (e.imp fun _ _ z => z)
  exact k H2 _ _ (t1.trans t2) (.cons (s1.rep t2 r1) r2) h2
def pTup (va : WA) : WE := fun ρ => bindR va (fun ps post => ps.length ≤ 1000000 ∧ post (.ok (.tup ps))) ρ
theorem ev_tup (ha : EvA K T E ta va) : EvE K T E (tTup ta) (pTup va) := by
  rintro c M σ H ρ post Q rfl rfl s hw k e
  refine ha c M σ H ρ _ _ rfl rfl s hw (fun H1 xs ps t1 r1 h1 => ?_) (e.imp fun _ _ z => z)
  refine ⟨szM (r1.1 ▸ h1.1), fun q hq => ?_⟩
  have t2 := t1.new (o := .tup xs) s hq
  have s1 := s.stp t1
  have r2 := r1.ext (H' := upd H1 q (.tup xs)) (fun x o _ _ e => by rw [upd_ne (ne_of_none e hq)]; exact e)
  exact k _ _ _ t2 (.tup (s1.notIn (.none hq)) upd_same r2.1 r2.2) h1.2
def pLst (va : WA) : WA := fun ρ => bindR va (fun ps post => ps.length ≤ 1000000 ∧ post (.ok ps)) ρ
/-- a new list -/
theorem new_lst {xs : List V} {ps : List PV} {Q : VK} {post : Res (List PV) → Prop} (s : StR c M σ H ρ) (r1 : RepL c.K M H xs ps) (h : post (.ok ps))
    (k : ∀ H' a vs ps, Stp c H H' → Fresh H a → H' a = some (.lst vs) → RepL c.K (a :: M) H' vs ps → post (.ok ps) → Q (.ref a) H') : ∀ q, H q = none → Q (.ref q) (upd H q (.lst xs)) := fun q hq => by
  have t2 := (Stp.refl s).new (o := .lst xs) s hq
  have r2 := r1.ext (H' := upd H q (.lst xs)) (fun x o _ _ e => by rw [upd_ne (ne_of_none e hq)]; exact e)
  refine k _ q _ _ t2 (.none hq) upd_same ⟨r2.1, fun i x p a b => ?_⟩ h
  exact (r1.2 i x p a b).nxt ⟨fun x o _ _ e => by rw [upd_ne (ne_of_none e hq)]; exact e, fun b hb => by
    rcases List.mem_cons.mp hb with z | z
    · exact .inr (z ▸ .none hq)
    · exact .inl z⟩
theorem Fresh.back (s : StR c M σ H ρ) (t : Stp c H H') {a : Addr} (h : Fresh H' a) : Fresh H a := fun o e nt => by
  by_cases hb : ∃ b, c.B = some (a, b)
  · obtain ⟨b, hb⟩ := hb
    obtain ⟨cs, i, r, m, n, d6, h1, _⟩ := t.bag a b hb
    exact h _ h1 NT.lst
  · exact h o (t.keep a o (fun x y e2 z => hb ⟨y, z ▸ e2⟩) nt e) nt
theorem eo_lst (ha : EvA K T E ta va) : EvO K T E (tLst ta) (pLst va) := by
  rintro c M σ H ρ post Q rfl rfl s hw k e
  refine ha c M σ H ρ _ _ rfl rfl s hw (fun H1 xs ps t1 r1 h1 => ?_) (e.imp fun _ _ z => z)
  exact ⟨szM (r1.1 ▸ h1.1), new_lst (s.stp t1) r1 h1.2 fun H' a vs ps t f h r q => k H' a vs ps (t1.trans t) (f.back s t1) h r q⟩
/-- a new list is frozen -/
def pFrz (va : WA) : WE := fun ρ => bindR va (fun ps post => post (.ok (.lst ps))) ρ
theorem ev_frz (h : EvO K T E te va) : EvE K T E te (pFrz va) := by
  rintro c M σ H ρ post Q rfl rfl s hw k e
  refine h c M σ H ρ _ _ rfl rfl s hw (fun H1 a vs ps t1 f h1 r1 h2 => ?_) (e.imp fun _ _ z => z)
  have r2 := r1.weak (M' := M) (fun b hb => List.mem_cons_of_mem _ hb)
  exact k H1 _ _ t1 (.lst (s.notIn f) h1 r2.1 r2.2) h2
/-! ### slices -/
abbrev WO : Type := List SV → (Res (Option Int) → Prop) → Prop
def EvP (K : PySem.W.Frag) (T : List (Addr × Str)) (E : XK) (tp : TO) (w : WO) : Prop := ∀ (c : Cfg) (M : List Addr) (σ : L2.St) (H : Hp) (ρ : List SV) (post : Res (Option Int) → Prop) (Q : Option Int → Hp → Prop), c.K = K → c.T = T → StR c M σ H ρ → w ρ post →
  (∀ H' b, Stp c H H' → post (.ok b) → Q b H') → ErW c E (fun cn fs => post (.er cn fs)) → tp σ H Q
def pNoPart : WO := fun _ post => post (.ok none)
def pPart (w : WE) : WO := fun ρ => bindR w (fun a post => match a with
  | .int i => post (.ok (some i))
  | _ => False) ρ
theorem ep_no : EvP K T E tNoPart pNoPart := by
  rintro c M σ H ρ post Q rfl rfl s hw k e
  exact k H none (.refl s) hw
theorem ep_part (h : EvE K T E te w) : EvP K T E (tPart te) (pPart w) := by
  rintro c M σ H ρ post Q rfl rfl s hw k e
  refine h c M σ H ρ _ _ rfl rfl s hw (fun H1 x p t1 r1 h1 => ?_) (e.imp fun _ _ z => z)
  dsimp only at h1
  split at h1
  · cases r1
    exact ⟨_, rfl, k H1 _ t1 h1⟩
  · exact h1.elim
def pSlS (w : WE) (wl wh : WO) : WE := fun ρ => bindR w (fun a => bindR wl (fun l => bindR wh (fun h post => match a with
  | .str z => z.length ≤ 1000000 ∧ post (.ok (.str (cutS z l h)))
  | _ => False) ρ) ρ) ρ
def cutP (xs : List PV) (lo hi : Option Int) : List PV := (xs.drop (HT.sIx xs.length 0 lo)).take (HT.sIx xs.length xs.length hi - HT.sIx xs.length 0 lo)
def pSlL (w : WE) (wl wh : WO) : WA := fun ρ => bindR w (fun a => bindR wl (fun l => bindR wh (fun h post => match a with
  | .lst ps => post (.ok (cutP ps l h))
  | _ => False) ρ) ρ) ρ
theorem ev_slS {tl th : TO} {wl wh : WO} (h : EvE K T E te w) (hl : EvP K T E tl wl) (hh : EvP K T E th wh) : EvE K T E (tSl rSlS te tl th) (pSlS w wl wh) := by
  rintro c M σ H ρ post Q rfl rfl s hw k e
  refine h c M σ H ρ _ _ rfl rfl s hw (fun H1 x p t1 r1 h1 => ?_) (e.imp fun _ _ z => z)
  have s1 := s.stp t1
  refine hl c M σ H1 ρ _ _ rfl rfl s1 h1 (fun H2 l t2 h2 => ?_) (e.imp fun _ _ z => z)
  have s2 := s1.stp t2
  refine hh c M σ H2 ρ _ _ rfl rfl s2 h2 (fun H3 u t3 h3 => ?_) (e.imp fun _ _ z => z)
  dsimp only at h3
  split at h3
  · cases r1
    exact ⟨_, rfl, szM h3.1, k H3 _ _ (t1.trans (t2.trans t3)) (.str _) h3.2⟩
  · exact h3.elim
theorem eo_slL {tl th : TO} {wl wh : WO} (h : EvB K T E te w) (hl : EvP K T E tl wl) (hh : EvP K T E th wh) : EvO K T E (tSl (rSlL K) te tl th) (pSlL w wl wh) := by
  rintro c M σ H ρ post Q rfl rfl s hw k e
  refine h c M σ H ρ _ _ rfl rfl s hw (fun H1 x p t1 r1 h1 => ?_) (e.imp fun _ _ z => z)
  have s1 := s.stp t1
  refine hl c M σ H1 ρ _ _ rfl rfl s1 h1 (fun H2 l t2 h2 => ?_) (e.imp fun _ _ z => z)
  have s2 := s1.stp t2
  refine hh c M σ H2 ρ _ _ rfl rfl s2 h2 (fun H3 u t3 h3 => ?_) (e.imp fun _ _ z => z)
  have s3 := s2.stp t3
  dsimp only at h3
  split at h3
  · obtain ⟨a, xs, rfl, e1, r2, _⟩ := (s2.bor t3 (s1.bor t2 r1)).lstI s3
    refine ⟨a, xs, rfl, SqL.of e1, new_lst (post := post) s3 (?_ : RepL c.K M H3 _ (cutP _ l u)) h3 fun H' a vs ps t f h r q => k H' a vs ps (t1.trans (t2.trans (t3.trans t))) (((f.back s2 t3).back s1 t2).back s t1) h r q⟩
    unfold cutV cutP
    rw [r2.1]
    exact (r2.drop _).take _
  · exact h3.elim
/-! ### built-ins -/
def pLen (w : WE) : WE := fun ρ => bindR w (fun a post => match a with
  | .lst ps | .tup ps => post (.ok (.int (ps.length : Int)))
  | _ => False) ρ
theorem ev_len (h : EvB K T E te w) : EvE K T E (tCB (bLen K) (tCons te tNil)) (pLen w) := by
  rintro c M σ H ρ post Q rfl rfl s hw k e
  refine h c M σ H ρ _ _ rfl rfl s hw (fun H1 x p t1 r1 h1 => ?_) (e.imp fun _ _ z => z)
  dsimp only at h1
  split at h1
  · obtain ⟨a, xs, rfl, e1, r2, _⟩ := r1.lstI (s.stp t1)
    exact ⟨a, xs, rfl, .inl (SqL.of e1), k H1 _ _ t1 (r2.1 ▸ .int _) h1⟩
  · obtain ⟨a, xs, rfl, e1, r2, _⟩ := r1.tupI (s.stp t1)
    exact ⟨a, xs, rfl, .inr e1, k H1 _ _ t1 (r2.1 ▸ .int _) h1⟩
  · exact h1.elim
def p1 (q : PV → (Res PV → Prop) → Prop) (w : WE) : WE := fun ρ => bindR w q ρ
def qLenS : PV → (Res PV → Prop) → Prop := fun a post => match a with
  | .str z => z.length ≤ 1000000 ∧ post (.ok (.int (z.length : Int)))
  | _ => False
theorem ev_lenS (h : EvE K T E te w) : EvE K T E (tCB bLenS (tCons te tNil)) (p1 qLenS w) := by
  rintro c M σ H ρ post Q rfl rfl s hw k e
  refine h c M σ H ρ _ _ rfl rfl s hw (fun H1 x p t1 r1 h1 => ?_) (e.imp fun _ _ z => z)
  unfold qLenS at h1
  dsimp only at h1
  split at h1
  · cases r1
    exact ⟨_, rfl, szM h1.1, k H1 _ _ t1 (.int _) h1.2⟩
  · exact h1.elim
def qInt : PV → (Res PV → Prop) → Prop := fun a post => match a with
  | .int i => post (.ok (.int i))
  | .bl b => post (.ok (.int (if b then 1 else 0)))
  | _ => False
theorem ev_bint (h : EvE K T E te w) : EvE K T E (tCB bInt (tCons te tNil)) (p1 qInt w) := by
  rintro c M σ H ρ post Q rfl rfl s hw k e
  refine h c M σ H ρ _ _ rfl rfl s hw (fun H1 x p t1 r1 h1 => ?_) (e.imp fun _ _ z => z)
  unfold qInt at h1
  dsimp only at h1
  split at h1
  · cases r1
    exact .inl ⟨_, rfl, k H1 _ _ t1 (.int _) h1⟩
  · cases r1
    exact .inr ⟨_, rfl, k H1 _ _ t1 (.int _) h1⟩
  · exact h1.elim
def qStr : PV → (Res PV → Prop) → Prop := fun a post => match a with
  | .int i => i.natAbs.log2 < 1920 ∧ post (.ok (.str (Str.ofString (toString i))))
  | _ => False
theorem ev_bstr (h : EvE K T E te w) : EvE K T E (tCB bStr (tCons te tNil)) (p1 qStr w) := by
  rintro c M σ H ρ post Q rfl rfl s hw k e
  refine h c M σ H ρ _ _ rfl rfl s hw (fun H1 x p t1 r1 h1 => ?_) (e.imp fun _ _ z => z)
  unfold qStr at h1
  dsimp only at h1
  split at h1
  · cases r1
    exact ⟨_, rfl, h1.1, k H1 _ _ t1 (.str _) h1.2⟩
  · exact h1.elim
def qAbs : PV → (Res PV → Prop) → Prop := fun a post => match a with
  | .int i => post (.ok (.int (if i < 0 then -i else i)))
  | _ => False
theorem ev_babs (h : EvE K T E te w) : EvE K T E (tCB bAbs (tCons te tNil)) (p1 qAbs w) := by
  rintro c M σ H ρ post Q rfl rfl s hw k e
  refine h c M σ H ρ _ _ rfl rfl s hw (fun H1 x p t1 r1 h1 => ?_) (e.imp fun _ _ z => z)
  unfold qAbs at h1
  dsimp only at h1
  split at h1
  · cases r1
    exact ⟨_, rfl, k H1 _ _ t1 (.int _) h1⟩
  · exact h1.elim
def p2 (q : PV → PV → (Res PV → Prop) → Prop) (wa wb : WE) : WE := fun ρ => bindR wa (fun a => bindR wb (fun b => q a b) ρ) ρ
def qMax2 := qI0 fun i j => .int (if j > i then j else i)
def qMin2 := qI0 fun i j => .int (if j < i then j else i)
theorem ev_max2 (ha : EvE K T E te wa) (hb : EvE K T E tf wb) : EvE K T E (tCB bMax2 (tCons te (tCons tf tNil))) (p2 qMax2 wa wb) := by
  rintro c M σ H ρ post Q rfl rfl s hw k e
  refine ha c M σ H ρ _ _ rfl rfl s hw (fun H1 x a t1 r1 h1 => ?_) (e.imp fun _ _ z => z)
  refine hb c M σ H1 ρ _ _ rfl rfl (s.stp t1) h1 (fun H2 y b t2 r2 h2 => ?_) (e.imp fun _ _ z => z)
  unfold qMax2 qI0 at h2
  dsimp only at h2
  split at h2
  · cases r1; cases r2
    exact b_max2 (k H2 _ _ (t1.trans t2) (.int _) h2)
  · exact h2.elim
theorem ev_min2 (ha : EvE K T E te wa) (hb : EvE K T E tf wb) : EvE K T E (tCB bMin2 (tCons te (tCons tf tNil))) (p2 qMin2 wa wb) := by
  rintro c M σ H ρ post Q rfl rfl s hw k e
  refine ha c M σ H ρ _ _ rfl rfl s hw (fun H1 x a t1 r1 h1 => ?_) (e.imp fun _ _ z => z)
  refine hb c M σ H1 ρ _ _ rfl rfl (s.stp t1) h1 (fun H2 y b t2 r2 h2 => ?_) (e.imp fun _ _ z => z)
  unfold qMin2 qI0 at h2
  dsimp only at h2
  split at h2
  · cases r1; cases r2
    exact b_min2 (k H2 _ _ (t1.trans t2) (.int _) h2)
  · exact h2.elim
/-- list(x) -/
def pListO (w : WE) : WA := fun ρ => bindR w (fun a post => match a with
  | .lst ps | .tup ps => post (.ok ps)
  | _ => False) ρ
theorem eo_list (h : EvB K T E te w) : EvO K T E (tCB (bList K) (tCons te tNil)) (pListO w) := by
  rintro c M σ H ρ post Q rfl rfl s hw k e
  refine h c M σ H ρ _ _ rfl rfl s hw (fun H1 x p t1 r1 h1 => ?_) (e.imp fun _ _ z => z)
  dsimp only at h1
  split at h1
  · obtain ⟨a, xs, rfl, e1, r2, _⟩ := r1.lstI (s.stp t1)
    exact ⟨a, xs, rfl, .inl (SqL.of e1), new_lst (s.stp t1) r2 h1 fun H' a vs ps t f h r q => k H' a vs ps (t1.trans t) (f.back s t1) h r q⟩
  · obtain ⟨a, xs, rfl, e1, r2, _⟩ := r1.tupI (s.stp t1)
    exact ⟨a, xs, rfl, .inr e1, new_lst (s.stp t1) r2 h1 fun H' a vs ps t f h r q => k H' a vs ps (t1.trans t) (f.back s t1) h r q⟩
  · exact h1.elim
/-- a + b of lists -/
def pCat (wa wb : WE) : WA := fun ρ => bindR wa (fun a => bindR wb (fun b post => match a, b with
  | .lst ps, .lst qs => ps.length + qs.length ≤ 1000000 ∧ post (.ok (ps ++ qs))
  | _, _ => False) ρ) ρ
theorem eo_cat (ha : EvB K T E te wa) (hb : EvB K T E tf wb) : EvO K T E (tOp rCat te tf) (pCat wa wb) := by
  rintro c M σ H ρ post Q rfl rfl s hw k e
  refine ha c M σ H ρ _ _ rfl rfl s hw (fun H1 x a t1 r1 h1 => ?_) (e.imp fun _ _ z => z)
  have s1 := s.stp t1
  refine hb c M σ H1 ρ _ _ rfl rfl s1 h1 (fun H2 y b t2 r2 h2 => ?_) (e.imp fun _ _ z => z)
  have s2 := s1.stp t2
  dsimp only at h2
  split at h2
  · obtain ⟨l, xs, rfl, e1, ra, _⟩ := (s1.bor t2 r1).lstI s2
    obtain ⟨m, ys, rfl, e2, rb, _⟩ := r2.lstI s2
    exact r_cat e1 e2 (szM (by rw [ra.1, rb.1]; exact h2.1)) (new_lst s2 (ra.append rb) h2.2 fun H' a vs ps t f h r q => k H' a vs ps (t1.trans (t2.trans t)) ((f.back s1 t2).back s t1) h r q)
  · exact h2.elim
/-- a text's pieces joined -/
def strL : List PV → Option (List Str)
  | [] => some []
  | .str z :: ps => (strL ps).map (z :: ·)
  | _ :: _ => none
theorem RepL.strs : ∀ {xs : List V} {ps : List PV} {zs : List Str}, RepL K M H xs ps → strL ps = some zs → xs = zs.map V.str
  | [], [], zs, h, e => by cases e; rfl
  | [], p :: ps, zs, h, e => by cases h.1
  | x :: xs, [], zs, h, e => by cases h.1
  | x :: xs, p :: ps, zs, h, e => by
    unfold strL at e
    split at e
    · rename_i eq; cases eq
    · rename_i z qs eq
      cases eq
      cases e2 : strL ps with
      | none => rw [e2] at e; cases e
      | some ys =>
        rw [e2] at e
        cases e
        rw [RepL.strs h.tail e2]
        have := h.head
        cases this
        rfl
    · cases e
def qJoin : Str → PV → (Res PV → Prop) → Prop := fun z b post => match b with
  | .lst ps => ∃ zs, strL ps = some zs ∧ (zs.map (·.length)).sum + zs.length * z.length ≤ 16777216 ∧ post (.ok (.str (Txt.join z zs)))
  | _ => False
def pJoin (wa wb : WE) : WE := fun ρ => bindR wa (fun a post => match a with
  | .str z => bindR wb (fun b => qJoin z b) ρ post
  | _ => False) ρ
theorem ev_join (ha : EvE K T E te wa) (hb : EvB K T E tf wb) : EvE K T E (tBM K "str" (mJoin K) te (tCons tf tNil)) (pJoin wa wb) := by
  rintro c M σ H ρ post Q rfl rfl s hw k e
  refine ha c M σ H ρ _ _ rfl rfl s hw (fun H1 x a t1 r1 h1 => ?_) (e.imp fun _ _ z => z)
  have s1 := s.stp t1
  dsimp only at h1
  split at h1
  · cases r1
    refine ⟨rfl, ?_⟩
    refine hb c M σ H1 ρ _ _ rfl rfl s1 h1 (fun H2 y b t2 r2 h2 => ?_) (e.imp fun _ _ z => z)
    have s2 := s1.stp t2
    unfold qJoin at h2
    dsimp only at h2
    split at h2
    · obtain ⟨zs, e1, e2, h2⟩ := h2
      obtain ⟨l, xs, rfl, e3, ra, _⟩ := r2.lstI s2
      obtain rfl := ra.strs e1
      exact ⟨_, l, zs, rfl, rfl, .inl (SqL.of e3), e2, k H2 _ _ (t1.trans t2) (.str _) h2⟩
    · exact h2.elim
  · exact h1.elim
end
end My
end

section
set_option Elab.async false
set_option maxRecDepth 100000
set_option maxHeartbeats 4000000
set_option linter.all false
namespace My
open PySem L2
/-! ### what is walked -/
def RB (b : Bool) (c : Cfg) (H : Hp) : Hp → Prop := fun H1 => b = true → Stp c H H1
def ItR (b : Bool) (c : Cfg) (M : List Addr) (H : Hp) (J : It) (items : List PV) : Prop := ∃ (G : Hp → Prop) (Y : Nat → Hp → V → Hp → Prop), Walk J items.length G Y ∧ ∀ M' H1, Nxt M H M' H1 → RB b c H H1 → (G H1 ∧
  ((∀ a ∈ M', ∃ o, H1 a = some o ∧ NT o) → ∀ i x H2, i < items.length → Y i H1 x H2 → ∃ p, items[i]? = some p ∧ Same H1 H2 ∧ Rep c.K M' H2 x p))
def EvI (b : Bool) (K : PySem.W.Frag) (T : List (Addr × Str)) (E : XK) (wi : TI) (w : WA) : Prop := ∀ (c : Cfg) (M : List Addr) (σ : L2.St) (H : Hp) (ρ : List SV) (post : Res (List PV) → Prop) (R : It → Hp → Prop), c.K = K → c.T = T → StR c M σ H ρ → w ρ post →
  (∀ H' J items, Stp c H H' → ItR b c M H' J items → post (.ok items) → R J H') → ErW c E (fun cn fs => post (.er cn fs)) → wi σ H R
section
variable {c : Cfg} {M : List Addr} {σ : L2.St} {H H' : Hp} {ρ : List SV} {K : PySem.W.Frag} {T : List (Addr × Str)} {E : XK} {te tf tg : TE} {w wa wb wc : WE} {tt tu : TT} {vt vu : WT} {ta tb : TA} {va vb : WA} {i : Nat} {p : PV} {v : V} {b : Bool}
theorem nodom {M : List Addr} {H : Hp} {q : Addr} (d : ∀ a ∈ M, ∃ o, H a = some o ∧ NT o) (h : H q = none) : q ∉ M := fun z => by
  obtain ⟨o, e, _⟩ := d q z
  rw [h] at e; cases e
theorem it_list {a : Addr} {xs : List V} {ps : List PV} (h0 : H a = some (.lst xs)) (hx : ∀ M' H1, Nxt M H M' H1 → RB b c H H1 → H1 a = some (.lst xs)) (r : RepL c.K M H xs ps) : ItR b c M H (Itl c.K a) ps := by
  refine ⟨_, _, r.1 ▸ walk_list (K := c.K) (a := a) (xs := xs), fun M' H1 n q => ⟨SqL.of (hx M' H1 n q), fun d i x H2 hil y => ?_⟩⟩
  obtain ⟨rfl, hi⟩ := y
  have hl : i < ps.length := by rw [← r.1]; exact (List.getElem?_eq_some_iff.mp hi).1
  exact ⟨ps[i], by simp [hl], fun _ _ e => e, (r.2 i x _ hi (by simp [hl])).nxt n⟩
def pItL (w : WE) : WA := fun ρ => bindR w (fun a post => match a with
  | .lst ps => post (.ok ps)
  | _ => False) ρ
def pItT (w : WE) : WA := fun ρ => bindR w (fun a post => match a with
  | .tup ps => post (.ok ps)
  | _ => False) ρ
theorem ei_list (h : EvE K T E te w) : EvI b K T E (iList K te) (pItL w) := by
  rintro c M σ H ρ post R rfl rfl s hw k e
  refine h c M σ H ρ _ _ rfl rfl s hw (fun H1 x p t1 r1 h1 => ?_) (e.imp fun _ _ z => z)
  dsimp only at h1
  split at h1
  · obtain ⟨a, xs, rfl, hm, ha, r⟩ := r1.lstI
    exact ⟨a, rfl, ⟨xs, SqL.of ha⟩, k H1 _ _ t1 (it_list ha (fun M' H2 n _ => n.ext _ _ hm NT.lst ha) r) h1⟩
  · exact h1.elim
theorem ei_listB (h : EvB K T E te w) : EvI true K T E (iList K te) (pItL w) := by
  rintro c M σ H ρ post R rfl rfl s hw k e
  refine h c M σ H ρ _ _ rfl rfl s hw (fun H1 x p t1 r1 h1 => ?_) (e.imp fun _ _ z => z)
  dsimp only at h1
  split at h1
  · obtain ⟨a, xs, rfl, ha, r, hx⟩ := r1.lstI (s.stp t1)
    exact ⟨a, rfl, ⟨xs, SqL.of ha⟩, k H1 _ _ t1 (it_list ha (fun M' H2 n q => hx _ (q rfl)) r) h1⟩
  · exact h1.elim
theorem ei_tup (h : EvE K T E te w) : EvI b K T E (iTup K te) (pItT w) := by
  rintro c M σ H ρ post R rfl rfl s hw k e
  refine h c M σ H ρ _ _ rfl rfl s hw (fun H1 x p t1 r1 h1 => ?_) (e.imp fun _ _ z => z)
  dsimp only at h1
  split at h1
  · rename_i ps
    have hx : ∃ a xs, x = .ref a ∧ SqT c.K H1 a xs ∧ RepL c.K M H1 xs ps ∧ ∀ M' H2, Nxt M H1 M' H2 → SqT c.K H2 a xs := by
      cases r1 with
      | tup hm h hl hi => exact ⟨_, _, rfl, SqT.of h, ⟨hl, hi⟩, fun M' H2 n => SqT.of (n.ext _ _ hm NT.tup h)⟩
      | ktup h hl hi => exact ⟨_, _, rfl, h _, ⟨hl, hi⟩, fun M' H2 n => h _⟩
    obtain ⟨a, xs, rfl, ha, r, hx⟩ := hx
    refine ⟨a, rfl, ⟨xs, ha⟩, k H1 _ _ t1 ?_ h1⟩
    refine ⟨_, _, r.1 ▸ walk_tup (K := c.K) (a := a) (xs := xs), fun M' H2 n q => ⟨hx M' H2 n, fun d i x H3 hil y => ?_⟩⟩
    obtain ⟨rfl, hi⟩ := y
    have hl : i < ps.length := by rw [← r.1]; exact (List.getElem?_eq_some_iff.mp hi).1
    exact ⟨ps[i], by simp [hl], fun _ _ e => e, (r.2 i x _ hi (by simp [hl])).nxt n⟩
  · exact h1.elim
/-- a text's signs -/
def chars (z : Str) : List PV := z.cps.toList.map fun n => .str ⟨#[n]⟩
def pItS (w : WE) : WA := fun ρ => bindR w (fun a post => match a with
  | .str z => post (.ok (chars z))
  | _ => False) ρ
theorem chars_len (z : Str) : (chars z).length = z.cps.size := by unfold chars; rw [List.length_map, Array.length_toList]
theorem ei_str (h : EvE K T E te w) : EvI b K T E (iStr te) (pItS w) := by
  rintro c M σ H ρ post R rfl rfl s hw k e
  refine h c M σ H ρ _ _ rfl rfl s hw (fun H1 x p t1 r1 h1 => ?_) (e.imp fun _ _ z => z)
  dsimp only at h1
  split at h1
  · rename_i z
    cases r1
    refine ⟨z, rfl, k H1 _ _ t1 ?_ h1⟩
    refine ⟨_, _, (chars_len z).symm ▸ walk_str, fun M' H2 n q => ⟨trivial, fun d i x H3 hil y => ?_⟩⟩
    obtain ⟨rfl, ch, hc, rfl⟩ := y
    refine ⟨_, ?_, fun _ _ e => e, .str _⟩
    unfold chars
    rw [List.getElem?_map, Array.getElem?_toList, hc]
    rfl
  · exact h1.elim
/-- ranges -/
def rgP (lo st : Int) (n : Nat) : List PV := (List.range n).map fun i : Nat => .int (lo + (i : Int) * st)
theorem rgP_len (lo st : Int) (n : Nat) : (rgP lo st n).length = n := by unfold rgP; rw [List.length_map, List.length_range]
theorem rgP_at {lo st : Int} {n i : Nat} (h : i < n) : (rgP lo st n)[i]? = some (.int (lo + (i : Int) * st)) := by
  unfold rgP
  rw [List.getElem?_map, List.getElem?_range h]; rfl
theorem it_range {lo : Int} {n : Nat} : ItR b c M H (Itr lo n) (rgP lo 1 n) := by
  refine ⟨_, _, by rw [rgP_len]; exact walk_range, fun M' H2 m q => ⟨trivial, fun d i x H3 hil y => ?_⟩⟩
  obtain ⟨rfl, rfl⟩ := y
  rw [rgP_len] at hil
  exact ⟨.int (lo + (i : Int) * 1), rgP_at hil, fun _ _ e => e, by rw [Int.mul_one]; exact .int _⟩
theorem it_rangeC {lo st : Int} {n : Nat} : ItR b c M H (Itc lo st n) (rgP lo st n) := by
  refine ⟨_, _, by rw [rgP_len]; exact walk_rangeC, fun M' H2 m q => ⟨trivial, fun d i x H3 hil y => ?_⟩⟩
  obtain ⟨rfl, rfl⟩ := y
  rw [rgP_len] at hil
  exact ⟨.int (lo + (i : Int) * st), rgP_at hil, fun _ _ e => e, .int _⟩
def inB (i : Int) : Prop := -(2 ^ 62) ≤ i ∧ i < 2 ^ 62
def pRng1 (w : WE) : WA := fun ρ => bindR w (fun a post => match a with
  | .int j => inB j ∧ post (.ok (rgP 0 1 j.toNat))
  | _ => False) ρ
def pRng2 (wa wb : WE) : WA := fun ρ => bindR wa (fun a => bindR wb (fun b post => match a, b with
  | .int i, .int j => inB i ∧ inB j ∧ post (.ok (rgP i 1 (j - i).toNat))
  | _, _ => False) ρ) ρ
theorem ei_rng1 (h : EvE K T E te w) : EvI b K T E (iRng1 (tCons te tNil)) (pRng1 w) := by
  rintro c M σ H ρ post R rfl rfl s hw k e
  refine h c M σ H ρ _ _ rfl rfl s hw (fun H1 x p t1 r1 h1 => ?_) (e.imp fun _ _ z => z)
  dsimp only at h1
  split at h1
  · cases r1
    exact ⟨_, rfl, h1.1.1, h1.1.2, k H1 _ _ t1 it_range h1.2⟩
  · exact h1.elim
theorem ei_rng2 (ha : EvE K T E te wa) (hb : EvE K T E tf wb) : EvI b K T E (iRng2 (tCons te (tCons tf tNil))) (pRng2 wa wb) := by
  rintro c M σ H ρ post R rfl rfl s hw k e
  refine ha c M σ H ρ _ _ rfl rfl s hw (fun H1 x p t1 r1 h1 => ?_) (e.imp fun _ _ z => z)
  refine hb c M σ H1 ρ _ _ rfl rfl (s.stp t1) h1 (fun H2 y q t2 r2 h2 => ?_) (e.imp fun _ _ z => z)
  dsimp only at h2
  split at h2
  · cases r1; cases r2
    exact ⟨_, _, rfl, ⟨h2.1.1, h2.1.2, h2.2.1.1, h2.2.1.2⟩, k H2 _ _ (t1.trans t2) it_range h2.2.2⟩
  · exact h2.elim
def pRev2 (wa wb : WE) : WA := fun ρ => bindR wa (fun a => bindR wb (fun b post => match a, b with
  | .int i, .int j => inB i ∧ inB j ∧ post (.ok (rgP (i + (((j - i).toNat : Nat) : Int) - 1) (-1) (j - i).toNat))
  | _, _ => False) ρ) ρ
def pRev1 (wa : WE) : WA := fun ρ => bindR wa (fun a post => match a with
  | .int j => inB j ∧ post (.ok (rgP (0 + (((j - 0).toNat : Nat) : Int) - 1) (-1) (j - 0).toNat))
  | _ => False) ρ
theorem ei_rev1 (h : EvE K T E te w) : EvI b K T E (iRevR (tRg1 te)) (pRev1 w) := by
  rintro c M σ H ρ post R rfl rfl s hw k e
  refine h c M σ H ρ _ _ rfl rfl s hw (fun H1 x p t1 r1 h1 => ?_) (e.imp fun _ _ z => z)
  dsimp only at h1
  split at h1
  · cases r1
    exact ⟨_, rfl, by omega, by omega, h1.1.1, h1.1.2, k H1 _ _ t1 it_rangeC h1.2⟩
  · exact h1.elim
theorem ei_rev2 (ha : EvE K T E te wa) (hb : EvE K T E tf wb) : EvI b K T E (iRevR (tRg2 te tf)) (pRev2 wa wb) := by
  rintro c M σ H ρ post R rfl rfl s hw k e
  refine ha c M σ H ρ _ _ rfl rfl s hw (fun H1 x p t1 r1 h1 => ?_) (e.imp fun _ _ z => z)
  refine hb c M σ H1 ρ _ _ rfl rfl (s.stp t1) h1 (fun H2 y q t2 r2 h2 => ?_) (e.imp fun _ _ z => z)
  dsimp only at h2
  split at h2
  · cases r1; cases r2
    exact ⟨_, _, rfl, rfl, h2.1.1, h2.1.2, h2.2.1.1, h2.2.1.2, k H2 _ _ (t1.trans t2) it_rangeC h2.2.2⟩
  · exact h2.elim
/-- list(range(..)) -/
theorem rgV_P (a b : Int) : RepL K M H (rgV a b) (rgP a 1 (b - a).toNat) := by
  refine ⟨by rw [rgV_length, rgP_len], fun i x p h1 h2 => ?_⟩
  unfold rgV at h1
  have hi : i < (b - a).toNat := by have := (List.getElem?_eq_some_iff.mp h2).1; rw [rgP_len] at this; exact this
  rw [rgP_at hi] at h2
  rw [List.getElem?_map, List.getElem?_range hi] at h1
  cases h1; cases h2
  rw [Int.mul_one]; exact .int _
def szB (i j : Int) : Prop := -1000000 ≤ i ∧ i ≤ 1000000 ∧ -1000000 ≤ j ∧ j ≤ 1000000
def pLRg1 (w : WE) : WA := fun ρ => bindR w (fun a post => match a with
  | .int j => szB 0 j ∧ post (.ok (rgP 0 1 j.toNat))
  | _ => False) ρ
def pLRg2 (wa wb : WE) : WA := fun ρ => bindR wa (fun a => bindR wb (fun b post => match a, b with
  | .int i, .int j => szB i j ∧ post (.ok (rgP i 1 (j - i).toNat))
  | _, _ => False) ρ) ρ
theorem eo_lrg1 (h : EvE K T E te w) : EvO K T E (tLstRg (tRg1 te)) (pLRg1 w) := by
  rintro c M σ H ρ post Q rfl rfl s hw k e
  refine h c M σ H ρ _ _ rfl rfl s hw (fun H1 x p t1 r1 h1 => ?_) (e.imp fun _ _ z => z)
  dsimp only at h1
  split at h1
  · rename_i j
    cases r1
    obtain ⟨⟨z1, z2, z3, z4⟩, h1⟩ := h1
    refine ⟨j, rfl, ⟨by omega, by omega, by omega, by omega, by omega⟩, new_lst (s.stp t1) (?_ : RepL c.K M H1 _ (rgP 0 1 j.toNat)) h1 fun H' a vs ps t f h r q => k H' a vs ps (t1.trans t) (f.back s t1) h r q⟩
    have := rgV_P (K := c.K) (M := M) (H := H1) 0 j
    rw [Int.sub_zero] at this
    exact this
  · exact h1.elim
theorem eo_lrg2 (ha : EvE K T E te wa) (hb : EvE K T E tf wb) : EvO K T E (tLstRg (tRg2 te tf)) (pLRg2 wa wb) := by
  rintro c M σ H ρ post Q rfl rfl s hw k e
  refine ha c M σ H ρ _ _ rfl rfl s hw (fun H1 x p t1 r1 h1 => ?_) (e.imp fun _ _ z => z)
  have s1 := s.stp t1
  refine hb c M σ H1 ρ _ _ rfl rfl s1 h1 (fun H2 y q t2 r2 h2 => ?_) (e.imp fun _ _ z => z)
  dsimp only at h2
  split at h2
  · cases r1; cases r2
    obtain ⟨⟨z1, z2, z3, z4⟩, h2⟩ := h2
    exact ⟨_, _, rfl, rfl, ⟨by omega, by omega, by omega, by omega, by omega⟩, new_lst (s1.stp t2) (rgV_P _ _) h2 fun H' a vs ps t f h r q => k H' a vs ps (t1.trans (t2.trans t)) ((f.back s1 t2).back s t1) h r q⟩
  · exact h2.elim
/-- pairs -/
theorem it_pair {J : It} {f g : Nat → Option V} {ps : List PV} {G : Hp → Prop} (w : Walk J ps.length G (YPair f g)) (hG : ∀ M' H1, Nxt M H M' H1 → RB b c H H1 → G H1)
    (hp : ∀ i x y, i < ps.length → f i = some x → g i = some y → ∃ p q, ps[i]? = some (.tup [p, q]) ∧ Rep c.K M H x p ∧ Rep c.K M H y q) : ItR b c M H J ps := by
  refine ⟨G, _, w, fun M' H1 n q => ⟨hG M' H1 n q, fun d i x H3 hil y => ?_⟩⟩
  obtain ⟨A, x, y, rfl, h2, rfl, h4, h5⟩ := y
  obtain ⟨p, q, h6, r1, r2⟩ := hp i x y hil h4 h5
  have sm : Same H1 (upd H1 A (.tup [x, y])) := fun z o e => by rw [upd_ne (ne_of_none e h2)]; exact e
  have n2 : Nxt M H M' (upd H1 A (.tup [x, y])) := n.trans ⟨fun z o _ _ e => sm z o e, fun a ha => .inl ha⟩
  have rl : RepL c.K M' (upd H1 A (.tup [x, y])) [x, y] [p, q] := .cons (r1.nxt n2) (.cons (r2.nxt n2) .nil)
  exact ⟨_, h6, sm, .tup (nodom d h2) upd_same rl.1 rl.2⟩
def enumP (k : Int) : List PV → List PV
  | [] => []
  | p :: ps => .tup [.int k, p] :: enumP (k + 1) ps
theorem enumP_at : ∀ {ps : List PV} {k : Int} {i : Nat} {p : PV}, ps[i]? = some p → (enumP k ps)[i]? = some (.tup [.int (k + (i : Int)), p])
  | q :: ps, k, 0, p, h => by cases h; unfold enumP; rw [show k + ((0 : Nat) : Int) = k by omega]; rfl
  | q :: ps, k, i + 1, p, h => by
    unfold enumP
    rw [List.getElem?_cons_succ, enumP_at (p := p) (by simpa using h), show k + 1 + (i : Int) = k + ((i + 1 : Nat) : Int) by omega]
theorem enumP_len : ∀ (ps : List PV) (k : Int), (enumP k ps).length = ps.length
  | [], _ => rfl
  | _ :: ps, k => by unfold enumP; rw [List.length_cons, enumP_len ps]; rfl
def pEnum (w : WE) : WA := fun ρ => bindR w (fun a post => match a with
  | .lst ps => post (.ok (enumP 0 ps))
  | _ => False) ρ
theorem ei_enum (h : EvE K T E te w) : EvI b K T E (iEnum K (tCons te tNil)) (pEnum w) := by
  rintro c M σ H ρ post R rfl rfl s hw k e
  refine h c M σ H ρ _ _ rfl rfl s hw (fun H1 x p t1 r1 h1 => ?_) (e.imp fun _ _ z => z)
  dsimp only at h1
  split at h1
  · rename_i ps
    obtain ⟨a, xs, rfl, hm, ha, r⟩ := r1.lstI
    refine ⟨a, xs, rfl, SqL.of ha, k H1 _ _ t1 (it_pair (ps := enumP 0 ps) (by rw [enumP_len, ← r.1]; exact walk_enum) (fun M' H2 n _ => SqL.of (n.ext _ _ hm NT.lst ha)) (fun i x y hi e1 e2 => ?_)) h1⟩
    cases e1
    have hi : i < ps.length := by rw [enumP_len] at hi; exact hi
    exact ⟨.int (0 + (i : Int)), ps[i], enumP_at (by simp [hi]), by rw [Int.zero_add]; exact .int _, r.2 i y _ e2 (by simp [hi])⟩
  · exact h1.elim
theorem it_enumS {z : Str} {k0 : Int} : ItR b c M H (Ites z k0) (enumP k0 (chars z)) := by
  refine ⟨fun _ => True, _, ⟨fun i H hi _ => ?_, fun H _ => ?_, fun i H x H' _ _ y => y⟩, fun M' H1 n q => ⟨trivial, fun d i x H3 hil y => ?_⟩⟩
  · rw [enumP_len, chars_len] at hi; exact hi
  · rw [enumP_len, chars_len]; rfl
  · obtain ⟨A, ch, rfl, h2, rfl, h4⟩ := y
    have sm : Same H1 (upd H1 A (.tup [.int (k0 + (i : Nat)), .str ⟨#[ch]⟩])) := fun z o e => by rw [upd_ne (ne_of_none e h2)]; exact e
    have rl : RepL c.K M' (upd H1 A (.tup [.int (k0 + (i : Nat)), .str ⟨#[ch]⟩])) [.int (k0 + (i : Nat)), .str ⟨#[ch]⟩] [.int (k0 + (i : Int)), .str ⟨#[ch]⟩] := .cons (.int _) (.cons (.str _) .nil)
    exact ⟨_, enumP_at (p := .str ⟨#[ch]⟩) (by unfold chars; rw [List.getElem?_map, Array.getElem?_toList, h4]; rfl), sm, .tup (nodom d h2) upd_same rl.1 rl.2⟩
def pEnumS (w : WE) : WA := fun ρ => bindR w (fun a post => match a with
  | .str z => post (.ok (enumP 0 (chars z)))
  | _ => False) ρ
def pEnumSK (wa wb : WE) : WA := fun ρ => bindR wa (fun a => bindR wb (fun b post => match a, b with
  | .str z, .int k0 => inB k0 ∧ post (.ok (enumP k0 (chars z)))
  | _, _ => False) ρ) ρ
theorem ei_enumS (h : EvE K T E te w) : EvI b K T E (iEnumS (tCons te tNil)) (pEnumS w) := by
  rintro c M σ H ρ post R rfl rfl s hw k e
  refine h c M σ H ρ _ _ rfl rfl s hw (fun H1 x p t1 r1 h1 => ?_) (e.imp fun _ _ z => z)
  dsimp only at h1
  split at h1
  · cases r1
    exact ⟨_, rfl, k H1 _ _ t1 it_enumS h1⟩
  · exact h1.elim
theorem ei_enumSK (ha : EvE K T E te wa) (hb : EvE K T E tf wb) : EvI b K T E (iEnumSK (tCons te tNil) (tCons tf tNil)) (pEnumSK wa wb) := by
  rintro c M σ H ρ post R rfl rfl s hw k e
  refine ha c M σ H ρ _ _ rfl rfl s hw (fun H1 x p t1 r1 h1 => ?_) (e.imp fun _ _ z => z)
  refine hb c M σ H1 ρ _ _ rfl rfl (s.stp t1) h1 (fun H2 y q t2 r2 h2 => ?_) (e.imp fun _ _ z => z)
  dsimp only at h2
  split at h2
  · cases r1; cases r2
    obtain ⟨⟨z1, z2⟩, h2⟩ := h2
    exact ⟨_, _, rfl, rfl, by omega, by omega, k H2 _ _ (t1.trans t2) it_enumS h2⟩
  · exact h2.elim
/-- zip -/
def zipP : List PV → List PV → List PV
  | p :: ps, q :: qs => .tup [p, q] :: zipP ps qs
  | _, _ => []
theorem zipP_len : ∀ (ps qs : List PV), (zipP ps qs).length = min ps.length qs.length
  | [], qs => by simp [zipP]
  | p :: ps, [] => by simp [zipP]
  | p :: ps, q :: qs => by unfold zipP; rw [List.length_cons, zipP_len ps qs, List.length_cons, List.length_cons]; omega
theorem zipP_at : ∀ {ps qs : List PV} {i : Nat} {p q : PV}, ps[i]? = some p → qs[i]? = some q → (zipP ps qs)[i]? = some (.tup [p, q])
  | p' :: ps, q' :: qs, 0, p, q, h1, h2 => by cases h1; cases h2; rfl
  | p' :: ps, q' :: qs, i + 1, p, q, h1, h2 => by
    unfold zipP
    rw [List.getElem?_cons_succ]
    exact zipP_at (by simpa using h1) (by simpa using h2)
  | [], _, _, p, q, h1, h2 => by simp at h1
  | _ :: _, [], _, p, q, h1, h2 => by simp at h2
def pZip (wa wb : WE) : WA := fun ρ => bindR wa (fun a => bindR wb (fun b post => match a, b with
  | .lst ps, .lst qs => post (.ok (zipP ps qs))
  | .tup ps, .tup qs => post (.ok (zipP ps qs))
  | _, _ => False) ρ) ρ
theorem ei_zip (ha : EvE K T E te wa) (hb : EvE K T E tf wb) : EvI b K T E (RZ.iZipA K (tCons te (tCons tf tNil))) (pZip wa wb) := by
  rintro c M σ H ρ post R rfl rfl s hw k e
  refine ha c M σ H ρ _ _ rfl rfl s hw (fun H1 x p t1 r1 h1 => ?_) (e.imp fun _ _ z => z)
  have s1 := s.stp t1
  refine hb c M σ H1 ρ _ _ rfl rfl s1 h1 (fun H2 y q t2 r2 h2 => ?_) (e.imp fun _ _ z => z)
  dsimp only at h2
  split at h2
  · rename_i ps qs
    obtain ⟨u, xs, rfl, hm, ha, r⟩ := (s1.rep t2 r1).lstI
    obtain ⟨v, ys, rfl, hm2, hb, r'⟩ := r2.lstI
    refine ⟨u, v, xs, ys, rfl, .inl ⟨SqL.of ha, SqL.of hb, k H2 _ _ (t1.trans t2) (it_pair (ps := zipP ps qs) (walk_zip (K := c.K) (a := u) (b := v) (xs := xs) (ys := ys) (by rw [zipP_len, r.1, r'.1])) (fun M' H3 n _ => ⟨SqL.of (n.ext _ _ hm NT.lst ha), SqL.of (n.ext _ _ hm2 NT.lst hb)⟩) (fun i x y hi e1 e2 => ?_)) h2⟩⟩
    rw [zipP_len] at hi
    have i1 : i < ps.length := by omega
    have i2 : i < qs.length := by omega
    exact ⟨ps[i], qs[i], zipP_at (by simp [i1]) (by simp [i2]), r.2 i x _ e1 (by simp [i1]), r'.2 i y _ e2 (by simp [i2])⟩
  · rename_i ps qs
    have tx : ∀ {x : V} {ps : List PV}, Rep c.K M H2 x (.tup ps) → ∃ a xs, x = .ref a ∧ SqT c.K H2 a xs ∧ RepL c.K M H2 xs ps ∧ ∀ M' H3, Nxt M H2 M' H3 → SqT c.K H3 a xs := fun r1 => by
      cases r1 with
      | tup hm h hl hi => exact ⟨_, _, rfl, SqT.of h, ⟨hl, hi⟩, fun M' H2 n => SqT.of (n.ext _ _ hm NT.tup h)⟩
      | ktup h hl hi => exact ⟨_, _, rfl, h _, ⟨hl, hi⟩, fun M' H2 n => h _⟩
    obtain ⟨u, xs, rfl, ha, r, hx⟩ := tx (s1.rep t2 r1)
    obtain ⟨v, ys, rfl, hb, r', hy⟩ := tx r2
    refine ⟨u, v, xs, ys, rfl, .inr ⟨ha, hb, k H2 _ _ (t1.trans t2) (it_pair (ps := zipP ps qs) (walk_zipT (K := c.K) (a := u) (b := v) (xs := xs) (ys := ys) (by rw [zipP_len, r.1, r'.1])) (fun M' H3 n _ => ⟨hx M' H3 n, hy M' H3 n⟩) (fun i x y hi e1 e2 => ?_)) h2⟩⟩
    rw [zipP_len] at hi
    have i1 : i < ps.length := by omega
    have i2 : i < qs.length := by omega
    exact ⟨ps[i], qs[i], zipP_at (by simp [i1]) (by simp [i2]), r.2 i x _ e1 (by simp [i1]), r'.2 i y _ e2 (by simp [i2])⟩
  · exact h2.elim
/-- reversed(list) -/
def pItRev (w : WE) : WA := fun ρ => bindR w (fun a post => match a with
  | .lst ps => post (.ok ps.reverse)
  | _ => False) ρ
theorem ei_rev (h : EvE K T E te w) : EvI b K T E (iRev K (tCons te tNil)) (pItRev w) := by
  rintro c M σ H ρ post R rfl rfl s hw k e
  refine h c M σ H ρ _ _ rfl rfl s hw (fun H1 x p t1 r1 h1 => ?_) (e.imp fun _ _ z => z)
  dsimp only at h1
  split at h1
  · rename_i ps
    obtain ⟨a, xs, rfl, hm, ha, r⟩ := r1.lstI
    refine ⟨a, xs, rfl, SqL.of ha, k H1 _ _ t1 ?_ h1⟩
    refine ⟨_, _, by rw [List.length_reverse, ← r.1]; exact walk_rev (K := c.K) (a := a) (xs := xs), fun M' H2 n q => ⟨SqL.of (n.ext _ _ hm NT.lst ha), fun d i x H3 hil y => ?_⟩⟩
    obtain ⟨rfl, hi⟩ := y
    rw [List.length_reverse] at hil
    have hl : xs.length - 1 - i < ps.length := by rw [← r.1] at hil ⊢; omega
    exact ⟨ps[xs.length - 1 - i], by rw [List.getElem?_reverse hil, ← r.1]; simp [hl], fun _ _ e => e, (r.2 _ x _ hi (by simp [hl])).nxt n⟩
  · exact h1.elim
end
end My
end

section
set_option Elab.async false
set_option maxRecDepth 100000
set_option maxHeartbeats 4000000
set_option linter.all false
namespace My
open PySem L2
abbrev WG : Type := PV → List SV → (Res (List SV) → Prop) → Prop
/-- a target: the slots ss are set -/
def EvG (K : PySem.W.Frag) (ss : List Nat) (g : TG) (w : WG) : Prop := ∀ (c : Cfg) (M : List Addr) (σ : L2.St) (H : Hp) (ρ : List SV) (v : V) (p : PV) (post : Res (List SV) → Prop) (R : L2.St → Hp → Prop), c.K = K → StR c M σ H ρ → Rep c.K M H v p → w p ρ post →
  (∀ σ' ρ', StR c M σ' H ρ' → σ'.length = σ.length → (∀ i, i ∉ ss → σ'[i]? = σ[i]?) → post (.ok ρ') → R σ' H) → g v σ H R
abbrev WGs : Type := List PV → List SV → (Res (List SV) → Prop) → Prop
def EvGs (K : PySem.W.Frag) (ss : List Nat) (g : TGs) (w : WGs) : Prop := ∀ (c : Cfg) (M : List Addr) (σ : L2.St) (H : Hp) (ρ : List SV) (vs : List V) (ps : List PV) (post : Res (List SV) → Prop) (R : L2.St → Hp → Prop), c.K = K → StR c M σ H ρ → RepL c.K M H vs ps → w ps ρ post →
  (∀ σ' ρ', StR c M σ' H ρ' → σ'.length = σ.length → (∀ i, i ∉ ss → σ'[i]? = σ[i]?) → post (.ok ρ') → R σ' H) → g vs σ H R
section
variable {c : Cfg} {M : List Addr} {σ : L2.St} {H H' : Hp} {ρ : List SV} {K : PySem.W.Frag} {T : List (Addr × Str)} {E : XK} {te tf tg : TE} {w wa wb wc : WE} {tt tu : TT} {vt vu : WT} {ta tb : TA} {va vb : WA} {i : Nat} {p : PV} {v : V} {b : Bool} {g : TG} {gs : TGs} {wg : WG} {wgs : WGs} {ss us : List Nat}
def gpName (i : Nat) : WG := fun p ρ post => post (.ok (ρ.set i (.fz p)))
theorem eg_name : EvG K [i] (gName i) (gpName i) := by
  rintro c M σ H ρ v p post R rfl s r h k
  exact k _ _ (s.set i (.fz r) rfl) (by simp) (fun j hj => List.getElem?_set_ne (fun z => hj (by simp [z]))) h
def gpNil : WGs := fun ps ρ post => ps = [] ∧ post (.ok ρ)
def gpCons (wg : WG) (wgs : WGs) : WGs := fun ps ρ post => match ps with
  | p :: qs => wg p ρ fun r => match r with
    | .ok ρ' => wgs qs ρ' post
    | .er cn fs => post (.er cn fs)
  | [] => False
theorem eg_nil : EvGs K [] gNil gpNil := by
  rintro c M σ H ρ vs ps post R rfl s r h k
  obtain ⟨rfl, h⟩ := h
  cases vs with
  | nil => exact ⟨rfl, k _ _ s rfl (fun _ _ => rfl) h⟩
  | cons v vs => cases r.1
theorem eg_cons (h1 : EvG K ss g wg) (h2 : EvGs K us gs wgs) : EvGs K (ss ++ us) (gCons g gs) (gpCons wg wgs) := by
  rintro c M σ H ρ vs ps post R rfl s r h k
  cases ps with
  | nil => exact h.elim
  | cons p ps =>
    cases vs with
    | nil => cases r.1
    | cons v vs =>
      refine ⟨v, vs, rfl, h1 c M σ H ρ v p _ _ rfl s r.head h fun σ1 ρ1 s1 l1 e1 h1 => ?_⟩
      exact h2 c M σ1 H ρ1 vs ps post _ rfl s1 r.tail h1 fun σ2 ρ2 s2 l2 e2 h2 => k σ2 ρ2 s2 (l2.trans l1) (fun j hj => (e2 j (fun z => hj (List.mem_append_right _ z))).trans (e1 j (fun z => hj (List.mem_append_left _ z)))) h2
def gpTup (n : Nat) (wgs : WGs) : WG := fun p ρ post => match p with
  | .tup ps => ps.length = n ∧ wgs ps ρ post
  | _ => False
def gpUnl (n : Nat) (wgs : WGs) : WG := fun p ρ post => match p with
  | .lst ps => ps.length = n ∧ wgs ps ρ post
  | _ => False
theorem eg_tup {n : Nat} (h : EvGs K ss gs wgs) : EvG K ss (gTup K n gs) (gpTup n wgs) := by
  rintro c M σ H ρ v p post R rfl s r h1 k
  unfold gpTup at h1
  split at h1
  · obtain ⟨a, xs, rfl, ha, hi, _⟩ := r.tupI
    exact ⟨a, xs, rfl, ha, hi.1.trans h1.1, h c M σ H ρ xs _ post R rfl s hi h1.2 k⟩
  · exact h1.elim
theorem eg_unl {n : Nat} (h : EvGs K ss gs wgs) : EvG K ss (gUnl K n gs) (gpUnl n wgs) := by
  rintro c M σ H ρ v p post R rfl s r h1 k
  unfold gpUnl at h1
  split at h1
  · obtain ⟨a, xs, rfl, hm, ha, hi⟩ := r.lstI
    exact ⟨a, xs, rfl, SqL.of ha, hi.1.trans h1.1, h c M σ H ρ xs _ post R rfl s hi h1.2 k⟩
  · exact h1.elim
/-! ### list comprehensions -/
def wipeP (ρ : List SV) : List Nat → List SV
  | [] => ρ
  | v :: vs => (wipeP ρ vs).set v .un
theorem StR.wipe (s : StR c M σ H ρ) : ∀ vs : List Nat, StR c M (wipe σ vs) H (wipeP ρ vs)
  | [] => s
  | v :: vs => (s.wipe vs).set v .un rfl
theorem wipe_at {σ : L2.St} {i : Nat} : ∀ {vs : List Nat}, i ∉ vs → (wipe σ vs)[i]? = σ[i]?
  | [], _ => rfl
  | v :: vs, h => by
    unfold wipe
    rw [List.getElem?_set_ne (fun z => h (by simp [z])), wipe_at (fun z => h (List.mem_cons_of_mem _ z))]
theorem wipe_in {σ : L2.St} {i : Nat} (hi : i < σ.length) : ∀ {vs : List Nat}, i ∈ vs → (wipe σ vs)[i]? = some none
  | v :: vs, h => by
    unfold wipe
    by_cases e : v = i
    · subst e
      rw [List.getElem?_set_self (by rw [wipe_length]; exact hi)]
    · rw [List.getElem?_set_ne e]
      rcases List.mem_cons.mp h with z | z
      · exact absurd z.symm e
      · exact wipe_in hi z
theorem wipe_eq {σ σ2 : L2.St} {vs : List Nat} (hl : σ2.length = (wipe σ vs).length) (h : ∀ i, i ∉ vs → σ2[i]? = (wipe σ vs)[i]?) : wipe σ2 vs = wipe σ vs := by
  apply List.ext_getElem?
  intro i
  rw [wipe_length] at hl
  by_cases hi : i ∈ vs
  · by_cases h2 : i < σ.length
    · rw [wipe_in h2 hi, wipe_in (hl ▸ h2) hi]
    · rw [List.getElem?_eq_none (by rw [wipe_length]; omega), List.getElem?_eq_none (by rw [wipe_length]; omega)]
  · rw [wipe_at hi, h i hi, wipe_at hi]
def lcW (wg : WG) (vt : WT) (we : WE) : List PV → List PV → List SV → (Res (List PV) → Prop) → Prop
  | acc, [], ρ, post => post (.ok acc)
  | acc, x :: xs, ρ, post => wg x ρ fun r => match r with
    | .er cn fs => post (.er cn fs)
    | .ok ρ2 => vt ρ2 fun r2 => match r2 with
      | .er cn fs => post (.er cn fs)
      | .ok d => if d = true then we ρ2 fun r3 => match r3 with
          | .er cn fs => post (.er cn fs)
          | .ok y => acc.length ≤ 1000000 ∧ lcW wg vt we (acc ++ [y]) xs ρ post
        else lcW wg vt we acc xs ρ post
def pLc (va : WA) (wg : WG) (vt : WT) (we : WE) (vs : List Nat) : WA := fun ρ => bindR va (fun items post => lcW wg vt we [] items (wipeP ρ vs) post) ρ
theorem upd_tabs {T : List (Addr × Str)} {D : Addr} {o : HO} (h : LamX.Tabs T H) (n : Fresh H D ∨ ∃ xs, H D = some (.lst xs)) (hn : H D = none ∨ ∃ xs, H D = some (.lst xs)) : LamX.Tabs T (upd H D o) := by
  intro q hq
  obtain ⟨ps, h1, h2, h3⟩ := h q hq
  have ne : ∀ x u, H x = some u → (∀ xs, u ≠ .lst xs) → x ≠ D := fun x u e nt z => by
    subst z
    rcases hn with q | ⟨xs, q⟩
    · rw [q] at e; cases e
    · rw [q] at e; cases e; exact nt _ rfl
  refine ⟨ps, (upd_ne (ne _ _ h1 (fun _ z => by cases z))).trans h1, h2, fun pos cv hc => ?_⟩
  obtain ⟨c', e1, e2⟩ := h3 pos cv hc
  exact ⟨c', e1, (upd_ne (ne _ _ e2 (fun _ z => by unfold LamX.CodeO at z; cases z))).trans e2⟩
theorem eo_lc {wi : TI} {vs : List Nat} (hi : EvI true K T E wi va) (hg : EvG K vs g wg) (ht : EvT K T E tt vt) (he : EvE K T E te w) : EvO K T E (tLc wi g tt te vs) (pLc va wg vt w vs) := by
  rintro c M σ H ρ post Q rfl rfl s hw k e
  refine hi c M σ H ρ _ _ rfl rfl s hw (fun H1 J items t1 it h1 => ?_) (e.imp fun _ _ z => z)
  intro D hD
  have s1 := s.stp t1
  obtain ⟨G, Y, wk, hG⟩ := it
  have fD : Fresh H1 D := .none hD
  have nD : D ∉ M := s1.notIn fD
  have bD : ∀ x y, c.B = some (x, y) → D ≠ x ∧ D ≠ y := fun x y e => by
    obtain ⟨h, _⟩ := s1.bag x y e
    exact ⟨(h.na hD).symm, (h.nc hD).symm⟩
  -- the state within
  have inn : ∀ {H2 : Hp} {acc : List V}, Stp c H1 H2 → H2 D = some (.lst acc) → StR c (D :: M) (wipe σ vs) H2 (wipeP ρ vs) := fun {H2 acc} t2 hd => by
    have s2 := s1.stp t2
    have n2 : Nxt M H1 (D :: M) H2 := ⟨s1.ext t2, fun a ha => by
      rcases List.mem_cons.mp ha with z | z
      · exact .inr (z ▸ fD)
      · exact .inl z⟩
    have s3 : StR c (D :: M) σ H2 ρ := ⟨s2.fr, fun a ha => by
        rcases List.mem_cons.mp ha with z | z
        · exact ⟨_, z ▸ hd, NT.lst⟩
        · exact s2.dom a z, fun a ha => List.mem_cons_of_mem _ (s2.sub a ha), s2.mm, s2.d0, s2.tabs, fun a b e => ⟨(s2.bag a b e).1, List.mem_cons_of_mem _ (s2.bag a b e).2.1, List.mem_cons_of_mem _ (s2.bag a b e).2.2.1, (s2.bag a b e).2.2.2⟩, s2.len, fun i o q h1' h2' => ?_, s2.uniq⟩
    · exact s3.wipe vs
    · have z := s1.slots i o q h1' h2'
      have z2 := s2.slots i o q h1' h2'
      cases z2 with
      | un => exact .un
      | fz h =>
        cases z with
        | fz h' => exact .fz (h'.nxt n2)
      | own hm hb h0 h hi =>
        cases z with
        | own hm' hb' h0' h' hi' =>
          have e3 := t2.keep _ _ (fun a b e => (hb' a b e).1) NT.lst h'
          rw [h] at e3
          cases e3
          exact .own (List.mem_cons_of_mem _ hm) hb h0 h (hi'.nxt n2)
      | bag h => exact .bag h
      | ob hm hb h0 h hi =>
        cases z with
        | ob hm' hb' h0' h' hi' =>
          have e3 := t2.keep _ _ (fun a b e => (hb' a b e).1) NT.ins h'
          rw [h] at e3
          cases e3
          exact .ob (List.mem_cons_of_mem _ hm) hb h0 h (hi'.nxt n2)
      | scr h =>
        cases z with
        | scr h' => exact .scr (h'.nxt n2)
      | ref => exact .ref
      | cel hm hb h0 h hi =>
        cases z with
        | cel hm' hb' h0' h' hi' =>
          have e3 := t2.keep _ _ (fun a b e => (hb' a b e).1) hi'.nt h'
          rw [h] at e3
          cases e3
          exact .cel (List.mem_cons_of_mem _ hm) hb h0 h (hi'.nxt n2)
  have stD : ∀ {H2 : Hp} {u : HO}, Stp c H1 H2 → (H2 D = none ∨ ∃ xs, H2 D = some (.lst xs)) → Stp c H1 (upd H2 D u) := fun {H2 u} t2 hd =>
    ⟨fun x o n nt ex => by
        have : x ≠ D := fun z => by subst z; rw [hD] at ex; cases ex
        rw [upd_ne this]; exact t2.keep x o n nt ex,
      upd_tabs t2.tabs (by rcases hd with z | z; exact .inl (.none z); exact .inr z) hd, fun a b e => (t2.bag a b e).mut (bD a b e).1.symm (bD a b e).2.symm⟩
  have ndD : ∀ {H2 : Hp} {u : HO} {acc : List V} {xs : List V} {ps : List PV}, H2 D = some (.lst acc) → RepL c.K (D :: M) H2 xs ps → RepL c.K (D :: M) (upd H2 D u) xs ps := fun {H2 u acc xs ps} hd r => r.ext (fun x o n nt ex => by
    rw [upd_ne (fun z => n (by simp [z]))]; exact ex)
  refine lc_it wk (fun i H2 => Stp c H1 H2 ∧ ∃ acc ps, H2 D = some (.lst acc) ∧ RepL c.K (D :: M) H2 acc ps ∧ lcW wg vt w ps (items.drop i) (wipeP ρ vs) post)
    ⟨stD (Stp.refl s1) (.inl hD), [], [], upd_same, .nil, h1⟩ ?_ ?_ ?_
  · rintro i H2 hil ⟨t2, _⟩
    exact (hG M H2 ((s1.ext t2).nxt) (fun _ => t2)).1
  · rintro i x H2 H3 hil ⟨t2, acc, ps, hd, r, hl⟩ y
    have s2 := inn t2 hd
    have n2 : Nxt M H1 (D :: M) H2 := ⟨s1.ext t2, fun a ha => by
      rcases List.mem_cons.mp ha with z | z
      · exact .inr (z ▸ fD)
      · exact .inl z⟩
    obtain ⟨p, hp, sm, rp⟩ := (hG (D :: M) H2 n2 (fun _ => t2)).2 s2.dom i x H3 hil y
    have t3 : Stp c H2 H3 := ⟨fun x o _ _ e => sm x o e, (s2.tabs).ext (fun b u e => sm b u e), fun a b e => by
      obtain ⟨cs, i, r, m, n, d6, z1, z2, z3, z4⟩ := t2.bag a b e
      exact ⟨cs, i, r, m, n, d6, sm _ _ z1, z2, sm _ _ z3, z4⟩⟩
    have s3 := s2.stp t3
    have hd3 := sm _ _ hd
    have e4 : items.drop i = p :: items.drop (i + 1) := by
      rw [List.drop_eq_getElem_cons hil]
      congr 1
      rw [List.getElem?_eq_getElem hil] at hp
      exact Option.some.inj hp
    rw [e4] at hl
    unfold lcW at hl
    refine hg c (D :: M) (L2.wipe σ vs) H3 (wipeP ρ vs) x p _ _ rfl s3 rp hl fun σ2 ρ2 s4 l4 e4 hl => ⟨wipe_eq l4 e4, ?_⟩
    dsimp only at hl
    have r3 := s2.repL t3 r
    refine ht c (D :: M) σ2 H3 ρ2 _ _ rfl rfl s4 hl (fun H4 d t4 hl => ?_) (e.imp fun _ _ z => z)
    have s5 := s4.stp t4
    have t14 : Stp c H1 H4 := t2.trans (t3.trans t4)
    have r4 := s3.repL t4 r3
    have hd4 : H4 D = some (.lst acc) := t4.keep D _ (fun a b e => (bD a b e).1) NT.lst hd3
    dsimp only at hl
    cases d with
    | false =>
      rw [if_neg Bool.false_ne_true] at hl ⊢
      exact ⟨t14, acc, ps, hd4, r4, hl⟩
    | true =>
      rw [if_pos rfl] at hl ⊢
      refine he c (D :: M) σ2 H4 ρ2 _ _ rfl rfl s5 hl (fun H5 y q t5 r5 hl => ?_) (e.imp fun _ _ z => z)
      dsimp only at hl
      have hd5 : H5 D = some (.lst acc) := t5.keep D _ (fun a b e => (bD a b e).1) NT.lst hd4
      have r6 := s5.repL t5 r4
      refine ⟨acc, hd5, szMl (by rw [r6.1]; exact hl.1), stD (t14.trans t5) (.inr ⟨_, hd5⟩), acc ++ [y], ps ++ [q], upd_same, ndD hd5 (r6.snoc r5), hl.2⟩
  · rintro H2 ⟨t2, acc, ps, hd, r, hl⟩
    rw [List.drop_eq_nil_of_le (Nat.le_refl _)] at hl
    exact k H2 D acc ps (t1.trans t2) (fD.back s t1) hd r hl
end
end My
end

section
set_option Elab.async false
set_option maxRecDepth 100000
set_option maxHeartbeats 4000000
set_option linter.all false
namespace My
open PySem L2
inductive RV where
  | fz (p : PV) | own (ps : List PV)
/-- what a def does, by values -/
abbrev WD : Type := List SV → (Res RV → Prop) → Prop
structure RtW (c : Cfg) (Q : VK) (post : Res RV → Prop) : Prop where
  fz : ∀ H' x p, Lv c H' → Rep c.K c.M0 H' x p → post (.ok (.fz p)) → Q x H'
  own : ∀ H' a vs ps, Lv c H' → Fresh c.H0 a → H' a = some (.lst vs) → RepL c.K (a :: c.M0) H' vs ps → post (.ok (.own ps)) → Q (.ref a) H'
/-- how a def is entered -/
structure Ent (c : Cfg) (H : Hp) (vs : List V) (as : List SV) : Prop where
  h0 : c.H0 = H
  tabs : LamX.Tabs c.T H
  dom : ∀ a ∈ c.M0, ∃ o, H a = some o ∧ NT o
  bag : ∀ a b, c.B = some (a, b) → BagAt a b H ∧ a ∈ c.M0 ∧ b ∈ c.M0 ∧ a ∈ c.m
  m : ∀ a ∈ c.m, ∃ b, c.B = some (a, b)
  args : ArR c c.M0 H vs as
/-- a def's promise: it does as w says; n parameters -/
def SpP (K : PySem.W.Frag) (T : List (Addr × Str)) (n : Nat) (w : WD) : Sp := fun vs H Q E => ∃ (c : Cfg) (as : List SV) (post : Res RV → Prop), c.K = K ∧ c.T = T ∧ vs.length = n ∧ Ent c H vs as ∧ w as post ∧ RtW c Q post ∧ ErW c E (fun cn fs => post (.er cn fs))
section
variable {c : Cfg} {M : List Addr} {σ : L2.St} {H H' : Hp} {ρ : List SV} {K : PySem.W.Frag} {T : List (Addr × Str)} {E E' : XK} {te tf tg : TE} {w wa wb wc : WE} {tt tu : TT} {vt vu : WT} {ta tb : TA} {va vb : WA} {ca cb : WC} {i j n : Nat} {p : PV} {v : V} {b : Bool} {wd : WD} {dvs : List V} {ds : List PV}
/-! ### arguments of calls -/
def cpNil : WC := fun _ post => post (.ok [])
def cpCons (w : WE) (cb : WC) : WC := fun ρ => bindR w (fun a => bindR cb (fun ps post => post (.ok (.fz a :: ps))) ρ) ρ
def cpBag (i : Nat) (cb : WC) : WC := fun ρ post => match ρ[i]? with
  | some .bag => bindR cb (fun ps post => post (.ok (.bag :: ps))) ρ post
  | some (.scr ns) => bindR cb (fun ps post => post (.ok (.scr ns :: ps))) ρ post
  | _ => False
theorem ArR.nil : ArR c M H [] [] := ⟨rfl, fun i v s h => by simp at h⟩
theorem ArR.cons {q : SV} {vs : List V} {as : List SV} (h : SlR c M H (some v) q) (hq : q.isOwn = false) (r : ArR c M H vs as) : ArR c M H (v :: vs) (q :: as) := by
  refine ⟨by simp [r.len], fun i y s e1 e2 => ?_⟩
  cases i with
  | zero => cases e1; cases e2; exact ⟨h, hq⟩
  | succ i => exact r.at_ i y s e1 e2
theorem ec_nil : EvC K T E 0 tNil cpNil := by
  rintro c M σ H ρ post Q rfl rfl s hw k e
  exact k H _ _ (.refl s) .nil rfl hw
theorem ec_cons (ha : EvE K T E te w) (hb : EvC K T E n tb cb) : EvC K T E (n + 1) (tCons te tb) (cpCons w cb) := by
  rintro c M σ H ρ post Q rfl rfl s hw k e
  refine ha c M σ H ρ _ _ rfl rfl s hw (fun H1 x a t1 r1 h1 => ?_) (e.imp fun _ _ z => z)
  have s1 := s.stp t1
  refine hb c M σ H1 ρ _ _ rfl rfl s1 h1 (fun H2 xs ps t2 r2 hn h2 => ?_) (e.imp fun _ _ z => z)
  exact k H2 _ _ (t1.trans t2) (.cons (.fz (s1.rep t2 r1)) rfl r2) (by rw [List.length_cons, hn]) h2
theorem ec_bag (hb : EvC K T E n tb cb) : EvC K T E (n + 1) (tCons (tVar i) tb) (cpBag i cb) := by
  rintro c M σ H ρ post Q rfl rfl s hw k e
  unfold cpBag at hw
  split at hw
  · rename_i hp
    obtain ⟨o, h1, h2⟩ := s.get hp
    cases h2 with
    | bag h =>
      refine ⟨_, h1, hb c M σ H ρ _ _ rfl rfl s hw (fun H2 xs ps t2 r2 hn h2 => ?_) (e.imp fun _ _ z => z)⟩
      exact k H2 _ _ t2 (.cons (.bag h) rfl r2) (by rw [List.length_cons, hn]) h2
  · rename_i ns hp
    obtain ⟨o, h1, h2⟩ := s.get hp
    cases h2 with
    | scr h =>
      refine ⟨_, h1, hb c M σ H ρ _ _ rfl rfl s hw (fun H2 xs ps t2 r2 hn h2 => ?_) (e.imp fun _ _ z => z)⟩
      exact k H2 _ _ t2 (.cons (.scr (h.nxt (s.ext t2).nxt)) rfl r2) (by rw [List.length_cons, hn]) h2
  · exact hw.elim
/-! ### the state of a call -/
/-- what a callee gets -/
def Cfg.sub (c : Cfg) (M : List Addr) (H : Hp) : Cfg := ⟨c.K, c.T, H, (match c.B with | some (a, _) => [a] | none => []), M, c.B⟩
theorem sub_m {c : Cfg} {M : List Addr} {H : Hp} {a : Addr} : a ∈ (c.sub M H).m ↔ ∃ b, c.B = some (a, b) := by
  unfold Cfg.sub
  cases hB : c.B with
  | none => simp
  | some q => obtain ⟨x, y⟩ := q; simp only [List.mem_singleton]; exact ⟨fun z => ⟨y, by rw [z]⟩, fun ⟨b, z⟩ => by cases z; rfl⟩
theorem StR.ent {vs : List V} {as : List SV} (s : StR c M σ H ρ) (r : ArR c M H vs as) : Ent (c.sub M H) H vs as where
  h0 := rfl
  tabs := s.tabs
  dom := s.dom
  bag := fun a b e => ⟨(s.bag a b e).1, (s.bag a b e).2.1, (s.bag a b e).2.2.1, sub_m.mpr ⟨b, e⟩⟩
  m := fun a h => sub_m.mp h
  args := ⟨r.len, fun i v q h1 h2 => by
    obtain ⟨z, hq⟩ := r.at_ i v q h1 h2
    refine ⟨?_, hq⟩
    cases z with
    | un => exact .un
    | fz h => exact .fz h
    | own _ _ _ _ _ => cases hq
    | bag h => exact .bag h
    | ob _ _ _ _ _ => cases hq
    | scr h => exact .scr h
    | ref => exact .ref
    | cel _ _ _ _ _ => cases hq⟩
theorem StR.left (s : StR c M σ H ρ) (l : Lv (c.sub M H) H') : Stp c H H' :=
  ⟨fun x o n nt h => l.fr x o (fun z => by obtain ⟨b, e⟩ := sub_m.mp z; exact n x b e rfl) nt h, l.tabs, l.bag⟩
theorem RepF.weak {M' : List Addr} {vs : List (Str × V)} {fs : List (Str × PV)} (h : RepF K M H vs fs) (s : ∀ a ∈ M', a ∈ M) : RepF K M' H vs fs := ⟨h.1, fun i x p a b => (h.2 i x p a b).weak s⟩
/-- an error out of a callee -/
theorem StR.err {post : Str → List (Str × PV) → Prop} (s : StR c M σ H ρ) (e : ErW c E post) : ErW (c.sub M H) E post := fun H' cn fs dd vs l hd r h => e H' cn fs dd vs (s.stp (s.left l)).lv hd (r.weak s.sub) h
theorem Ent.more {vs : List V} {as : List SV} {c : Cfg} {H : Hp} (r : ArR c M H vs as) (hd : ∀ M H, RepL c.K M H dvs ds) : ArR c M H (vs ++ dvs) (as ++ ds.map .fz) := by
  refine ⟨by simp [r.len, (hd M H).1], fun i v q h1 h2 => ?_⟩
  by_cases hi : i < vs.length
  · rw [List.getElem?_append_left hi] at h1
    rw [List.getElem?_append_left (r.len ▸ hi)] at h2
    exact r.at_ i v q h1 h2
  · rw [List.getElem?_append_right (by omega)] at h1
    rw [List.getElem?_append_right (by have := r.len; omega), ← r.len, List.getElem?_map] at h2
    cases hp : ds[i - vs.length]? with
    | none => rw [hp] at h2; cases h2
    | some p => rw [hp] at h2; cases h2; exact ⟨.fz ((hd M H).2 _ v p h1 hp), rfl⟩
/-- the callee's end by values -/
def frzR (post : Res PV → Prop) : Res RV → Prop
  | .ok (.fz p) => post (.ok p)
  | .ok (.own ps) => post (.ok (.lst ps))
  | .er cn fs => post (.er cn fs)
def ownR (post : Res (List PV) → Prop) : Res RV → Prop
  | .ok (.fz _) => False
  | .ok (.own ps) => post (.ok ps)
  | .er cn fs => post (.er cn fs)
def pCall (wd : WD) (ds : List PV) (ca : WC) : WE := fun ρ => bindR ca (fun as post => wd (as ++ ds.map .fz) (frzR post)) ρ
def pCallO (wd : WD) (ds : List PV) (ca : WC) : WA := fun ρ => bindR ca (fun as post => wd (as ++ ds.map .fz) (ownR post)) ρ
/-- nothing is raised -/
def noR {α : Type} (post : Res α → Prop) : Res α → Prop
  | .ok a => post (.ok a)
  | .er _ _ => False
def pCall0 (wd : WD) (ds : List PV) (ca : WC) : WE := fun ρ => bindR ca (fun as post => wd (as ++ ds.map .fz) (frzR (noR post))) ρ
def pCallO0 (wd : WD) (ds : List PV) (ca : WC) : WA := fun ρ => bindR ca (fun as post => wd (as ++ ds.map .fz) (ownR (noR post))) ρ
theorem call_fz {vs : List V} {as : List SV} {post : Res PV → Prop} {Q : VK} (s : StR c M σ H ρ) (r : ArR c M H vs as) (hn : vs.length = n) (h : wd as (frzR post)) (k : ∀ H' x p, Stp c H H' → Rep c.K M H' x p → post (.ok p) → Q x H') (e : ErW (c.sub M H) E (fun cn fs => post (.er cn fs))) : SpP c.K c.T n wd vs H Q E :=
  ⟨c.sub M H, as, frzR post, rfl, rfl, hn, s.ent r, h, ⟨fun H' x p l r h => k H' x p (s.left l) r h, fun H' a xs ps l f hx r h => k H' _ _ (s.left l) (.lst (s.notIn f) hx r.1 (fun i x p a b => (r.2 i x p a b).weak fun b hb => List.mem_cons_of_mem _ hb)) h⟩, e⟩
theorem call_own {vs : List V} {as : List SV} {post : Res (List PV) → Prop} {Q : VK} (s : StR c M σ H ρ) (r : ArR c M H vs as) (hn : vs.length = n) (h : wd as (ownR post)) (k : ∀ H' a vs ps, Stp c H H' → Fresh H a → H' a = some (.lst vs) → RepL c.K (a :: M) H' vs ps → post (.ok ps) → Q (.ref a) H') (e : ErW (c.sub M H) E (fun cn fs => post (.er cn fs))) : SpP c.K c.T n wd vs H Q E :=
  ⟨c.sub M H, as, ownR post, rfl, rfl, hn, s.ent r, h, ⟨fun H' x p l r h => h.elim, fun H' a xs ps l f hx r h => k H' a xs ps (s.left l) f hx r h⟩, e⟩
theorem ev_call (hd : ∀ M H, RepL K M H dvs ds) (hn : j + dvs.length = n) (ha : EvC K T E j ta ca) : EvE K T E (tCall (SpP K T n wd) dvs E ta) (pCall wd ds ca) := by
  rintro c M σ H ρ post Q rfl rfl s hw k e
  refine ha c M σ H ρ _ _ rfl rfl s hw (fun H1 xs as t1 r1 hl h1 => ?_) (e.imp fun _ _ z => z)
  have s1 := s.stp t1
  have r2 := Ent.more r1 hd
  exact call_fz s1 r2 (by rw [List.length_append, hl, hn]) h1 (fun H' x p t r h => k H' x p (t1.trans t) r h) (s1.err e)
theorem eo_call (hd : ∀ M H, RepL K M H dvs ds) (hn : j + dvs.length = n) (ha : EvC K T E j ta ca) : EvO K T E (tCall (SpP K T n wd) dvs E ta) (pCallO wd ds ca) := by
  rintro c M σ H ρ post Q rfl rfl s hw k e
  refine ha c M σ H ρ _ _ rfl rfl s hw (fun H1 xs as t1 r1 hl h1 => ?_) (e.imp fun _ _ z => z)
  have s1 := s.stp t1
  have r2 := Ent.more r1 hd
  exact call_own s1 r2 (by rw [List.length_append, hl, hn]) h1 (fun H' a vs ps t f hx r h => k H' a vs ps (t1.trans t) (f.back s t1) hx r h) (s1.err e)
theorem ev_call0 (hd : ∀ M H, RepL K M H dvs ds) (hn : j + dvs.length = n) (ha : EvC K T E j ta ca) : EvE K T E (tCall (SpP K T n wd) dvs E' ta) (pCall0 wd ds ca) := by
  rintro c M σ H ρ post Q rfl rfl s hw k e
  refine ha c M σ H ρ _ _ rfl rfl s hw (fun H1 xs as t1 r1 hl h1 => ?_) (e.imp fun _ _ z => z)
  have s1 := s.stp t1
  have r2 := Ent.more r1 hd
  exact call_fz (post := noR post) s1 r2 (by rw [List.length_append, hl, hn]) h1 (fun H' x p t r h => k H' x p (t1.trans t) r h) (fun _ _ _ _ _ _ _ _ h => h.elim)
theorem eo_call0 (hd : ∀ M H, RepL K M H dvs ds) (hn : j + dvs.length = n) (ha : EvC K T E j ta ca) : EvO K T E (tCall (SpP K T n wd) dvs E' ta) (pCallO0 wd ds ca) := by
  rintro c M σ H ρ post Q rfl rfl s hw k e
  refine ha c M σ H ρ _ _ rfl rfl s hw (fun H1 xs as t1 r1 hl h1 => ?_) (e.imp fun _ _ z => z)
  have s1 := s.stp t1
  have r2 := Ent.more r1 hd
  exact call_own (post := noR post) s1 r2 (by rw [List.length_append, hl, hn]) h1 (fun H' a vs ps t f hx r h => k H' a vs ps (t1.trans t) (f.back s t1) hx r h) (fun _ _ _ _ _ _ _ _ h => h.elim)
end
end My
end

section
set_option Elab.async false
set_option maxRecDepth 100000
set_option maxHeartbeats 4000000
set_option linter.all false
namespace My
open PySem L2
/-- an own class's __init__: what the fields are in the end -/
abbrev WN : Type := List SV → (Res (List (Str × PV)) → Prop) → Prop
def SpN (K : PySem.W.Frag) (T : List (Addr × Str)) (C : Str) (n : Nat) (w : WN) : Sp := fun vs H Q E => ∃ (c : Cfg) (as : List SV) (post : Res (List (Str × PV)) → Prop) (x dx : Addr) (us : List V), c.K = K ∧ c.T = T ∧ vs = .ref x :: us ∧ us.length = n ∧
  c.H0 = H ∧ LamX.Tabs c.T H ∧ (∀ a ∈ c.M0, ∃ o, H a = some o ∧ NT o) ∧ c.B = none ∧ c.m = [x] ∧ x ∈ c.M0 ∧ H x = some (.ins (He.ga K C) dx []) ∧ ArR c c.M0 H us as ∧ w as post ∧
  (∀ H' dx' vs fs, Lv c H' → H' x = some (.ins (He.ga K C) dx' vs) → RepF c.K c.M0 H' vs fs → post (.ok fs) → Q .non H') ∧ ErW c E (fun cn fs => post (.er cn fs))
section
variable {c : Cfg} {M : List Addr} {σ : L2.St} {H H' : Hp} {ρ : List SV} {K : PySem.W.Frag} {T : List (Addr × Str)} {E E' : XK} {te tf tg : TE} {w wa wb wc : WE} {tt tu : TT} {vt vu : WT} {ta tb : TA} {va vb : WA} {ca cb : WC} {i j n : Nat} {p : PV} {v : V} {b : Bool} {wd : WD} {dvs : List V} {ds : List PV}
/-! ### fields -/
def KAt (K : PySem.W.Frag) (at_ : List (Str × Str)) : Prop := ∀ q ∈ at_, Cls K (He.ga K q.1) ∧ NoAttr K (He.ga K q.1) q.2
def pFld (at_ : List (Str × Str)) (f : Str) (w : WE) : WE := fun ρ => bindR w (fun a post => match a with
  | .obj cn fs => (cn, f) ∈ at_ ∧ ∃ p, fs.lookup f = some p ∧ post (.ok p)
  | _ => False) ρ
theorem Rep.objI {cn : Str} {fs : List (Str × PV)} (h : Rep K M H v (.obj cn fs)) : ∃ a dx vs, v = .ref a ∧ a ∉ M ∧ H a = some (.ins (He.ga K cn) dx vs) ∧ RepF K M H vs fs := by
  cases h with
  | obj hm h hn hi => exact ⟨_, _, _, rfl, hm, h, ⟨hn, hi⟩⟩
theorem ev_fld {at_ : List (Str × Str)} {f : Str} (ka : KAt K at_) (h : EvE K T E te w) : EvE K T E (tFld K te f) (pFld at_ f w) := by
  rintro c M σ H ρ post Q rfl rfl s hw k e
  refine h c M σ H ρ _ _ rfl rfl s hw (fun H1 x p t1 r1 h1 => ?_) (e.imp fun _ _ z => z)
  dsimp only at h1
  split at h1
  · obtain ⟨hin, q, hq, h1⟩ := h1
    obtain ⟨a, dx, vs, rfl, hm, ha, rf⟩ := r1.objI
    obtain ⟨u, hu, ru⟩ := rf.lookup hq
    obtain ⟨k1, k2⟩ := ka _ hin
    exact ⟨a, _, dx, vs, u, rfl, ha, k1, k2, hu, k H1 _ _ t1 ru h1⟩
  · exact h1.elim
/-! ### f-strings -/
def pFmt (w : WE) : WE := fun ρ => bindR w (fun a post => match a with
  | .str z => z.length ≤ 1000000 ∧ post (.ok (.str z))
  | .int i => i.natAbs.log2 < 1920 ∧ post (.ok (.str (Str.ofString (toString i))))
  | _ => False) ρ
theorem ev_fmt (h : EvE K T E te w) : EvE K T E (tFmt te) (pFmt w) := by
  rintro c M σ H ρ post Q rfl rfl s hw k e
  refine h c M σ H ρ _ _ rfl rfl s hw (fun H1 x p t1 r1 h1 => ?_) (e.imp fun _ _ z => z)
  dsimp only at h1
  split at h1
  · cases r1
    exact .inl ⟨_, rfl, szM h1.1, k H1 _ _ t1 (.str _) h1.2⟩
  · cases r1
    exact .inr ⟨_, rfl, h1.1, k H1 _ _ t1 (.str _) h1.2⟩
  · exact h1.elim
abbrev WJ : Type := Str → List SV → (Res Str → Prop) → Prop
def EvJ (K : PySem.W.Frag) (T : List (Addr × Str)) (E : XK) (ts : List TE) (w : WJ) : Prop := ∀ (acc : Str) (c : Cfg) (M : List Addr) (σ : L2.St) (H : Hp) (ρ : List SV) (post : Res Str → Prop) (Q : Str → Hp → Prop), c.K = K → c.T = T → StR c M σ H ρ → w acc ρ post →
  (∀ H' z, Stp c H H' → post (.ok z) → Q z H') → ErW c E (fun cn fs => post (.er cn fs)) → tJs ts acc σ H Q
def pJ0 : WJ := fun acc _ post => post (.ok acc)
def pJ1 (w : WE) (wj : WJ) : WJ := fun acc ρ => bindR w (fun a post => match a with
  | .str z => (acc ++ z).length ≤ 1000000 ∧ wj (acc ++ z) ρ post
  | _ => False) ρ
theorem ej_nil : EvJ K T E [] pJ0 := by
  rintro acc c M σ H ρ post Q rfl rfl s hw k e
  exact j_nil (k H acc (.refl s) hw)
theorem ej_cons {ts : List TE} {wj : WJ} (h : EvE K T E te w) (g : EvJ K T E ts wj) : EvJ K T E (te :: ts) (pJ1 w wj) := by
  rintro acc c M σ H ρ post Q rfl rfl s hw k e
  refine j_cons (h c M σ H ρ _ _ rfl rfl s hw (fun H1 x p t1 r1 h1 => ?_) (e.imp fun _ _ z => z))
  dsimp only at h1
  split at h1
  · cases r1
    exact ⟨_, rfl, szM h1.1, g _ c M σ H1 ρ post _ rfl rfl (s.stp t1) h1.2 (fun H' z t => k H' z (t1.trans t)) e⟩
  · exact h1.elim
def pFS (wj : WJ) : WE := fun ρ => bindR (wj Str.empty) (fun z post => post (.ok (.str z))) ρ
theorem ev_fs {ts : List TE} {wj : WJ} (g : EvJ K T E ts wj) : EvE K T E (My.tJoin ts) (pFS wj) := by
  rintro c M σ H ρ post Q rfl rfl s hw k e
  exact e_join (g _ c M σ H ρ _ _ rfl rfl s hw (fun H1 z t1 h1 => k H1 _ _ t1 (.str _) h1) (e.imp fun _ _ z => z))
/-! ### a new object -/
def objR (C : Str) (post : Res PV → Prop) : Res (List (Str × PV)) → Prop
  | .ok fs => post (.ok (.obj C fs))
  | .er cn fs => post (.er cn fs)
def pMake (C : Str) (wn : WN) (ca : WC) : WE := fun ρ => bindR ca (fun as post => wn as (objR C post)) ρ
def ArR.noBag (as : List SV) : Prop := ∀ a ∈ as, (∃ p, a = SV.fz p)
def pMake' (C : Str) (wn : WN) (ca : WC) : WE := fun ρ => bindR ca (fun as post => ArR.noBag as ∧ wn as (objR C post)) ρ
theorem ev_make {C : Str} {wn : WN} (ha : EvC K T E n ta ca) : EvE K T E (tMake (He.ga K C) (SpN K T C n wn) [] E ta) (pMake' C wn ca) := by
  rintro c M σ H ρ post Q rfl rfl s hw k e
  refine ha c M σ H ρ _ _ rfl rfl s hw (fun H1 xs as t1 r1 hl h1 => ?_) (e.imp fun _ _ z => z)
  have s1 := s.stp t1
  intro x dx hx hdx hne
  have t2 := (Stp.refl s1).new (o := .own x) s1 hdx
  have hx2 : upd H1 dx (.own x) x = none := (upd_ne (Ne.symm hne)).trans hx
  have t3 := t2.new (o := .ins (He.ga c.K C) dx []) s1 hx2
  have s3 := s1.stp t3
  have hx3 : upd (upd H1 dx (.own x)) x (.ins (He.ga c.K C) dx []) x = some (.ins (He.ga c.K C) dx []) := upd_same
  revert t3 s3 hx3
  generalize upd (upd H1 dx (.own x)) x (.ins (He.ga c.K C) dx []) = H3
  intro t3 s3 hx3
  have n3 : Nxt M H1 (x :: M) H3 := ⟨s1.ext t3, fun b hb => by
    rcases List.mem_cons.mp hb with z | z
    · exact .inr (z ▸ .none hx)
    · exact .inl z⟩
  have nx : x ∉ M := s1.notIn (.none hx)
  refine ⟨⟨c.K, c.T, H3, [x], x :: M, none⟩, as, objR C post, x, dx, xs, rfl, rfl, by rw [List.append_nil], hl, rfl, s3.tabs, fun a ha => ?_, rfl, rfl, List.mem_cons_self, hx3, ⟨r1.len, fun i v q e1 e2 => ?_⟩, h1.2, fun H' dx' vs fs l hx' rf h => ?_, fun H' cn fs dd vs l hd r h => ?_⟩
  · rcases List.mem_cons.mp ha with z | z
    · exact ⟨_, z ▸ hx3, NT.ins⟩
    · exact s3.dom a z
  · obtain ⟨z, hq⟩ := r1.at_ i v q e1 e2
    obtain ⟨p, rfl⟩ := h1.1 q (List.mem_of_getElem? e2)
    cases z with
    | fz h => exact ⟨.fz (h.nxt n3), rfl⟩
  · have t4 : Stp c H1 H' := ⟨fun y o n nt ey => by
        have ny : y ≠ x := fun z => by rw [z, hx] at ey; cases ey
        exact l.fr y o (by simpa using ny) nt (t3.keep y o n nt ey), l.tabs, fun a b eb => ?_⟩
    · refine ⟨rfl, k H' _ _ (t1.trans t4) (.obj nx hx' rf.1 (fun i x p a b => (rf.2 i x p a b).weak fun b hb => List.mem_cons_of_mem _ hb)) h⟩
    · obtain ⟨cs, i, r, m, n, d6, z1, z2, z3, z4⟩ := t3.bag a b eb
      have fx : ∀ y o, H3 y = some o → NT o → y ≠ x → H' y = some o := fun y o e1 e2 e3 => l.fr y o (by simpa using e3) e2 e1
      refine ⟨cs, i, r, m, n, d6, fx _ _ z1 NT.lst (fun z => by rw [z, hx3] at z1; cases z1), z2, fx _ _ z3 NT.lst (fun z => by rw [z, hx3] at z3; cases z3), z4⟩
  · have t4 : Stp c H1 H' := ⟨fun y o n nt ey => by
        have ny : y ≠ x := fun z => by rw [z, hx] at ey; cases ey
        exact l.fr y o (by simpa using ny) nt (t3.keep y o n nt ey), l.tabs, fun a b eb => ?_⟩
    · exact e H' cn fs dd vs (s1.stp t4).lv hd (r.weak fun a ha => List.mem_cons_of_mem _ (s.sub a ha)) h
    · obtain ⟨cs, i, r, m, n, d6, z1, z2, z3, z4⟩ := t3.bag a b eb
      have fx : ∀ y o, H3 y = some o → NT o → y ≠ x → H' y = some o := fun y o e1 e2 e3 => l.fr y o (by simpa using e3) e2 e1
      refine ⟨cs, i, r, m, n, d6, fx _ _ z1 NT.lst (fun z => by rw [z, hx3] at z1; cases z1), z2, fx _ _ z3 NT.lst (fun z => by rw [z, hx3] at z3; cases z3), z4⟩
def pMake0 (C : Str) (wn : WN) (ca : WC) : WE := fun ρ => bindR ca (fun as post => ArR.noBag as ∧ wn as (objR C (noR post))) ρ
theorem ev_make0 {C : Str} {wn : WN} (ha : EvC K T E n ta ca) : EvE K T E (tMake (He.ga K C) (SpN K T C n wn) [] E' ta) (pMake0 C wn ca) := by
  rintro c M σ H ρ post Q rfl rfl s hw k e
  refine ha c M σ H ρ _ _ rfl rfl s hw (fun H1 xs as t1 r1 hl h1 => ?_) (e.imp fun _ _ z => z)
  have s1 := s.stp t1
  intro x dx hx hdx hne
  have t2 := (Stp.refl s1).new (o := .own x) s1 hdx
  have hx2 : upd H1 dx (.own x) x = none := (upd_ne (Ne.symm hne)).trans hx
  have t3 := t2.new (o := .ins (He.ga c.K C) dx []) s1 hx2
  have s3 := s1.stp t3
  have hx3 : upd (upd H1 dx (.own x)) x (.ins (He.ga c.K C) dx []) x = some (.ins (He.ga c.K C) dx []) := upd_same
  revert t3 s3 hx3
  generalize upd (upd H1 dx (.own x)) x (.ins (He.ga c.K C) dx []) = H3
  intro t3 s3 hx3
  have n3 : Nxt M H1 (x :: M) H3 := ⟨s1.ext t3, fun b hb => by
    rcases List.mem_cons.mp hb with z | z
    · exact .inr (z ▸ .none hx)
    · exact .inl z⟩
  have nx : x ∉ M := s1.notIn (.none hx)
  refine ⟨⟨c.K, c.T, H3, [x], x :: M, none⟩, as, objR C (noR post), x, dx, xs, rfl, rfl, by rw [List.append_nil], hl, rfl, s3.tabs, fun a ha => ?_, rfl, rfl, List.mem_cons_self, hx3, ⟨r1.len, fun i v q e1 e2 => ?_⟩, h1.2, fun H' dx' vs fs l hx' rf h => ?_, fun H' cn fs dd vs l hd r h => h.elim⟩
  · rcases List.mem_cons.mp ha with z | z
    · exact ⟨_, z ▸ hx3, NT.ins⟩
    · exact s3.dom a z
  · obtain ⟨z, hq⟩ := r1.at_ i v q e1 e2
    obtain ⟨p, rfl⟩ := h1.1 q (List.mem_of_getElem? e2)
    cases z with
    | fz h => exact ⟨.fz (h.nxt n3), rfl⟩
  · have t4 : Stp c H1 H' := ⟨fun y o n nt ey => by
        have ny : y ≠ x := fun z => by rw [z, hx] at ey; cases ey
        exact l.fr y o (by simpa using ny) nt (t3.keep y o n nt ey), l.tabs, fun a b eb => ?_⟩
    · refine ⟨rfl, k H' _ _ (t1.trans t4) (.obj nx hx' rf.1 (fun i x p a b => (rf.2 i x p a b).weak fun b hb => List.mem_cons_of_mem _ hb)) h⟩
    · obtain ⟨cs, i, r, m, n, d6, z1, z2, z3, z4⟩ := t3.bag a b eb
      have fx : ∀ y o, H3 y = some o → NT o → y ≠ x → H' y = some o := fun y o e1 e2 e3 => l.fr y o (by simpa using e3) e2 e1
      refine ⟨cs, i, r, m, n, d6, fx _ _ z1 NT.lst (fun z => by rw [z, hx3] at z1; cases z1), z2, fx _ _ z3 NT.lst (fun z => by rw [z, hx3] at z3; cases z3), z4⟩
/-! ### methods -/
theorem RepF.noLook {f : Str} {vs : List (Str × V)} {fs : List (Str × PV)} (h : RepF K M H vs fs) (e : fs.lookup f = none) : vs.lookup f = none := by
  obtain ⟨h1, h2⟩ := h
  induction vs generalizing fs with
  | nil => rfl
  | cons v vs ih =>
    cases fs with
    | nil => cases h1
    | cons q fs =>
      obtain ⟨vn, vv⟩ := v
      obtain ⟨qn, qq⟩ := q
      have hn : vn = qn := by simpa using (List.cons.inj h1).1
      cases hn
      rw [List.lookup_cons] at e ⊢
      cases hf : f == vn with
      | true => rw [hf] at e; cases e
      | false => simp only [hf] at e ⊢; exact ih e (List.cons.inj h1).2 fun i x p a b => h2 (i + 1) x p a b
def pMeth (C m : Str) (wd : WD) (ds : List PV) (w : WE) (ca : WC) : WE := fun ρ => bindR w (fun a => bindR ca (fun as post => match a with
  | .obj cn fs => cn = C ∧ fs.lookup m = none ∧ wd (.fz a :: (as ++ ds.map .fz)) (frzR post)
  | _ => False) ρ) ρ
/-- the object is looked at first -/
def pMethA (C m : Str) (wd : WD) (ds : List PV) (w : WE) (ca : WC) : WE := fun ρ => bindR w (fun a post => match a with
  | .obj cn fs => cn = C ∧ fs.lookup m = none ∧ bindR ca (fun as post => wd (.fz (.obj cn fs) :: (as ++ ds.map .fz)) (frzR post)) ρ post
  | _ => False) ρ
def pMethA0 (C m : Str) (wd : WD) (ds : List PV) (w : WE) (ca : WC) : WE := fun ρ => bindR w (fun a post => match a with
  | .obj cn fs => cn = C ∧ fs.lookup m = none ∧ bindR ca (fun as post => wd (.fz (.obj cn fs) :: (as ++ ds.map .fz)) (frzR (noR post))) ρ post
  | _ => False) ρ
theorem ev_meth {C m : Str} (hd : ∀ M H, RepL K M H dvs ds) (hn : j + dvs.length + 1 = n) (h : EvE K T E te w) (ha : EvC K T E j ta ca) : EvE K T E (tMeth (He.ga K C) m (SpP K T n wd) dvs E te ta) (pMethA C m wd ds w ca) := by
  rintro c M σ H ρ post Q rfl rfl s hw k e
  refine h c M σ H ρ _ _ rfl rfl s hw (fun H1 x p t1 r1 h1 => ?_) (e.imp fun _ _ z => z)
  dsimp only at h1
  split at h1
  · obtain ⟨rfl, hl, h1⟩ := h1
    have s1 := s.stp t1
    obtain ⟨a, dx, vs, rfl, hm, hx, rf⟩ := id r1.objI
    refine ⟨a, dx, vs, rfl, hx, rf.noLook hl, ?_⟩
    refine ha c M σ H1 ρ _ _ rfl rfl s1 h1 (fun H2 xs as t2 r2 hl2 h2 => ?_) (e.imp fun _ _ z => z)
    have s2 := s1.stp t2
    have r3 := ArR.cons (.fz (s1.rep t2 r1)) rfl (Ent.more r2 hd)
    exact call_fz s2 r3 (by rw [List.length_cons, List.length_append, hl2, hn]) h2 (fun H' x p t r h => k H' x p (t1.trans (t2.trans t)) r h) (s2.err e)
  · exact h1.elim
theorem ev_meth0 {C m : Str} (hd : ∀ M H, RepL K M H dvs ds) (hn : j + dvs.length + 1 = n) (h : EvE K T E te w) (ha : EvC K T E j ta ca) : EvE K T E (tMeth (He.ga K C) m (SpP K T n wd) dvs E' te ta) (pMethA0 C m wd ds w ca) := by
  rintro c M σ H ρ post Q rfl rfl s hw k e
  refine h c M σ H ρ _ _ rfl rfl s hw (fun H1 x p t1 r1 h1 => ?_) (e.imp fun _ _ z => z)
  dsimp only at h1
  split at h1
  · obtain ⟨rfl, hl, h1⟩ := h1
    have s1 := s.stp t1
    obtain ⟨a, dx, vs, rfl, hm, hx, rf⟩ := id r1.objI
    refine ⟨a, dx, vs, rfl, hx, rf.noLook hl, ?_⟩
    refine ha c M σ H1 ρ _ _ rfl rfl s1 h1 (fun H2 xs as t2 r2 hl2 h2 => ?_) (e.imp fun _ _ z => z)
    have s2 := s1.stp t2
    have r3 := ArR.cons (.fz (s1.rep t2 r1)) rfl (Ent.more r2 hd)
    exact call_fz (post := noR post) s2 r3 (by rw [List.length_cons, List.length_append, hl2, hn]) h2 (fun H' x p t r h => k H' x p (t1.trans (t2.trans t)) r h) (fun _ _ _ _ _ _ _ _ h => h.elim)
  · exact h1.elim
/-- C.m(..), a staticmethod -/
theorem ev_smeth {C : Addr} (hn : j = n) (ha : EvC K T E j ta ca) : EvE K T E (tSMeth C (SpP K T n wd) E (tC (.ref C)) ta) (pCall wd [] ca) := by
  rintro c M σ H ρ post Q rfl rfl s hw k e
  refine ⟨rfl, ha c M σ H ρ _ _ rfl rfl s hw (fun H1 xs as t1 r1 hl h1 => ?_) (e.imp fun _ _ z => z)⟩
  have s1 := s.stp t1
  have r2 := Ent.more (dvs := []) (ds := []) r1 (fun _ _ => .nil)
  exact call_fz s1 r2 (by rw [List.append_nil, hl, hn]) h1 (fun H' x p t r h => k H' x p (t1.trans t) r h) (s1.err e)
theorem ev_smeth0 {C : Addr} (hn : j = n) (ha : EvC K T E j ta ca) : EvE K T E (tSMeth C (SpP K T n wd) E' (tC (.ref C)) ta) (pCall0 wd [] ca) := by
  rintro c M σ H ρ post Q rfl rfl s hw k e
  refine ⟨rfl, ha c M σ H ρ _ _ rfl rfl s hw (fun H1 xs as t1 r1 hl h1 => ?_) (e.imp fun _ _ z => z)⟩
  have s1 := s.stp t1
  have r2 := Ent.more (dvs := []) (ds := []) r1 (fun _ _ => .nil)
  exact call_fz (post := noR post) s1 r2 (by rw [List.append_nil, hl, hn]) h1 (fun H' x p t r h => k H' x p (t1.trans t) r h) (fun _ _ _ _ _ _ _ _ h => h.elim)
/-- len of an instance -/
def lenR (post : Res PV → Prop) : Res RV → Prop
  | .ok (.fz (.int n)) => 0 ≤ n ∧ n < 2 ^ 63 ∧ post (.ok (.int n))
  | _ => False
def pLenC (C : Str) (wd : WD) (w : WE) : WE := fun ρ => bindR w (fun a post => match a with
  | .obj cn fs => cn = C ∧ wd [.fz (.obj cn fs)] (lenR post)
  | _ => False) ρ
theorem ev_lenC {C : Str} (h : EvE K T E te w) : EvE K T E (tCB (rLenOwn (He.ga K C) (SpP K T 1 wd)) (tCons te tNil)) (pLenC C wd w) := by
  rintro c M σ H ρ post Q rfl rfl s hw k e
  refine h c M σ H ρ _ _ rfl rfl s hw (fun H1 x p t1 r1 h1 => ?_) (e.imp fun _ _ z => z)
  dsimp only at h1
  split at h1
  · obtain ⟨rfl, h1⟩ := h1
    have s1 := s.stp t1
    obtain ⟨a, dx, vs, rfl, hm, hx, rf⟩ := id r1.objI
    refine ⟨a, dx, vs, rfl, hx, ?_⟩
    refine ⟨c.sub M H1, _, lenR post, rfl, rfl, rfl, s1.ent (.cons (.fz r1) rfl .nil), h1, ⟨fun H' x p l r h => ?_, fun H' a xs ps l f hx r h => h.elim⟩, fun _ _ _ _ _ _ _ _ h => h.elim⟩
    cases p with
    | int n => cases r; exact ⟨n, rfl, h.1, h.2.1, k H' _ _ (t1.trans (s1.left l)) (.int _) h.2.2⟩
    | _ => exact h.elim
  · exact h1.elim
/-! ### lists of numbers -/
def intL : List PV → Option (List Int)
  | [] => some []
  | .int z :: ps => (intL ps).map (z :: ·)
  | _ :: _ => none
theorem RepL.ints : ∀ {xs : List V} {ps : List PV} {zs : List Int}, RepL K M H xs ps → intL ps = some zs → xs = zs.map V.int
  | [], [], zs, h, e => by cases e; rfl
  | [], p :: ps, zs, h, e => by cases h.1
  | x :: xs, [], zs, h, e => by cases h.1
  | x :: xs, p :: ps, zs, h, e => by
    unfold intL at e
    split at e
    · rename_i eq; cases eq
    · rename_i z qs eq
      cases eq
      cases e2 : intL ps with
      | none => rw [e2] at e; cases e
      | some ys =>
        rw [e2] at e
        cases e
        rw [RepL.ints h.tail e2]
        have := h.head
        cases this
        rfl
    · cases e
def pSum (w : WE) : WE := fun ρ => bindR w (fun a post => match a with
  | .lst ps => ∃ ns, intL ps = some ns ∧ post (.ok (.int ns.sum))
  | _ => False) ρ
def pMaxL (w : WE) : WE := fun ρ => bindR w (fun a post => match a with
  | .lst ps => ∃ ns, intL ps = some ns ∧ 0 < ns.length ∧ ∀ m, m ∈ ns → (∀ y ∈ ns, y ≤ m) → post (.ok (.int m))
  | _ => False) ρ
def pMinL (w : WE) : WE := fun ρ => bindR w (fun a post => match a with
  | .lst ps => ∃ ns, intL ps = some ns ∧ 0 < ns.length ∧ ∀ m, m ∈ ns → (∀ y ∈ ns, m ≤ y) → post (.ok (.int m))
  | _ => False) ρ
theorem ev_sum (h : EvB K T E te w) : EvE K T E (tCB (rSum K) (tCons te tNil)) (pSum w) := by
  rintro c M σ H ρ post Q rfl rfl s hw k e
  refine h c M σ H ρ _ _ rfl rfl s hw (fun H1 x p t1 r1 h1 => ?_) (e.imp fun _ _ z => z)
  dsimp only at h1
  split at h1
  · obtain ⟨ns, e1, h1⟩ := h1
    obtain ⟨a, xs, rfl, ha, r, _⟩ := r1.lstI (s.stp t1)
    obtain rfl := r.ints e1
    exact ⟨a, ns, rfl, SqL.of ha, k H1 _ _ t1 (.int _) h1⟩
  · exact h1.elim
theorem ev_maxL (h : EvB K T E te w) : EvE K T E (tCB (rMax K) (tCons te tNil)) (pMaxL w) := by
  rintro c M σ H ρ post Q rfl rfl s hw k e
  refine h c M σ H ρ _ _ rfl rfl s hw (fun H1 x p t1 r1 h1 => ?_) (e.imp fun _ _ z => z)
  dsimp only at h1
  split at h1
  · obtain ⟨ns, e1, h0, h1⟩ := h1
    obtain ⟨a, xs, rfl, ha, r, _⟩ := r1.lstI (s.stp t1)
    obtain rfl := r.ints e1
    exact ⟨a, ns, rfl, SqL.of ha, h0, fun m h2 h3 => k H1 _ _ t1 (.int _) (h1 m h2 h3)⟩
  · exact h1.elim
theorem ev_minL (h : EvB K T E te w) : EvE K T E (tCB (rMin K) (tCons te tNil)) (pMinL w) := by
  rintro c M σ H ρ post Q rfl rfl s hw k e
  refine h c M σ H ρ _ _ rfl rfl s hw (fun H1 x p t1 r1 h1 => ?_) (e.imp fun _ _ z => z)
  dsimp only at h1
  split at h1
  · obtain ⟨ns, e1, h0, h1⟩ := h1
    obtain ⟨a, xs, rfl, ha, r, _⟩ := r1.lstI (s.stp t1)
    obtain rfl := r.ints e1
    exact ⟨a, ns, rfl, SqL.of ha, h0, fun m h2 h3 => k H1 _ _ t1 (.int _) (h1 m h2 h3)⟩
  · exact h1.elim
def blL : List PV → Option (List Bool)
  | [] => some []
  | .bl z :: ps => (blL ps).map (z :: ·)
  | _ :: _ => none
theorem RepL.bls : ∀ {xs : List V} {ps : List PV} {zs : List Bool}, RepL K M H xs ps → blL ps = some zs → xs = zs.map V.bl
  | [], [], zs, h, e => by cases e; rfl
  | [], p :: ps, zs, h, e => by cases h.1
  | x :: xs, [], zs, h, e => by cases h.1
  | x :: xs, p :: ps, zs, h, e => by
    unfold blL at e
    split at e
    · rename_i eq; cases eq
    · rename_i z qs eq
      cases eq
      cases e2 : blL ps with
      | none => rw [e2] at e; cases e
      | some ys =>
        rw [e2] at e
        cases e
        rw [RepL.bls h.tail e2]
        have := h.head
        cases this
        rfl
    · cases e
def pAll (w : WE) : WE := fun ρ => bindR w (fun a post => match a with
  | .lst ps => ∃ ns, blL ps = some ns ∧ post (.ok (.bl (ns.all id)))
  | _ => False) ρ
def pAny (w : WE) : WE := fun ρ => bindR w (fun a post => match a with
  | .lst ps => ∃ ns, blL ps = some ns ∧ post (.ok (.bl (ns.any id)))
  | _ => False) ρ
theorem ev_all (h : EvB K T E te w) : EvE K T E (tCB (rAll K) (tCons te tNil)) (pAll w) := by
  rintro c M σ H ρ post Q rfl rfl s hw k e
  refine h c M σ H ρ _ _ rfl rfl s hw (fun H1 x p t1 r1 h1 => ?_) (e.imp fun _ _ z => z)
  dsimp only at h1
  split at h1
  · obtain ⟨ns, e1, h1⟩ := h1
    obtain ⟨a, xs, rfl, ha, r, _⟩ := r1.lstI (s.stp t1)
    obtain rfl := r.bls e1
    exact ⟨a, ns, rfl, SqL.of ha, k H1 _ _ t1 (.bl _) h1⟩
  · exact h1.elim
theorem ev_any (h : EvB K T E te w) : EvE K T E (tCB (rAny K) (tCons te tNil)) (pAny w) := by
  rintro c M σ H ρ post Q rfl rfl s hw k e
  refine h c M σ H ρ _ _ rfl rfl s hw (fun H1 x p t1 r1 h1 => ?_) (e.imp fun _ _ z => z)
  dsimp only at h1
  split at h1
  · obtain ⟨ns, e1, h1⟩ := h1
    obtain ⟨a, xs, rfl, ha, r, _⟩ := r1.lstI (s.stp t1)
    obtain rfl := r.bls e1
    exact ⟨a, ns, rfl, SqL.of ha, k H1 _ _ t1 (.bl _) h1⟩
  · exact h1.elim
/-! ### turned lists, lists by a number -/
theorem RepL.rev {xs : List V} {ps : List PV} (a : RepL K M H xs ps) : RepL K M H xs.reverse ps.reverse := by
  refine ⟨by simp [a.1], fun i y q h1 h2 => ?_⟩
  have hi : i < xs.length := by have := (List.getElem?_eq_some_iff.mp h1).1; simpa using this
  rw [List.getElem?_reverse hi] at h1
  rw [List.getElem?_reverse (a.1 ▸ hi)] at h2
  exact a.2 _ y q h1 (a.1 ▸ h2)
def pRevL (w : WE) : WA := fun ρ => bindR w (fun a post => match a with
  | .lst ps => post (.ok ps.reverse)
  | _ => False) ρ
def pRevL2 (w : WE) : WA := fun ρ => bindR w (fun a post => match a with
  | .lst ps => post (.ok ps.dropLast.reverse)
  | _ => False) ρ
theorem eo_revL (h : EvB K T E te w) : EvO K T E (tRevL K te) (pRevL w) := by
  rintro c M σ H ρ post Q rfl rfl s hw k e
  refine h c M σ H ρ _ _ rfl rfl s hw (fun H1 x p t1 r1 h1 => ?_) (e.imp fun _ _ z => z)
  dsimp only at h1
  split at h1
  · obtain ⟨a, xs, rfl, e1, r2, _⟩ := r1.lstI (s.stp t1)
    exact ⟨a, xs, rfl, SqL.of e1, new_lst (s.stp t1) r2.rev h1 fun H' a vs ps t f h r q => k H' a vs ps (t1.trans t) (f.back s t1) h r q⟩
  · exact h1.elim
theorem eo_revL2 (h : EvB K T E te w) : EvO K T E (tRevL2 K te) (pRevL2 w) := by
  rintro c M σ H ρ post Q rfl rfl s hw k e
  refine h c M σ H ρ _ _ rfl rfl s hw (fun H1 x p t1 r1 h1 => ?_) (e.imp fun _ _ z => z)
  dsimp only at h1
  split at h1
  · rename_i ps
    obtain ⟨a, xs, rfl, e1, r2, _⟩ := r1.lstI (s.stp t1)
    refine ⟨a, xs, rfl, SqL.of e1, new_lst (s.stp t1) (?_ : RepL c.K M H1 _ ps.dropLast.reverse) h1 fun H' a vs ps t f h r q => k H' a vs ps (t1.trans t) (f.back s t1) h r q⟩
    rw [List.dropLast_eq_take, List.dropLast_eq_take, ← r2.1]
    exact (r2.take _).rev
  · exact h1.elim
theorem RepL.flatRep {xs : List V} {ps : List PV} (a : RepL K M H xs ps) : ∀ n : Nat, RepL K M H (List.replicate n xs).flatten (List.replicate n ps).flatten
  | 0 => .nil
  | n + 1 => by
    rw [List.replicate_succ, List.replicate_succ, List.flatten_cons, List.flatten_cons]
    exact a.append (a.flatRep n)
def pRep (wa wb : WE) : WA := fun ρ => bindR wa (fun a => bindR wb (fun b post => match a, b with
  | .lst ps, .int k => k ≤ 1000000 ∧ -1000000 ≤ k ∧ ps.length * k.toNat ≤ 1000000 ∧ post (.ok (List.replicate k.toNat ps).flatten)
  | _, _ => False) ρ) ρ
theorem eo_rep (ha : EvB K T E te wa) (hb : EvE K T E tf wb) : EvO K T E (tOp rRep te tf) (pRep wa wb) := by
  rintro c M σ H ρ post Q rfl rfl s hw k e
  refine ha c M σ H ρ _ _ rfl rfl s hw (fun H1 x a t1 r1 h1 => ?_) (e.imp fun _ _ z => z)
  have s1 := s.stp t1
  refine hb c M σ H1 ρ _ _ rfl rfl s1 h1 (fun H2 y b t2 r2 h2 => ?_) (e.imp fun _ _ z => z)
  have s2 := s1.stp t2
  dsimp only at h2
  split at h2
  · obtain ⟨l, xs, rfl, e1, ra, _⟩ := (s1.bor t2 r1).lstI s2
    cases r2
    obtain ⟨z1, z2, z3, h2⟩ := h2
    exact ⟨l, _, xs, rfl, rfl, e1, by omega, by omega, szM (by rw [ra.1]; exact z3), new_lst s2 (ra.flatRep _) h2 fun H' a vs ps t f h r q => k H' a vs ps (t1.trans (t2.trans t)) ((f.back s1 t2).back s t1) h r q⟩
  · exact h2.elim
/-! ### f(.., k = v) -/
/-- where a parameter's value comes from: an argument (in the order that they are written), or a default -/
inductive KI where
  | arg (i : Nat) | dfl (j : Nat)
def KI.atG {α : Type} (z : α) (ds xs : List α) : KI → α
  | .arg i => xs.getD i z
  | .dfl j => ds.getD j z
def kV (dvs : List V) (ix : List KI) : List V → List V → List V := fun vs zs => ix.map fun k => k.atG .non dvs (vs ++ zs)
def kOk (n m : Nat) (ix : List KI) : Bool := ix.all fun k => match k with
  | .arg i => decide (i < n)
  | .dfl j => decide (j < m)
theorem ArR.append {vs us : List V} {as bs : List SV} (a : ArR c M H vs as) (b : ArR c M H us bs) : ArR c M H (vs ++ us) (as ++ bs) := by
  refine ⟨by simp [a.len, b.len], fun i y q h1 h2 => ?_⟩
  by_cases hi : i < vs.length
  · rw [List.getElem?_append_left hi] at h1
    rw [List.getElem?_append_left (a.len ▸ hi)] at h2
    exact a.at_ i y q h1 h2
  · rw [List.getElem?_append_right (by omega)] at h1
    rw [List.getElem?_append_right (by have := a.len; omega), ← a.len] at h2
    exact b.at_ _ y q h1 h2
theorem getD_at {α : Type} {z : α} {xs : List α} {m : Nat} (h : m < xs.length) : xs[m]? = some (xs.getD m z) := by rw [List.getD_eq_getElem?_getD, List.getElem?_eq_getElem h]; rfl
theorem ArR.pick {vs : List V} {as : List SV} {ix : List KI} (a : ArR c M H vs as) (hd : ∀ M H, RepL c.K M H dvs ds) (ok : kOk vs.length dvs.length ix = true) : ArR c M H (ix.map fun k => k.atG .non dvs vs) (ix.map fun k => k.atG .un (ds.map .fz) as) := by
  refine ⟨by simp, fun i y q h1 h2 => ?_⟩
  rw [List.getElem?_map] at h1 h2
  cases hk : ix[i]? with
  | none => rw [hk] at h1; cases h1
  | some kk =>
    rw [hk] at h1 h2
    cases h1; cases h2
    have := List.all_eq_true.mp ok kk (List.mem_of_getElem? hk)
    cases kk with
    | arg m =>
      have hm : m < vs.length := of_decide_eq_true this
      exact a.at_ m _ _ (getD_at hm) (getD_at (a.len ▸ hm))
    | dfl m =>
      have hm : m < dvs.length := of_decide_eq_true this
      have hm2 : m < ds.length := (hd M H).1 ▸ hm
      have e : (ds.map SV.fz).getD m .un = .fz (ds.getD m .non) := by
        rw [List.getD_eq_getElem?_getD, List.getElem?_map, List.getElem?_eq_getElem hm2, List.getD_eq_getElem?_getD, List.getElem?_eq_getElem hm2]; rfl
      show SlR c M H (some (dvs.getD m .non)) ((ds.map SV.fz).getD m .un) ∧ ((ds.map SV.fz).getD m .un).isOwn = false
      rw [e]
      exact ⟨.fz ((hd M H).2 m _ _ (getD_at hm) (getD_at hm2)), rfl⟩
def pCallK (wd : WD) (ds : List PV) (ix : List KI) (ca cb : WC) : WE := fun ρ => bindR ca (fun as => bindR cb (fun bs post => wd (ix.map fun k => k.atG .un (ds.map .fz) (as ++ bs)) (frzR post)) ρ) ρ
def pCallK0 (wd : WD) (ds : List PV) (ix : List KI) (ca cb : WC) : WE := fun ρ => bindR ca (fun as => bindR cb (fun bs post => wd (ix.map fun k => k.atG .un (ds.map .fz) (as ++ bs)) (frzR (noR post))) ρ) ρ
theorem ArR.stp {vs : List V} {as : List SV} (s : StR c M σ H ρ) (t : Stp c H H') (a : ArR c M H vs as) : ArR c M H' vs as := ⟨a.len, fun i v q h1 h2 => ⟨(a.at_ i v q h1 h2).1.stp s t, (a.at_ i v q h1 h2).2⟩⟩
theorem ev_callK {ix : List KI} {l : Nat} (hd : ∀ M H, RepL K M H dvs ds) (ok : kOk (j + l) dvs.length ix = true) (hn : ix.length = n) (ha : EvC K T E j ta ca) (hb : EvC K T E l tb cb) : EvE K T E (tCallN j l (SpP K T n wd) (kV dvs ix) E ta tb) (pCallK wd ds ix ca cb) := by
  rintro c M σ H ρ post Q rfl rfl s hw k e
  refine ha c M σ H ρ _ _ rfl rfl s hw (fun H1 xs as t1 r1 hl1 h1 => ?_) (e.imp fun _ _ z => z)
  have s1 := s.stp t1
  refine hb c M σ H1 ρ _ _ rfl rfl s1 h1 (fun H2 ys bs t2 r2 hl2 h2 => ?_) (e.imp fun _ _ z => z)
  have s2 := s1.stp t2
  have r3 := ArR.pick (ix := ix) ((r1.stp s1 t2).append r2) hd (by rw [List.length_append, hl1, hl2]; exact ok)
  exact ⟨hl1, hl2, call_fz s2 r3 (by unfold kV; rw [List.length_map, hn]) h2 (fun H' x p t r h => k H' x p (t1.trans (t2.trans t)) r h) (s2.err e)⟩
theorem ev_callK0 {ix : List KI} {l : Nat} (hd : ∀ M H, RepL K M H dvs ds) (ok : kOk (j + l) dvs.length ix = true) (hn : ix.length = n) (ha : EvC K T E j ta ca) (hb : EvC K T E l tb cb) : EvE K T E (tCallN j l (SpP K T n wd) (kV dvs ix) E' ta tb) (pCallK0 wd ds ix ca cb) := by
  rintro c M σ H ρ post Q rfl rfl s hw k e
  refine ha c M σ H ρ _ _ rfl rfl s hw (fun H1 xs as t1 r1 hl1 h1 => ?_) (e.imp fun _ _ z => z)
  have s1 := s.stp t1
  refine hb c M σ H1 ρ _ _ rfl rfl s1 h1 (fun H2 ys bs t2 r2 hl2 h2 => ?_) (e.imp fun _ _ z => z)
  have s2 := s1.stp t2
  have r3 := ArR.pick (ix := ix) ((r1.stp s1 t2).append r2) hd (by rw [List.length_append, hl1, hl2]; exact ok)
  exact ⟨hl1, hl2, call_fz (post := noR post) s2 r3 (by unfold kV; rw [List.length_map, hn]) h2 (fun H' x p t r h => k H' x p (t1.trans (t2.trans t)) r h) (fun _ _ _ _ _ _ _ _ h => h.elim)⟩
end
end My
end

section
set_option Elab.async false
set_option maxRecDepth 100000
set_option maxHeartbeats 4000000
set_option linter.all false
namespace My
open PySem L2
inductive Out where
  | nx (ρ : List SV) | bk (ρ : List SV) | ct (ρ : List SV) | rt (r : RV) | er (c : Str) (fs : List (Str × PV))
abbrev WS : Type := List SV → (Out → Prop) → Prop
structure CEx (c c' : Cfg) : Prop where
  K : c'.K = c.K
  T : c'.T = c.T
  H0 : c'.H0 = c.H0
  m : c'.m = c.m
  M0 : c'.M0 = c.M0
  B : ∀ q, c.B = some q → c'.B = some q
theorem CEx.refl (c : Cfg) : CEx c c := ⟨rfl, rfl, rfl, rfl, rfl, fun _ h => h⟩
theorem CEx.trans {c c1 c2 : Cfg} (a : CEx c c1) (b : CEx c1 c2) : CEx c c2 := ⟨b.K.trans a.K, b.T.trans a.T, b.H0.trans a.H0, b.m.trans a.m, b.M0.trans a.M0, fun q h => b.B q (a.B q h)⟩
theorem Lv.back {c c' : Cfg} {H : Hp} (x : CEx c c') (l : Lv c' H) : Lv c H := ⟨fun y o n nt e => l.fr y o (x.m ▸ n) nt (x.H0 ▸ e), x.T ▸ l.tabs, fun a b e => l.bag a b (x.B _ e)⟩
/-- what is wanted behind a statement, by values -/
structure Dn (c : Cfg) (M : List Addr) (H : Hp) (post : Out → Prop) (D : Ends) (E : XK) : Prop where
  nx : ∀ c' M' σ' H' ρ', CEx c c' → StR c' M' σ' H' ρ' → Nxt M H M' H' → post (.nx ρ') → D.nx σ' H'
  bk : ∀ c' M' σ' H' ρ', CEx c c' → StR c' M' σ' H' ρ' → Nxt M H M' H' → post (.bk ρ') → D.bk σ' H'
  ct : ∀ c' M' σ' H' ρ', CEx c c' → StR c' M' σ' H' ρ' → Nxt M H M' H' → post (.ct ρ') → D.ct σ' H'
  rt : RtW c D.rt (fun r => match r with | .ok q => post (.rt q) | .er _ _ => False)
  er : ErW c E (fun cn fs => post (.er cn fs))
def EvS (K : PySem.W.Frag) (T : List (Addr × Str)) (E : XK) (ts : TS) (w : WS) : Prop := ∀ (c : Cfg) (M : List Addr) (σ : L2.St) (H : Hp) (ρ : List SV) (post : Out → Prop) (D : Ends), c.K = K → c.T = T → StR c M σ H ρ → w ρ post → Dn c M H post D E → ts D σ H
theorem ErW.ex {c c' : Cfg} {E : XK} {post : Str → List (Str × PV) → Prop} (x : CEx c c') (e : ErW c E post) : ErW c' E post := fun H' cn fs dd vs l hd r h => by
  have := e H' cn fs dd vs (l.back x) hd (by rw [← x.K, ← x.M0]; exact r) h
  rw [x.K]; exact this
theorem RtW.ex {c c' : Cfg} {Q : VK} {post : Res RV → Prop} (x : CEx c c') (e : RtW c Q post) : RtW c' Q post :=
  ⟨fun H' v p l r h => e.fz H' v p (l.back x) (by rw [← x.K, ← x.M0]; exact r) h, fun H' a vs ps l f hx r h => e.own H' a vs ps (l.back x) (by rw [← x.H0]; exact f) hx (by rw [← x.K, ← x.M0]; exact r) h⟩
section
variable {c : Cfg} {M : List Addr} {σ : L2.St} {H H' : Hp} {ρ : List SV} {K : PySem.W.Frag} {T : List (Addr × Str)} {E E' : XK} {te tf tg : TE} {w wa wb wc : WE} {tt tu : TT} {vt vu : WT} {ta tb : TA} {va vb : WA} {ca cb : WC} {i j n : Nat} {p : PV} {v : V} {b : Bool} {wd : WD} {ts us : TS} {ws wu : WS} {g : TG} {wg : WG} {ss : List Nat}
def erO (post : Out → Prop) {α : Type} (f : α → Prop) : Res α → Prop
  | .ok a => f a
  | .er cn fs => post (.er cn fs)
theorem StR.nxt (s : StR c M σ H ρ) (t : Stp c H H') : Nxt M H M H' := (s.ext t).nxt
/-- a later state: what was wanted is wanted -/
theorem Dn.later {M1 : List Addr} {H1 : Hp} {c1 : Cfg} {post : Out → Prop} {D : Ends} (d : Dn c M H post D E) (x : CEx c c1) (n : Nxt M H M1 H1) : Dn c1 M1 H1 post D E :=
  ⟨fun c' M' σ' H' ρ' y s k h => d.nx c' M' σ' H' ρ' (x.trans y) s (n.trans k) h, fun c' M' σ' H' ρ' y s k h => d.bk c' M' σ' H' ρ' (x.trans y) s (n.trans k) h, fun c' M' σ' H' ρ' y s k h => d.ct c' M' σ' H' ρ' (x.trans y) s (n.trans k) h, d.rt.ex x, d.er.ex x⟩
def sNext : WS := fun ρ post => post (.nx ρ)
theorem es_next : EvS K T E tNext sNext := by
  rintro c M σ H ρ post D rfl rfl s hw d
  exact d.nx c M σ H ρ (.refl c) s (.refl M H) hw
def sSeq (a b : WS) : WS := fun ρ post => a ρ fun o => match o with
  | .nx ρ' => b ρ' post
  | o => post o
theorem seq_ok (ha : EvS K T E ts ws) (hb : EvS K T E us wu) : EvS K T E (tSeq ts us) (sSeq ws wu) := by
  rintro c M σ H ρ post D rfl rfl s hw d
  refine ha c M σ H ρ _ _ rfl rfl s hw ⟨fun c' M' σ' H' ρ' x s' n h => ?_, fun c' M' σ' H' ρ' x s' n h => d.bk c' M' σ' H' ρ' x s' n h, fun c' M' σ' H' ρ' x s' n h => d.ct c' M' σ' H' ρ' x s' n h, ?_, d.er⟩
  · exact hb c' M' σ' H' ρ' post D x.K x.T s' h (d.later x n)
  · exact d.rt
theorem cut_ok (ha : EvS K T E ts ws) (hb : EvS K T E us wu) : EvS K T E (C8.tCut ts us) (sSeq ws wu) := by
  rintro c M σ H ρ post D rfl rfl s hw d
  refine ⟨fun σ' H' => ∃ c' M' ρ', CEx c c' ∧ StR c' M' σ' H' ρ' ∧ Nxt M H M' H' ∧ wu ρ' post, ?_, fun σ' H' ⟨c', M', ρ', x, s', n, h⟩ => hb c' M' σ' H' ρ' post D x.K x.T s' h (d.later x n)⟩
  exact ha c M σ H ρ _ _ rfl rfl s hw ⟨fun c' M' σ' H' ρ' x s' n h => ⟨c', M', ρ', x, s', n, h⟩, fun c' M' σ' H' ρ' x s' n h => d.bk c' M' σ' H' ρ' x s' n h, fun c' M' σ' H' ρ' x s' n h => d.ct c' M' σ' H' ρ' x s' n h, d.rt, d.er⟩
def sIf (vt : WT) (a b : WS) : WS := fun ρ post => vt ρ (erO post fun d => if d = true then a ρ post else b ρ post)
theorem es_if (h : EvT K T E tt vt) (ha : EvS K T E ts ws) (hb : EvS K T E us wu) : EvS K T E (tIfS tt ts us) (sIf vt ws wu) := by
  rintro c M σ H ρ post D rfl rfl s hw d
  refine h c M σ H ρ _ _ rfl rfl s hw (fun H1 q t1 h1 => ?_) d.er
  have s1 := s.stp t1
  have d1 := d.later (.refl c) (s.nxt t1)
  have h1 : if q = true then ws ρ post else wu ρ post := h1
  cases q with
  | true => exact ha c M σ H1 ρ post D rfl rfl s1 h1 d1
  | false => exact hb c M σ H1 ρ post D rfl rfl s1 h1 d1
def sRet (w : WE) : WS := fun ρ post => w ρ (erO post fun p => post (.rt (.fz p)))
theorem es_ret (h : EvE K T E te w) : EvS K T E (tRet te) (sRet w) := by
  rintro c M σ H ρ post D rfl rfl s hw d
  exact h c M σ H ρ _ _ rfl rfl s hw (fun H1 x p t1 r1 h1 => d.rt.fz H1 x p (s.stp t1).lv (r1.weak s.sub) h1) d.er
def sRetO (w : WA) : WS := fun ρ post => w ρ (erO post fun ps => post (.rt (.own ps)))
theorem es_retO (h : EvO K T E te va) : EvS K T E (tRet te) (sRetO va) := by
  rintro c M σ H ρ post D rfl rfl s hw d
  refine h c M σ H ρ _ _ rfl rfl s hw (fun H1 a vs ps t1 f e1 r1 h1 => ?_) d.er
  refine d.rt.own H1 a vs ps (s.stp t1).lv ?_ e1 (r1.weak fun b hb => ?_) h1
  · exact s.fresh0 f
  · rcases List.mem_cons.mp hb with z | z
    · exact z ▸ List.mem_cons_self
    · exact List.mem_cons_of_mem _ (s.sub b z)
def sRetN : WS := fun ρ post => post (.rt (.fz .non))
theorem es_retN : EvS K T E tRetN sRetN := by
  rintro c M σ H ρ post D rfl rfl s hw d
  exact d.rt.fz H _ _ s.lv .non hw

def sDrop (w : WE) : WS := fun ρ post => w ρ (erO post fun _ => post (.nx ρ))
theorem es_drop (h : EvE K T E te w) : EvS K T E (tDrop te) (sDrop w) := by
  rintro c M σ H ρ post D rfl rfl s hw d
  exact h c M σ H ρ _ _ rfl rfl s hw (fun H1 x p t1 r1 h1 => d.nx c M σ H1 ρ (.refl c) (s.stp t1) (s.nxt t1) h1) d.er
def sBreak : WS := fun ρ post => post (.bk ρ)
def sCont : WS := fun ρ post => post (.ct ρ)
theorem es_break : EvS K T E tBreak sBreak := by
  rintro c M σ H ρ post D rfl rfl s hw d
  exact d.bk c M σ H ρ (.refl c) s (.refl M H) hw
theorem es_cont : EvS K T E tCont sCont := by
  rintro c M σ H ρ post D rfl rfl s hw d
  exact d.ct c M σ H ρ (.refl c) s (.refl M H) hw
def sNever : WS := fun _ _ => False
theorem es_never : EvS K T E tNever sNever := by
  rintro c M σ H ρ post D rfl rfl s hw d
  exact hw.elim
/-- x = e, what is stored is frozen -/
def sAsg (w : WE) (wg : WG) : WS := fun ρ post => w ρ (erO post fun p => wg p ρ (erO post fun ρ' => post (.nx ρ')))
theorem es_asg (h : EvE K T E te w) (hg : EvG K ss g wg) : EvS K T E (tAsg te g) (sAsg w wg) := by
  rintro c M σ H ρ post D rfl rfl s hw d
  refine h c M σ H ρ _ _ rfl rfl s hw (fun H1 x p t1 r1 h1 => ?_) d.er
  exact hg c M σ H1 ρ x p _ _ rfl (s.stp t1) r1 h1 fun σ' ρ' s' _ _ h2 => d.nx c M σ' H1 ρ' (.refl c) s' (s.nxt t1) h2
/-- a new list that is the slot's own: it is no other slot's -/
theorem StR.uniqO (s : StR c M σ H ρ) (i : Nat) {a : Addr} {q : SV} (nm : a ∉ M) : ∀ (j k : Nat) (b : Addr) (t u : SV), (σ.set i (some (.ref a)))[j]? = some (some (.ref b)) → (σ.set i (some (.ref a)))[k]? = some (some (.ref b)) → (ρ.set i q)[j]? = some t → (ρ.set i q)[k]? = some u → t.isOwn = true → u.isOwn = true → j = k := fun j k b t u h1 h2 h3 h4 h5 h6 => by
  have key : ∀ (m : Nat) (t : SV), m ≠ i → σ[m]? = some (some (.ref a)) → ρ[m]? = some t → t.isOwn = true → False := fun m t hm e1 e2 e3 => by
    cases s.slots m _ t e1 e2 with
    | own hm _ _ _ _ => exact nm hm
    | ob hm _ _ _ _ => exact nm hm
    | un => cases e3
    | fz _ => cases e3
    | bag _ => cases e3
    | scr _ => cases e3
    | ref => cases e3
    | cel hm _ _ _ _ => exact nm hm
  by_cases e : i = j
  · subst e
    by_cases e2 : i = k
    · exact e2
    · by_cases hi : i < σ.length
      · rw [List.getElem?_set_self hi] at h1
        cases h1
        rw [List.getElem?_set_ne e2] at h2 h4
        exact (key k u (fun z => e2 z.symm) h2 h4 h6).elim
      · rw [List.getElem?_eq_none (by simpa using hi)] at h1; cases h1
  · by_cases e2 : i = k
    · subst e2
      by_cases hi : i < σ.length
      · rw [List.getElem?_set_self hi] at h2
        cases h2
        rw [List.getElem?_set_ne e] at h1 h3
        exact (key j t (fun z => e z.symm) h1 h3 h5).elim
      · rw [List.getElem?_eq_none (by simpa using hi)] at h2; cases h2
    · rw [List.getElem?_set_ne e] at h1 h3
      rw [List.getElem?_set_ne e2] at h2 h4
      exact s.uniq j k b t u h1 h2 h3 h4 h5 h6
def sAsgO (w : WA) (i : Nat) : WS := fun ρ post => w ρ (erO post fun ps => post (.nx (ρ.set i (.own ps))))
theorem es_asgO (h : EvO K T E te va) : EvS K T E (tAsg te (gName i)) (sAsgO va i) := by
  rintro c M σ H ρ post D rfl rfl s hw d
  refine h c M σ H ρ _ _ rfl rfl s hw (fun H1 a vs ps t1 f e1 r1 h1 => ?_) d.er
  have s1 := s.stp t1
  have nm : a ∉ M := s.notIn f
  have n1 : Nxt M H (a :: M) H1 := ⟨s.ext t1, fun b hb => by
    rcases List.mem_cons.mp hb with z | z
    · exact .inr (z ▸ f)
    · exact .inl z⟩
  have fB : ∀ x y, c.B = some (x, y) → a ≠ x ∧ a ≠ y := fun x y e => ⟨fun z => nm (z ▸ (s.bag x y e).2.1), fun z => nm (z ▸ (s.bag x y e).2.2.1)⟩
  -- what stood before is not at a
  have s2 : StR c (a :: M) (σ.set i (some (.ref a))) H1 (ρ.set i (.own ps)) := by
    refine ⟨s1.fr, fun b hb => ?_, fun b hb => List.mem_cons_of_mem _ (s.sub b hb), s.mm, s.d0, s1.tabs, fun x y e => ⟨(s1.bag x y e).1, List.mem_cons_of_mem _ (s1.bag x y e).2.1, List.mem_cons_of_mem _ (s1.bag x y e).2.2.1, (s1.bag x y e).2.2.2⟩, by simp [s.len], fun j u t h1' h2' => ?_, ?_⟩
    · rcases List.mem_cons.mp hb with z | z
      · exact ⟨_, z ▸ e1, NT.lst⟩
      · exact s1.dom b z
    · by_cases e : i = j
      · subst e
        by_cases hi : i < σ.length
        · rw [List.getElem?_set_self hi] at h1'
          rw [List.getElem?_set_self (s.len ▸ hi)] at h2'
          cases h1'; cases h2'
          exact .own List.mem_cons_self fB (s.fresh0 f) e1 r1
        · rw [List.getElem?_eq_none (by simpa using hi)] at h1'; cases h1'
      · rw [List.getElem?_set_ne e] at h1'
        rw [List.getElem?_set_ne e] at h2'
        have z := s.slots j u t h1' h2'
        have z2 := s1.slots j u t h1' h2'
        cases z2 with
        | un => exact .un
        | fz h => cases z with | fz h' => exact .fz (h'.nxt n1)
        | own hm hb h0 h hi =>
          cases z with
          | own hm' hb' h0' h' hi' =>
            have e3 := t1.keep _ _ (fun a b e => (hb' a b e).1) NT.lst h'
            rw [h] at e3; cases e3
            exact .own (List.mem_cons_of_mem _ hm) hb h0 h (hi'.nxt n1)
        | bag h => exact .bag h
        | ob hm hb h0 h hi =>
          cases z with
          | ob hm' hb' h0' h' hi' =>
            have e3 := t1.keep _ _ (fun a b e => (hb' a b e).1) NT.ins h'
            rw [h] at e3; cases e3
            exact .ob (List.mem_cons_of_mem _ hm) hb h0 h (hi'.nxt n1)
        | scr h =>
          cases z with
          | scr h' => exact .scr (h'.nxt n1)
        | ref => exact .ref
        | cel hm hb h0 h hi =>
          cases z with
          | cel hm' hb' h0' h' hi' =>
            have e3 := t1.keep _ _ (fun a b e => (hb' a b e).1) hi'.nt h'
            rw [h] at e3; cases e3
            exact .cel (List.mem_cons_of_mem _ hm) hb h0 h (hi'.nxt n1)
    · exact s.uniqO i nm
  exact d.nx c (a :: M) _ H1 _ (.refl c) s2 n1 h1
end
end My
end

section
set_option Elab.async false
set_option maxRecDepth 100000
set_option maxHeartbeats 4000000
set_option linter.all false
namespace My
open PySem L2
section
variable {c : Cfg} {M : List Addr} {σ : L2.St} {H H' : Hp} {ρ : List SV} {K : PySem.W.Frag} {T : List (Addr × Str)} {E E' : XK} {te tf tg : TE} {w wa wb wc : WE} {tt tu : TT} {vt vu : WT} {ta tb : TA} {va vb : WA} {ca cb : WC} {i j n : Nat} {p : PV} {v : V} {b : Bool} {wd : WD} {ts us : TS} {ws wu : WS} {g : TG} {wg : WG} {ss : List Nat}
/-! ### own lists -/
/-- the own list of slot i is changed -/
theorem StR.mut (s : StR c M σ H ρ) {i : Nat} {a : Addr} {ps qs : List PV} {xs ys : List V} (h1 : ρ[i]? = some (.own ps)) (h2 : σ[i]? = some (some (.ref a))) (ha : H a = some (.lst xs)) (hm : a ∈ M) (hb : ∀ x y, c.B = some (x, y) → a ≠ x ∧ a ≠ y) (h0 : Fresh c.H0 a) (r : RepL c.K M H ys qs) :
    StR c M σ (upd H a (.lst ys)) (ρ.set i (.own qs)) ∧ Nxt M H M (upd H a (.lst ys)) := by
  have ex : Ext M H (upd H a (.lst ys)) := fun x o n _ e => by rw [upd_ne (fun z => n (by rw [z]; exact hm))]; exact e
  refine ⟨⟨fun x o n nt e => ?_, fun y hy => ?_, s.sub, s.mm, s.d0, upd_tabs s.tabs (.inr ⟨_, ha⟩) (.inr ⟨_, ha⟩), fun x y e => ⟨(s.bag x y e).1.mut (hb x y e).1.symm (hb x y e).2.symm, (s.bag x y e).2⟩, by simp [s.len], fun j u t e1 e2 => ?_, fun j k b t u e1 e2 e3 e4 e5 e6 => ?_⟩, ex.nxt⟩
  · rw [upd_ne (fun z => h0 o (by rw [← z]; exact e) nt)]; exact s.fr x o n nt e
  · by_cases z : y = a
    · subst z; exact ⟨_, upd_same, NT.lst⟩
    · obtain ⟨o, e, nt⟩ := s.dom y hy
      exact ⟨o, (upd_ne z).trans e, nt⟩
  · by_cases e : i = j
    · subst e
      have hi : i < ρ.length := (List.getElem?_eq_some_iff.mp h1).1
      rw [List.getElem?_set_self hi] at e2
      rw [h2] at e1
      cases e1; cases e2
      exact .own hm hb h0 upd_same (r.ext ex)
    · rw [List.getElem?_set_ne e] at e2
      cases s.slots j u t e1 e2 with
      | un => exact .un
      | fz h => exact .fz (h.ext ex)
      | own hm' hb' h0' h hi =>
        rename_i a' vs' ps'
        have na : a' ≠ a := fun z => e (s.uniq i j a _ _ h2 (z ▸ e1) h1 e2 rfl rfl)
        exact .own hm' hb' h0' ((upd_ne na).trans h) (hi.ext ex)
      | bag h => exact .bag h
      | ob hm' hb' h0' h hi =>
        rename_i a' dx C vs' ps'
        have na : a' ≠ a := fun z => e (s.uniq i j a _ _ h2 (z ▸ e1) h1 e2 rfl rfl)
        exact .ob hm' hb' h0' ((upd_ne na).trans h) (hi.nxt ex.nxt)
      | scr h => exact .scr (h.nxt ex.nxt)
      | ref => exact .ref
      | cel hm' hb' h0' h hi =>
        rename_i a' o' k'
        have na : a' ≠ a := fun z => e (s.uniq i j a _ _ h2 (z ▸ e1) h1 e2 rfl rfl)
        exact .cel hm' hb' h0' ((upd_ne na).trans h) (hi.nxt ex.nxt)
  · have tr : ∀ (m : Nat) (t : SV), (ρ.set i (.own qs))[m]? = some t → t.isOwn = true → ∃ t', ρ[m]? = some t' ∧ t'.isOwn = true := fun m t q1 q2 => by
      by_cases z : i = m
      · subst z; exact ⟨_, h1, rfl⟩
      · rw [List.getElem?_set_ne z] at q1; exact ⟨t, q1, q2⟩
    obtain ⟨t', q1, q2⟩ := tr j t e3 e5
    obtain ⟨u', q3, q4⟩ := tr k u e4 e6
    exact s.uniq j k b t' u' e1 e2 q1 q3 q2 q4
theorem StR.ownAt (s : StR c M σ H ρ) {i : Nat} {ps : List PV} (h : ρ[i]? = some (.own ps)) : ∃ a xs, σ[i]? = some (some (.ref a)) ∧ H a = some (.lst xs) ∧ a ∈ M ∧ (∀ x y, c.B = some (x, y) → a ≠ x ∧ a ≠ y) ∧ Fresh c.H0 a ∧ RepL c.K M H xs ps := by
  obtain ⟨o, h1, h2⟩ := s.get h
  cases h2 with
  | own hm hb h0 hh hi => exact ⟨_, _, h1, hh, hm, hb, h0, hi⟩
theorem StR.ownStp (s : StR c M σ H ρ) (t : Stp c H H') {a : Addr} {xs : List V} (hb : ∀ x y, c.B = some (x, y) → a ≠ x ∧ a ≠ y) (h : H a = some (.lst xs)) : H' a = some (.lst xs) := t.keep _ _ (fun x y e => (hb x y e).1) NT.lst h
/-- x.append(e) -/
def sApp (i : Nat) (w : WE) : WS := fun ρ post => match ρ[i]? with
  | some (.own ps) => w ρ (erO post fun p => ps.length ≤ 1000000 ∧ post (.nx (ρ.set i (.own (ps ++ [p])))))
  | _ => False
theorem es_app (h : EvE K T E te w) : EvS K T E (tDrop (tBM K "list" rAppend (tVar i) (tCons te tNil))) (sApp i w) := by
  rintro c M σ H ρ post D rfl rfl s hw d
  unfold sApp at hw
  split at hw
  · rename_i ps hp
    obtain ⟨a, xs, h1, ha, hm, hb, h0, hi⟩ := s.ownAt hp
    refine ⟨_, h1, ty_list (SqL.of ha), h c M σ H ρ _ _ rfl rfl s hw (fun H1 x p t1 r1 h1' => ?_) d.er⟩
    have s1 := s.stp t1
    have ha1 := s.ownStp t1 hb ha
    have r2 := (s.repL t1 hi).snoc r1
    obtain ⟨s3, n3⟩ := s1.mut hp h1 ha1 hm hb h0 r2
    exact r_app (Q := fun _ H1 => D.nx σ H1) ha1 (szMl (by rw [hi.1]; exact h1'.1)) (d.nx c M σ _ _ (.refl c) s3 ((s.nxt t1).trans n3) h1'.2)
  · exact hw.elim
/-- x[i] = e -/
def sSetI (i : Nat) (w wix : WE) : WS := fun ρ post => w ρ (erO post fun p => match ρ[i]? with
  | some (.own ps) => wix ρ (erO post fun q => match q with
    | .int k => ∃ j, ixN ps.length k = some j ∧ post (.nx (ρ.set i (.own (ps.set j p))))
    | _ => False)
  | _ => False)
theorem es_setI (h : EvE K T E te w) (hx : EvE K T E tf wb) : EvS K T E (tAsg te (gSub (tVar i) tf rSetL)) (sSetI i w wb) := by
  rintro c M σ H ρ post D rfl rfl s hw d
  refine h c M σ H ρ _ _ rfl rfl s hw (fun H1 x p t1 r1 h1 => ?_) d.er
  have s1 := s.stp t1
  dsimp only [erO] at h1
  split at h1
  · rename_i ps hp
    obtain ⟨a, xs, e1, ha, hm, hb, h0, hi⟩ := s1.ownAt hp
    refine ⟨_, e1, hx c M σ H1 ρ _ _ rfl rfl s1 h1 (fun H2 y q t2 r2 h2 => ?_) d.er⟩
    have s2 := s1.stp t2
    dsimp only [erO] at h2
    split at h2
    · obtain ⟨k, hk, h2⟩ := h2
      cases r2
      have ha2 := s1.ownStp t2 hb ha
      have r3 := (s1.repL t2 hi).set (s1.rep t2 r1) k
      obtain ⟨s3, n3⟩ := s2.mut hp e1 ha2 hm hb h0 r3
      exact ⟨a, xs, _, k, rfl, rfl, ha2, by rw [hi.1]; exact hk, d.nx c M σ _ _ (.refl c) s3 ((s.nxt t1).trans ((s1.nxt t2).trans n3)) h2⟩
    · exact h2.elim
  · exact h1.elim
/-- x.extend(e) -/
def sExt (i : Nat) (w : WE) : WS := fun ρ post => match ρ[i]? with
  | some (.own ps) => w ρ (erO post fun p => match p with
    | .lst qs => ps.length + qs.length ≤ 1000000 ∧ post (.nx (ρ.set i (.own (ps ++ qs))))
    | _ => False)
  | _ => False
theorem es_ext (h : EvB K T E te w) : EvS K T E (tDrop (tBM K "list" rExtend (tVar i) (tCons te tNil))) (sExt i w) := by
  rintro c M σ H ρ post D rfl rfl s hw d
  unfold sExt at hw
  split at hw
  · rename_i ps hp
    obtain ⟨a, xs, h1, ha, hm, hb, h0, hi⟩ := s.ownAt hp
    refine ⟨_, h1, ty_list (SqL.of ha), h c M σ H ρ _ _ rfl rfl s hw (fun H1 x p t1 r1 h1' => ?_) d.er⟩
    have s1 := s.stp t1
    have ha1 := s.ownStp t1 hb ha
    dsimp only [erO] at h1'
    split at h1'
    · obtain ⟨l, ys, rfl, e2, rb, _⟩ := r1.lstI s1
      obtain ⟨s3, n3⟩ := s1.mut hp h1 ha1 hm hb h0 ((s.repL t1 hi).append rb)
      exact r_ext (Q := fun _ H1 => D.nx σ H1) ha1 e2 (szM (by rw [hi.1, rb.1]; exact h1'.1)) (d.nx c M σ _ _ (.refl c) s3 ((s.nxt t1).trans n3) h1'.2)
    · exact h1'.elim
  · exact hw.elim
/-- return of a slot -/
def sRetV (i : Nat) : WS := fun ρ post => match ρ[i]? with
  | some (.fz p) => post (.rt (.fz p))
  | some (.own ps) => post (.rt (.own ps))
  | _ => False
theorem es_retV : EvS K T E (tRet (tVar i)) (sRetV i) := by
  rintro c M σ H ρ post D rfl rfl s hw d
  unfold sRetV at hw
  split at hw
  · rename_i p hp
    obtain ⟨v, h1, h2⟩ := s.fz hp
    exact ⟨v, h1, d.rt.fz H v p s.lv (h2.weak s.sub) hw⟩
  · rename_i ps hp
    obtain ⟨a, xs, h1, ha, hm, hb, h0, hi⟩ := s.ownAt hp
    refine ⟨_, h1, d.rt.own H a xs ps s.lv h0 ha (hi.weak fun b hb => ?_) hw⟩
    rcases List.mem_cons.mp hb with z | z
    · exact z ▸ hm
    · exact s.sub b z
  · exact hw.elim
/-- an own list is frozen from here on -/
def sFreeze (i : Nat) (w : WS) : WS := fun ρ post => match ρ[i]? with
  | some (.own ps) => w (ρ.set i (.fz (.lst ps))) post
  | _ => w ρ post
/-- a is no longer an own list's -/
theorem StR.freeze (s : StR c M σ H ρ) {i : Nat} {ps : List PV} (h : ρ[i]? = some (.own ps)) : ∃ M', StR c M' σ H (ρ.set i (.fz (.lst ps))) ∧ (∀ b ∈ M', b ∈ M) := by
  obtain ⟨a, xs, h1, ha, hm, hb, h0, hi⟩ := s.ownAt h
  have hM : a ∉ c.M0 := fun z => by
    obtain ⟨o, e, nt⟩ := s.d0 a z
    exact h0 o e nt
  refine ⟨M.filter fun b => decide (b ≠ a), ⟨s.fr, fun b hb => s.dom b (List.mem_filter.mp hb).1, fun b hb => List.mem_filter.mpr ⟨s.sub b hb, decide_eq_true fun z => hM (z ▸ hb)⟩, s.mm, s.d0, s.tabs, fun x y e => ⟨(s.bag x y e).1, List.mem_filter.mpr ⟨(s.bag x y e).2.1, decide_eq_true (hb x y e).1.symm⟩, List.mem_filter.mpr ⟨(s.bag x y e).2.2.1, decide_eq_true (hb x y e).2.symm⟩, (s.bag x y e).2.2.2⟩, by simp [s.len], fun j u t e1 e2 => ?_, fun j k b t u e1 e2 e3 e4 e5 e6 => ?_⟩, fun b hb => (List.mem_filter.mp hb).1⟩
  · have wk : ∀ b ∈ M.filter (fun b => decide (b ≠ a)), b ∈ M := fun b hb => (List.mem_filter.mp hb).1
    by_cases e : i = j
    · subst e
      have hil : i < ρ.length := (List.getElem?_eq_some_iff.mp h).1
      rw [List.getElem?_set_self hil] at e2
      rw [h1] at e1
      cases e1; cases e2
      have r := hi.weak wk
      exact .fz (.lst (fun z => by have := (List.mem_filter.mp z).2; simp at this) ha r.1 r.2)
    · rw [List.getElem?_set_ne e] at e2
      cases s.slots j u t e1 e2 with
      | un => exact .un
      | fz h => exact .fz (h.weak wk)
      | own hm' hb' h0' h' hi' =>
        rename_i a' vs' ps'
        have na : a' ≠ a := fun z => e (s.uniq i j a _ _ h1 (z ▸ e1) h e2 rfl rfl)
        exact .own (List.mem_filter.mpr ⟨hm', decide_eq_true na⟩) hb' h0' h' (hi'.weak wk)
      | bag h => exact .bag h
      | ob hm' hb' h0' h' hi' =>
        rename_i a' dx C vs' ps'
        have na : a' ≠ a := fun z => e (s.uniq i j a _ _ h1 (z ▸ e1) h e2 rfl rfl)
        exact .ob (List.mem_filter.mpr ⟨hm', decide_eq_true na⟩) hb' h0' h' (hi'.weak wk)
      | scr h' => exact .scr (h'.nxt ⟨fun _ _ _ _ e => e, fun b hb => .inl (wk b hb)⟩)
      | ref => exact .ref
      | cel hm' hb' h0' h' hi' =>
        rename_i a' o' k'
        have na : a' ≠ a := fun z => e (s.uniq i j a _ _ h1 (z ▸ e1) h e2 rfl rfl)
        exact .cel (List.mem_filter.mpr ⟨hm', decide_eq_true na⟩) hb' h0' h' (hi'.weak wk)
  · have tr : ∀ (m : Nat) (t : SV), (ρ.set i (.fz (.lst ps)))[m]? = some t → t.isOwn = true → ρ[m]? = some t := fun m t q1 q2 => by
      by_cases z : i = m
      · subst z
        by_cases hil : i < ρ.length
        · rw [List.getElem?_set_self hil] at q1; cases q1; cases q2
        · rw [List.getElem?_eq_none (by simpa using hil)] at q1; cases q1
      · rw [List.getElem?_set_ne z] at q1; exact q1
    exact s.uniq j k b t u e1 e2 (tr j t e3 e5) (tr k u e4 e6) e5 e6
theorem es_freeze (h : EvS K T E ts ws) : EvS K T E ts (sFreeze i ws) := by
  rintro c M σ H ρ post D rfl rfl s hw d
  unfold sFreeze at hw
  split at hw
  · rename_i ps hp
    obtain ⟨M', s', hM⟩ := s.freeze hp
    exact h c M' σ H _ post D rfl rfl s' hw (d.later (.refl c) ⟨fun _ _ _ _ e => e, fun a ha => .inl (hM a ha)⟩)
  · exact h c M σ H ρ post D rfl rfl s hw d
/-- an own list handed to a call whose answer is flat -/
def looseK (post : Res PV → Prop) : Res PV → Prop
  | .ok p => (flatP p).isSome = true ∧ post (.ok p)
  | .er cn fs => post (.er cn fs)
def pLoose (i : Nat) (w : WE) : WE := fun ρ post => match ρ[i]? with
  | some (.own ps) => w (ρ.set i (.fz (.lst ps))) (looseK post)
  | _ => w ρ post
theorem Rep.flatAny {M M' : List Addr} {v : V} {p : PV} (h : Rep K M H v p) (e : (flatP p).isSome = true) : Rep K M' H v p := by
  cases h with
  | non => exact .non
  | bl b => exact .bl b
  | int i => exact .int i
  | str z => exact .str z
  | lst _ _ _ _ => cases e
  | tup _ _ _ _ => cases e
  | ktup _ _ _ => cases e
  | obj _ _ _ _ => cases e
theorem ev_loose (h : EvE K T E te w) : EvE K T E te (pLoose i w) := by
  rintro c M σ H ρ post Q rfl rfl s hw k e
  unfold pLoose at hw
  split at hw
  · rename_i ps hp
    obtain ⟨M', s', hM⟩ := s.freeze hp
    exact h c M' σ H _ _ _ rfl rfl s' hw (fun H' x p t r q => k H' x p t (r.flatAny q.1) q.2) (e.imp fun _ _ z => z)
  · exact h c M σ H ρ post Q rfl rfl s hw k e
end
end My
end

section
set_option Elab.async false
set_option maxRecDepth 100000
set_option maxHeartbeats 4000000
set_option linter.all false
namespace My
open PySem L2
/-- a tuple of values raised, by class -/
def sp_err (K : PySem.W.Frag) (cn : Str) (names : List Str) (ok : List V → Prop) : Sp := fun vs H Q _ => ∃ (a : Addr) (us : List V), vs = .ref a :: us ∧ us.length = names.length ∧ ok us ∧ H a = some (exo a (He.ga K cn) none) ∧
  ∀ dx, H dx = none → dx ≠ a → Q .non (upd (upd H dx (exd dx (names.zip us))) a (exo a (He.ga K cn) (some dx)))
section
variable {c : Cfg} {M : List Addr} {σ : L2.St} {H H' : Hp} {ρ : List SV} {K : PySem.W.Frag} {T : List (Addr × Str)} {E E' : XK} {te tf tg : TE} {w wa wb wc : WE} {tt tu : TT} {vt vu : WT} {ta tb : TA} {va vb : WA} {ca cb : WC} {i j n : Nat} {p : PV} {v : V} {b : Bool} {wd : WD} {ts us : TS} {ws wu : WS} {g : TG} {wg : WG} {ss : List Nat}
/-! ### x, y = e, f -/
def sPar (i j : Nat) (wa wb : WE) : WS := fun ρ post => wa ρ (erO post fun a => wb ρ (erO post fun b => post (.nx ((ρ.set i (.fz a)).set j (.fz b)))))
theorem es_par (ha : EvE K T E te wa) (hb : EvE K T E tf wb) : EvS K T E (tPar i j (tCons te (tCons tf tNil))) (sPar i j wa wb) := by
  rintro c M σ H ρ post D rfl rfl s hw d
  refine ha c M σ H ρ _ _ rfl rfl s hw (fun H1 x p t1 r1 h1 => ?_) d.er
  have s1 := s.stp t1
  refine hb c M σ H1 ρ _ _ rfl rfl s1 h1 (fun H2 y q t2 r2 h2 => ?_) d.er
  have s2 := s1.stp t2
  refine ⟨x, y, rfl, d.nx c M _ H2 _ (.refl c) ((s2.set i (.fz (s1.rep t2 r1)) rfl).set j (.fz r2) rfl) ((s.nxt t1).trans (s1.nxt t2)) h2⟩
/-! ### loops -/
def forW (wg : WG) (ws : WS) : List PV → List SV → (Out → Prop) → Prop
  | [], ρ, post => post (.nx ρ)
  | x :: xs, ρ, post => wg x ρ (erO post fun ρ1 => ws ρ1 fun o => match o with
    | .nx ρ2 => forW wg ws xs ρ2 post
    | .ct ρ2 => forW wg ws xs ρ2 post
    | .bk ρ2 => post (.nx ρ2)
    | .rt r => post (.rt r)
    | .er cn fs => post (.er cn fs))
def sFor (va : WA) (wg : WG) (ws : WS) : WS := fun ρ post => va ρ (erO post fun items => forW wg ws items ρ post)
theorem Stp.sameR (s : StR c M σ H ρ) (sm : Same H H') : Stp c H H' := ⟨fun x o _ _ e => sm x o e, s.tabs.ext (fun b u e => sm b u e), fun a b e => by
  obtain ⟨cs, i, r, m, n, d6, z1, z2, z3, z4⟩ := (s.bag a b e).1
  exact ⟨cs, i, r, m, n, d6, sm _ _ z1, z2, sm _ _ z3, z4⟩⟩
theorem es_for {wi : TI} (hi : EvI false K T E wi va) (hg : EvG K ss g wg) (hb : EvS K T E ts ws) : EvS K T E (tFor wi g ts) (sFor va wg ws) := by
  rintro c M σ H ρ post D rfl rfl s hw d
  refine hi c M σ H ρ _ _ rfl rfl s hw (fun H1 J items t1 it h1 => ?_) d.er
  obtain ⟨G, Y, wk, hG⟩ := it
  have s1 := s.stp t1
  have d1 := d.later (.refl c) (s.nxt t1)
  have rb : ∀ H2, RB false c H1 H2 := fun H2 z => by cases z
  refine for_it wk (fun i σ' H' => ∃ c' M' ρ', CEx c c' ∧ StR c' M' σ' H' ρ' ∧ Nxt M H1 M' H' ∧ forW wg ws (items.drop i) ρ' post) ⟨c, M, ρ, .refl c, s1, .refl M H1, h1⟩ ?_ ?_ ?_
  · rintro i σ2 H2 hil ⟨c', M', ρ', x, s', n', h⟩
    exact (hG M' H2 n' (rb H2)).1
  · rintro i x σ2 H2 H3 hil ⟨c', M', ρ', xc, s', n', h⟩ y
    obtain ⟨p, hp, sm, rp⟩ := (hG M' H2 n' (rb H2)).2 s'.dom i x H3 hil y
    have t3 := Stp.sameR s' sm
    have s3 := s'.stp t3
    have n3 := n'.trans (s'.nxt t3)
    have e4 : items.drop i = p :: items.drop (i + 1) := by
      rw [List.drop_eq_getElem_cons hil]
      congr 1
      rw [List.getElem?_eq_getElem hil] at hp
      exact Option.some.inj hp
    rw [e4] at h
    unfold forW at h
    refine hg c' M' σ2 H3 ρ' x p _ _ xc.K s3 (by rw [xc.K]; exact rp) h fun σ4 ρ4 s4 _ _ h4 => ?_
    dsimp only [erO] at h4
    refine hb c' M' σ4 H3 ρ4 _ _ xc.K xc.T s4 h4 ⟨?_, ?_, ?_, d1.rt.ex xc, d1.er.ex xc⟩
    · exact fun c5 M5 σ5 H5 ρ5 x5 s5 n5 h5 => ⟨c5, M5, ρ5, xc.trans x5, s5, n3.trans n5, h5⟩
    · exact fun c5 M5 σ5 H5 ρ5 x5 s5 n5 h5 => d1.nx c5 M5 σ5 H5 ρ5 (xc.trans x5) s5 (n3.trans n5) h5
    · exact fun c5 M5 σ5 H5 ρ5 x5 s5 n5 h5 => ⟨c5, M5, ρ5, xc.trans x5, s5, n3.trans n5, h5⟩
  · rintro σ2 H2 ⟨c', M', ρ', x, s', n', h⟩
    rw [List.drop_eq_nil_of_le (Nat.le_refl _)] at h
    exact d1.nx c' M' σ2 H2 ρ' x s' n' h
def whW (vt : WT) (ws : WS) : Nat → List SV → (Out → Prop) → Prop
  | 0, _, _ => False
  | n + 1, ρ, post => vt ρ (erO post fun d => if d = true then ws ρ (fun o => match o with
      | .nx ρ2 => whW vt ws n ρ2 post
      | .ct ρ2 => whW vt ws n ρ2 post
      | .bk ρ2 => post (.nx ρ2)
      | .rt r => post (.rt r)
      | .er cn fs => post (.er cn fs)) else post (.nx ρ))
def sWhile (vt : WT) (ws : WS) : WS := fun ρ post => ∃ n, whW vt ws n ρ post
theorem es_while (ht : EvT K T E tt vt) (hb : EvS K T E ts ws) : EvS K T E (tWhile tt ts) (sWhile vt ws) := by
  rintro c M σ H ρ post D rfl rfl s ⟨n, hw⟩ d
  refine ⟨fun m σ' H' => ∃ c' M' ρ', CEx c c' ∧ StR c' M' σ' H' ρ' ∧ Nxt M H M' H' ∧ whW vt ws m ρ' post, ⟨n, c, M, ρ, .refl c, s, .refl M H, hw⟩, ?_⟩
  rintro m σ2 H2 ⟨c', M', ρ', xc, s', n', h⟩
  cases m with
  | zero => exact h.elim
  | succ m =>
    unfold whW at h
    refine ht c' M' σ2 H2 ρ' _ _ xc.K xc.T s' h (fun H3 q t3 h3 => ?_) (d.er.ex xc)
    dsimp only [erO] at h3
    have s3 := s'.stp t3
    have n3 := n'.trans (s'.nxt t3)
    cases q with
    | false =>
      rw [if_neg Bool.false_ne_true] at h3 ⊢
      exact d.nx c' M' σ2 H3 ρ' xc s3 n3 h3
    | true =>
      rw [if_pos rfl] at h3 ⊢
      refine ⟨fun σ4 H4 => ∃ c' M' ρ', CEx c c' ∧ StR c' M' σ4 H4 ρ' ∧ Nxt M H M' H4 ∧ whW vt ws m ρ' post, fun σ4 H4 z => ⟨m, Nat.lt_succ_self m, z⟩, ?_⟩
      refine hb c' M' σ2 H3 ρ' _ _ xc.K xc.T s3 h3 ⟨?_, ?_, ?_, d.rt.ex xc, d.er.ex xc⟩
      · exact fun c5 M5 σ5 H5 ρ5 x5 s5 n5 h5 => ⟨c5, M5, ρ5, xc.trans x5, s5, n3.trans n5, h5⟩
      · exact fun c5 M5 σ5 H5 ρ5 x5 s5 n5 h5 => d.nx c5 M5 σ5 H5 ρ5 (xc.trans x5) s5 (n3.trans n5) h5
      · exact fun c5 M5 σ5 H5 ρ5 x5 s5 n5 h5 => ⟨c5, M5, ρ5, xc.trans x5, s5, n3.trans n5, h5⟩
/-! ### raise -/
theorem RepF.zip {xs : List V} {ps : List PV} : ∀ {names : List Str} {xs : List V} {ps : List PV}, RepL K M H xs ps → RepF K M H (names.zip xs) (names.zip ps)
  | [], _, _, _ => ⟨rfl, fun i x p h => by simp at h⟩
  | n :: ns, [], [], _ => ⟨rfl, fun i x p h => by simp at h⟩
  | n :: ns, [], p :: ps, h => by cases h.1
  | n :: ns, x :: xs, [], h => by cases h.1
  | n :: ns, x :: xs, p :: ps, h => by
    obtain ⟨e1, e2⟩ := RepF.zip (xs := xs) (ps := ps) (names := ns) h.tail
    refine ⟨by rw [List.zip_cons_cons, List.zip_cons_cons, List.map_cons, List.map_cons, e1], fun i y q h1 h2 => ?_⟩
    rw [List.zip_cons_cons] at h1 h2
    cases i with
    | zero => cases h1; cases h2; exact h.head
    | succ i => exact e2 i y q h1 h2
def sRaise (cn : Str) (names : List Str) (okP : List PV → Prop) (va : WA) : WS := fun ρ post => va ρ (erO post fun ps => ps.length = names.length ∧ ps.length ≤ 1000 ∧ okP ps ∧ post (.er cn (names.zip ps)))
theorem es_raise {cn : Str} {names : List Str} {ok : List V → Prop} {okP : List PV → Prop} (hok : ∀ M H xs ps, RepL K M H xs ps → okP ps → ok xs) (ha : EvA K T E ta va) : EvS K T E (tRaise (He.ga K cn) (sp_err K cn names ok) E ta) (sRaise cn names okP va) := by
  rintro c M σ H ρ post D rfl rfl s hw d
  refine ha c M σ H ρ _ _ rfl rfl s hw (fun H1 xs ps t1 r1 h1 => ?_) d.er
  obtain ⟨hl, hz, hokp, h1⟩ := h1
  have s1 := s.stp t1
  refine ⟨by rw [r1.1]; exact hz, fun a ha => ⟨a, xs, by rw [List.append_nil], r1.1.trans hl, hok _ _ _ _ r1 hokp, upd_same, fun dx hd hne => ⟨rfl, dx, names.zip xs, upd_same, (upd_ne hne).trans upd_same, (upd_ne hne).symm.trans hd, ?_⟩⟩⟩
  have hd' : H1 dx = none := (upd_ne hne).symm.trans hd
  have e : upd (del (upd (upd (upd H1 a (exo a (He.ga c.K cn) none)) dx (exd dx (names.zip xs))) a (exo a (He.ga c.K cn) (some dx))) a) dx (.xd (names.zip xs)) = upd H1 dx (.xd (names.zip xs)) := by
    funext b
    by_cases h1 : b = dx
    · rw [h1, upd_same, upd_same]
    · rw [upd_ne h1, upd_ne h1]
      by_cases h2 : b = a
      · rw [h2, del_same, ha]
      · rw [del_ne h2, upd_ne h2, upd_ne h1, upd_ne h2]
  rw [e]
  have t2 := t1.new (o := .xd (names.zip xs)) s hd'
  have rz := RepF.zip (names := names) (xs := xs) (ps := ps) r1
  refine d.er _ cn _ dx _ (s.stp t2).lv upd_same ((rz.nxt ⟨fun x o _ _ ex => by rw [upd_ne (ne_of_none ex hd')]; exact ex, fun b hb => .inl hb⟩).weak s.sub) h1
/-! ### self.f = e in an __init__ -/
def putP (f : Str) (v : PV) : List (Str × PV) → List (Str × PV)
  | [] => [(f, v)]
  | (g, x) :: r => if g = f then (g, v) :: r else (g, x) :: putP f v r
theorem RepF.put {f : Str} {x : V} {p : PV} (h : Rep K M H x p) : ∀ {vs : List (Str × V)} {fs : List (Str × PV)}, RepF K M H vs fs → RepF K M H (putF f x vs) (putP f p fs)
  | [], [], _ => ⟨rfl, fun i y q h1 h2 => by
      cases i with
      | zero => cases h1; cases h2; exact h
      | succ i => simp [putF] at h1⟩
  | [], q :: fs, r => by cases r.1
  | v :: vs, [], r => by cases r.1
  | (vn, vv) :: vs, (qn, qq) :: fs, r => by
    obtain ⟨r1, r2⟩ := r
    have hn : vn = qn := by simpa using (List.cons.inj r1).1
    cases hn
    have rt : RepF K M H vs fs := ⟨(List.cons.inj r1).2, fun i y q a b => r2 (i + 1) y q a b⟩
    unfold putF putP
    by_cases hf : vn = f
    · rw [if_pos hf, if_pos hf]
      refine ⟨by rw [List.map_cons, List.map_cons, rt.1], fun i y q h1 h2 => ?_⟩
      cases i with
      | zero => cases h1; cases h2; exact h
      | succ i => exact rt.2 i y q h1 h2
    · rw [if_neg hf, if_neg hf]
      obtain ⟨e1, e2⟩ := RepF.put h rt
      refine ⟨by rw [List.map_cons, List.map_cons, e1], fun i y q h1 h2 => ?_⟩
      cases i with
      | zero => cases h1; cases h2; exact r2 0 _ _ rfl rfl
      | succ i => exact e2 i y q h1 h2
def sFldW (at_ : List (Str × Str)) (i : Nat) (w : WE) (f : Str) : WS := fun ρ post => w ρ (erO post fun p => match ρ[i]? with
  | some (.ob C fs) => (C, f) ∈ at_ ∧ fs.length < 1000 ∧ post (.nx (ρ.set i (.ob C (putP f p fs))))
  | _ => False)
theorem es_fld {at_ : List (Str × Str)} {f : Str} (ka : KAt K at_) (h : EvE K T E te w) : EvS K T E (sFld K (tVar i) te f) (sFldW at_ i w f) := by
  rintro c M σ H ρ post D rfl rfl s hw d
  refine h c M σ H ρ _ _ rfl rfl s hw (fun H1 y p t1 r1 h1 => ?_) d.er
  have s1 := s.stp t1
  dsimp only [erO] at h1
  split at h1
  · rename_i C fs hp
    obtain ⟨hin, hl, h1⟩ := h1
    obtain ⟨o, e1, e2⟩ := s1.get hp
    cases e2 with
    | ob hm hb h0 hh hi =>
      rename_i a dx vs
      obtain ⟨k1, k2⟩ := ka _ hin
      have ex : Ext M H1 (upd H1 a (.ins (He.ga c.K C) dx (putF f y vs))) := fun x o n _ e => by rw [upd_ne (fun z => n (by rw [z]; exact hm))]; exact e
      refine ⟨_, e1, a, _, dx, vs, rfl, hh, k1, k2, by have := congrArg List.length hi.1; simp at this; omega, d.nx c M _ _ _ (.refl c) ?_ ((s.nxt t1).trans ex.nxt) h1⟩
      have i0 := hp
      refine ⟨fun x o n nt e => ?_, fun y hy => ?_, s1.sub, s1.mm, s1.d0, fun q hq => ?_, fun x y e => ⟨(s1.bag x y e).1.mut (hb x y e).1.symm (hb x y e).2.symm, (s1.bag x y e).2⟩, by simp [s1.len], fun j u t e3 e4 => ?_, fun j k b t u q1 q2 q3 q4 q5 q6 => ?_⟩
      · rw [upd_ne (fun z => n (by rw [z]; exact h0))]; exact s1.fr x o n nt e
      · by_cases z : y = a
        · subst z; exact ⟨_, upd_same, NT.ins⟩
        · obtain ⟨o, e, nt⟩ := s1.dom y hy
          exact ⟨o, (upd_ne z).trans e, nt⟩
      · obtain ⟨ps, z1, z2, z3⟩ := s1.tabs q hq
        refine ⟨ps, (upd_ne (fun z => by rw [z, hh] at z1; cases z1)).trans z1, z2, fun pos cv hc => ?_⟩
        obtain ⟨c', z4, z5⟩ := z3 pos cv hc
        exact ⟨c', z4, (upd_ne (fun z => by rw [z, hh] at z5; unfold LamX.CodeO at z5; cases z5)).trans z5⟩
      · by_cases e : i = j
        · subst e
          have hil : i < ρ.length := (List.getElem?_eq_some_iff.mp hp).1
          rw [List.getElem?_set_self hil] at e4
          rw [e1] at e3
          cases e3; cases e4
          exact .ob hm hb h0 upd_same ((RepF.put r1 hi).nxt ex.nxt)
        · rw [List.getElem?_set_ne e] at e4
          cases s1.slots j u t e3 e4 with
          | un => exact .un
          | fz h => exact .fz (h.ext ex)
          | own hm' hb' h0' h hi =>
            rename_i a' vs' ps'
            have na : a' ≠ a := fun z => e (s1.uniq i j a _ _ e1 (z ▸ e3) hp e4 rfl rfl)
            exact .own hm' hb' h0' ((upd_ne na).trans h) (hi.ext ex)
          | bag h => exact .bag h
          | ob hm' hb' h0' h hi =>
            rename_i a' dx C vs' ps'
            have na : a' ≠ a := fun z => e (s1.uniq i j a _ _ e1 (z ▸ e3) hp e4 rfl rfl)
            exact .ob hm' hb' h0' ((upd_ne na).trans h) (hi.nxt ex.nxt)
          | scr h => exact .scr (h.nxt ex.nxt)
          | ref => exact .ref
          | cel hm' hb' h0' h hi =>
            rename_i a' o' k'
            have na : a' ≠ a := fun z => e (s1.uniq i j a _ _ e1 (z ▸ e3) hp e4 rfl rfl)
            exact .cel hm' hb' h0' ((upd_ne na).trans h) (hi.nxt ex.nxt)
      · have tr : ∀ (m : Nat) (t : SV), (ρ.set i (.ob C (putP f p fs)))[m]? = some t → t.isOwn = true → ∃ t', ρ[m]? = some t' ∧ t'.isOwn = true := fun m t q1 q2 => by
          by_cases z : i = m
          · subst z; exact ⟨_, hp, rfl⟩
          · rw [List.getElem?_set_ne z] at q1; exact ⟨t, q1, q2⟩
        obtain ⟨t', z1, z2⟩ := tr j t q3 q5
        obtain ⟨u', z3, z4⟩ := tr k u q4 q6
        exact s1.uniq j k b t' u' q1 q2 z1 z3 z2 z4
  · exact h1.elim
/-! ### whole defs -/
def retD (post : Res RV → Prop) : Out → Prop
  | .rt r => post (.ok r)
  | .nx _ => post (.ok (.fz .non))
  | .er cn fs => post (.er cn fs)
  | _ => False
def bodyW (m : Nat) (w : WS) : WD := fun as post => w (as ++ List.replicate (m - as.length) .un) (retD post)
theorem ent_st {c : Cfg} {H : Hp} {vs : List V} {as : List SV} {N : List Str} (e : Ent c H vs as) : StR c c.M0 (L2.start N vs) H (as ++ List.replicate (N.length - as.length) .un) where
  fr := fun x o _ _ h => by rw [← e.h0]; exact h
  dom := e.dom
  sub := fun _ h => h
  mm := fun a h => by obtain ⟨b, hb⟩ := e.m a h; exact (e.bag a b hb).2.1
  d0 := fun a h => by rw [e.h0]; exact e.dom a h
  tabs := e.tabs
  bag := fun a b h => ⟨(e.bag a b h).1, (e.bag a b h).2.1, (e.bag a b h).2.2.1, .inl (e.bag a b h).2.2.2⟩
  len := by unfold L2.start; simp [e.args.len]
  slots := fun i o s h1 h2 => by
    by_cases hi : i < as.length
    · rw [List.getElem?_append_left hi] at h2
      unfold L2.start at h1
      rw [List.getElem?_append_left (by rw [List.length_map, e.args.len]; exact hi), List.getElem?_map] at h1
      cases hv : vs[i]? with
      | none => rw [hv] at h1; cases h1
      | some v => rw [hv] at h1; cases h1; exact (e.args.at_ i v s hv h2).1
    · rw [List.getElem?_append_right (by omega)] at h2
      have := List.mem_of_getElem? h2
      rw [List.mem_replicate] at this
      rw [this.2]; exact .un
  uniq := fun j k b t u h1 h2 h3 h4 h5 h6 => by
    have no : ∀ (m : Nat) (t : SV), (as ++ List.replicate (N.length - as.length) SV.un)[m]? = some t → t.isOwn = true → False := fun m t q1 q2 => by
      by_cases hi : m < as.length
      · rw [List.getElem?_append_left hi] at q1
        have := (e.args.at_ m (vs[m]'(by rw [e.args.len]; exact hi)) t (by simp) q1).2
        rw [this] at q2; cases q2
      · rw [List.getElem?_append_right (by omega)] at q1
        have := List.mem_of_getElem? q1
        rw [List.mem_replicate] at this
        rw [this.2] at q2; cases q2
    exact (no j t h3 h5).elim
theorem spP_run {N : List Str} {vs : List V} {Q : VK} (hS : EvS K T E ts ws) (h : SpP K T n (bodyW N.length ws) vs H Q E) : ts { nx := fun _ H' => Q .non H', rt := Q } (L2.start N vs) H := by
  obtain ⟨c, as, post, rfl, rfl, hl, e, hw, rt, er⟩ := h
  refine hS c c.M0 (L2.start N vs) H _ (retD post) _ rfl rfl (ent_st e) hw ⟨?_, fun c' M' σ' H' ρ' x s k h => h.elim, fun c' M' σ' H' ρ' x s k h => h.elim, ?_, er⟩
  · exact fun c' M' σ' H' ρ' x s k h => rt.fz H' _ _ (s.lv.back x) .non h
  · exact ⟨fun H' v p l r h => rt.fz H' v p l r h, fun H' a vs ps l f hx r h => rt.own H' a vs ps l f hx r h⟩
theorem spP_len {N : List Str} {vs : List V} {Q : VK} (h : SpP K T n wd vs H Q E) : vs.length = n := by obtain ⟨c, as, post, _, _, h, _⟩ := h; exact h
/-- an __init__ -/
def bodyN (C : Str) (m : Nat) (w : WS) : WN := fun as post => w (SV.ob C [] :: as ++ List.replicate (m - (as.length + 1)) SV.un) fun o => match o with
  | .nx ρ => match ρ[0]? with
    | some (SV.ob C' fs) => C' = C ∧ post (.ok fs)
    | _ => False
  | .er cn fs => post (.er cn fs)
  | _ => False
theorem spN_run {C : Str} {N : List Str} {vs : List V} {Q : VK} (hS : EvS K T E ts ws) (h : SpN K T C n (bodyN C N.length ws) vs H Q E) : ts { nx := fun _ H' => Q .non H', rt := Q } (L2.start N vs) H := by
  obtain ⟨c, as, post, x, dx, us, rfl, rfl, rfl, hl, h0, tb, dom, hB, hm, hx0, hx, ar, hw, rt, er⟩ := h
  have st : StR c c.M0 (L2.start N (.ref x :: us)) H (SV.ob C [] :: as ++ List.replicate (N.length - (as.length + 1)) SV.un) := by
    refine ⟨fun x o _ _ h => by rw [← h0]; exact h, dom, fun _ h => h, fun a h => by rw [hm] at h; rw [List.mem_singleton.mp h]; exact hx0, fun a h => by rw [h0]; exact dom a h, tb, fun a b e => (by rw [hB] at e; cases e), by unfold L2.start; simp [ar.len], fun i o s h1 h2 => ?_, fun j k b t u h1 h2 h3 h4 h5 h6 => ?_⟩
    · cases i with
      | zero =>
        cases h1; cases h2
        exact .ob hx0 (fun a b e => by rw [hB] at e; cases e) (by rw [hm]; exact List.mem_singleton.mpr rfl) hx ⟨rfl, fun i y q h => by simp at h⟩
      | succ i =>
        have h2 : (as ++ List.replicate (N.length - (as.length + 1)) SV.un)[i]? = some s := h2
        have h1 : (us.map some ++ List.replicate (N.length - (us.length + 1)) none)[i]? = some o := h1
        by_cases hi : i < as.length
        · rw [List.getElem?_append_left hi] at h2
          rw [List.getElem?_append_left (by rw [List.length_map, ar.len]; exact hi), List.getElem?_map] at h1
          cases hv : us[i]? with
          | none => rw [hv] at h1; cases h1
          | some v => rw [hv] at h1; cases h1; exact (ar.at_ i v s hv h2).1
        · rw [List.getElem?_append_right (by omega)] at h2
          have := List.mem_of_getElem? h2
          rw [List.mem_replicate] at this
          rw [this.2]; exact .un
    · have no : ∀ (m : Nat) (t : SV), (SV.ob C [] :: as ++ List.replicate (N.length - (as.length + 1)) SV.un : List SV)[m]? = some t → t.isOwn = true → m = 0 := fun m t q1 q2 => by
        cases m with
        | zero => rfl
        | succ m =>
          have q1 : (as ++ List.replicate (N.length - (as.length + 1)) SV.un)[m]? = some t := q1
          by_cases hi : m < as.length
          · rw [List.getElem?_append_left hi] at q1
            have := (ar.at_ m (us[m]'(by rw [ar.len]; exact hi)) t (by simp) q1).2
            rw [this] at q2; cases q2
          · rw [List.getElem?_append_right (by omega)] at q1
            have := List.mem_of_getElem? q1
            rw [List.mem_replicate] at this
            rw [this.2] at q2; cases q2
      rw [no j t h3 h5, no k u h4 h6]
  refine hS c c.M0 _ H _ _ _ rfl rfl st hw ⟨?_, fun c' M' σ' H' ρ' x s k h => h.elim, fun c' M' σ' H' ρ' x s k h => h.elim, ⟨fun _ _ _ _ _ h => h.elim, fun _ _ _ _ _ _ _ _ h => h.elim⟩, er⟩
  intro c' M' σ' H' ρ' y s k h
  dsimp only at h
  split at h
  · rename_i C' fs hp
    obtain ⟨rfl, h⟩ := h
    obtain ⟨o, e1, e2⟩ := s.get hp
    cases e2 with
    | ob hm' hb h0' hh hi =>
      rw [y.m, hm] at h0'
      have := List.mem_singleton.mp h0'
      subst this
      rw [y.K] at hh hi
      exact rt H' _ _ fs (s.lv.back y) hh (hi.weak fun b hb => s.sub b (by rw [y.M0]; exact hb)) h
  · exact h.elim
theorem spN_len {C : Str} {wn : WN} {vs : List V} {Q : VK} (h : SpN K T C n wn vs H Q E) : vs.length = n + 1 := by obtain ⟨c, as, post, x, dx, us, _, _, rfl, h, _⟩ := h; rw [List.length_cons, h]
end
end My
end

section
set_option Elab.async false
set_option maxRecDepth 100000
set_option maxHeartbeats 4000000
set_option linter.all false
namespace My
open PySem L2
section
variable {c : Cfg} {M : List Addr} {σ : L2.St} {H H' : Hp} {ρ : List SV} {K : PySem.W.Frag} {T : List (Addr × Str)} {E E' : XK} {te tf tg : TE} {w wa wb wc : WE} {tt tu : TT} {vt vu : WT} {ta tb : TA} {va vb : WA} {ca cb : WC} {i j n : Nat} {p : PV} {v : V} {b : Bool} {wd : WD} {ts us : TS} {ws wu : WS} {g : TG} {wg : WG} {ss : List Nat}
/-! ### isinstance, built-in classes -/
def tyP : PV → Option String
  | .non => some "NoneType"
  | .bl _ => some "bool"
  | .int _ => some "int"
  | .str _ => some "str"
  | .lst _ => some "list"
  | .tup _ => some "tuple"
  | .obj _ _ => none
theorem Bor.ty {t : String} (s : StR c M σ H ρ) (h : Bor c M H v p) (e : tyP p = some t) : TyX c.K H v (.type t) := by
  cases p with
  | non => cases h.nonI; cases e; exact .base .non
  | bl b => cases h.blI; cases e; exact .base (.bl _)
  | int i => cases h.intI; cases e; exact .base (.int _)
  | str z => cases h.strI; cases e; exact .base (.str _)
  | lst ps =>
    obtain ⟨a, xs, rfl, h1, _⟩ := h.lstI s
    cases e; exact .base (.lst h1)
  | tup ps =>
    cases h with
    | rep h =>
      cases h with
      | tup hm h hl hi => cases e; exact .base (.tup h)
      | ktup h hl hi =>
        cases e
        rcases h (fun _ => none) with z | ⟨o, its, n, z1, z2, _⟩
        · rcases z with z | ⟨_, z⟩ <;> cases z
        · exact .kTuple z1 z2
  | obj a b => cases e
def tys : List String := ["NoneType", "bool", "int", "str", "list", "tuple"]
def isTy (t u : String) : Bool := t == u || (t == "bool" && u == "int")
theorem kit_ty : ∀ t ∈ tys, ∀ u ∈ tys, PySem.W.kitOne K (.type t) (.type u) = some (isTy t u) := by
  intro t ht u hu
  simp only [tys, List.mem_cons, List.not_mem_nil, or_false] at ht hu
  rcases ht with rfl | rfl | rfl | rfl | rfl | rfl <;> rcases hu with rfl | rfl | rfl | rfl | rfl | rfl <;> rfl
theorem tyP_mem {t : String} (h : tyP p = some t) : t ∈ tys := by
  cases p <;> first | (cases h; done) | (cases h; decide)
def pIsi (u : String) (w : WE) : WE := fun ρ => bindR w (fun a post => match tyP a with
  | some t => post (.ok (.bl (isTy t u)))
  | none => False) ρ
theorem ev_isi {u : String} (hu : u ∈ tys) (h : EvB K T E te w) : EvE K T E (tCB (rIsi K) (tCons te (tCons (tC (.ty u)) tNil))) (pIsi u w) := by
  rintro c M σ H ρ post Q rfl rfl s hw k e
  refine h c M σ H ρ _ _ rfl rfl s hw (fun H1 x p t1 r1 h1 => ?_) (e.imp fun _ _ z => z)
  dsimp only at h1
  split at h1
  · rename_i t ht
    exact x_isi (ClsV.ty u) (r1.ty (s.stp t1) ht) (kit_ty t (tyP_mem ht) u hu) (k H1 _ _ t1 (.bl _) h1)
  · exact h1.elim
/-! ### a lambda whose error is told -/
def SV.hide : SV → SV
  | .own _ => .un
  | .ob _ _ => .un
  | .cel _ => .un
  | s => s
theorem StR.inner (s : StR c M σ H ρ) : StR (c.sub M H) M σ H (ρ.map SV.hide) where
  fr := fun _ _ _ _ h => h
  dom := s.dom
  sub := fun _ h => h
  mm := fun a h => by obtain ⟨b, e⟩ := sub_m.mp h; exact (s.bag a b e).2.1
  d0 := s.dom
  tabs := s.tabs
  bag := fun a b e => ⟨(s.bag a b e).1, (s.bag a b e).2.1, (s.bag a b e).2.2.1, .inl (sub_m.mpr ⟨b, e⟩)⟩
  len := by rw [List.length_map]; exact s.len
  slots := fun i o q h1 h2 => by
    rw [List.getElem?_map] at h2
    cases hq : ρ[i]? with
    | none => rw [hq] at h2; cases h2
    | some q0 =>
      rw [hq] at h2
      cases h2
      cases s.slots i o q0 h1 hq with
      | un => exact .un
      | fz h => exact .fz h
      | own _ _ _ _ _ => exact .un
      | bag h => exact .bag h
      | ob _ _ _ _ _ => exact .un
      | scr h => exact .scr h
      | ref => exact .ref
      | cel _ _ _ _ _ => exact .un
  uniq := fun j k b t u h1 h2 h3 h4 h5 h6 => by
    rw [List.getElem?_map] at h3
    cases hq : ρ[j]? with
    | none => rw [hq] at h3; cases h3
    | some q0 => rw [hq] at h3; cases h3; cases q0 <;> cases h5
/-- what is told of an error -/
abbrev ErTab : Type := Str → List (Str × PV) → Option PV
def pSaid (et : ErTab) (w : WE) : WE := fun ρ post => w (ρ.map SV.hide) fun r => match r with
  | .ok p => post (.ok (.lst [.str "told", p]))
  | .er cn fs => ∃ l, et cn fs = some l ∧ post (.ok l)
/-- how the def that tells an error is known -/
def TellX (K : PySem.W.Frag) (cs : List Value) (spX : SpX) (et : ErTab) : Prop := ∀ cn fs l, et cn fs = some l → PySem.W.exmAny K (.ref (He.ga K cn)) cs = some true ∧
  ∀ (M : List Addr) (H : Hp) (a dd : Addr) (vs : List (Str × V)) (Q : VK), (∀ b ∈ M, ∃ o, H b = some o ∧ NT o) → H dd = some (.xd vs) → RepF K M H vs fs → H a = none → (∀ H' x, Same H H' → Rep K M H' x l → Q x H') → spX a (.ref (He.ga K cn)) (some dd) [.ref a] H Q C8.E0
theorem ev_said {cs : List Value} {spX : SpX} {et : ErTab} {t : XK → TE} (tx : TellX K cs spX et) (h : ∀ E, EvE K T E (t E) w) : EvE K T E (LamX.tLam T (TSaid K cs spX) t) (pSaid et w) := by
  rintro c M σ H ρ post Q rfl rfl s hw k e
  refine ⟨s.tabs, fun H1 x1 tb1 => ?_⟩
  have t1 : Stp c H H1 := ⟨fun x o _ nt ex => x1 x o ex nt, tb1, fun a b eb => by
    obtain ⟨cs, i, r, m, n, d6, z1, z2, z3, z4⟩ := (s.bag a b eb).1
    exact ⟨cs, i, r, m, n, d6, x1 _ _ z1 NT.lst, z2, x1 _ _ z3 NT.lst, z4⟩⟩
  have s1 := s.stp t1
  have s2 := s1.inner
  refine ⟨fun cls d H' => ∃ cn fs l dd vs, cls = .ref (He.ga c.K cn) ∧ d = some dd ∧ et cn fs = some l ∧ Stp c H1 H' ∧ H' dd = some (.xd vs) ∧ RepF c.K M H' vs fs ∧ post (.ok l), ?_, ?_⟩
  · rintro cls d H' ⟨cn, fs, l, dd, vs, rfl, rfl, el, t2, hd, rf, hp⟩
    obtain ⟨x2, x3⟩ := tx cn fs l el
    have s3 := s1.stp t2
    refine ⟨x2, fun a ha => x3 M H' a dd vs Q s3.dom hd rf ha fun H2 x sm r => ?_⟩
    exact k H2 x l (t1.trans (t2.trans (Stp.sameR s3 sm))) r hp
  · refine h _ (c.sub M H1) M σ H1 _ _ _ rfl rfl s2 hw (fun H2 x p t2 r h2 => ?_) (fun H' cn fs dd vs l hd rf h2 => ?_)
    · have t3 : Stp c H1 H2 := s1.left (s2.stp t2).lv
      have s3 := s1.stp t3
      refine ⟨szM (by show 2 ≤ 1000000; decide), fun q hq => ?_⟩
      have t4 := (Stp.refl s3).new (o := .lst [.str "told", x]) s3 hq
      have r2 : RepL c.K M H2 [.str "told", x] [.str "told", p] := .cons (.str _) (.cons r .nil)
      have r3 := r2.ext (H' := upd H2 q (.lst [.str "told", x])) (fun x o _ _ ex => by rw [upd_ne (ne_of_none ex hq)]; exact ex)
      exact k _ _ _ (t1.trans (t3.trans t4)) (.lst (s3.notIn (.none hq)) upd_same r3.1 r3.2) h2
    · obtain ⟨l', h3, h4⟩ := h2
      exact ⟨cn, fs, l', dd, vs, rfl, rfl, h3, s1.left l, hd, rf, h4⟩
/-! ### what is drawn -/
def wDraw : WD := fun as post => match as with
  | [.bag, .fz (.int L)] => 0 < L ∧ L < 1073741824 ∧ ∀ d, 0 ≤ d → d < L → post (.ok (.fz (.int d)))
  | _ => False
theorem tabs_sbP {T : List (Addr × Str)} {b c : Addr} {H H' : Hp} (h : LamX.Tabs T H) (g : BagAt b c H) (s : Sb b H H') : LamX.Tabs T H' := by
  obtain ⟨_, _, _, _, _, _, g1, _⟩ := g
  intro p hp
  obtain ⟨ps, h1, h2, h3⟩ := h p hp
  refine ⟨ps, s _ _ (fun e => by rw [e, g1] at h1; cases h1) h1, h2, fun pos cv hc => ?_⟩
  obtain ⟨c', e1, e2⟩ := h3 pos cv hc
  refine ⟨c', e1, s _ _ (fun e => ?_) e2⟩
  rw [e, g1] at e2
  have z : HO.lst _ = HO.ext _ := Option.some.inj e2
  cases z
def sp__law_bag (K : PySem.W.Frag) : Sp := fun vs H Q _ => ∃ (s : Addr) (ns : List Int), vs = [.ref s] ∧ SqL K H s (ns.map V.int) ∧ ns.length ≤ 63 ∧ ∀ H' a c, H a = none → H c = none → Same H H' → BagAt a c H' → Q (.ref a) H'
def sm__law_draw (K : PySem.W.Frag) : Sp := fun vs H Q _ => ∃ a c L, vs = [.ref a, .int L] ∧ BagAt a c H ∧ 0 < L ∧ L < 1073741824 ∧ ∀ H' d, Sb a H H' → BagAt a c H' → 0 ≤ d → d < L → Q (.int d) H'
theorem draw_imp {vs : List V} {Q : VK} {E' : XK} (h : SpP K T 2 wDraw vs H Q E) : sm__law_draw K vs H Q E' := by
  obtain ⟨c, as, post, rfl, rfl, hl, e, hw, rt, er⟩ := h
  unfold wDraw at hw
  split at hw
  · rename_i L
    obtain ⟨L0, L1, hw⟩ := hw
    match vs, hl with
    | [x, y], _ =>
      have a1 := (e.args.at_ 0 x _ rfl rfl).1
      have a2 := (e.args.at_ 1 y _ rfl rfl).1
      cases a2 with
      | fz r =>
        cases r
        have hx : ∃ a b, c.B = some (a, b) ∧ x = .ref a := by
          cases a1 with
          | bag hB => exact ⟨_, _, hB, rfl⟩
        · obtain ⟨a, b, hB, rfl⟩ := hx
          obtain ⟨bg, m1, m2, m3⟩ := e.bag a b hB
          refine ⟨a, b, L, rfl, bg, L0, L1, fun H' d sb bg' d0 d1 => rt.fz H' _ _ ⟨fun x o n nt ex => sb x o (fun z => n (by rw [z]; exact m3)) (e.h0 ▸ ex), tabs_sbP e.tabs bg sb, fun a' b' eb => ?_⟩ (.int _) (hw d d0 d1)⟩
          rw [hB] at eb
          cases eb
          exact bg'
  · exact hw.elim
/-- law: the bag is made first -/
theorem law_bag {N : List Str} {a : Addr} {ns : List Int} {Q : VK} (hN : N.length = n + 2) (hS : EvS K T E0 ts ws) (hs : SqL K H a (ns.map V.int)) (hl : ns.length ≤ 63) (tb : LamX.Tabs T H)
    (hw : ws (.scr ns :: .bag :: List.replicate n .un) (fun o => match o with | .rt (.fz p) => p = .bl true | _ => False)) (q : ∀ H', Q (.bl true) H') :
    tSeq (tAsg (tCall (sp__law_bag K) [] E0 (tCons (tVar 0) tNil)) (gName 1)) ts { nx := fun _ H' => Q .non H', rt := Q } (L2.start N [.ref a]) H := by
  refine s_seq (s_asg (e_call (a_cons ⟨.ref a, rfl, a_nil ⟨a, ns, rfl, hs, hl, fun H1 x y hx hy sm bg => g_name ?_⟩⟩)))
  have e0 : (L2.start N [V.ref a]).set 1 (some (.ref x)) = some (.ref a) :: some (.ref x) :: List.replicate n none := by
    unfold L2.start
    rw [hN]
    rfl
  rw [e0]
  have scr0 := ScrAt.of hs
  have n1 : Nxt [] H [x, y] H1 := ⟨fun z o _ _ e => sm z o e, fun z hz => by
    rcases List.mem_cons.mp hz with q | q
    · exact .inr (q ▸ .none hx)
    · rw [List.mem_singleton.mp q]; exact .inr (.none hy)⟩
  have st : StR ⟨K, T, H, [], [], some (x, y)⟩ [x, y] (some (.ref a) :: some (.ref x) :: List.replicate n none) H1 (.scr ns :: .bag :: List.replicate n .un) := by
    refine ⟨fun z o _ _ e => sm z o e, fun z hz => ?_, fun _ h => (by simp at h), fun _ h => (by simp at h), fun _ h => (by simp at h), tb.ext (fun b u e => sm b u e), fun u v e => ?_, by simp, fun i o s h1 h2 => ?_, fun j k b t u h1 h2 h3 h4 h5 h6 => ?_⟩
    · obtain ⟨cs, i, r, m, n, d6, z1, z2, z3, z4⟩ := bg
      rcases List.mem_cons.mp hz with q | q
      · exact ⟨_, q ▸ z1, NT.lst⟩
      · rw [List.mem_singleton.mp q]; exact ⟨_, z3, NT.lst⟩
    · cases e; exact ⟨bg, by simp, by simp, .inr (.none hx)⟩
    · match i with
      | 0 => cases h1; cases h2; exact .scr (scr0.nxt n1)
      | 1 => cases h1; cases h2; exact .bag rfl
      | i + 2 =>
        have h2 : (List.replicate n SV.un)[i]? = some s := h2
        have := List.mem_of_getElem? h2
        rw [List.mem_replicate] at this
        rw [this.2]; exact .un
    · match j with
      | 0 => cases h3; cases h5
      | 1 => cases h3; cases h5
      | j + 2 =>
        have h3 : (List.replicate n SV.un)[j]? = some t := h3
        have := List.mem_of_getElem? h3
        rw [List.mem_replicate] at this
        rw [this.2] at h5; cases h5
  refine hS _ [x, y] _ H1 _ _ _ rfl rfl st hw ⟨fun c' M' σ' H' ρ' x s k h => h.elim, fun c' M' σ' H' ρ' x s k h => h.elim, fun c' M' σ' H' ρ' x s k h => h.elim, ⟨fun H' v p l r h => ?_, fun H' a vs ps l f hx r h => h.elim⟩, fun _ _ _ _ _ _ _ _ h => h.elim⟩
  have h : p = .bl true := h
  subst h
  cases r
  exact q H'
end
end My
end

section
set_option Elab.async false
set_option maxRecDepth 100000
set_option maxHeartbeats 4000000
set_option linter.all false
/-! calls: every def may raise (its context is L2.CX) -/
namespace My
open PySem PySem.Spec PySem.Calls PyProof.Rows L2
structure CalZ (P : Program) (w : World) (K : PySem.W.Frag) (mg : Str → Option Value) (base : Heap) (k : Nat) (x : Str) (ps : List Str) (dvs : List V) (sp : Sp) : Prop where
  ex : ∃ f fd ds, FnOk P w K mg base (L2.CX P w) k f fd ps sp ∧ mg x = some (.ref f) ∧ PySem.W.keepIn K (.ref f) = true ∧ Binds K fd ps ds ∧ Vals dvs ds
structure CalZK (P : Program) (w : World) (K : PySem.W.Frag) (mg : Str → Option Value) (base : Heap) (k : Nat) (x : Str) (ps : List Str) (n : Nat) (ks : List Str) (gV : List V → List V → List V) (sp : Sp) : Prop where
  ex : ∃ f fd g, FnOk P w K mg base (L2.CX P w) k f fd ps sp ∧ mg x = some (.ref f) ∧ PySem.W.keepIn K (.ref f) = true ∧ KBn K fd ps n ks g gV
structure CalZM (P : Program) (w : World) (K : PySem.W.Frag) (mg : Str → Option Value) (base : Heap) (k : Nat) (C : Addr) (m : Str) (ps : List Str) (dvs : List V) (sp : Sp) : Prop where
  ex : ∃ f fd ds, Cls K C ∧ Meth K C m f ∧ FnOk P w K mg base (L2.CX P w) k f fd ps sp ∧ Binds K fd ps ds ∧ Vals dvs ds
structure CalZS (P : Program) (w : World) (K : PySem.W.Frag) (mg : Str → Option Value) (base : Heap) (k : Nat) (C : Addr) (m : Str) (ps : List Str) (sp : Sp) : Prop where
  ex : ∃ mc p g fd, ClX.CRead K C mc ∧ SMet K C mc m p g ∧ FnOk P w K mg base (L2.CX P w) k g fd ps sp ∧ Binds K fd ps []
structure CalZI (P : Program) (w : World) (K : PySem.W.Frag) (mg : Str → Option Value) (base : Heap) (k : Nat) (x : Str) (C : Addr) (ps : List Str) (sp : Sp) : Prop where
  ex : ∃ f fd, Mk K C f ∧ FnOk P w K mg base (L2.CX P w) k f fd ps sp ∧ mg x = some (.ref C) ∧ Binds K fd ps []
structure CalZL (P : Program) (w : World) (K : PySem.W.Frag) (mg : Str → Option Value) (base : Heap) (k : Nat) (C : Addr) (sp : Sp) : Prop where
  ex : ∃ f fd ps, LenOwn K C f ∧ FnOk P w K mg base (L2.CX P w) k f fd ps sp ∧ Binds K fd ps []
section
variable {P : Program} {w : World} {K : PySem.W.Frag} {mg : Str → Option Value} {base : Heap} {j k n : Nat} {x m : Str} {C : Addr} {ps ks : List Str} {dvs : List V} {sp : Sp} {gV : List V → List V → List V}
theorem CalZ.mono (c : CalZ P w K mg base j x ps dvs sp) (h : j ≤ k) : CalZ P w K mg base k x ps dvs sp := let ⟨f, fd, ds, F, r⟩ := c.ex; ⟨f, fd, ds, F.mono h, r⟩
theorem CalZK.mono (c : CalZK P w K mg base j x ps n ks gV sp) (h : j ≤ k) : CalZK P w K mg base k x ps n ks gV sp := let ⟨f, fd, g, F, r⟩ := c.ex; ⟨f, fd, g, F.mono h, r⟩
theorem CalZM.mono (c : CalZM P w K mg base j C m ps dvs sp) (h : j ≤ k) : CalZM P w K mg base k C m ps dvs sp := let ⟨f, fd, ds, a, b, F, r⟩ := c.ex; ⟨f, fd, ds, a, b, F.mono h, r⟩
theorem CalZS.mono (c : CalZS P w K mg base j C m ps sp) (h : j ≤ k) : CalZS P w K mg base k C m ps sp := let ⟨mc, p, g, fd, a, b, F, r⟩ := c.ex; ⟨mc, p, g, fd, a, b, F.mono h, r⟩
theorem CalZI.mono (c : CalZI P w K mg base j x C ps sp) (h : j ≤ k) : CalZI P w K mg base k x C ps sp := let ⟨f, fd, a, F, r⟩ := c.ex; ⟨f, fd, a, F.mono h, r⟩
theorem CalZL.mono (c : CalZL P w K mg base j C sp) (h : j ≤ k) : CalZL P w K mg base k C sp := let ⟨f, fd, ps, a, F, r⟩ := c.ex; ⟨f, fd, ps, a, F.mono h, r⟩
end
section
variable {X : Cx} {k n : Nat} {x m : Str} {C : Addr} {ps ks : List Str} {dvs : List V} {sp : Sp} {gV : List V → List V → List V} {E : XK} {p pos apos rpos : Pos} {o e : Expr} {es : List Expr} {ta : TE} {t tk : TA} {kws : List Keyword}
theorem pe_callZ (c : CalZ X.prog X.w X.K X.mg X.base k x ps dvs sp) (hx : Passes (L2.CX X.prog X.w) X E) (hr : Room k X.A) (hg : Gl X x) (ha : PA X (e :: es) t) (hdb : (x == ("__debug__" : Str)) = false := by decide)
    (he : starEach (e :: es) X.env = (false, eval e X.env) :: starEach es X.env := by rfl) (hpl : (backTo pos (starEach es X.env)).any (·.1) = false := by rfl) : PE X (.Call (.Name x p) (e :: es) [] pos) (tCall sp dvs E t) := by
  obtain ⟨f, fd, ds, F, hm, hk, hb, hd⟩ := c.ex
  exact pe_call F hr hg hm hk hb hd hx ha hdb he hpl
theorem pe_callZ0 (c : CalZ X.prog X.w X.K X.mg X.base k x ps dvs sp) (hx : Passes (L2.CX X.prog X.w) X E) (hr : Room k X.A) (hg : Gl X x) (hdb : (x == ("__debug__" : Str)) = false := by decide) : PE X (.Call (.Name x p) [] [] pos) (tCall sp dvs E tNil) := by
  obtain ⟨f, fd, ds, F, hm, hk, hb, hd⟩ := c.ex
  exact pe_call0 F hr hg hm hk hb hd hx hdb
theorem pe_callZK (c : CalZK X.prog X.w X.K X.mg X.base k x ps n ks gV sp) (hx : Passes (L2.CX X.prog X.w) X E) (hr : Room k X.A) (hg : Gl X x) (ha : PA X (e :: es) t) (hkw : PK X kws tk) (hall : (backToKw pos (keywordEach kws X.env)).all (·.1.isSome) = true := by rfl)
    (hks : (backToKw pos (keywordEach kws X.env)).filterMap (·.1) = ks := by rfl) (hdb : (x == ("__debug__" : Str)) = false := by decide) (he : starEach (e :: es) X.env = (false, eval e X.env) :: starEach es X.env := by rfl)
    (hpl : ((backTo pos (starEach (e :: es) X.env)).any (·.1) || (backToKw pos (keywordEach kws X.env)).any (·.1.isNone)) = false := by rfl) : PE X (.Call (.Name x p) (e :: es) kws pos) (tCallN n ks.length sp gV E t tk) := by
  obtain ⟨f, fd, g, F, hm, hk, hb⟩ := c.ex
  exact pe_callN F hr hg hm hk hb hx ha hkw hall hks hdb he hpl
/-- f(k = v, ..) -/
theorem pe_callZK0 (c : CalZK X.prog X.w X.K X.mg X.base k x ps 0 ks gV sp) (hx : Passes (L2.CX X.prog X.w) X E) (hr : Room k X.A) (hg : Gl X x) (hkw : PK X kws tk) (hall : (backToKw pos (keywordEach kws X.env)).all (·.1.isSome) = true := by rfl)
    (hks : (backToKw pos (keywordEach kws X.env)).filterMap (·.1) = ks := by rfl) (hdb : (x == ("__debug__" : Str)) = false := by decide)
    (hpl : ((backTo pos (starEach [] X.env)).any (·.1) || (backToKw pos (keywordEach kws X.env)).any (·.1.isNone)) = false := by rfl) : PE X (.Call (.Name x p) [] kws pos) (tCallN 0 ks.length sp gV E tNil tk) := by
  obtain ⟨f, fd, g, F, hm, hk, hb⟩ := c.ex
  refine ⟨fun pins s σ H Q I h => ?_⟩
  refine wpAny_Call_Name_kw (ld_glob I hg hm ?_ hdb)
  refine PySem.W.callWith_KW0 (h₀ := X.base) I.ok.mod.kin hk hall (thn (hkw.run pos pins s σ H _ I h) fun ws s2 ⟨zs, H2, I2, rz, l1, l2, q2⟩ => ⟨I2.kIn, ?_⟩) hpl
  rw [hks]
  exact run_fnN (us := []) (vs := []) F hr hb hx I2 .nil rz l1 l2 q2
theorem pe_methZ {pl : Sem Bool} (c : CalZM X.prog X.w X.K X.mg X.base k C m ps dvs sp) (hx : Passes (L2.CX X.prog X.w) X E) (hr : Room k X.A) (ho : PE X o ta) (ha : PA X (e :: es) t)
    (hst : starEach (e :: es) X.env = (false, eval e X.env) :: starEach es X.env := by rfl) (hpl : (backTo pos (starEach es X.env)).any (·.1) = false := by rfl)
    (ht : eval (.Call (.Attribute o m apos) (e :: es) [] pos) X.env = (do
      let ov ← eval o X.env
      standAt apos.atName
      let (f, first) ← holding [ov] (getMethod ov m pl)
      callWith pos f first (backTo pos (starEach (e :: es) X.env)) (backToKw pos (keywordEach [] X.env))) := by rfl) :
    PE X (.Call (.Attribute o m apos) (e :: es) [] pos) (tMeth C m sp dvs E ta t) := by
  obtain ⟨f, fd, ds, a, b, F, hb, hd⟩ := c.ex
  exact pe_meth ho a b F hr hb hd hx ha hst hpl ht
theorem pe_methZ0 {pl : Sem Bool} (c : CalZM X.prog X.w X.K X.mg X.base k C m ps dvs sp) (hx : Passes (L2.CX X.prog X.w) X E) (hr : Room k X.A) (ho : PE X o ta)
    (ht : eval (.Call (.Attribute o m apos) [] [] pos) X.env = (do
      let ov ← eval o X.env
      standAt apos.atName
      let (f, first) ← holding [ov] (getMethod ov m pl)
      callWith pos f first (backTo pos (starEach [] X.env)) (backToKw pos (keywordEach [] X.env))) := by rfl) :
    PE X (.Call (.Attribute o m apos) [] [] pos) (tMeth C m sp dvs E ta tNil) := by
  obtain ⟨f, fd, ds, a, b, F, hb, hd⟩ := c.ex
  exact pe_meth0 ho a b F hr hb hd hx ht
theorem pe_smethZ {pl : Sem Bool} (c : CalZS X.prog X.w X.K X.mg X.base k C m ps sp) (hx : Passes (L2.CX X.prog X.w) X E) (hr : Room k X.A) (ho : PE X o ta) (ha : PA X (e :: es) t)
    (hst : starEach (e :: es) X.env = (false, eval e X.env) :: starEach es X.env := by rfl) (hpl : (backTo pos (starEach es X.env)).any (·.1) = false := by rfl)
    (ht : eval (.Call (.Attribute o m apos) (e :: es) [] pos) X.env = (do
      let ov ← eval o X.env
      standAt apos.atName
      let (fn, first) ← holding [ov] (getMethod ov m pl)
      callWith pos fn first (backTo pos (starEach (e :: es) X.env)) (backToKw pos (keywordEach [] X.env))) := by rfl) :
    PE X (.Call (.Attribute o m apos) (e :: es) [] pos) (tSMeth C sp E ta t) := by
  obtain ⟨mc, q, g, fd, a, b, F, d⟩ := c.ex
  exact pe_smeth ho a b F hr d hx ha hst hpl ht
theorem pe_makeZ (c : CalZI X.prog X.w X.K X.mg X.base k x C ps sp) (hx : Passes (L2.CX X.prog X.w) X E) (hr : Room (k + 1) X.A) (hg : Gl X x) (ha : PA X (e :: es) t) (hdb : (x == ("__debug__" : Str)) = false := by decide)
    (he : starEach (e :: es) X.env = (false, eval e X.env) :: starEach es X.env := by rfl) (hpl : (backTo pos (starEach es X.env)).any (·.1) = false := by rfl) : PE X (.Call (.Name x p) (e :: es) [] pos) (tMake C sp [] E t) := by
  obtain ⟨f, fd, M, F, hm, hb⟩ := c.ex
  exact pe_make M F hr hg hm hb .nil hx ha hdb he hpl
theorem call_lenZ {f : Addr} {fd : FuncData} (lo : LenOwn X.K C f) (F : FnOk X.prog X.w X.K X.mg X.base (L2.CX X.prog X.w) k f fd ps sp) (hr : Room (k + 1) X.A) (hb : Binds X.K fd ps []) : CallR X (.builtin "len") (rLenOwn C sp) := by
  intro pins s σ H xs us Q I r h
  obtain ⟨a, dx, fs, rfl, ea, q⟩ := h
  obtain ⟨u, rfl, rx⟩ := vals1 r
  obtain rfl : u = Value.ref a := rx
  obtain ⟨mA, O, rr, _, _, _⟩ := ins_get I.hok ea
  obtain ⟨od, J, hl⟩ := O.look
  have r1 : Vals [V.ref a] [Value.ref a] := .cons rfl .nil
  have body : wpAny (model X.prog X.w) X.A.in1 (call (.ref f) [.ref a]) (EP X pins σ fun y H' => ∃ n : Int, y = .int n ∧ 0 ≤ n ∧ n < 2 ^ 63 ∧ Q (.int n) H') X.xe s := by
    have hlen : ([Value.ref a] ++ []).length = ps.length := by
      have := F.len _ _ _ _ q
      exact this
    refine wpAny_call (codeAny_mono (F.run X.A.in1 X.stack s H ⟨[.ref a], []⟩ ([.ref a] ++ []) [V.ref a] _ L2.E0 hr.in1 I.env0.in1 (hb s [.ref a] I.kIn hlen) r1 q) fun fl s' hq => ?_)
    cases fl with
    | error e => exact pass_none pins σ H s e s' I hq
    | ok fl =>
      cases fl with
      | ret u => exact I.after hq
      | next => exact False.elim hq
      | brk => exact False.elim hq
      | cont => exact False.elim hq
  refine PySem.Calls.call_function_entry PySem.kind_len PySem.plain_len PySem.entry_len (PySem.args_len1 _) ?_
  unfold Builtin.«len»
  refine wpAny_bind (m := oneArg "len" _) (wpAny_pure ?_)
  refine wpAny_bind (m := callSpecial? (.ref a) (Str.ofString "__len__")) (PySem.W.special_fn I.kIn J lo.at_ (beq_iff_eq.mp lo.fn) (wpAny_mono body (fun v s1 hv => ?_) fun _ _ y => y))
  obtain ⟨y, H1, I1, ry, n, rfl, h0, h1, q1⟩ := hv
  obtain ⟨t, rfl⟩ := ry
  refine wpAny_bind (wpAny_holding (wpAny_pure (wpAny_bind (wpAny_letGo ?_))))
  show wpAny _ _ (if n < 0 then _ else _) _ _ _
  rw [if_neg (Int.not_lt.mpr h0)]
  show wpAny _ _ (if n ≥ 2 ^ 63 then _ else _) _ _ _
  rw [if_neg (Int.not_le.mpr h1)]
  exact wpAny_bind (wpAny_mkInt (wpAny_pure ⟨_, rfl, .int n, H1, I1.tok _, ⟨_, rfl⟩, q1⟩))
theorem pe_lenZ (c : CalZL X.prog X.w X.K X.mg X.base k C sp) (hr : Room (k + 1) X.A) (hg : Gl X "len") (hm : X.mg "len" = none) (ha : PA X [e] t)
    (he : starEach [e] X.env = (false, eval e X.env) :: starEach [] X.env := by rfl) : PE X (.Call (.Name "len" p) [e] [] pos) (tCB (rLenOwn C sp) t) := by
  obtain ⟨f, fd, ps, a, F, b⟩ := c.ex
  exact pe_callB (call_lenZ a F hr b) hg hm boot_len ha (he := he)
end
/-! ### how the bundles come -/
section
variable {P : Program} {w : World} {K : PySem.W.Frag} {mg : Str → Option Value} {base : Heap} {k n j : Nat} {x qual : Str} {params : Arguments} {body : List Stmt} {scope : Scope} {dvs : List V} {kws : List (Str × V)} {f : Addr} {fd : FuncData} {ps ks : List Str} {sp : Sp} {ix : List KI}
theorem calZ_of (F : FunD K x qual params body scope dvs kws f fd) (ok : FnOk P w K mg base (L2.CX P w) k f fd ps sp) (hm : mg x = some (.ref f)) (hd : dvs ≠ []) (hn : n + (dvs.length - j) = ps.length)
    (h : ∀ (T : Addr) (kV doc pm : Value) (an : Option Addr) (cdv ct : Value) (us its : List Value), us.length = n → its.length = dvs.length →
      ∃ k, bindArgs (PySem.W.fnOf x qual params body scope (.ref T) kV doc pm an cdv ct) ⟨us, []⟩ = seqItems? (.ref T) >>= k ∧ k (some its.toArray) = pure (ps.zip (us ++ its.drop j))) : CalZ P w K mg base k x ps (dvs.drop j) sp := by
  obtain ⟨ds, hv, hb⟩ := F.binds1 (ps := ps) n j hd hn h
  exact ⟨f, fd, ds, ok, hm, F.kp, hb, hv⟩
theorem calZ_all (F : FunD K x qual params body scope [] kws f fd) (ok : FnOk P w K mg base (L2.CX P w) k f fd ps sp) (hm : mg x = some (.ref f))
    (h : ∀ (kV doc pm : Value) (an : Option Addr) (cdv ct : Value) (us : List Value), us.length = ps.length → bindArgs (PySem.W.fnOf x qual params body scope .none kV doc pm an cdv ct) ⟨us, []⟩ = pure (ps.zip us)) : CalZ P w K mg base k x ps [] sp :=
  ⟨f, fd, [], ok, hm, F.kp, F.bindsN h, .nil⟩
theorem valsGetD {xs : List V} {us : List Value} (r : Vals xs us) (i : Nat) : RelV (xs.getD i .non) (us.getD i .none) := by
  rw [List.getD_eq_getElem?_getD, List.getD_eq_getElem?_getD]
  cases h : xs[i]? with
  | none => rw [Vals.none_of r h]; rfl
  | some v =>
    obtain ⟨u, h1, h2⟩ := r.get h
    rw [h1]; exact h2
theorem valsPick {ds vs : List V} {its us : List Value} (a : Vals ds its) (b : Vals vs us) : ∀ ix : List KI, Vals (ix.map fun k => k.atG .non ds vs) (ix.map fun k => k.atG .none its us)
  | [] => .nil
  | .arg i :: ix => .cons (valsGetD b i) (valsPick a b ix)
  | .dfl i :: ix => .cons (valsGetD a i) (valsPick a b ix)
/-- f(.., k = v): without defaults, with -/
theorem calZK_0 (F : FunD K x qual params body scope [] kws f fd) (ok : FnOk P w K mg base (L2.CX P w) k f fd ps sp) (hm : mg x = some (.ref f)) (n : Nat) (ks : List Str) (ix : List KI)
    (h : ∀ (kV doc pm : Value) (an : Option Addr) (cdv ct : Value) (us ws : List Value), us.length = n → ws.length = ks.length → bindArgs (PySem.W.fnOf x qual params body scope .none kV doc pm an cdv ct) ⟨us, ks.zip ws⟩ = pure (ps.zip (ix.map fun k => k.atG .none [] (us ++ ws)))) :
    CalZK P w K mg base k x ps n ks (kV [] ix) sp := by
  obtain ⟨oc, od, dV, kV', doc, pm, an, cdv, ct, osl, rfl, lk, hcd, hD, hK⟩ := F.ex
  refine ⟨f, _, (fun (us ws : List Value) => ix.map fun k => k.atG Value.none ([] : List Value) (us ++ ws)), ok, hm, F.kp, ⟨fun s us ws X l1 l2 => ?_, fun r1 r2 => by unfold kV; exact valsPick .nil (r1.append r2) ix⟩⟩
  rcases hD with ⟨_, rfl⟩ | ⟨e, _⟩
  · exact .of_eq (h kV' doc pm an cdv ct us ws l1 l2)
  · exact absurd rfl e
theorem calZK_1 (F : FunD K x qual params body scope dvs kws f fd) (ok : FnOk P w K mg base (L2.CX P w) k f fd ps sp) (hm : mg x = some (.ref f)) (hd : dvs ≠ []) (n : Nat) (ks : List Str) (ix : List KI)
    (h : ∀ (T : Addr) (kV doc pm : Value) (an : Option Addr) (cdv ct : Value) (us its ws : List Value), us.length = n → its.length = dvs.length → ws.length = ks.length →
      ∃ k, bindArgs (PySem.W.fnOf x qual params body scope (.ref T) kV doc pm an cdv ct) ⟨us, ks.zip ws⟩ = seqItems? (.ref T) >>= k ∧ k (some its.toArray) = pure (ps.zip (ix.map fun k => k.atG .none its (us ++ ws)))) :
    CalZK P w K mg base k x ps n ks (kV dvs ix) sp := by
  obtain ⟨oc, od, dV, kV', doc, pm, an, cdv, ct, osl, rfl, lk, hcd, hD, hK⟩ := F.ex
  rcases hD with ⟨e, _⟩ | ⟨_, T, o, its, m, rfl, lT, oT, rT⟩
  · exact absurd e hd
  · refine ⟨f, _, (fun (us ws : List Value) => ix.map fun k => k.atG Value.none its (us ++ ws)), ok, hm, F.kp, ⟨fun s us ws X l1 l2 => ?_, fun r1 r2 => by unfold kV; exact valsPick rT (r1.append r2) ix⟩⟩
    obtain ⟨kk, e1, e2⟩ := h T kV' doc pm an cdv ct us its ws l1 rT.length.symm l2
    refine BindsTo.of_looks fun M => ?_
    rw [e1]
    exact looks_items X lT oT (PySem.W.Looks.of_pure e2)
end
end My
end

section
set_option Elab.async false
set_option maxRecDepth 100000
set_option maxHeartbeats 4000000
set_option linter.all false
/-! steps of meanings -/
namespace My
open PySem L2
def sqK (b : WS) (post : Out → Prop) : Out → Prop := fun o => match o with
  | .nx ρ' => b ρ' post
  | o => post o
def bk {α β : Type} (k : α → (Res β → Prop) → Prop) (post : Res β → Prop) : Res α → Prop := fun r => match r with
  | .ok a => k a post
  | .er cn fs => post (.er cn fs)
def loopK (wg : WG) (ws : WS) (xs : List PV) (post : Out → Prop) : Out → Prop := fun o => match o with
  | .nx ρ2 => forW wg ws xs ρ2 post
  | .ct ρ2 => forW wg ws xs ρ2 post
  | .bk ρ2 => post (.nx ρ2)
  | .rt r => post (.rt r)
  | .er cn fs => post (.er cn fs)
def whK (vt : WT) (ws : WS) (n : Nat) (post : Out → Prop) : Out → Prop := fun o => match o with
  | .nx ρ2 => whW vt ws n ρ2 post
  | .ct ρ2 => whW vt ws n ρ2 post
  | .bk ρ2 => post (.nx ρ2)
  | .rt r => post (.rt r)
  | .er cn fs => post (.er cn fs)
def testK : PV → (Res Bool → Prop) → Prop := fun a post => match a with
  | .bl b => post (.ok b)
  | _ => False
def truK : PV → (Res Bool → Prop) → Prop := fun a post => match truP a with
  | some d => post (.ok d)
  | none => False
def partK : PV → (Res (Option Int) → Prop) → Prop := fun a post => match a with
  | .int i => post (.ok (some i))
  | _ => False
section
variable {α β : Type} {ρ ρ' : List SV} {post : Out → Prop} {pE : Res PV → Prop} {pB : Res Bool → Prop} {pL : Res (List PV) → Prop} {pS : Res (List SV) → Prop} {pV : Res RV → Prop} {pI : Res (Option Int) → Prop} {pQ : Res β → Prop} {a b : WS} {w wa wb : WE} {va vb : WA} {vt vu : WT} {ca cb : WC} {wg : WG} {wgs : WGs} {i j n : Nat} {p q : PV} {ps qs : List PV} {r : RV} {cn : Str} {fs : List (Str × PV)} {x y : α} {k : α → (Res β → Prop) → Prop} {f : α → Prop} {bw : List SV → (Res α → Prop) → Prop} {wd : WD} {ds : List PV}
/-! continuations -/
theorem sqK_nx (h : b ρ' post) : sqK b post (.nx ρ') := h
theorem sqK_rt (h : post (.rt r)) : sqK b post (.rt r) := h
theorem sqK_bk (h : post (.bk ρ')) : sqK b post (.bk ρ') := h
theorem sqK_ct (h : post (.ct ρ')) : sqK b post (.ct ρ') := h
theorem sqK_er (h : post (.er cn fs)) : sqK b post (.er cn fs) := h
theorem bk_ok (h : k x pQ) : bk k pQ (.ok x) := h
theorem bk_er (h : pQ (.er cn fs)) : bk k pQ (.er cn fs) := h
theorem erO_ok (h : f x) : erO post f (.ok x) := h
theorem erO_er (h : post (.er cn fs)) : erO post f (.er cn fs) := h
theorem testK_ok {d : Bool} (h : pB (.ok d)) : testK (.bl d) pB := h
theorem partK_ok {d : Int} (h : pI (.ok (some d))) : partK (.int d) pI := h
theorem frz_fz (h : pE (.ok p)) : frzR pE (.ok (.fz p)) := h
theorem frz_own (h : pE (.ok (.lst ps))) : frzR pE (.ok (.own ps)) := h
theorem frz_er (h : pE (.er cn fs)) : frzR pE (.er cn fs) := h
theorem own_own (h : pL (.ok ps)) : ownR pL (.ok (.own ps)) := h
theorem own_er (h : pL (.er cn fs)) : ownR pL (.er cn fs) := h
theorem noR_ok {pA : Res α → Prop} (h : pA (.ok x)) : noR pA (.ok x) := h
theorem retD_rt (h : pV (.ok r)) : retD pV (.rt r) := h
theorem retD_nx (h : pV (.ok (.fz .non))) : retD pV (.nx ρ') := h
theorem retD_er (h : pV (.er cn fs)) : retD pV (.er cn fs) := h
theorem loopK_nx {wg : WG} {ws : WS} {xs : List PV} (h : forW wg ws xs ρ' post) : loopK wg ws xs post (.nx ρ') := h
theorem loopK_ct {wg : WG} {ws : WS} {xs : List PV} (h : forW wg ws xs ρ' post) : loopK wg ws xs post (.ct ρ') := h
theorem loopK_bk {wg : WG} {ws : WS} {xs : List PV} (h : post (.nx ρ')) : loopK wg ws xs post (.bk ρ') := h
theorem loopK_rt {wg : WG} {ws : WS} {xs : List PV} (h : post (.rt r)) : loopK wg ws xs post (.rt r) := h
theorem loopK_er {wg : WG} {ws : WS} {xs : List PV} (h : post (.er cn fs)) : loopK wg ws xs post (.er cn fs) := h
theorem objR_ok {C : Str} (h : pE (.ok (.obj C fs))) : objR C pE (.ok fs) := h
theorem objR_er {C : Str} (h : pE (.er cn fs)) : objR C pE (.er cn fs) := h
theorem lenR_ok {n : Int} (h0 : 0 ≤ n) (h1 : n < 2 ^ 63) (h : pE (.ok (.int n))) : lenR pE (.ok (.fz (.int n))) := ⟨h0, h1, h⟩
/-! statements -/
theorem q_seq (h : a ρ (sqK b post)) : sSeq a b ρ post := h
theorem q_next (h : post (.nx ρ)) : sNext ρ post := h
theorem q_retN (h : post (.rt (.fz .non))) : sRetN ρ post := h
theorem q_break (h : post (.bk ρ)) : sBreak ρ post := h
theorem q_cont (h : post (.ct ρ)) : sCont ρ post := h
theorem q_if (h : vt ρ (erO post fun d => if d = true then a ρ post else b ρ post)) : sIf vt a b ρ post := h
theorem q_ret (h : w ρ (erO post fun p => post (.rt (.fz p)))) : sRet w ρ post := h
theorem q_retO (h : va ρ (erO post fun ps => post (.rt (.own ps)))) : sRetO va ρ post := h
theorem q_drop (h : w ρ (erO post fun _ => post (.nx ρ))) : sDrop w ρ post := h
theorem q_asg (h : w ρ (erO post fun p => wg p ρ (erO post fun ρ' => post (.nx ρ')))) : sAsg w wg ρ post := h
theorem q_asgO (h : va ρ (erO post fun ps => post (.nx (ρ.set i (.own ps))))) : sAsgO va i ρ post := h
theorem q_app (e : ρ[i]? = some (.own ps)) (h : w ρ (erO post fun p => ps.length ≤ 1000000 ∧ post (.nx (ρ.set i (.own (ps ++ [p])))))) : sApp i w ρ post := by unfold sApp; rw [e]; exact h
theorem q_setI (h : w ρ (erO post fun p => match ρ[i]? with
  | some (.own ps) => wb ρ (erO post fun q => match q with
    | .int k => ∃ j, ixN ps.length k = some j ∧ post (.nx (ρ.set i (.own (ps.set j p))))
    | _ => False)
  | _ => False)) : sSetI i w wb ρ post := h
theorem q_retV (e : ρ[i]? = some (.fz p)) (h : post (.rt (.fz p))) : sRetV i ρ post := by unfold sRetV; rw [e]; exact h
theorem q_retVo (e : ρ[i]? = some (.own ps)) (h : post (.rt (.own ps))) : sRetV i ρ post := by unfold sRetV; rw [e]; exact h
theorem q_frz (e : ρ[i]? = some (.own ps)) (h : a (ρ.set i (.fz (.lst ps))) post) : sFreeze i a ρ post := by unfold sFreeze; rw [e]; exact h
theorem q_frz0 (e : ρ[i]? = some (.fz p)) (h : a ρ post) : sFreeze i a ρ post := by unfold sFreeze; rw [e]; exact h
theorem q_par (h : wa ρ (erO post fun a => wb ρ (erO post fun b => post (.nx ((ρ.set i (.fz a)).set j (.fz b)))))) : sPar i j wa wb ρ post := h
theorem q_for (h : va ρ (erO post fun items => forW wg a items ρ post)) : sFor va wg a ρ post := h
theorem q_while (n : Nat) (h : whW vt a n ρ post) : sWhile vt a ρ post := ⟨n, h⟩
theorem q_whS (h : vt ρ (erO post fun d => if d = true then a ρ (whK vt a n post) else post (.nx ρ))) : whW vt a (n + 1) ρ post := h
theorem whK_nx (h : whW vt a n ρ' post) : whK vt a n post (.nx ρ') := h
theorem whK_ct (h : whW vt a n ρ' post) : whK vt a n post (.ct ρ') := h
theorem whK_bk (h : post (.nx ρ')) : whK vt a n post (.bk ρ') := h
theorem whK_rt (h : post (.rt r)) : whK vt a n post (.rt r) := h
theorem whK_er (h : post (.er cn fs)) : whK vt a n post (.er cn fs) := h
theorem q_forN (h : post (.nx ρ)) : forW wg a [] ρ post := h
theorem q_forC (h : wg p ρ (erO post fun ρ1 => a ρ1 (loopK wg a ps post))) : forW wg a (p :: ps) ρ post := h
theorem q_raise {names : List Str} {okP : List PV → Prop} (h : va ρ (erO post fun ps => ps.length = names.length ∧ ps.length ≤ 1000 ∧ okP ps ∧ post (.er cn (names.zip ps)))) : sRaise cn names okP va ρ post := h
theorem q_fldW {at_ : List (Str × Str)} {f : Str} (h : w ρ (erO post fun p => match ρ[i]? with
  | some (.ob C fs) => (C, f) ∈ at_ ∧ fs.length < 1000 ∧ post (.nx (ρ.set i (.ob C (putP f p fs))))
  | _ => False)) : sFldW at_ i w f ρ post := h
/-! targets -/
theorem q_name (h : pS (.ok (ρ.set i (.fz p)))) : gpName i p ρ pS := h
theorem q_gtup (e : ps.length = n) (h : wgs ps ρ pS) : gpTup n wgs (.tup ps) ρ pS := ⟨e, h⟩
theorem q_gunl (e : ps.length = n) (h : wgs ps ρ pS) : gpUnl n wgs (.lst ps) ρ pS := ⟨e, h⟩
def gcK (wgs : WGs) (qs : List PV) (pS : Res (List SV) → Prop) : Res (List SV) → Prop := fun r => match r with
    | .ok ρ' => wgs qs ρ' pS
    | .er cn fs => pS (.er cn fs)
theorem q_gcons (h : wg p ρ (gcK wgs qs pS)) : gpCons wg wgs (p :: qs) ρ pS := h
theorem gcK_ok (h : wgs qs ρ' pS) : gcK wgs qs pS (.ok ρ') := h
theorem q_gnil (h : pS (.ok ρ)) : gpNil [] ρ pS := ⟨rfl, h⟩
/-! expressions -/
theorem q_bind (h : bw ρ (bk k pQ)) : bindR bw k ρ pQ := h
theorem q_var (e : ρ[i]? = some (.fz p)) (h : pE (.ok p)) : pVar i ρ pE := by unfold pVar; rw [e]; exact h
theorem q_varB (e : ρ[i]? = some (.fz p)) (h : pE (.ok p)) : pVarB i ρ pE := by unfold pVarB; rw [e]; exact h
theorem q_varBo (e : ρ[i]? = some (.own ps)) (h : pE (.ok (.lst ps))) : pVarB i ρ pE := by unfold pVarB; rw [e]; exact h
theorem q_c (h : pE (.ok p)) : pC p ρ pE := h
theorem q_op {f : PV → PV → (Res PV → Prop) → Prop} (h : wa ρ (bk (fun a => bindR wb (fun b => f a b) ρ) pE)) : pOp f wa wb ρ pE := h
theorem q_p2 {f : PV → PV → (Res PV → Prop) → Prop} (h : wa ρ (bk (fun a => bindR wb (fun b => f a b) ρ) pE)) : p2 f wa wb ρ pE := h
theorem q_p1 {f : PV → (Res PV → Prop) → Prop} (h : w ρ (bk f pE)) : p1 f w ρ pE := h
theorem q_ixK {f : Str → Option PV} (h : w ρ (bk (fun a => qIxK f a) pE)) : pIxK f w ρ pE := h
theorem q_neg (h : w ρ (bk (fun a post => match a with | .int i => post (.ok (.int (-i))) | _ => False) pE)) : pNeg w ρ pE := h
theorem q_pif (h : vt ρ (bk (fun d post => if d = true then wa ρ post else wb ρ post) pE)) : pIf vt wa wb ρ pE := h
theorem q_test (h : w ρ (bk testK pB)) : pTest w ρ pB := h
theorem q_tand (h : vt ρ (bk (fun d post => if d = true then vu ρ post else post (.ok false)) pB)) : pAnd vt vu ρ pB := h
theorem q_tor (h : vt ρ (bk (fun d post => if d = true then post (.ok true) else vu ρ post) pB)) : pOr vt vu ρ pB := h
theorem q_tnot (h : vt ρ (bk (fun d post => post (.ok (!d))) pB)) : pNot vt ρ pB := h
theorem q_yes (h : pB (.ok true)) : pYes ρ pB := h
theorem q_tru (h : w ρ (bk truK pB)) : pTru w ρ pB := h
theorem truK_bl {d : Bool} (h : pB (.ok d)) : truK (.bl d) pB := h
theorem truK_int {d : Int} (h : pB (.ok (d != 0))) : truK (.int d) pB := h
theorem truK_lst (h : pB (.ok (!ps.isEmpty))) : truK (.lst ps) pB := h
theorem truK_tup (h : pB (.ok (!ps.isEmpty))) : truK (.tup ps) pB := h
theorem truK_str {z : Str} (hz : z.length ≤ 1000000) (h : pB (.ok ((z.length : Int) != 0))) : truK (.str z) pB := by
  have e : truP (.str z) = some ((z.length : Int) != 0) := if_pos hz
  unfold truK; rw [e]; exact h
def andVK (ρ : List SV) (wb : WE) : PV → (Res PV → Prop) → Prop := fun a post => match a with
  | .bl d => if d = true then wb ρ post else post (.ok (.bl false))
  | _ => False
def orVK (ρ : List SV) (wb : WE) : PV → (Res PV → Prop) → Prop := fun a post => match a with
  | .bl d => if d = true then post (.ok (.bl true)) else wb ρ post
  | _ => False
def notVK : PV → (Res PV → Prop) → Prop := fun a post => match a with
  | .bl d => post (.ok (.bl (!d)))
  | _ => False
theorem q_andV (h : wa ρ (bk (andVK ρ wb) pE)) : pAndV wa wb ρ pE := h
theorem q_orV (h : wa ρ (bk (orVK ρ wb) pE)) : pOrV wa wb ρ pE := h
theorem q_notV (h : wa ρ (bk notVK pE)) : pNotV wa ρ pE := h
theorem andVK_ok {d : Bool} (h : if d = true then wb ρ pE else pE (.ok (.bl false))) : andVK ρ wb (.bl d) pE := h
theorem orVK_ok {d : Bool} (h : if d = true then pE (.ok (.bl true)) else wb ρ pE) : orVK ρ wb (.bl d) pE := h
theorem notVK_ok {d : Bool} (h : pE (.ok (.bl (!d)))) : notVK (.bl d) pE := h
theorem q_anil (h : pL (.ok [])) : pNil ρ pL := h
theorem q_acons (h : w ρ (bk (fun a => bindR vb (fun ps post => post (.ok (a :: ps))) ρ) pL)) : pCons w vb ρ pL := h
theorem q_tup (h : va ρ (bk (fun ps post => ps.length ≤ 1000000 ∧ post (.ok (.tup ps))) pE)) : pTup va ρ pE := h
theorem q_lst (h : va ρ (bk (fun ps post => ps.length ≤ 1000000 ∧ post (.ok ps)) pL)) : pLst va ρ pL := h
theorem q_pfrz (h : va ρ (bk (fun ps post => post (.ok (.lst ps))) pE)) : pFrz va ρ pE := h
theorem q_nopart (h : pI (.ok none)) : pNoPart ρ pI := h
theorem q_part (h : w ρ (bk partK pI)) : pPart w ρ pI := h
def slSK (ρ : List SV) (wl wh : WO) : PV → (Res PV → Prop) → Prop := fun a => bindR wl (fun l => bindR wh (fun h post => match a with
  | .str z => z.length ≤ 1000000 ∧ post (.ok (.str (cutS z l h)))
  | _ => False) ρ) ρ
theorem q_slS {wl wh : WO} (h : w ρ (bk (slSK ρ wl wh) pE)) : pSlS w wl wh ρ pE := h
def slSK2 (z : Str) (l : Option Int) : Option Int → (Res PV → Prop) → Prop := fun h post => z.length ≤ 1000000 ∧ post (.ok (.str (cutS z l h)))
theorem slSK_ok {z : Str} {wl wh : WO} (h : wl ρ (bk (fun l => bindR wh (slSK2 z l) ρ) pE)) : slSK ρ wl wh (.str z) pE := h
theorem slSK2_ok {z : Str} {l u : Option Int} (hz : z.length ≤ 1000000) (h : pE (.ok (.str (cutS z l u)))) : slSK2 z l u pE := ⟨hz, h⟩
def slLK (ρ : List SV) (wl wh : WO) : PV → (Res (List PV) → Prop) → Prop := fun a => bindR wl (fun l => bindR wh (fun h post => match a with
  | .lst ps => post (.ok (cutP ps l h))
  | _ => False) ρ) ρ
theorem q_slL {wl wh : WO} (h : w ρ (bk (slLK ρ wl wh) pL)) : pSlL w wl wh ρ pL := h
def slLK2 (ps : List PV) (l : Option Int) : Option Int → (Res (List PV) → Prop) → Prop := fun h post => post (.ok (cutP ps l h))
theorem slLK_ok {wl wh : WO} (h : wl ρ (bk (fun l => bindR wh (slLK2 ps l) ρ) pL)) : slLK ρ wl wh (.lst ps) pL := h
theorem slLK2_ok {l u : Option Int} (h : pL (.ok (cutP ps l u))) : slLK2 ps l u pL := h
def lenK : PV → (Res PV → Prop) → Prop := fun a post => match a with
  | .lst ps | .tup ps => post (.ok (.int (ps.length : Int)))
  | _ => False
theorem q_len (h : w ρ (bk lenK pE)) : pLen w ρ pE := h
theorem lenK_l (h : pE (.ok (.int (ps.length : Int)))) : lenK (.lst ps) pE := h
theorem lenK_t (h : pE (.ok (.int (ps.length : Int)))) : lenK (.tup ps) pE := h
def seqK : PV → (Res (List PV) → Prop) → Prop := fun a post => match a with
  | .lst ps | .tup ps => post (.ok ps)
  | _ => False
theorem q_listO (h : w ρ (bk seqK pL)) : pListO w ρ pL := h
theorem seqK_l (h : pL (.ok ps)) : seqK (.lst ps) pL := h
theorem seqK_t (h : pL (.ok ps)) : seqK (.tup ps) pL := h
def catK : PV → PV → (Res (List PV) → Prop) → Prop := fun a b post => match a, b with
  | .lst ps, .lst qs => ps.length + qs.length ≤ 1000000 ∧ post (.ok (ps ++ qs))
  | _, _ => False
theorem q_cat (h : wa ρ (bk (fun a => bindR wb (fun b => catK a b) ρ) pL)) : pCat wa wb ρ pL := h
theorem catK_ok (hz : ps.length + qs.length ≤ 1000000) (h : pL (.ok (ps ++ qs))) : catK (.lst ps) (.lst qs) pL := ⟨hz, h⟩
def repK : PV → PV → (Res (List PV) → Prop) → Prop := fun a b post => match a, b with
  | .lst ps, .int k => k ≤ 1000000 ∧ -1000000 ≤ k ∧ ps.length * k.toNat ≤ 1000000 ∧ post (.ok (List.replicate k.toNat ps).flatten)
  | _, _ => False
theorem q_rep (h : wa ρ (bk (fun a => bindR wb (fun b => repK a b) ρ) pL)) : pRep wa wb ρ pL := h
theorem repK_ok {k : Int} (h : k ≤ 1000000 ∧ -1000000 ≤ k ∧ ps.length * k.toNat ≤ 1000000 ∧ pL (.ok (List.replicate k.toNat ps).flatten)) : repK (.lst ps) (.int k) pL := h
def joinK (ρ : List SV) (wb : WE) : PV → (Res PV → Prop) → Prop := fun a post => match a with
  | .str z => bindR wb (fun b => qJoin z b) ρ post
  | _ => False
theorem q_join (h : wa ρ (bk (joinK ρ wb) pE)) : pJoin wa wb ρ pE := h
theorem joinK_ok {z : Str} (h : wb ρ (bk (fun b => qJoin z b) pE)) : joinK ρ wb (.str z) pE := h
theorem qJoin_ok {z : Str} {zs : List Str} (e : strL ps = some zs) (hz : (zs.map (·.length)).sum + zs.length * z.length ≤ 16777216) (h : pE (.ok (.str (Txt.join z zs)))) : qJoin z (.lst ps) pE := ⟨zs, e, hz, h⟩
def itLK : PV → (Res (List PV) → Prop) → Prop := fun a post => match a with
  | .lst ps => post (.ok ps)
  | _ => False
def itTK : PV → (Res (List PV) → Prop) → Prop := fun a post => match a with
  | .tup ps => post (.ok ps)
  | _ => False
def itSK : PV → (Res (List PV) → Prop) → Prop := fun a post => match a with
  | .str z => post (.ok (chars z))
  | _ => False
theorem q_itL (h : w ρ (bk itLK pL)) : pItL w ρ pL := h
theorem q_itT (h : w ρ (bk itTK pL)) : pItT w ρ pL := h
theorem q_itS (h : w ρ (bk itSK pL)) : pItS w ρ pL := h
theorem itLK_ok (h : pL (.ok ps)) : itLK (.lst ps) pL := h
theorem itTK_ok (h : pL (.ok ps)) : itTK (.tup ps) pL := h
theorem itSK_ok {z : Str} (h : pL (.ok (chars z))) : itSK (.str z) pL := h
def rg1K : PV → (Res (List PV) → Prop) → Prop := fun a post => match a with
  | .int j => inB j ∧ post (.ok (rgP 0 1 j.toNat))
  | _ => False
theorem q_rng1 (h : w ρ (bk rg1K pL)) : pRng1 w ρ pL := h
theorem rg1K_ok {j : Int} (hb : inB j) (h : pL (.ok (rgP 0 1 j.toNat))) : rg1K (.int j) pL := ⟨hb, h⟩
def rg2K : PV → PV → (Res (List PV) → Prop) → Prop := fun a b post => match a, b with
  | .int i, .int j => inB i ∧ inB j ∧ post (.ok (rgP i 1 (j - i).toNat))
  | _, _ => False
theorem q_rng2 (h : wa ρ (bk (fun a => bindR wb (fun b => rg2K a b) ρ) pL)) : pRng2 wa wb ρ pL := h
theorem rg2K_ok {i j : Int} (hi : inB i) (hb : inB j) (h : pL (.ok (rgP i 1 (j - i).toNat))) : rg2K (.int i) (.int j) pL := ⟨hi, hb, h⟩
def rv1K : PV → (Res (List PV) → Prop) → Prop := fun a post => match a with
  | .int j => inB j ∧ post (.ok (rgP (0 + (((j - 0).toNat : Nat) : Int) - 1) (-1) (j - 0).toNat))
  | _ => False
theorem q_rev1 (h : w ρ (bk rv1K pL)) : pRev1 w ρ pL := h
theorem rv1K_ok {j : Int} (hb : inB j) (h : pL (.ok (rgP (0 + (((j - 0).toNat : Nat) : Int) - 1) (-1) (j - 0).toNat))) : rv1K (.int j) pL := ⟨hb, h⟩
def lrg1K : PV → (Res (List PV) → Prop) → Prop := fun a post => match a with
  | .int j => szB 0 j ∧ post (.ok (rgP 0 1 j.toNat))
  | _ => False
theorem q_lrg1 (h : w ρ (bk lrg1K pL)) : pLRg1 w ρ pL := h
theorem lrg1K_ok {j : Int} (hb : szB 0 j) (h : pL (.ok (rgP 0 1 j.toNat))) : lrg1K (.int j) pL := ⟨hb, h⟩
def lrg2K : PV → PV → (Res (List PV) → Prop) → Prop := fun a b post => match a, b with
  | .int i, .int j => szB i j ∧ post (.ok (rgP i 1 (j - i).toNat))
  | _, _ => False
theorem q_lrg2 (h : wa ρ (bk (fun a => bindR wb (fun b => lrg2K a b) ρ) pL)) : pLRg2 wa wb ρ pL := h
theorem lrg2K_ok {i j : Int} (hb : szB i j) (h : pL (.ok (rgP i 1 (j - i).toNat))) : lrg2K (.int i) (.int j) pL := ⟨hb, h⟩
def enK : PV → (Res (List PV) → Prop) → Prop := fun a post => match a with
  | .lst ps => post (.ok (enumP 0 ps))
  | _ => False
def enSK : PV → (Res (List PV) → Prop) → Prop := fun a post => match a with
  | .str z => post (.ok (enumP 0 (chars z)))
  | _ => False
def enSKK : PV → PV → (Res (List PV) → Prop) → Prop := fun a b post => match a, b with
  | .str z, .int k0 => inB k0 ∧ post (.ok (enumP k0 (chars z)))
  | _, _ => False
theorem q_enum (h : w ρ (bk enK pL)) : pEnum w ρ pL := h
theorem q_enumS (h : w ρ (bk enSK pL)) : pEnumS w ρ pL := h
theorem q_enumSK (h : wa ρ (bk (fun a => bindR wb (fun b => enSKK a b) ρ) pL)) : pEnumSK wa wb ρ pL := h
theorem enK_ok (h : pL (.ok (enumP 0 ps))) : enK (.lst ps) pL := h
theorem enSK_ok {z : Str} (h : pL (.ok (enumP 0 (chars z)))) : enSK (.str z) pL := h
theorem enSKK_ok {z : Str} {k0 : Int} (hb : inB k0) (h : pL (.ok (enumP k0 (chars z)))) : enSKK (.str z) (.int k0) pL := ⟨hb, h⟩
def zipK : PV → PV → (Res (List PV) → Prop) → Prop := fun a b post => match a, b with
  | .lst ps, .lst qs => post (.ok (zipP ps qs))
  | .tup ps, .tup qs => post (.ok (zipP ps qs))
  | _, _ => False
theorem q_zip (h : wa ρ (bk (fun a => bindR wb (fun b => zipK a b) ρ) pL)) : pZip wa wb ρ pL := h
theorem zipK_l (h : pL (.ok (zipP ps qs))) : zipK (.lst ps) (.lst qs) pL := h
theorem zipK_t (h : pL (.ok (zipP ps qs))) : zipK (.tup ps) (.tup qs) pL := h
def revK : PV → (Res (List PV) → Prop) → Prop := fun a post => match a with
  | .lst ps => post (.ok ps.reverse)
  | _ => False
theorem q_itRev (h : w ρ (bk revK pL)) : pItRev w ρ pL := h
theorem q_revL (h : w ρ (bk revK pL)) : pRevL w ρ pL := h
theorem revK_ok (h : pL (.ok ps.reverse)) : revK (.lst ps) pL := h
def rev2K : PV → (Res (List PV) → Prop) → Prop := fun a post => match a with
  | .lst ps => post (.ok ps.dropLast.reverse)
  | _ => False
theorem q_revL2 (h : w ρ (bk rev2K pL)) : pRevL2 w ρ pL := h
theorem rev2K_ok (h : pL (.ok ps.dropLast.reverse)) : rev2K (.lst ps) pL := h
/-! calls -/
theorem q_cnil {pC' : Res (List SV) → Prop} (h : pC' (.ok [])) : cpNil ρ pC' := h
theorem q_ccons {pC' : Res (List SV) → Prop} (h : w ρ (bk (fun a => bindR cb (fun ps post => post (.ok (.fz a :: ps))) ρ) pC')) : cpCons w cb ρ pC' := h
theorem q_cbag {pC' : Res (List SV) → Prop} (e : ρ[i]? = some .bag) (h : cb ρ (bk (fun ps post => post (.ok (.bag :: ps))) pC')) : cpBag i cb ρ pC' := by unfold cpBag; rw [e]; exact h
theorem q_call (h : ca ρ (bk (fun as post => wd (as ++ ds.map .fz) (frzR post)) pE)) : pCall wd ds ca ρ pE := h
theorem q_call0 (h : ca ρ (bk (fun as post => wd (as ++ ds.map .fz) (frzR (noR post))) pE)) : pCall0 wd ds ca ρ pE := h
theorem q_callO (h : ca ρ (bk (fun as post => wd (as ++ ds.map .fz) (ownR post)) pL)) : pCallO wd ds ca ρ pL := h
theorem q_callO0 (h : ca ρ (bk (fun as post => wd (as ++ ds.map .fz) (ownR (noR post))) pL)) : pCallO0 wd ds ca ρ pL := h
theorem q_callK {ix : List KI} (h : ca ρ (bk (fun as => bindR cb (fun bs post => wd (ix.map fun k => k.atG .un (ds.map .fz) (as ++ bs)) (frzR post)) ρ) pE)) : pCallK wd ds ix ca cb ρ pE := h
theorem q_callK0 {ix : List KI} (h : ca ρ (bk (fun as => bindR cb (fun bs post => wd (ix.map fun k => k.atG .un (ds.map .fz) (as ++ bs)) (frzR (noR post))) ρ) pE)) : pCallK0 wd ds ix ca cb ρ pE := h
theorem q_make {C : Str} {wn : WN} (h : ca ρ (bk (fun as post => ArR.noBag as ∧ wn as (objR C post)) pE)) : pMake' C wn ca ρ pE := h
theorem q_make0 {C : Str} {wn : WN} (h : ca ρ (bk (fun as post => ArR.noBag as ∧ wn as (objR C (noR post))) pE)) : pMake0 C wn ca ρ pE := h
def methK (C m : Str) (wd : WD) (ds : List PV) (ρ : List SV) (ca : WC) (g : (Res PV → Prop) → (Res PV → Prop)) : PV → (Res PV → Prop) → Prop := fun a post => match a with
  | .obj cn fs => cn = C ∧ fs.lookup m = none ∧ bindR ca (fun as post => wd (.fz (.obj cn fs) :: (as ++ ds.map .fz)) (frzR (g post))) ρ post
  | _ => False
theorem q_meth {C m : Str} (h : w ρ (bk (methK C m wd ds ρ ca id) pE)) : pMethA C m wd ds w ca ρ pE := h
theorem q_meth0 {C m : Str} (h : w ρ (bk (methK C m wd ds ρ ca noR) pE)) : pMethA0 C m wd ds w ca ρ pE := h
theorem methK_ok {C m : Str} (e : fs.lookup m = none) (h : ca ρ (bk (fun as post => wd (.fz (.obj C fs) :: (as ++ ds.map .fz)) (frzR post)) pE)) : methK C m wd ds ρ ca id (.obj C fs) pE := ⟨rfl, e, h⟩
theorem methK_ok0 {C m : Str} (e : fs.lookup m = none) (h : ca ρ (bk (fun as post => wd (.fz (.obj C fs) :: (as ++ ds.map .fz)) (frzR (noR post))) pE)) : methK C m wd ds ρ ca noR (.obj C fs) pE := ⟨rfl, e, h⟩
def lenCK (C : Str) (wd : WD) : PV → (Res PV → Prop) → Prop := fun a post => match a with
  | .obj cn fs => cn = C ∧ wd [.fz (.obj cn fs)] (lenR post)
  | _ => False
theorem q_lenC {C : Str} (h : w ρ (bk (lenCK C wd) pE)) : pLenC C wd w ρ pE := h
theorem lenCK_ok {C : Str} (h : wd [.fz (.obj C fs)] (lenR pE)) : lenCK C wd (.obj C fs) pE := ⟨rfl, h⟩
def fldK (at_ : List (Str × Str)) (f : Str) : PV → (Res PV → Prop) → Prop := fun a post => match a with
  | .obj cn fs => (cn, f) ∈ at_ ∧ ∃ p, fs.lookup f = some p ∧ post (.ok p)
  | _ => False
theorem q_fld {at_ : List (Str × Str)} {f : Str} (h : w ρ (bk (fldK at_ f) pE)) : pFld at_ f w ρ pE := h
theorem fldK_ok {at_ : List (Str × Str)} {f C : Str} (hm : (C, f) ∈ at_) (e : fs.lookup f = some p) (h : pE (.ok p)) : fldK at_ f (.obj C fs) pE := ⟨hm, p, e, h⟩
def isiK (u : String) : PV → (Res PV → Prop) → Prop := fun a post => match tyP a with
  | some t => post (.ok (.bl (isTy t u)))
  | none => False
theorem q_isi {u : String} (h : w ρ (bk (isiK u) pE)) : pIsi u w ρ pE := h
theorem isiK_ok {u t : String} (e : tyP p = some t) (h : pE (.ok (.bl (isTy t u)))) : isiK u p pE := by unfold isiK; rw [e]; exact h
def saidK (et : ErTab) (pE : Res PV → Prop) : Res PV → Prop := fun r => match r with
  | .ok p => pE (.ok (.lst [.str "told", p]))
  | .er cn fs => ∃ l, et cn fs = some l ∧ pE (.ok l)
theorem q_said {et : ErTab} (h : w (ρ.map SV.hide) (saidK et pE)) : pSaid et w ρ pE := h
theorem saidK_er {et : ErTab} {l : PV} (e : et cn fs = some l) (h : pE (.ok l)) : saidK et pE (.er cn fs) := ⟨l, e, h⟩
theorem saidK_ok {et : ErTab} (h : pE (.ok (.lst [.str "told", p]))) : saidK et pE (.ok p) := h
/-! numbers in lists -/
theorem intL_map (ns : List Int) : intL (ns.map .int) = some ns := by
  induction ns with
  | nil => rfl
  | cons n ns ih => show (intL (ns.map .int)).map (n :: ·) = _; rw [ih]; rfl
theorem strL_map (ns : List Str) : strL (ns.map .str) = some ns := by
  induction ns with
  | nil => rfl
  | cons n ns ih => show (strL (ns.map .str)).map (n :: ·) = _; rw [ih]; rfl
theorem blL_map (ns : List Bool) : blL (ns.map .bl) = some ns := by
  induction ns with
  | nil => rfl
  | cons n ns ih => show (blL (ns.map .bl)).map (n :: ·) = _; rw [ih]; rfl
theorem flatL_int (ns : List Int) : flatL (ns.map .int) = some (ns.map .int) := by
  induction ns with
  | nil => rfl
  | cons n ns ih => show (match flatP (.int n), flatL (ns.map .int) with | some x, some xs => some (x :: xs) | _, _ => none) = _; rw [ih]; rfl
/-! operators -/
section
variable {i j : Int} {z y : Str} {c d : Bool}
theorem k_Plus (h : pE (.ok (.int (i + j)))) : qPlus (.int i) (.int j) pE := h
theorem k_Minus (h : pE (.ok (.int (i - j)))) : qMinus (.int i) (.int j) pE := h
theorem k_Times (e : CMul i j) (h : pE (.ok (.int (i * j)))) : qTimes (.int i) (.int j) pE := ⟨e, h⟩
theorem k_ModP (e : 0 < j) (h : pE (.ok (.int (i % j)))) : qModP (.int i) (.int j) pE := ⟨e, h⟩
theorem k_FdivN (e : CDivN i j) (h : pE (.ok (.int (i.fdiv j)))) : qFdivN (.int i) (.int j) pE := ⟨e, h⟩
theorem k_Lt0 (h : pE (.ok (.bl (decide (i < j))))) : qLt0 (.int i) (.int j) pE := h
theorem k_Le0 (h : pE (.ok (.bl (decide (i ≤ j))))) : qLe0 (.int i) (.int j) pE := h
theorem k_Gt0 (h : pE (.ok (.bl (decide (j < i))))) : qGt0 (.int i) (.int j) pE := h
theorem k_Ge0 (h : pE (.ok (.bl (decide (j ≤ i))))) : qGe0 (.int i) (.int j) pE := h
theorem k_EqI (h : pE (.ok (.bl (decide (i = j))))) : qEq (.int i) (.int j) pE := h
theorem k_EqS (h : pE (.ok (.bl (decide (z = y))))) : qEq (.str z) (.str y) pE := h
theorem k_EqB (h : pE (.ok (.bl (decide (c = d))))) : qEq (.bl c) (.bl d) pE := h
theorem k_EqG (e : eqF p q = some c) (h : pE (.ok (.bl c))) : qEq p q pE := by unfold qEq; rw [e]; exact h
theorem k_NeI (h : pE (.ok (.bl (!decide (i = j))))) : qNe (.int i) (.int j) pE := h
theorem k_NeS (h : pE (.ok (.bl (!decide (z = y))))) : qNe (.str z) (.str y) pE := h
theorem k_NeB (h : pE (.ok (.bl (!decide (c = d))))) : qNe (.bl c) (.bl d) pE := h
theorem k_IsN (h : pE (.ok (.bl p.isNon))) : qIsN0 p .non pE := h
theorem k_NotN (h : pE (.ok (.bl (!p.isNon)))) : qNotN0 p .non pE := h
theorem k_InS {n : Nat} (h : pE (.ok (.bl (decide (n ∈ z.cps.toList))))) : qInS (.str ⟨#[n]⟩) (.str z) pE := ⟨n, rfl, h⟩
theorem k_NotInS {n : Nat} (h : pE (.ok (.bl (!decide (n ∈ z.cps.toList))))) : qNotInS (.str ⟨#[n]⟩) (.str z) pE := ⟨n, rfl, h⟩
theorem k_AddS (e : z.length + y.length ≤ 1000000) (h : pE (.ok (.str (z ++ y)))) : qAddS (.str z) (.str y) pE := ⟨e, h⟩
theorem k_IxL (e : L2.atI ps i = some p) (h : pE (.ok p)) : qIxL (.lst ps) (.int i) pE := ⟨p, e, h⟩
theorem k_IxT (e : L2.atI ps i = some p) (h : pE (.ok p)) : qIxT (.tup ps) (.int i) pE := ⟨p, e, h⟩
theorem k_IxaL (e : L2.atI ps i = some p) (h : pE (.ok p)) : qIx (.lst ps) (.int i) pE := ⟨p, e, h⟩
theorem k_IxaT (e : L2.atI ps i = some p) (h : pE (.ok p)) : qIx (.tup ps) (.int i) pE := ⟨p, e, h⟩
theorem k_ItemS {n : Nat} (h0 : 0 ≤ i) (hz : z.length ≤ 1000000) (e : z.cps[i.toNat]? = some n) (h : pE (.ok (.str ⟨#[n]⟩))) : qItemS (.str z) (.int i) pE := ⟨h0, hz, n, e, h⟩
theorem k_IxK {f : Str → Option PV} (e : f z = some p) (h : pE (.ok p)) : qIxK f (.str z) pE := ⟨p, e, h⟩
theorem k_LenS (hz : z.length ≤ 1000000) (h : pE (.ok (.int (z.length : Int)))) : qLenS (.str z) pE := ⟨hz, h⟩
theorem k_Int (h : pE (.ok (.int i))) : qInt (.int i) pE := h
theorem k_IntB (h : pE (.ok (.int (if d then 1 else 0)))) : qInt (.bl d) pE := h
theorem k_Max (h : ∀ m : Int, i ≤ m → j ≤ m → (m = i ∨ m = j) → pE (.ok (.int m))) : qMax2 (.int i) (.int j) pE := by
  show pE (.ok (.int (if j > i then j else i)))
  by_cases e : j > i
  · rw [if_pos e]; exact h j (by omega) (Int.le_refl _) (.inr rfl)
  · rw [if_neg e]; exact h i (Int.le_refl _) (by omega) (.inl rfl)
theorem k_Min (h : ∀ m : Int, m ≤ i → m ≤ j → (m = i ∨ m = j) → pE (.ok (.int m))) : qMin2 (.int i) (.int j) pE := by
  show pE (.ok (.int (if j < i then j else i)))
  by_cases e : j < i
  · rw [if_pos e]; exact h j (by omega) (Int.le_refl _) (.inr rfl)
  · rw [if_neg e]; exact h i (Int.le_refl _) (by omega) (.inl rfl)
theorem q_minL {ns : List Int} (h : w ρ (bk (fun a post => match a with
  | .lst ps => ∃ ns, intL ps = some ns ∧ 0 < ns.length ∧ ∀ m, m ∈ ns → (∀ y ∈ ns, m ≤ y) → post (.ok (.int m))
  | _ => False) pE)) : pMinL w ρ pE := h
theorem q_maxL {ns : List Int} (h : w ρ (bk (fun a post => match a with
  | .lst ps => ∃ ns, intL ps = some ns ∧ 0 < ns.length ∧ ∀ m, m ∈ ns → (∀ y ∈ ns, y ≤ m) → post (.ok (.int m))
  | _ => False) pE)) : pMaxL w ρ pE := h
end
theorem q_loose (e : ρ[i]? = some (.own ps)) (h : w (ρ.set i (.fz (.lst ps))) (looseK pE)) : pLoose i w ρ pE := by unfold pLoose; rw [e]; exact h
theorem looseK_bl {d : Bool} (h : pE (.ok (.bl d))) : looseK pE (.ok (.bl d)) := ⟨rfl, h⟩
theorem looseK_int {d : Int} (h : pE (.ok (.int d))) : looseK pE (.ok (.int d)) := ⟨rfl, h⟩
theorem looseK_str {d : Str} (h : pE (.ok (.str d))) : looseK pE (.ok (.str d)) := ⟨rfl, h⟩
theorem looseK_non (h : pE (.ok .non)) : looseK pE (.ok .non) := ⟨rfl, h⟩
theorem looseK_er (h : pE (.er cn fs)) : looseK pE (.er cn fs) := h
/-! comprehensions -/
theorem q_lc {vs : List Nat} (h : va ρ (bk (fun items post => lcW wg vt w [] items (wipeP ρ vs) post) pL)) : pLc va wg vt w vs ρ pL := h
end
end My
end

section
set_option Elab.async false
set_option maxRecDepth 100000
set_option maxHeartbeats 4000000
set_option linter.all false
/-! loops of meanings by invariants -/
namespace My
open PySem L2
section
variable {ρ : List SV} {post : Out → Prop} {wg : WG} {ws : WS} {vt : WT} {we : WE} {pL : Res (List PV) → Prop}
/-- what is wanted of a loop's body: K stands for what follows -/
structure KOk (Pn : List SV → Prop) (post : Out → Prop) (K : Out → Prop) : Prop where
  nx : ∀ ρ, Pn ρ → K (.nx ρ)
  ct : ∀ ρ, Pn ρ → K (.ct ρ)
  bk : ∀ ρ, post (.nx ρ) → K (.bk ρ)
  rt : ∀ r, post (.rt r) → K (.rt r)
  er : ∀ cn fs, post (.er cn fs) → K (.er cn fs)
theorem forW_inv {items : List PV} (Pv : Nat → List SV → Prop) (h0 : Pv 0 ρ)
    (hs : ∀ i x ρ K, items[i]? = some x → Pv i ρ → KOk (Pv (i + 1)) post K → wg x ρ (erO post fun ρ1 => ws ρ1 K))
    (hd : ∀ ρ, Pv items.length ρ → post (.nx ρ)) : forW wg ws items ρ post := by
  have key : ∀ (n i : Nat) (ρ : List SV), items.length - i = n → i ≤ items.length → Pv i ρ → forW wg ws (items.drop i) ρ post := by
    intro n
    induction n with
    | zero =>
      intro i ρ hn hi hp
      have e : i = items.length := by omega
      subst e
      rw [List.drop_eq_nil_of_le (Nat.le_refl _)]
      exact hd ρ hp
    | succ n ih =>
      intro i ρ hn hi hp
      have hlt : i < items.length := by omega
      rw [List.drop_eq_getElem_cons hlt]
      refine hs i _ ρ _ (by rw [List.getElem?_eq_getElem hlt]) hp ⟨fun ρ2 h => ?_, fun ρ2 h => ?_, fun ρ2 h => h, fun r h => h, fun cn fs h => h⟩
      · exact ih (i + 1) ρ2 (by omega) (by omega) h
      · exact ih (i + 1) ρ2 (by omega) (by omega) h
  have := key items.length 0 ρ (by omega) (by omega) h0
  rw [List.drop_zero] at this
  exact this
def lk3 (acc : List PV) (K : List PV → Prop) (pL : Res (List PV) → Prop) : Res PV → Prop := fun r3 => match r3 with
  | .er cn fs => pL (.er cn fs)
  | .ok y => acc.length ≤ 1000000 ∧ K (acc ++ [y])
def lk2 (we : WE) (ρ2 : List SV) (acc : List PV) (K : List PV → Prop) (pL : Res (List PV) → Prop) : Res Bool → Prop := fun r2 => match r2 with
  | .er cn fs => pL (.er cn fs)
  | .ok d => if d = true then we ρ2 (lk3 acc K pL) else K acc
def lk1 (vt : WT) (we : WE) (acc : List PV) (K : List PV → Prop) (pL : Res (List PV) → Prop) : Res (List SV) → Prop := fun r => match r with
  | .er cn fs => pL (.er cn fs)
  | .ok ρ2 => vt ρ2 (lk2 we ρ2 acc K pL)
theorem lk1_ok {acc : List PV} {K : List PV → Prop} {ρ2 : List SV} (h : vt ρ2 (lk2 we ρ2 acc K pL)) : lk1 vt we acc K pL (.ok ρ2) := h
theorem lk2_b {acc : List PV} {K : List PV → Prop} {ρ2 : List SV} {d : Bool} (h : if d = true then we ρ2 (lk3 acc K pL) else K acc) : lk2 we ρ2 acc K pL (.ok d) := h
theorem lk3_ok {acc : List PV} {K : List PV → Prop} {y : PV} (hl : acc.length ≤ 1000000) (h : K (acc ++ [y])) : lk3 acc K pL (.ok y) := ⟨hl, h⟩
theorem lcW_inv {items : List PV} (Pv : Nat → List PV → Prop) (h0 : Pv 0 [])
    (hs : ∀ i x acc K, items[i]? = some x → Pv i acc → (∀ acc', Pv (i + 1) acc' → K acc') → wg x ρ (lk1 vt we acc K pL))
    (hd : ∀ acc, Pv items.length acc → pL (.ok acc)) : lcW wg vt we [] items ρ pL := by
  have key : ∀ (n i : Nat) (acc : List PV), items.length - i = n → i ≤ items.length → Pv i acc → lcW wg vt we acc (items.drop i) ρ pL := by
    intro n
    induction n with
    | zero =>
      intro i acc hn hi hp
      have e : i = items.length := by omega
      subst e
      rw [List.drop_eq_nil_of_le (Nat.le_refl _)]
      exact hd acc hp
    | succ n ih =>
      intro i acc hn hi hp
      have hlt : i < items.length := by omega
      rw [List.drop_eq_getElem_cons hlt]
      exact hs i _ acc (fun acc' => lcW wg vt we acc' (items.drop (i + 1)) ρ pL) (by rw [List.getElem?_eq_getElem hlt]) hp fun acc' h => ih (i + 1) acc' (by omega) (by omega) h
  have := key items.length 0 [] (by omega) (by omega) h0
  rw [List.drop_zero] at this
  exact this
theorem q_draw {L : Int} {post : Res RV → Prop} (h0 : 0 < L) (h1 : L < 1073741824) (h : ∀ d : Int, 0 ≤ d → d < L → post (.ok (.fz (.int d)))) : wDraw [.bag, .fz (.int L)] post := ⟨h0, h1, h⟩
theorem forL_inv {α : Type} {f : α → PV} {xs : List α} (Pv : Nat → List SV → Prop) (h0 : Pv 0 ρ)
    (hs : ∀ i x ρ K, xs[i]? = some x → Pv i ρ → KOk (Pv (i + 1)) post K → wg (f x) ρ (erO post fun ρ1 => ws ρ1 K))
    (hd : ∀ ρ, Pv xs.length ρ → post (.nx ρ)) : forW wg ws (xs.map f) ρ post := by
  refine forW_inv Pv h0 (fun i x ρ K hx hp hk => ?_) (fun ρ h => hd ρ (by rw [List.length_map] at h; exact h))
  rw [List.getElem?_map] at hx
  cases e : xs[i]? with
  | none => rw [e] at hx; cases hx
  | some y => rw [e] at hx; cases hx; exact hs i y ρ K e hp hk
theorem lcL_inv {α : Type} {f : α → PV} {xs : List α} (Pv : Nat → List PV → Prop) (h0 : Pv 0 [])
    (hs : ∀ i x acc K, xs[i]? = some x → Pv i acc → (∀ acc', Pv (i + 1) acc' → K acc') → wg (f x) ρ (lk1 vt we acc K pL))
    (hd : ∀ acc, Pv xs.length acc → pL (.ok acc)) : lcW wg vt we [] (xs.map f) ρ pL := by
  refine lcW_inv Pv h0 (fun i x ρ K hx hp hk => ?_) (fun ρ h => hd ρ (by rw [List.length_map] at h; exact h))
  rw [List.getElem?_map] at hx
  cases e : xs[i]? with
  | none => rw [e] at hx; cases hx
  | some y => rw [e] at hx; cases hx; exact hs i y ρ K e hp hk
/-- a comprehension that maps -/
theorem lc_map {α : Type} {f : α → PV} {xs : List α} (g : α → PV) (hl : xs.length ≤ 1000000) (hs : ∀ x acc K, x ∈ xs → K (acc ++ [g x]) → acc.length ≤ 1000000 → wg (f x) ρ (lk1 vt we acc K pL))
    (hd : pL (.ok (xs.map g))) : lcW wg vt we [] (xs.map f) ρ pL := by
  refine lcL_inv (fun i acc => acc = (xs.take i).map g) rfl (fun i x acc K hx hp hk => ?_) (fun acc h => ?_)
  · have hi := (List.getElem?_eq_some_iff.mp hx).1
    subst hp
    refine hs x _ K (List.mem_of_getElem? hx) (hk _ ?_) (by simp; omega)
    rw [List.take_succ, hx, List.map_append]; rfl
  · subst h; rw [List.take_length]; exact hd
/-- one that keeps some -/
theorem lc_filter {α : Type} {f : α → PV} {xs : List α} (b : α → Bool) (g : α → PV) (hl : xs.length ≤ 1000000) (hs : ∀ x acc K, x ∈ xs → acc.length ≤ 1000000 → (b x = true → K (acc ++ [g x])) → (b x = false → K acc) → wg (f x) ρ (lk1 vt we acc K pL))
    (hd : pL (.ok ((xs.filter b).map g))) : lcW wg vt we [] (xs.map f) ρ pL := by
  refine lcL_inv (fun i acc => acc = ((xs.take i).filter b).map g) rfl (fun i x acc K hx hp hk => ?_) (fun acc h => ?_)
  · have hi := (List.getElem?_eq_some_iff.mp hx).1
    subst hp
    have hle : (((xs.take i).filter b).map g).length ≤ 1000000 := by
      rw [List.length_map]
      exact Nat.le_trans (List.length_filter_le _ _) (by simp; omega)
    refine hs x _ K (List.mem_of_getElem? hx) hle (fun hb => hk _ ?_) (fun hb => hk _ ?_)
    · rw [List.take_succ, hx, List.filter_append, List.map_append]
      show _ = _ ++ (List.filter b [x]).map g
      rw [List.filter_cons_of_pos hb]; rfl
    · rw [List.take_succ, hx, List.filter_append, List.map_append]
      show _ = _ ++ (List.filter b [x]).map g
      rw [List.filter_cons_of_neg (by rw [hb]; exact Bool.false_ne_true)]; simp
  · subst h; rw [List.take_length]; exact hd
/-- numbers in a range -/
theorem rgP_map (lo st : Int) (n : Nat) : rgP lo st n = (List.range n).map fun i : Nat => .int (lo + (i : Int) * st) := rfl
theorem atI_mapP {α : Type} {f : α → PV} {xs : List α} {i : Int} {x : α} (h0 : 0 ≤ i) (h : xs[i.toNat]? = some x) : L2.atI (xs.map f) i = some (f x) := atI_nn h0 (by rw [List.getElem?_map, h]; rfl)
theorem ixN_ge {n k : Nat} {i : Int} (h0 : 0 ≤ i) (hk : i.toNat = k) (h : k < n) : ixN n i = some k := ixN_nn h0 hk h
end
section
variable {A B : Prop} {i : Int} {z : Str} {d : Bool} {ps : List PV} {C : Str} {fs : List (Str × PV)}
theorem n_int (h : B) : if (PV.int i).isNon = true then A else B := h
theorem n_str (h : B) : if (PV.str z).isNon = true then A else B := h
theorem n_bl (h : B) : if (PV.bl d).isNon = true then A else B := h
theorem n_lst (h : B) : if (PV.lst ps).isNon = true then A else B := h
theorem n_tup (h : B) : if (PV.tup ps).isNon = true then A else B := h
theorem n_obj (h : B) : if (PV.obj C fs).isNon = true then A else B := h
theorem n_non (h : A) : if PV.non.isNon = true then A else B := h
theorem m_int (h : A) : if (!(PV.int i).isNon) = true then A else B := h
theorem m_str (h : A) : if (!(PV.str z).isNon) = true then A else B := h
theorem m_bl (h : A) : if (!(PV.bl d).isNon) = true then A else B := h
theorem m_lst (h : A) : if (!(PV.lst ps).isNon) = true then A else B := h
theorem m_tup (h : A) : if (!(PV.tup ps).isNon) = true then A else B := h
theorem m_obj (h : A) : if (!(PV.obj C fs).isNon) = true then A else B := h
theorem m_non (h : B) : if (!PV.non.isNon) = true then A else B := h
theorem t_bl {P : Bool → Prop} {x : Bool} (h : P x) : P x := h
end
end My
end

section
set_option Elab.async false
set_option maxRecDepth 100000
set_option maxHeartbeats 4000000
set_option linter.all false
/-! more of values: l.index(x) -/
namespace My
open PySem L2
section
variable {c : Cfg} {M : List Addr} {σ : L2.St} {H H' : Hp} {ρ : List SV} {K : PySem.W.Frag} {T : List (Addr × Str)} {E E' : XK} {te tf tg : TE} {w wa wb wc : WE} {pE : Res PV → Prop}
theorem eqIv (a b : Int) : eqV (.int a) (.int b) = decide (a = b) := by
  show (a == b) = _
  by_cases h : a = b
  · rw [h, decide_eq_true rfl]; exact beq_self_eq_true _
  · rw [decide_eq_false h]; exact beq_false_of_ne h
theorem first_idx : ∀ {ns : List Int} {m : Int}, m ∈ ns → ∃ j : Nat, ns[j]? = some m ∧ ∀ (k : Nat) (z : Int), k < j → ns[k]? = some z → z ≠ m
  | n :: ns, m, h => by
    by_cases e : n = m
    · exact ⟨0, by rw [e]; rfl, fun k z hk => absurd hk (Nat.not_lt_zero _)⟩
    · obtain ⟨j, h1, h2⟩ := first_idx (ns := ns) (m := m) (by cases h with | head => exact absurd rfl e | tail _ h => exact h)
      refine ⟨j + 1, h1, fun k z hk hz => ?_⟩
      cases k with
      | zero => have : n = z := Option.some.inj hz
                rw [← this]; exact e
      | succ k => exact h2 k z (by omega) hz
theorem idx_r {p : Addr} {ns : List Int} {m : Int} {Q : VK} (h : SqL K H p (ns.map V.int)) (hm : m ∈ ns) (q : ∀ j : Nat, ns[j]? = some m → (∀ (k : Nat) (z : Int), k < j → ns[k]? = some z → z ≠ m) → Q (.int (j : Int)) H) : rIndex K (.ref p) [.int m] H Q := by
  obtain ⟨j, h1, h2⟩ := first_idx hm
  refine ⟨p, _, .int m, j, .int m, rfl, rfl, h, rfl, by rw [List.all_map]; exact List.all_eq_true.mpr fun _ _ => rfl, by rw [List.getElem?_map, h1]; rfl, by rw [eqIv]; exact decide_eq_true rfl, fun k z hk hz => ?_, q j h1 h2⟩
  rw [List.getElem?_map] at hz
  cases e : ns[k]? with
  | none => rw [e] at hz; cases hz
  | some n =>
    rw [e] at hz
    cases hz
    rw [eqIv]
    exact decide_eq_false (h2 k n hk e)
def qIdx : PV → PV → (Res PV → Prop) → Prop := fun a b post => match a with
  | .lst ps => match b with
    | .int m => ∃ ns, intL ps = some ns ∧ m ∈ ns ∧ ∀ j : Nat, ns[j]? = some m → (∀ (k : Nat) (z : Int), k < j → ns[k]? = some z → z ≠ m) → post (.ok (.int (j : Int)))
    | _ => False
  | _ => False
def pIdx (wa wb : WE) : WE := fun ρ => bindR wa (fun a post => match a with
  | .lst ps => bindR wb (fun b => qIdx (.lst ps) b) ρ post
  | _ => False) ρ
theorem ev_idx (ha : EvB K T E te wa) (hb : EvE K T E tf wb) : EvE K T E (tBM K "list" (rIndex K) te (tCons tf tNil)) (pIdx wa wb) := by
  rintro c M σ H ρ post Q rfl rfl s hw k e
  refine ha c M σ H ρ _ _ rfl rfl s hw (fun H1 x a t1 r1 h1 => ?_) (e.imp fun _ _ z => z)
  have s1 := s.stp t1
  dsimp only at h1
  split at h1
  · obtain ⟨l, xs, rfl, e3, ra, keep⟩ := r1.lstI s1
    refine ⟨ty_list (SqL.of e3), ?_⟩
    refine hb c M σ H1 ρ _ _ rfl rfl s1 h1 (fun H2 y b t2 r2 h2 => ?_) (e.imp fun _ _ z => z)
    unfold qIdx at h2
    dsimp only at h2
    split at h2
    · obtain ⟨ns, e1, hm, h2⟩ := h2
      obtain rfl := ra.ints e1
      cases r2
      exact idx_r (SqL.of (keep _ t2)) hm fun j h3 h4 => k H2 _ _ (t1.trans t2) (.int _) (h2 j h3 h4)
    · exact h2.elim
  · exact h1.elim
def idxK (ρ : List SV) (wb : WE) : PV → (Res PV → Prop) → Prop := fun a post => match a with
  | .lst ps => bindR wb (fun b => qIdx (.lst ps) b) ρ post
  | _ => False
theorem q_idx (h : wa ρ (bk (idxK ρ wb) pE)) : pIdx wa wb ρ pE := h
theorem idxK_ok {ps : List PV} (h : wb ρ (bk (fun b => qIdx (.lst ps) b) pE)) : idxK ρ wb (.lst ps) pE := h
theorem qIdx_ok {ns : List Int} {m : Int} (hm : m ∈ ns) (h : ∀ j : Nat, ns[j]? = some m → (∀ (k : Nat) (z : Int), k < j → ns[k]? = some z → z ≠ m) → pE (.ok (.int (j : Int)))) : qIdx (.lst (ns.map PV.int)) (.int m) pE := ⟨ns, intL_map ns, hm, h⟩
/-! ### text.split(x), int(text) -/
def pSplit (wa wb : WE) : WA := fun ρ => bindR wa (fun a post => match a with
  | .str x => bindR wb (fun b post => match b with
    | .str y => (y.length == 0) = false ∧ x.length ≤ 900000 ∧ post (.ok ((Txt.split x y).map .str))
    | _ => False) ρ post
  | _ => False) ρ
theorem repL_strs {M : List Addr} : ∀ zs : List Str, RepL K M H (zs.map V.str) (zs.map PV.str)
  | [] => .nil
  | _ :: zs => .cons (.str _) (repL_strs zs)
theorem eo_split (ha : EvE K T E te wa) (hb : EvE K T E tf wb) : EvO K T E (tBM K "str" mSplit te (tCons tf tNil)) (pSplit wa wb) := by
  rintro c M σ H ρ post Q rfl rfl s hw k e
  refine ha c M σ H ρ _ _ rfl rfl s hw (fun H1 x a t1 r1 h1 => ?_) (e.imp fun _ _ z => z)
  have s1 := s.stp t1
  dsimp only at h1
  split at h1
  · cases r1
    refine ⟨rfl, ?_⟩
    refine hb c M σ H1 ρ _ _ rfl rfl s1 h1 (fun H2 y b t2 r2 h2 => ?_) (e.imp fun _ _ z => z)
    have s2 := s1.stp t2
    dsimp only at h2
    split at h2
    · cases r2
      obtain ⟨h3, h4, h2⟩ := h2
      exact ⟨_, _, rfl, rfl, h3, szM (by omega), new_lst s2 (repL_strs _) h2 fun H' a vs ps t f h r q => k H' a vs ps (t1.trans (t2.trans t)) ((f.back s1 t2).back s t1) h r q⟩
    · exact h2.elim
  · exact h1.elim
def splitK2 (x : Str) : PV → (Res (List PV) → Prop) → Prop := fun b post => match b with
  | .str y => (y.length == 0) = false ∧ x.length ≤ 900000 ∧ post (.ok ((Txt.split x y).map .str))
  | _ => False
def splitK (ρ : List SV) (wb : WE) : PV → (Res (List PV) → Prop) → Prop := fun a post => match a with
  | .str x => bindR wb (splitK2 x) ρ post
  | _ => False
theorem q_split {pL : Res (List PV) → Prop} (h : wa ρ (bk (splitK ρ wb) pL)) : pSplit wa wb ρ pL := h
theorem splitK_ok {x : Str} {pL : Res (List PV) → Prop} (h : wb ρ (bk (splitK2 x) pL)) : splitK ρ wb (.str x) pL := h
theorem splitK2_ok {x y : Str} {pL : Res (List PV) → Prop} (h1 : (y.length == 0) = false) (h2 : x.length ≤ 900000) (h : pL (.ok ((Txt.split x y).map .str))) : splitK2 x (.str y) pL := ⟨h1, h2, h⟩
theorem k_InGT {a : PV} {x : V} {ps : List PV} {xs : List V} {n : Bool} (hf : flatP a = some x) (hl : flatL ps = some xs) (h : pE (.ok (.bl (if n then !inV x xs else inV x xs)))) : qInG n a (.tup ps) pE := ⟨x, xs, hf, hl, h⟩
/-! f-strings -/
abbrev WJ' : Type := WJ
def jK (wj : WJ) (acc : Str) (ρ : List SV) : PV → (Res Str → Prop) → Prop := fun a post => match a with
  | .str z => (acc ++ z).length ≤ 1000000 ∧ wj (acc ++ z) ρ post
  | _ => False
theorem q_fs {wj : WJ} (h : wj Str.empty ρ (bk (fun z post => post (.ok (.str z))) pE)) : pFS wj ρ pE := h
theorem q_j0 {acc : Str} {pS : Res Str → Prop} (h : pS (.ok acc)) : pJ0 acc ρ pS := h
theorem q_j1 {wj : WJ} {acc : Str} {pS : Res Str → Prop} (h : w ρ (bk (jK wj acc ρ) pS)) : pJ1 w wj acc ρ pS := h
theorem jK_ok {wj : WJ} {acc z : Str} {pS : Res Str → Prop} (hl : (acc ++ z).length ≤ 1000000) (h : wj (acc ++ z) ρ pS) : jK wj acc ρ (.str z) pS := ⟨hl, h⟩
def fmtK : PV → (Res PV → Prop) → Prop := fun a post => match a with
  | .str z => z.length ≤ 1000000 ∧ post (.ok (.str z))
  | .int i => i.natAbs.log2 < 1920 ∧ post (.ok (.str (Str.ofString (toString i))))
  | _ => False
theorem q_fmt (h : w ρ (bk fmtK pE)) : pFmt w ρ pE := h
theorem fmtK_s {z : Str} (hl : z.length ≤ 1000000) (h : pE (.ok (.str z))) : fmtK (.str z) pE := ⟨hl, h⟩
theorem fmtK_i {i : Int} (hl : i.natAbs.log2 < 1920) (h : pE (.ok (.str (Str.ofString (toString i))))) : fmtK (.int i) pE := ⟨hl, h⟩
def qIntS : PV → (Res PV → Prop) → Prop := fun a post => match a with
  | .str z => ∃ n, PySem.intText? z = some n ∧ z.length ≤ 640 ∧ post (.ok (.int n))
  | _ => False
theorem k_IntS {z : Str} {n : Int} (e : PySem.intText? z = some n) (hl : z.length ≤ 640) (h : pE (.ok (.int n))) : qIntS (.str z) pE := ⟨n, e, hl, h⟩
theorem ev_intS (h : EvE K T E te w) : EvE K T E (tCB bIntS (tCons te tNil)) (p1 qIntS w) := by
  rintro c M σ H ρ post Q rfl rfl s hw k e
  refine h c M σ H ρ _ _ rfl rfl s hw (fun H1 x p t1 r1 h1 => ?_) (e.imp fun _ _ z => z)
  unfold qIntS at h1
  dsimp only at h1
  split at h1
  · cases r1
    obtain ⟨n, h2, h3, h1⟩ := h1
    exact ⟨_, n, rfl, h2, h3, k H1 _ _ t1 (.int _) h1⟩
  · exact h1.elim
end
end My
end

section
set_option Elab.async false
set_option maxRecDepth 100000
set_option maxHeartbeats 4000000
set_option linter.all false
namespace My
open PySem L2
section
variable {c : Cfg} {M : List Addr} {σ : L2.St} {H H' : Hp} {ρ : List SV} {K : PySem.W.Frag} {T : List (Addr × Str)} {E E' : XK} {te tf tg : TE} {w wa wb wc : WE} {tt tu : TT} {vt vu : WT} {ta tb : TA} {va vb : WA} {ca cb : WC} {i j n : Nat} {p : PV} {v : V} {b : Bool} {wd : WD} {ts us : TS} {ws wu : WS} {g : TG} {wg : WG} {ss : List Nat}
/-! ### a new list of new lists: it may be spoilt within -/
/-- the lists of a row of addresses -/
structure Row2 (K : PySem.W.Frag) (M : List Addr) (H : Hp) (bs : List Addr) (rows : List (List PV)) : Prop where
  len : bs.length = rows.length
  at_ : ∀ (i : Nat) (b : Addr) (r : List PV), bs[i]? = some b → rows[i]? = some r → ∃ xs, H b = some (.lst xs) ∧ RepL K M H xs r
theorem Row2.nil {K : PySem.W.Frag} {M : List Addr} {H : Hp} : Row2 K M H [] [] := ⟨rfl, fun i b r h => by simp at h⟩
theorem Row2.mono {K : PySem.W.Frag} {M M' : List Addr} {H H' : Hp} {bs : List Addr} {rows : List (List PV)} (r : Row2 K M H bs rows) (x : ∀ b ∈ bs, ∀ xs, H b = some (.lst xs) → H' b = some (.lst xs)) (n : Nxt M H M' H') : Row2 K M' H' bs rows :=
  ⟨r.len, fun i b q h1 h2 => by
    obtain ⟨xs, h3, h4⟩ := r.at_ i b q h1 h2
    exact ⟨xs, x b (List.mem_of_getElem? h1) xs h3, h4.nxt n⟩⟩
theorem Row2.some {K : PySem.W.Frag} {M : List Addr} {H : Hp} {bs : List Addr} {rows : List (List PV)} (r : Row2 K M H bs rows) {b : Addr} (h : b ∈ bs) : ∃ xs, H b = some (.lst xs) := by
  obtain ⟨i, hi⟩ := List.mem_iff_getElem?.mp h
  have hlt : i < rows.length := by rw [← r.len]; exact (List.getElem?_eq_some_iff.mp hi).1
  obtain ⟨xs, h1, _⟩ := r.at_ i b rows[i] hi (List.getElem?_eq_getElem hlt)
  exact ⟨xs, h1⟩
theorem Row2.snoc {K : PySem.W.Frag} {M : List Addr} {H : Hp} {bs : List Addr} {rows : List (List PV)} {b : Addr} {xs : List V} {q : List PV} (r : Row2 K M H bs rows) (h : H b = .some (.lst xs)) (hq : RepL K M H xs q) : Row2 K M H (bs ++ [b]) (rows ++ [q]) := by
  refine ⟨by simp [r.len], fun i y z h1 h2 => ?_⟩
  by_cases hi : i < bs.length
  · rw [List.getElem?_append_left hi] at h1
    rw [List.getElem?_append_left (r.len ▸ hi)] at h2
    exact r.at_ i y z h1 h2
  · rw [List.getElem?_append_right (by omega)] at h1
    rw [List.getElem?_append_right (by have := r.len; omega), ← r.len] at h2
    cases e : i - bs.length with
    | zero => rw [e] at h1 h2; cases h1; cases h2; exact ⟨xs, h, hq⟩
    | succ m => rw [e] at h1; simp at h1
/-- frozen, it is a list of lists -/
theorem Row2.rep {K : PySem.W.Frag} {M : List Addr} {H : Hp} {bs : List Addr} {rows : List (List PV)} (r : Row2 K M H bs rows) (h : ∀ b ∈ bs, b ∉ M) : RepL K M H (bs.map V.ref) (rows.map PV.lst) := by
  refine ⟨by simp [r.len], fun i x p h1 h2 => ?_⟩
  rw [List.getElem?_map] at h1 h2
  cases e1 : bs[i]? with
  | none => rw [e1] at h1; cases h1
  | some b =>
    cases e2 : rows[i]? with
    | none => rw [e2] at h2; cases h2
    | some q =>
      rw [e1] at h1; rw [e2] at h2
      cases h1; cases h2
      obtain ⟨xs, h3, h4⟩ := r.at_ i b q e1 e2
      exact .lst (h b (List.mem_of_getElem? e1)) h3 h4.1 h4.2
abbrev WR : Type := List SV → (Res (List (List PV)) → Prop) → Prop
/-- a new list of new lists -/
def EvR (K : PySem.W.Frag) (T : List (Addr × Str)) (E : XK) (te : TE) (w : WR) : Prop := ∀ (c : Cfg) (M : List Addr) (σ : L2.St) (H : Hp) (ρ : List SV) (post : Res (List (List PV)) → Prop) (Q : VK), c.K = K → c.T = T → StR c M σ H ρ → w ρ post →
  (∀ H' a bs rows, Stp c H H' → Fresh H a → (∀ b ∈ bs, Fresh H b ∧ b ≠ a) → H' a = some (.lst (bs.map V.ref)) → Row2 K (a :: bs ++ M) H' bs rows → post (.ok rows) → Q (.ref a) H') → ErW c E (fun cn fs => post (.er cn fs)) → te σ H Q
/-- more cells that no value has -/
theorem StR.grow (s : StR c M σ H ρ) (t : Stp c H H') {G : List Addr} (hG : ∀ b ∈ G, Fresh H b ∧ ∃ o, H' b = some o ∧ NT o) : StR c (G ++ M) σ H' ρ ∧ Nxt M H (G ++ M) H' := by
  have n2 : Nxt M H (G ++ M) H' := ⟨s.ext t, fun a ha => by
    rcases List.mem_append.mp ha with z | z
    · exact .inr (hG a z).1
    · exact .inl z⟩
  have s2 := s.stp t
  refine ⟨⟨s2.fr, fun a ha => ?_, fun a ha => List.mem_append_right _ (s2.sub a ha), s2.mm, s2.d0, s2.tabs, fun a b e => ⟨(s2.bag a b e).1, List.mem_append_right _ (s2.bag a b e).2.1, List.mem_append_right _ (s2.bag a b e).2.2.1, (s2.bag a b e).2.2.2⟩, s2.len, fun i o q h1' h2' => ?_, s2.uniq⟩, n2⟩
  · rcases List.mem_append.mp ha with z | z
    · exact (hG a z).2
    · exact s2.dom a z
  · have z := s.slots i o q h1' h2'
    cases z with
    | un => exact .un
    | fz h => exact .fz (h.nxt n2)
    | own hm hb h0 h hi => exact .own (List.mem_append_right _ hm) hb h0 (t.keep _ _ (fun a b e => (hb a b e).1) NT.lst h) (hi.nxt n2)
    | bag h => exact .bag h
    | ob hm hb h0 h hi => exact .ob (List.mem_append_right _ hm) hb h0 (t.keep _ _ (fun a b e => (hb a b e).1) NT.ins h) (hi.nxt n2)
    | scr h => exact .scr (h.nxt n2)
    | ref => exact .ref
    | cel hm hb h0 h hi => exact .cel (List.mem_append_right _ hm) hb h0 (t.keep _ _ (fun a b e => (hb a b e).1) hi.nt h) (hi.nxt n2)
/-! ### [[..] for ..] -/
def lcR (wg : WG) (vt : WT) (we : WA) : List (List PV) → List PV → List SV → (Res (List (List PV)) → Prop) → Prop
  | acc, [], ρ, post => post (.ok acc)
  | acc, x :: xs, ρ, post => wg x ρ fun r => match r with
    | .er cn fs => post (.er cn fs)
    | .ok ρ2 => vt ρ2 fun r2 => match r2 with
      | .er cn fs => post (.er cn fs)
      | .ok d => if d = true then we ρ2 fun r3 => match r3 with
          | .er cn fs => post (.er cn fs)
          | .ok y => acc.length ≤ 1000000 ∧ lcR wg vt we (acc ++ [y]) xs ρ post
        else lcR wg vt we acc xs ρ post
def pLcR (va : WA) (wg : WG) (vt : WT) (we : WA) (vs : List Nat) : WR := fun ρ => bindR va (fun items post => lcR wg vt we [] items (wipeP ρ vs) post) ρ
theorem er_lc {wi : TI} {vs : List Nat} (hi : EvI true K T E wi va) (hg : EvG K vs g wg) (ht : EvT K T E tt vt) (he : EvO K T E te vb) : EvR K T E (tLc wi g tt te vs) (pLcR va wg vt vb vs) := by
  rintro c M σ H ρ post Q rfl rfl s hw k e
  refine hi c M σ H ρ _ _ rfl rfl s hw (fun H1 J items t1 it h1 => ?_) (e.imp fun _ _ z => z)
  intro D hD
  have s1 := s.stp t1
  obtain ⟨G, Y, wk, hG⟩ := it
  have fD : Fresh H1 D := .none hD
  have bD : ∀ x y, c.B = some (x, y) → D ≠ x ∧ D ≠ y := fun x y e => by
    obtain ⟨h, _⟩ := s1.bag x y e
    exact ⟨(h.na hD).symm, (h.nc hD).symm⟩
  have stD : ∀ {H2 : Hp} {u : HO}, Stp c H1 H2 → (H2 D = none ∨ ∃ xs, H2 D = some (.lst xs)) → Stp c H1 (upd H2 D u) := fun {H2 u} t2 hd =>
    ⟨fun x o n nt ex => by
        have : x ≠ D := fun z => by subst z; rw [hD] at ex; cases ex
        rw [upd_ne this]; exact t2.keep x o n nt ex,
      upd_tabs t2.tabs (by rcases hd with z | z; exact .inl (.none z); exact .inr z) hd, fun a b e => (t2.bag a b e).mut (bD a b e).1.symm (bD a b e).2.symm⟩
  have gr : ∀ {H2 : Hp} {bs : List Addr} {rows : List (List PV)} {acc : List V}, H2 D = some (.lst acc) → (∀ b ∈ bs, Fresh H1 b ∧ b ≠ D) → Row2 c.K (D :: bs ++ M) H2 bs rows → ∀ b ∈ D :: bs, Fresh H1 b ∧ ∃ o, H2 b = some o ∧ NT o := fun {H2 bs rows acc} hd hf r b hb => by
    rcases List.mem_cons.mp hb with z | z
    · exact ⟨z ▸ fD, _, z ▸ hd, NT.lst⟩
    · obtain ⟨xs, h⟩ := r.some z
      exact ⟨(hf b z).1, _, h, NT.lst⟩
  refine lc_it wk (fun i H2 => Stp c H1 H2 ∧ ∃ bs rows, H2 D = some (.lst (bs.map V.ref)) ∧ (∀ b ∈ bs, Fresh H1 b ∧ b ≠ D) ∧ Row2 c.K (D :: bs ++ M) H2 bs rows ∧ lcR wg vt vb rows (items.drop i) (wipeP ρ vs) post)
    ⟨stD (Stp.refl s1) (.inl hD), [], [], upd_same, fun _ hb => absurd hb List.not_mem_nil, Row2.nil, h1⟩ ?_ ?_ ?_
  · rintro i H2 hil ⟨t2, _⟩
    exact (hG M H2 ((s1.ext t2).nxt) (fun _ => t2)).1
  · rintro i x H2 H3 hil ⟨t2, bs, rows, hd, hf, r, hl⟩ y
    obtain ⟨s2', n2⟩ := s1.grow t2 (gr hd hf r)
    have s2 := s2'.wipe vs
    obtain ⟨p, hp, sm, rp⟩ := (hG (D :: bs ++ M) H2 n2 (fun _ => t2)).2 s2.dom i x H3 hil y
    have t3 : Stp c H2 H3 := ⟨fun x o _ _ e => sm x o e, (s2.tabs).ext (fun b u e => sm b u e), fun a b e => by
      obtain ⟨cs, i, r, m, n, d6, z1, z2, z3, z4⟩ := t2.bag a b e
      exact ⟨cs, i, r, m, n, d6, sm _ _ z1, z2, sm _ _ z3, z4⟩⟩
    have s3 := s2.stp t3
    have hd3 := sm _ _ hd
    have e4 : items.drop i = p :: items.drop (i + 1) := by
      rw [List.drop_eq_getElem_cons hil]
      congr 1
      rw [List.getElem?_eq_getElem hil] at hp
      exact Option.some.inj hp
    rw [e4] at hl
    unfold lcR at hl
    refine hg c (D :: bs ++ M) (L2.wipe σ vs) H3 (wipeP ρ vs) x p _ _ rfl s3 rp hl fun σ2 ρ2 s4 l4 e4 hl => ⟨wipe_eq l4 e4, ?_⟩
    dsimp only at hl
    refine ht c (D :: bs ++ M) σ2 H3 ρ2 _ _ rfl rfl s4 hl (fun H4 d t4 hl => ?_) (e.imp fun _ _ z => z)
    have s5 := s4.stp t4
    have t14 : Stp c H1 H4 := t2.trans (t3.trans t4)
    have t24 : Stp c H2 H4 := t3.trans t4
    have bb : ∀ b ∈ bs, ∀ x y, c.B = some (x, y) → b ≠ x ∧ b ≠ y := fun b hb x y e => by
      obtain ⟨h, _⟩ := s1.bag x y e
      refine ⟨fun z => ?_, fun z => ?_⟩
      · obtain ⟨xs, h1⟩ := h.some
        exact (hf b hb).1 _ (z ▸ h1) NT.lst
      · obtain ⟨xs, h1⟩ := bag_cell h
        exact (hf b hb).1 _ (z ▸ h1) NT.lst
    have r4 : Row2 c.K (D :: bs ++ M) H4 bs rows := r.mono (fun b hb xs e => t24.keep b _ (fun x y e => (bb b hb x y e).1) NT.lst e) (s2.ext t24).nxt
    have hd4 : H4 D = some (.lst (bs.map V.ref)) := t4.keep D _ (fun a b e => (bD a b e).1) NT.lst hd3
    dsimp only at hl
    cases d with
    | false =>
      rw [if_neg Bool.false_ne_true] at hl ⊢
      exact ⟨t14, bs, rows, hd4, hf, r4, hl⟩
    | true =>
      rw [if_pos rfl] at hl ⊢
      refine he c (D :: bs ++ M) σ2 H4 ρ2 _ _ rfl rfl s5 hl (fun H5 b xs q t5 fb eb rb hl => ?_) (e.imp fun _ _ z => z)
      dsimp only at hl
      have hd5 : H5 D = some (.lst (bs.map V.ref)) := t5.keep D _ (fun a b e => (bD a b e).1) NT.lst hd4
      have t15 := t14.trans t5
      have nbD : b ≠ D := fun z => fb _ (z ▸ hd4) NT.lst
      have fb1 : Fresh H1 b := fun o e nt => by
        by_cases hx : ∃ y, c.B = some (b, y)
        · obtain ⟨y, hy⟩ := hx
          obtain ⟨xs, h1⟩ := (s5.bag b y hy).1.some
          exact fb _ h1 NT.lst
        · exact fb o (t14.keep b o (fun x y e z => hx ⟨y, z ▸ e⟩) nt e) nt
      have r5 : Row2 c.K (b :: (D :: bs ++ M)) H5 bs rows := r4.mono (fun b' hb xs e => t5.keep b' _ (fun x y e => (bb b' hb x y e).1) NT.lst e) ⟨s5.ext t5, fun y hy => by
        rcases List.mem_cons.mp hy with z | z
        · exact .inr (z ▸ fb)
        · exact .inl z⟩
      have sub : ∀ y ∈ D :: (bs ++ [b]) ++ M, y ∈ b :: (D :: bs ++ M) := fun y hy => by
        simp only [List.cons_append, List.mem_cons, List.mem_append, List.append_assoc, List.nil_append, List.not_mem_nil, or_false] at hy ⊢
        rcases hy with z | z | z | z
        · exact .inr (.inl z)
        · exact .inr (.inr (.inl z))
        · exact .inl z
        · exact .inr (.inr (.inr z))
      have r6 : Row2 c.K (D :: (bs ++ [b]) ++ M) H5 (bs ++ [b]) (rows ++ [q]) := (r5.snoc eb rb).mono (fun _ _ _ e => e) ⟨fun _ _ _ _ e => e, fun y hy => .inl (sub y hy)⟩
      refine ⟨bs.map V.ref, hd5, szMl (by rw [List.length_map, r.len]; exact hl.1), stD t15 (.inr ⟨_, hd5⟩), bs ++ [b], rows ++ [q], by rw [List.map_append]; exact upd_same, fun y hy => ?_, r6.mono (fun b' hb xs e => ?_) ⟨fun x o n nt ex => ?_, fun y hy => .inl hy⟩, hl.2⟩
      · rcases List.mem_append.mp hy with z | z
        · exact hf y z
        · rw [List.mem_singleton.mp z]; exact ⟨fb1, nbD⟩
      · have : b' ≠ D := by
          rcases List.mem_append.mp hb with z | z
          · exact (hf b' z).2
          · rw [List.mem_singleton.mp z]; exact nbD
        rw [upd_ne this]; exact e
      · rw [upd_ne (fun z => n (by simp [z]))]; exact ex
  · rintro H2 ⟨t2, bs, rows, hd, hf, r, hl⟩
    rw [List.drop_eq_nil_of_le (Nat.le_refl _)] at hl
    exact k H2 D bs rows (t1.trans t2) (fD.back s t1) (fun b hb => ⟨(hf b hb).1.back s t1, (hf b hb).2⟩) hd r hl
end
end My
end

section
set_option Elab.async false
set_option maxRecDepth 100000
set_option maxHeartbeats 4000000
set_option linter.all false
namespace My
open PySem L2
section
variable {c c' : Cfg} {M M' M2 : List Addr} {σ σ' σg : L2.St} {H H' H2 : Hp} {ρ ρ' ρg : List SV} {K : PySem.W.Frag} {T : List (Addr × Str)} {E E' : XK} {te tf tg td te1 te2 te3 : TE} {w wa wb wc : WE} {tt tu : TT} {vt vu : WT} {ta tb : TA} {va vb : WA} {ca cb : WC} {i j n : Nat} {p : PV} {v : V} {b : Bool} {ts us tm1 tm2 tr : TS} {ws wu wm1 wm2 wr : WS} {g : TG} {wg : WG} {ss : List Nat}
/-! ### a def that hands out a new list of new lists -/
abbrev WD2 : Type := List SV → (Res (List (List PV)) → Prop) → Prop
structure Rt2 (c : Cfg) (Q : VK) (post : Res (List (List PV)) → Prop) : Prop where
  own2 : ∀ H' a bs rows, Lv c H' → Fresh c.H0 a → (∀ b ∈ bs, Fresh c.H0 b ∧ b ≠ a) → H' a = some (.lst (bs.map V.ref)) → Row2 c.K (a :: bs ++ c.M0) H' bs rows → post (.ok rows) → Q (.ref a) H'
def SpP2 (K : PySem.W.Frag) (T : List (Addr × Str)) (n : Nat) (w : WD2) : Sp := fun vs H Q E => ∃ (c : Cfg) (as : List SV) (post : Res (List (List PV)) → Prop), c.K = K ∧ c.T = T ∧ vs.length = n ∧ Ent c H vs as ∧ w as post ∧ Rt2 c Q post ∧ ErW c E (fun cn fs => post (.er cn fs))
theorem spP2_len {wd : WD2} {N : List Str} {vs : List V} {Q : VK} (h : SpP2 K T n wd vs H Q E) : vs.length = n := by obtain ⟨c, as, post, _, _, h, _⟩ := h; exact h
def outR (post : Res (List (List PV)) → Prop) (f : List SV → Prop) : Out → Prop
  | .nx ρ => f ρ
  | .er cn fs => post (.er cn fs)
  | _ => False
def bodyR (m : Nat) (wa wb : WS) (wr : WR) : WD2 := fun as post => wa (as ++ List.replicate (m - as.length) .un) (outR post fun ρ => wb ρ (outR post fun ρ => wr ρ post))
theorem spP2_run {N : List Str} {vs : List V} {Q : VK} {wr : WR} (hA : EvS K T E ts ws) (hB : EvS K T E us wu) (hR : EvR K T E te wr) (h : SpP2 K T n (bodyR N.length ws wu wr) vs H Q E) : tSeq ts (tSeq us (tRet te)) { nx := fun _ H' => Q .non H', rt := Q } (L2.start N vs) H := by
  obtain ⟨c, as, post, rfl, rfl, hl, e, hw, rt, er⟩ := h
  refine hA c c.M0 (L2.start N vs) H _ (outR post fun ρ => wu ρ (outR post fun ρ => wr ρ post)) _ rfl rfl (ent_st e) hw ⟨fun c' M' σ' H' ρ' x s k h => ?_, fun c' M' σ' H' ρ' x s k h => h.elim, fun c' M' σ' H' ρ' x s k h => h.elim, ⟨fun _ _ _ _ _ h => h.elim, fun _ _ _ _ _ _ _ _ h => h.elim⟩, er⟩
  refine hB c' M' σ' H' ρ' (outR post fun ρ => wr ρ post) _ x.K x.T s h ⟨fun c2 M2 σ2 H2 ρ2 x2 s2 k2 h2 => ?_, fun c' M' σ' H' ρ' x s k h => h.elim, fun c' M' σ' H' ρ' x s k h => h.elim, ⟨fun _ _ _ _ _ h => h.elim, fun _ _ _ _ _ _ _ _ h => h.elim⟩, er.ex x⟩
  have x3 := x.trans x2
  refine hR c2 M2 σ2 H2 ρ2 post Q x3.K x3.T s2 h2 (fun H3 a bs rows t fa fb ea r hp => ?_) (er.ex x3)
  refine rt.own2 H3 a bs rows ((s2.stp t).lv.back x3) (x3.H0 ▸ s2.fresh0 fa) (fun b hb => ⟨x3.H0 ▸ s2.fresh0 (fb b hb).1, (fb b hb).2⟩) ea ?_ hp
  refine r.mono (fun _ _ _ e => e) ⟨fun _ _ _ _ e => e, fun y hy => .inl ?_⟩
  rcases List.mem_append.mp hy with z | z
  · exact List.mem_append_left _ z
  · exact List.mem_append_right _ (s2.sub y (x3.M0 ▸ z))
def noR2 (post : Res (List (List PV)) → Prop) : Res (List (List PV)) → Prop
  | .ok a => post (.ok a)
  | .er _ _ => False
def pCallR0 (wd : WD2) (ds : List PV) (ca : WC) : WR := fun ρ => bindR ca (fun as post => wd (as ++ ds.map .fz) (noR2 post)) ρ
theorem er_call0 {wd : WD2} {dvs : List V} {ds : List PV} (hd : ∀ M H, RepL K M H dvs ds) (hn : j + dvs.length = n) (ha : EvC K T E j ta ca) : EvR K T E (tCall (SpP2 K T n wd) dvs E' ta) (pCallR0 wd ds ca) := by
  rintro c M σ H ρ post Q rfl rfl s hw k e
  refine ha c M σ H ρ _ _ rfl rfl s hw (fun H1 xs as t1 r1 hl h1 => ?_) (e.imp fun _ _ z => z)
  have s1 := s.stp t1
  have r2 := Ent.more r1 hd
  refine ⟨c.sub M H1, as ++ ds.map .fz, noR2 post, rfl, rfl, by rw [List.length_append, hl, hn], s1.ent r2, h1, ⟨fun H' a bs rows l fa fb ea r h => ?_⟩, fun _ _ _ _ _ _ _ _ h => h.elim⟩
  exact k H' a bs rows (t1.trans (s1.left l)) ((show Fresh H1 a from fa).back s t1) (fun b hb => ⟨(show Fresh H1 b from (fb b hb).1).back s t1, (fb b hb).2⟩) ea r h
/-! ### one of its lists is changed, then the list itself; nobody looks at them behind -/
theorem StR.forget (s : StR c M σ H ρ) (i : Nat) : StR c M σ H (ρ.set i .un) where
  fr := s.fr
  dom := s.dom
  sub := s.sub
  mm := s.mm
  d0 := s.d0
  tabs := s.tabs
  bag := s.bag
  len := by simp [s.len]
  slots := fun j u t h1 h2 => by
    by_cases e : i = j
    · subst e
      have hi := (List.getElem?_eq_some_iff.mp h2).1
      rw [List.length_set] at hi
      rw [List.getElem?_set_self hi] at h2
      cases h2; exact .un
    · rw [List.getElem?_set_ne e] at h2
      exact s.slots j u t h1 h2
  uniq := fun j k a t u h1 h2 h3 h4 h5 h6 => by
    have key : ∀ (m : Nat) (t : SV), (ρ.set i .un)[m]? = some t → t.isOwn = true → ρ[m]? = some t := fun m t q1 q2 => by
      by_cases e : i = m
      · subst e
        have hi := (List.getElem?_eq_some_iff.mp q1).1
        rw [List.length_set] at hi
        rw [List.getElem?_set_self hi] at q1
        cases q1; cases q2
      · rw [List.getElem?_set_ne e] at q1; exact q1
    exact s.uniq j k a t u h1 h2 (key j t h3 h5) (key k u h4 h6) h5 h6
theorem StR.mutL (s : StR c M σ H ρ) (no : ∀ q ∈ ρ, q.isOwn = false) {a : Addr} {xs ys : List V} (ha : H a = some (.lst xs)) (hm : a ∈ M) (hb : ∀ x y, c.B = some (x, y) → a ≠ x ∧ a ≠ y) (h0 : Fresh c.H0 a) : StR c M σ (upd H a (.lst ys)) ρ ∧ Nxt M H M (upd H a (.lst ys)) := by
  have ex : Ext M H (upd H a (.lst ys)) := fun x o n _ e => by rw [upd_ne (fun z => n (by rw [z]; exact hm))]; exact e
  refine ⟨⟨fun x o n nt e => ?_, fun y hy => ?_, s.sub, s.mm, s.d0, upd_tabs s.tabs (.inr ⟨_, ha⟩) (.inr ⟨_, ha⟩), fun x y e => ⟨(s.bag x y e).1.mut (hb x y e).1.symm (hb x y e).2.symm, (s.bag x y e).2⟩, s.len, fun j u t e1 e2 => ?_, s.uniq⟩, ex.nxt⟩
  · rw [upd_ne (fun z => h0 o (by rw [← z]; exact e) nt)]; exact s.fr x o n nt e
  · by_cases z : y = a
    · subst z; exact ⟨_, upd_same, NT.lst⟩
    · obtain ⟨o, e, nt⟩ := s.dom y hy
      exact ⟨o, (upd_ne z).trans e, nt⟩
  · have hno := no t (List.mem_of_getElem? e2)
    cases s.slots j u t e1 e2 with
    | un => exact .un
    | fz h => exact .fz (h.ext ex)
    | own _ _ _ _ _ => cases hno
    | bag h => exact .bag h
    | ob _ _ _ _ _ => cases hno
    | scr h => exact .scr (h.nxt ex.nxt)
    | ref => exact .ref
    | cel _ _ _ _ _ => cases hno
/-- out of the inner state -/
theorem StR.out (sg : StR c M2 σg H2 ρg) (x : CEx (c.sub M2 H2) c') (s : StR c' M' σ H ρ) {q : Addr × Addr} (hB : c.B = some q) (no : ∀ q ∈ ρ, q.isOwn = false) : StR c M' σ H ρ := by
  have hB' : c'.B = c.B := by rw [hB]; exact x.B q hB
  have hm : c'.m = (c.sub M2 H2).m := x.m
  have h0 : c'.H0 = H2 := x.H0
  have hM : c'.M0 = M2 := x.M0
  refine ⟨fun y o n nt e => ?_, s.dom, fun y hy => s.sub y (by rw [hM]; exact sg.sub y hy), sg.mm, sg.d0, x.T ▸ s.tabs, fun a b e => ?_, s.len, fun i o t e1 e2 => ?_, s.uniq⟩
  · refine s.fr y o (fun z => ?_) nt (by rw [h0]; exact sg.fr y o n nt e)
    rw [hm] at z
    obtain ⟨b, eb⟩ := sub_m.mp z
    rcases (sg.bag y b eb).2.2.2 with z | z
    · exact n z
    · exact z o e nt
  · obtain ⟨b1, b2, b3, _⟩ := s.bag a b (by rw [hB']; exact e)
    exact ⟨b1, b2, b3, (sg.bag a b e).2.2.2⟩
  · have hno := no t (List.mem_of_getElem? e2)
    cases s.slots i o t e1 e2 with
    | un => exact .un
    | fz h => exact .fz (x.K ▸ h)
    | own _ _ _ _ _ => cases hno
    | bag h => exact .bag (by rw [← hB']; exact h)
    | ob _ _ _ _ _ => cases hno
    | scr h => exact .scr (x.K ▸ h)
    | ref => exact .ref
    | cel _ _ _ _ _ => cases hno
/-- s = l[e]; s.append(e1); s[0] = e2; l.append(e3) -/
def tSpoil (K : PySem.W.Frag) (i j : Nat) (td te1 te2 te3 : TE) (tr : TS) : TS := tSeq (tAsg (tOp (rIxL K) (tVar i) td) (gName j)) (tSeq (tDrop (tBM K "list" rAppend (tVar j) (tCons te1 tNil))) (tSeq (tAsg te2 (gSub (tVar j) (tC (.int 0)) rSetL)) (tSeq (tDrop (tBM K "list" rAppend (tVar i) (tCons te3 tNil))) tr)))
/-- a value, whatever the state is -/
def Const (w : WE) : Prop := ∀ ρ (post : Res PV → Prop), (∀ p, post (.ok p)) → w ρ post
def idxR (rows : List (List PV)) (nx : Prop) : PV → Prop
  | .int k => (∃ qs : List PV, L2.atI (rows.map PV.lst) k = some (.lst qs) ∧ 0 < qs.length ∧ qs.length ≤ 1000) ∧ nx
  | _ => False
def wSpoil (rows : List (List PV)) (i j : Nat) (a : Addr) (wd : WE) (wr : WS) (K : Out → Prop) : List SV → Prop := fun ρ =>
  ρ[i]? = some (.ref a) ∧ (∀ s ∈ ρ, s.isOwn = false) ∧ j < ρ.length ∧ j ≠ i ∧ rows.length ≤ 1000 ∧ wd ρ (erO K fun p => idxR rows (wr ((ρ.set j .un).set i .un) K) p)
theorem spoil_run {D : Ends} {post : Out → Prop} {a : Addr} {bs : List Addr} {rows : List (List PV)} {wd w1 w2 w3 : WE} {q : Addr × Addr} (hd : EvE K T E td wd) (h1 : EvE K T E te1 w1) (h2 : EvE K T E te2 w2) (h3 : EvE K T E te3 w3) (k1 : Const w1) (k2 : Const w2) (k3 : Const w3) (eK : c.K = K) (eT : c.T = T)
    (sg : StR c M2 σg H2 ρg) (x : CEx (c.sub M2 H2) c') (s : StR c' M' σ H ρ) (k : Nxt M2 H2 M' H) (hB : c.B = some q) (ea : H2 a = some (.lst (bs.map V.ref))) (r : Row2 c.K M2 H2 bs rows) (hm : ∀ b ∈ a :: bs, b ∈ M2) (hba : ∀ b ∈ bs, b ≠ a) (f0 : ∀ b ∈ a :: bs, Fresh c.H0 b) (nbag : ∀ b ∈ a :: bs, ∀ x y, c.B = some (x, y) → b ≠ x ∧ b ≠ y)
    (hw : wSpoil rows i j a wd wr post ρ) (er : ErW c' E (fun cn fs => post (.er cn fs))) (cont : ∀ H8 σ8 ρ8, StR c M' σ8 H8 ρ8 → Nxt M2 H2 M' H8 → wr ρ8 post → tr D σ8 H8) : tSpoil K i j td te1 te2 te3 tr D σ H := by
  subst eK eT
  obtain ⟨hi, no, hj, hji, hl, hw⟩ := hw
  have hB' : c'.B = c.B := by rw [hB]; exact x.B q hB
  have key : ∀ {b : Addr} {o : HO}, b ∈ a :: bs → NT o → H2 b = some o → H b = some o := fun {b o} hb nt e => s.fr b o (fun z => by
    have z : b ∈ (c.sub M2 H2).m := x.m ▸ z
    obtain ⟨y, ey⟩ := sub_m.mp z
    exact (nbag b hb b y ey).1 rfl) nt (by rw [x.H0]; exact e)
  have nb' : ∀ b ∈ a :: bs, ∀ x y, c'.B = some (x, y) → b ≠ x ∧ b ≠ y := fun b hb x y e => nbag b hb x y (hB' ▸ e)
  obtain ⟨o, e1, e2⟩ := s.get hi
  cases e2
  refine ⟨.ref a, e1, ?_⟩
  refine hd c' M' σ H ρ _ _ x.K x.T s hw (fun H3 y p t3 r3 h => ?_) er
  have h : idxR rows (wr ((ρ.set j .un).set i .un) post) p := h
  cases p with
  | int k' =>
    cases r3
    obtain ⟨⟨qs, hq, q0, q1⟩, hr⟩ := h
    have rr : RepL c.K [] H2 (bs.map V.ref) (rows.map PV.lst) := (r.mono (M' := []) (fun _ _ _ e => e) ⟨fun _ _ _ _ e => e, fun y hy => absurd hy List.not_mem_nil⟩).rep fun _ _ z => absurd z List.not_mem_nil
    obtain ⟨vb, hvb, rb⟩ := rr.atI hq
    obtain ⟨b, xs, rfl, _, hb2, rx⟩ := rb.lstI
    have hbm : b ∈ bs := by
      unfold L2.atI at hvb
      obtain ⟨m, _, hm⟩ := Option.bind_eq_some_iff.mp hvb
      obtain ⟨b', h1, h2⟩ := List.mem_map.mp (List.mem_of_getElem? hm)
      cases h2; exact h1
    have hbm' : b ∈ a :: bs := List.mem_cons_of_mem _ hbm
    have ham' : a ∈ a :: bs := List.mem_cons_self
    have nba := hba b hbm
    have ha3 : H3 a = some (.lst (bs.map V.ref)) := t3.keep a _ (fun x y e => (nb' a ham' x y e).1) NT.lst (key ham' NT.lst ea)
    have hb3 : H3 b = some (.lst xs) := t3.keep b _ (fun x y e => (nb' b hbm' x y e).1) NT.lst (key hbm' NT.lst hb2)
    refine ⟨a, _, k', .ref b, rfl, rfl, SqL.of ha3, hvb, ?_⟩
    have s3 : StR c' M' (σ.set j (some (.ref b))) H3 (ρ.set j (.ref b)) := (s.stp t3).set j .ref rfl
    have hjσ : j < σ.length := by rw [s.len]; exact hj
    have sj : (σ.set j (some (.ref b)))[j]? = some (some (V.ref b)) := List.getElem?_set_self hjσ
    have si : (σ.set j (some (.ref b)))[i]? = some (some (V.ref a)) := by rw [List.getElem?_set_ne hji]; exact e1
    have no2 : ∀ t ∈ ρ.set j (.ref b), t.isOwn = false := fun t ht => by
      rcases List.mem_or_eq_of_mem_set ht with z | z
      · exact no t z
      · rw [z]; rfl
    refine ⟨.ref b, sj, .inl ⟨rfl, xs, SqL.of hb3⟩, ?_⟩
    refine h1 c' M' _ H3 _ (fun r => match r with | .ok _ => True | .er _ _ => False) _ x.K x.T s3 (k1 _ _ fun _ => trivial) (fun H4 x1 p1 t4 r4 _ => ?_) (fun _ _ _ _ _ _ _ _ h => h.elim)
    have hb4 : H4 b = some (.lst xs) := t4.keep b _ (fun x y e => (nb' b hbm' x y e).1) NT.lst hb3
    have ha4 : H4 a = some (.lst (bs.map V.ref)) := t4.keep a _ (fun x y e => (nb' a ham' x y e).1) NT.lst ha3
    refine ⟨b, xs, x1, rfl, rfl, hb4, szMl (by rw [rx.1]; omega), ?_⟩
    have s4 := s3.stp t4
    have sC : StR c M' (σ.set j (some (.ref b))) H4 (ρ.set j (.ref b)) := sg.out x s4 hB no2
    have hbM : b ∈ M' := by
      have := s.sub b (x.M0 ▸ hm b hbm')
      exact this
    have haM : a ∈ M' := by
      have := s.sub a (x.M0 ▸ hm a ham')
      exact this
    obtain ⟨s5, n5⟩ := sC.mutL no2 (ys := xs ++ [x1]) hb4 hbM (nbag b hbm') (f0 b hbm')
    have hl5 : 0 < (xs ++ [x1]).length := by simp
    refine h2 c M' _ _ _ (fun r => match r with | .ok _ => True | .er _ _ => False) _ rfl rfl s5 (k2 _ _ fun _ => trivial) (fun H6 x2 p2 t6 r6 _ => ?_) (fun _ _ _ _ _ _ _ _ h => h.elim)
    have hb6 : H6 b = some (.lst (xs ++ [x1])) := t6.keep b _ (fun x y e => (nbag b hbm' x y e).1) NT.lst upd_same
    have ha6 : H6 a = some (.lst (bs.map V.ref)) := t6.keep a _ (fun x y e => (nbag a ham' x y e).1) NT.lst ((upd_ne nba.symm).trans ha4)
    refine ⟨.ref b, sj, ⟨b, _, 0, 0, rfl, rfl, hb6, ixN_nn (Int.le_refl 0) rfl hl5, ?_⟩⟩
    obtain ⟨s7, n7⟩ := (s5.stp t6).mutL no2 (ys := (xs ++ [x1]).set 0 x2) hb6 hbM (nbag b hbm') (f0 b hbm')
    have ha7 : (upd H6 b (.lst ((xs ++ [x1]).set 0 x2))) a = some (.lst (bs.map V.ref)) := (upd_ne nba.symm).trans ha6
    refine ⟨.ref a, si, .inl ⟨rfl, _, SqL.of ha7⟩, ?_⟩
    refine h3 c M' _ _ _ (fun r => match r with | .ok _ => True | .er _ _ => False) _ rfl rfl s7 (k3 _ _ fun _ => trivial) (fun H8 x3 p3 t8 r8 _ => ?_) (fun _ _ _ _ _ _ _ _ h => h.elim)
    have ha8 : H8 a = some (.lst (bs.map V.ref)) := t8.keep a _ (fun x y e => (nbag a ham' x y e).1) NT.lst ha7
    refine ⟨a, _, x3, rfl, rfl, ha8, szMl (by rw [List.length_map, r.len]; omega), ?_⟩
    obtain ⟨s9, n9⟩ := (s7.stp t8).mutL no2 (ys := bs.map V.ref ++ [x3]) ha8 haM (nbag a ham') (f0 a ham')
    have s10 := (s9.forget j).forget i
    rw [List.set_set] at s10
    have nn : Nxt M' H M' H4 := ⟨fun y o n nt e => (s.stp t3).ext t4 y o n nt ((s.ext t3) y o n nt e), fun y hy => .inl hy⟩
    exact cont _ _ _ s10 (k.trans (nn.trans (n5.trans (((s5.ext t6).nxt).trans (n7.trans (((s7.ext t8).nxt).trans n9)))))) hr
  | _ => exact h.elim
end
end My
end

section
set_option Elab.async false
set_option maxRecDepth 100000
set_option maxHeartbeats 4000000
set_option linter.all false
namespace My
open PySem L2
section
variable {c c' : Cfg} {M M' M2 : List Addr} {σ σ' σg : L2.St} {H H' H2 : Hp} {ρ ρ' ρg : List SV} {K : PySem.W.Frag} {T : List (Addr × Str)} {E E' : XK} {te tf tg td te1 te2 te3 : TE} {w wa wb w1 w2 w3 wd : WE} {tt tu : TT} {vt vu : WT} {i j n : Nat} {p : PV} {v : V} {b : Bool} {ts us tm1 tm2 tr : TS} {ws wu wm1 wm2 wr wm : WS} {wc : WR}
def isoM (rows : List (List PV)) (i j : Nat) (a : Addr) (wd : WE) (wr : WS) (K : Out → Prop) : Out → Prop
  | .nx ρ' => wSpoil rows i j a wd wr K ρ'
  | .rt (.fz p) => K (.rt (.fz p))
  | .er cn fs => K (.er cn fs)
  | _ => False
def isoT (i j : Nat) (vt : WT) (wm : WS) (wd : WE) (wr : WS) (ρ : List SV) (K : Out → Prop) (rows : List (List PV)) : Prop :=
  vt (ρ.set i (.fz (.lst (rows.map PV.lst)))) (erO K fun d => if d = true then K (.rt (.fz (.bl false))) else ∀ a, wm ((ρ.set i (.ref a)).map SV.hide) (isoM rows i j a wd wr K))
def sIso (i j : Nat) (wc : WR) (vt : WT) (wm : WS) (wd : WE) (wr : WS) : WS := fun ρ K => ρ[1]? = some .bag ∧ wc ρ (erO K (isoT i j vt wm wd wr ρ K))
theorem es_iso (hc : EvR K T E te wc) (ht : EvT K T E tt vt) (hm1 : EvS K T E tm1 wm1) (hm2 : EvS K T E tm2 wm2) (hd : EvE K T E td wd) (h1 : EvE K T E te1 w1) (h2 : EvE K T E te2 w2) (h3 : EvE K T E te3 w3) (k1 : Const w1) (k2 : Const w2) (k3 : Const w3) (hr : EvS K T E tr wr) :
    EvS K T E (tSeq (tAsg te (gName i)) (tSeq (tIfS tt (tRet (tC (.bl false))) tNext) (tSeq tm1 (tSeq tm2 (tSeq (tAsg (tOp (rIxL K) (tVar i) td) (gName j)) (tSeq (tDrop (tBM K "list" rAppend (tVar j) (tCons te1 tNil))) (tSeq (tAsg te2 (gSub (tVar j) (tC (.int 0)) rSetL)) (tSeq (tDrop (tBM K "list" rAppend (tVar i) (tCons te3 tNil))) tr)))))))) (sIso i j wc vt (sSeq wm1 wm2) wd wr) := by
  rintro c M σ H ρ post D rfl rfl s hw d
  obtain ⟨hbag, hw⟩ := hw
  obtain ⟨_, _, ob⟩ := s.get hbag
  have hB : ∃ q, c.B = some q := by
    cases ob with
    | bag h => exact ⟨_, h⟩
  obtain ⟨q, hB⟩ := hB
  refine hc c M σ H ρ _ _ rfl rfl s hw (fun H1 a bs rows t1 fa fb ea r hz => ?_) d.er
  have hz : isoT i j vt (sSeq wm1 wm2) wd wr ρ post rows := hz
  unfold isoT at hz
  have s1 := s.stp t1
  have na : a ∉ M := s.notIn fa
  have nb : ∀ b ∈ bs, b ∉ M := fun b hb => s.notIn (fb b hb).1
  have r' : Row2 c.K M H1 bs rows := r.mono (fun _ _ _ e => e) ⟨fun _ _ _ _ e => e, fun y hy => .inl (List.mem_append_right _ hy)⟩
  have rl := r'.rep nb
  have rp : Rep c.K M H1 (.ref a) (.lst (rows.map PV.lst)) := .lst na ea rl.1 rl.2
  have sD : StR c M (σ.set i (some (.ref a))) H1 (ρ.set i (.fz (.lst (rows.map PV.lst)))) := s1.set i (.fz rp) rfl
  refine ht c M _ H1 _ _ _ rfl rfl sD hz (fun H2 b t2 hy => ?_) d.er
  have hy : if b = true then post (.rt (.fz (.bl false))) else ∀ a, sSeq wm1 wm2 ((ρ.set i (.ref a)).map SV.hide) (isoM rows i j a wd wr post) := hy
  cases b with
  | true => exact d.rt.fz H2 _ _ (sD.stp t2).lv (.bl false) hy
  | false =>
    have hy := hy a
    have t12 : Stp c H H2 := t1.trans t2
    have fr : ∀ b ∈ a :: bs, Fresh H b := fun b hb => by
      rcases List.mem_cons.mp hb with z | z
      · rw [z]; exact fa
      · exact (fb b z).1
    have nbag : ∀ b ∈ a :: bs, ∀ x y, c.B = some (x, y) → b ≠ x ∧ b ≠ y := fun b hb x y e => by
      obtain ⟨h, _⟩ := s.bag x y e
      refine ⟨fun z => ?_, fun z => ?_⟩
      · obtain ⟨xs, h1⟩ := h.some
        exact fr b hb _ (z ▸ h1) NT.lst
      · obtain ⟨xs, h1⟩ := bag_cell h
        exact fr b hb _ (z ▸ h1) NT.lst
    have ea2 : H2 a = some (.lst (bs.map V.ref)) := t2.keep a _ (fun x y e => (nbag a List.mem_cons_self x y e).1) NT.lst ea
    have r2 : Row2 c.K (a :: bs ++ M) H2 bs rows := r.mono (fun b hb xs e => t2.keep b _ (fun x y e => (nbag b (List.mem_cons_of_mem _ hb) x y e).1) NT.lst e) ⟨fun x o n nt e => s1.ext t2 x o (fun z => n (List.mem_append_right _ z)) nt e, fun y hy => .inl hy⟩
    obtain ⟨sg, ng⟩ := s.grow t12 (G := a :: bs) (fun b hb => ⟨fr b hb, by
      rcases List.mem_cons.mp hb with z | z
      · exact ⟨_, z ▸ ea2, NT.lst⟩
      · obtain ⟨xs, h⟩ := r2.some z
        exact ⟨_, h, NT.lst⟩⟩)
    have sg' : StR c (a :: bs ++ M) (σ.set i (some (.ref a))) H2 (ρ.set i (.ref a)) := sg.set i .ref rfl
    have dE : ErW (c.sub (a :: bs ++ M) H2) E (fun cn fs => post (.er cn fs)) := sg'.err d.er
    show (tSeq tm1 tm2) { D with nx := tSpoil c.K i j td te1 te2 te3 tr D } _ _
    refine (seq_ok hm1 hm2) (c.sub (a :: bs ++ M) H2) (a :: bs ++ M) _ H2 _ (isoM rows i j a wd wr post) _ rfl rfl sg'.inner hy ⟨fun c' M' σ' H' ρ' x s' k h => ?_, fun c' M' σ' H' ρ' x s' k h => h.elim, fun c' M' σ' H' ρ' x s' k h => h.elim, ⟨fun H' v p l rr h => ?_, fun H' a vs ps l f hx rr h => h.elim⟩, dE⟩
    · refine spoil_run hd h1 h2 h3 k1 k2 k3 rfl rfl sg' x s' k hB ea2 r2 (fun b hb => List.mem_append_left _ hb) (fun b hb => (fb b hb).2) (fun b hb => s.fresh0 (fr b hb)) nbag h (dE.ex x) (fun H8 σ8 ρ8 s8 n8 hw8 => ?_)
      exact hr c M' σ8 H8 ρ8 post D rfl rfl s8 hw8 (d.later (.refl c) (ng.trans n8))
    · exact d.rt.fz H' v p (sg'.stp (sg'.left l)).lv (rr.weak fun y hy => List.mem_append_right _ (s.sub y hy)) h
/-! ### step lemmas -/
theorem q_iso {wc : WR} {K : Out → Prop} (hb : ρ[1]? = some .bag) (h : wc ρ (erO K (isoT i j vt wm wd wr ρ K))) : sIso i j wc vt wm wd wr ρ K := ⟨hb, h⟩
theorem q_callR0 {wd : WD2} {ds : List PV} {ca : WC} {post : Res (List (List PV)) → Prop} (h : ca ρ (bk (fun as post => wd (as ++ ds.map .fz) (noR2 post)) post)) : pCallR0 wd ds ca ρ post := h
theorem const_c : Const (pC p) := fun _ _ k => k p
theorem const_tup2 {a b : PV} : Const (pTup (pCons (pC a) (pCons (pC b) pNil))) := fun _ _ k => ⟨by simp, k _⟩
theorem const_nilF : Const (pFrz (pLst pNil)) := fun _ _ k => ⟨by simp, k _⟩
end
end My
end

section
set_option Elab.async false
set_option maxRecDepth 100000
set_option maxHeartbeats 4000000
set_option linter.all false
namespace My
open PySem L2
section
variable {c : Cfg} {M : List Addr} {σ : L2.St} {H H' : Hp} {ρ : List SV} {K : PySem.W.Frag} {T : List (Addr × Str)} {E E' : XK} {te tf tg : TE} {w wa wb wc : WE} {tt tu : TT} {vt vu : WT} {i j n : Nat} {p : PV} {v : V} {b : Bool} {wd : WD} {ts us : TS} {ws wu : WS} {pE : Res PV → Prop}
/-! ### try: return b / except (..) as e: return y(e) -/
def tellK (et : ErTab) (post : Out → Prop) : Res PV → Prop
  | .ok p => post (.rt (.fz p))
  | .er cn fs => ∃ l, et cn fs = some l ∧ post (.rt (.fz l))
def sTell (et : ErTab) (w : WE) : WS := fun ρ post => w (ρ.map SV.hide) (tellK et post)
theorem es_tell {cs : List Value} {spX : SpX} {et : ErTab} {t : XK → TE} (tx : TellX K cs spX et) (h : ∀ E, EvE K T E (t E) w) : EvS K T E' (tTell K cs spX t) (sTell et w) := by
  rintro c M σ H ρ post D rfl rfl s hw d
  refine ⟨fun cls d' H' => ∃ cn fs l dd vs, cls = .ref (He.ga c.K cn) ∧ d' = some dd ∧ et cn fs = some l ∧ Stp c H H' ∧ H' dd = some (.xd vs) ∧ RepF c.K M H' vs fs ∧ post (.rt (.fz l)), ?_, ?_⟩
  · rintro cls d' H' ⟨cn, fs, l, dd, vs, rfl, rfl, el, t2, hd, rf, hp⟩
    obtain ⟨x2, x3⟩ := tx cn fs l el
    have s3 := s.stp t2
    refine ⟨x2, fun a ha => x3 M H' a dd vs D.rt s3.dom hd rf ha fun H2 x sm r => ?_⟩
    exact d.rt.fz H2 x l (s3.stp (Stp.sameR s3 sm)).lv (r.weak s.sub) hp
  · refine h _ (c.sub M H) M σ H _ (tellK et post) _ rfl rfl s.inner hw (fun H2 x p t2 r h2 => ?_) (fun H' cn fs dd vs l hd rf h2 => ?_)
    · have t3 : Stp c H H2 := s.left (s.inner.stp t2).lv
      exact d.rt.fz H2 x p (s.stp t3).lv (r.weak s.sub) h2
    · obtain ⟨l', h3, h4⟩ := h2
      exact ⟨cn, fs, l', dd, vs, rfl, rfl, h3, s.left l, hd, rf, h4⟩
/-! ### the type of a value: isinstance of an own class, == by an own __eq__ -/
inductive TN where
  | b (s : String) | o (c : Str)
def tnP : PV → TN
  | .non => .b "NoneType"
  | .bl _ => .b "bool"
  | .int _ => .b "int"
  | .str _ => .b "str"
  | .lst _ => .b "list"
  | .tup _ => .b "tuple"
  | .obj c _ => .o c
def tnV (K : PySem.W.Frag) : TN → Value
  | .b s => .type s
  | .o c => .ref (He.ga K c)
/-- what isinstance asks of an own class -/
structure OwnT (K : PySem.W.Frag) (c : Str) : Prop where
  cl : Cls K (He.ga K c)
  ha : PySem.W.findIn K (.ref (He.ga K c)) "__class__" = some (some (.builtin "object.__class__"))
  hn : PySem.W.specialIn K (.builtin "object.__class__") "__get__" = some (some (.builtin "getset_descriptor.__get__"))
  htk : PySem.W.takesIn K (.builtin "object.__class__") = some true
  hm : PySem.W.mroIn K (He.ga K c) (.type "object") = some true
theorem Bor.tn (s : StR c M σ H ρ) (h : Bor c M H v p) (own : ∀ x, tnP p = .o x → OwnT c.K x) : TyX c.K H v (tnV c.K (tnP p)) := by
  cases p with
  | obj x fs =>
    cases h with
    | rep h =>
      cases h with
      | obj hm h hn hi =>
        have o := own x rfl
        exact .base (.ins h o.cl o.ha o.hn o.htk o.hm)
  | non => exact h.ty s rfl
  | bl b => exact h.ty s rfl
  | int i => exact h.ty s rfl
  | str z => exact h.ty s rfl
  | lst ps => exact h.ty s rfl
  | tup ps => exact h.ty s rfl
structure IsC (K : PySem.W.Frag) (C : Str) (tab : TN → Option Bool) : Prop where
  at_ : ∀ t d, tab t = some d → PySem.W.kitOne K (tnV K t) (.ref (He.ga K C)) = some d
  own : ∀ x d, tab (.o x) = some d → OwnT K x
def isCK (tab : TN → Option Bool) : PV → (Res PV → Prop) → Prop := fun a post => match tab (tnP a) with
  | some d => post (.ok (.bl d))
  | none => False
def pIsC (tab : TN → Option Bool) (w : WE) : WE := fun ρ => bindR w (isCK tab) ρ
theorem ev_isC {C : Str} {tab : TN → Option Bool} (F : IsC K C tab) (h : EvB K T E te w) : EvE K T E (tCB (rIsi K) (tCons te (tCons (tC (.ref (He.ga K C))) tNil))) (pIsC tab w) := by
  rintro c M σ H ρ post Q rfl rfl s hw k e
  refine h c M σ H ρ _ _ rfl rfl s hw (fun H1 x p t1 r1 h1 => ?_) (e.imp fun _ _ z => z)
  have h1 : isCK tab p post := h1
  unfold isCK at h1
  split at h1
  · rename_i d hd
    exact x_isi (ClsV.own _) (r1.tn (s.stp t1) fun x hx => F.own x d (hx ▸ hd)) (F.at_ _ d hd) (k H1 _ _ t1 (.bl _) h1)
  · exact h1.elim
theorem q_isC {tab : TN → Option Bool} (h : w ρ (bk (isCK tab) pE)) : pIsC tab w ρ pE := h
theorem isCK_ok {tab : TN → Option Bool} {d : Bool} (e : tab (tnP p) = some d) (h : pE (.ok (.bl d))) : isCK tab p pE := by unfold isCK; rw [e]; exact h
structure EqC (K : PySem.W.Frag) (C : Str) (tab : TN → Bool) : Prop where
  nf : ∀ t, tab t = true → PySem.W.notFirst K (He.ga K C) (tnV K t) = true ∧ (t = .b "str" ∨ ∃ x, t = .o x)
def onlyB (post : Res PV → Prop) : Res PV → Prop
  | .ok (.bl d) => post (.ok (.bl d))
  | _ => False
def eqOK2 (C : Str) (tab : TN → Bool) (wd : WD) (a : PV) : PV → (Res PV → Prop) → Prop := fun b post => (∃ fs, a = .obj C fs) ∧ tab (tnP b) = true ∧ wd [.fz a, .fz b] (frzR (onlyB post))
def pEqO (C : Str) (tab : TN → Bool) (wd : WD) (wa wb : WE) : WE := fun ρ => bindR wa (fun a => bindR wb (eqOK2 C tab wd a) ρ) ρ
theorem ev_eqO {C : Str} {tab : TN → Bool} (F : EqC K C tab) (ha : EvE K T E te wa) (hb : EvE K T E tf wb) : EvE K T E (tOp (rEqO K (He.ga K C) (SpP K T 2 wd) E0) te tf) (pEqO C tab wd wa wb) := by
  rintro c M σ H ρ post Q rfl rfl s hw k e
  refine ha c M σ H ρ _ _ rfl rfl s hw (fun H1 x a t1 r1 h1 => ?_) (e.imp fun _ _ z => z)
  have s1 := s.stp t1
  refine hb c M σ H1 ρ _ _ rfl rfl s1 h1 (fun H2 y b t2 r2 h2 => ?_) (e.imp fun _ _ z => z)
  have s2 := s1.stp t2
  obtain ⟨⟨fs, rfl⟩, ht, h2⟩ := h2
  have r1 := s1.rep t2 r1
  have r1' := r1
  cases r1 with
  | obj hm h hn hi =>
    obtain ⟨z1, z2⟩ := F.nf _ ht
    have te : TyE H2 y (tnV c.K (tnP b)) := by
      cases b with
      | str z => cases r2; exact .str z
      | obj x gs => cases r2 with | obj hm h hn hi => exact .ins h
      | non => rcases z2 with z | ⟨x, z⟩; exact absurd (TN.b.inj z) (by decide); cases z
      | bl b => rcases z2 with z | ⟨x, z⟩; exact absurd (TN.b.inj z) (by decide); cases z
      | int b => rcases z2 with z | ⟨x, z⟩; exact absurd (TN.b.inj z) (by decide); cases z
      | lst b => rcases z2 with z | ⟨x, z⟩; exact absurd (TN.b.inj z) (by decide); cases z
      | tup b => rcases z2 with z | ⟨x, z⟩; exact absurd (TN.b.inj z) (by decide); cases z
    refine ⟨_, _, _, _, rfl, h, te, z1, ?_⟩
    refine call_fz s2 (ArR.cons (.fz r1') rfl (ArR.cons (.fz r2) rfl .nil)) rfl h2 (fun H' x p t r h => ?_) (fun _ _ _ _ _ _ _ _ h => h.elim)
    cases p with
    | bl d => cases r; exact ⟨⟨d, rfl⟩, k H' _ _ (t1.trans (t2.trans t)) (.bl d) h⟩
    | _ => exact h.elim
theorem q_eqO {C : Str} {tab : TN → Bool} (h : wa ρ (bk (fun a => bindR wb (eqOK2 C tab wd a) ρ) pE)) : pEqO C tab wd wa wb ρ pE := h
theorem eqOK2_ok {C : Str} {tab : TN → Bool} {fs : List (Str × PV)} {b : PV} (ht : tab (tnP b) = true) (h : wd [.fz (.obj C fs), .fz b] (frzR (onlyB pE))) : eqOK2 C tab wd (.obj C fs) b pE := ⟨⟨fs, rfl⟩, ht, h⟩
theorem onlyB_ok {d : Bool} (h : pE (.ok (.bl d))) : onlyB pE (.ok (.bl d)) := h
/-! ### a < b < c -/
def chK (q' : PV → PV → (Res PV → Prop) → Prop) (wc : WE) (ρ : List SV) (b : PV) (post : Res PV → Prop) : Res PV → Prop
  | .ok (.bl d) => if d = true then wc ρ (bk (fun e => q' b e) post) else post (.ok (.bl false))
  | _ => False
def pChain (q q' : PV → PV → (Res PV → Prop) → Prop) (wa wb wc : WE) : WE := fun ρ => bindR wa (fun a => bindR wb (fun b post => q a b (chK q' wc ρ b post)) ρ) ρ
theorem ev_chain {r r' : R2} {q q' : PV → PV → (Res PV → Prop) → Prop} (h : VOp K r q) (h' : VOp K r' q') (ha : EvE K T E te wa) (hb : EvE K T E tf wb) (hc : EvE K T E tg wc) : EvE K T E (tChain r r' te tf tg) (pChain q q' wa wb wc) := by
  rintro c M σ H ρ post Q rfl rfl s hw k e
  refine ha c M σ H ρ _ _ rfl rfl s hw (fun H1 x a t1 r1 h1 => ?_) (e.imp fun _ _ z => z)
  have s1 := s.stp t1
  refine hb c M σ H1 ρ _ _ rfl rfl s1 h1 (fun H2 y b t2 r2 h2 => ?_) (e.imp fun _ _ z => z)
  have s2 := s1.stp t2
  refine h c M σ H2 ρ x y a b _ _ rfl s2 (.rep (s1.rep t2 r1)) (.rep r2) h2 (fun H3 z p t3 r3 h3 => ?_)
  have s3 := s2.stp t3
  have t123 := t1.trans (t2.trans t3)
  cases p with
  | bl d =>
    cases r3
    refine ⟨d, rfl, ?_⟩
    cases d with
    | false => exact k H3 _ _ t123 (.bl false) h3
    | true =>
      have h3 : wc ρ _ := h3
      refine hc c M σ H3 ρ _ _ rfl rfl s3 h3 (fun H4 u e t4 r4 h4 => ?_) (e.imp fun _ _ z => z)
      exact h' c M σ H4 ρ y u b e _ _ rfl (s3.stp t4) (.rep (s3.rep t4 (s2.rep t3 r2))) (.rep r4) h4 fun H5 w p t5 r5 h5 => k H5 w p (t123.trans (t4.trans t5)) r5 h5
  | _ => exact h3.elim
theorem q_chain {q q' : PV → PV → (Res PV → Prop) → Prop} (h : wa ρ (bk (fun a => bindR wb (fun b post => q a b (chK q' wc ρ b post)) ρ) pE)) : pChain q q' wa wb wc ρ pE := h
/-! ### text.find(x) -/
def findK2 (x : Str) : PV → (Res PV → Prop) → Prop := fun b post => match b with
  | .str y => post (.ok (.int (Txt.find x y)))
  | _ => False
def findK (ρ : List SV) (wb : WE) : PV → (Res PV → Prop) → Prop := fun a post => match a with
  | .str x => bindR wb (findK2 x) ρ post
  | _ => False
def pFind (wa wb : WE) : WE := fun ρ => bindR wa (findK ρ wb) ρ
theorem q_find (h : wa ρ (bk (findK ρ wb) pE)) : pFind wa wb ρ pE := h
theorem findK_ok {x : Str} (h : wb ρ (bk (findK2 x) pE)) : findK ρ wb (.str x) pE := h
theorem findK2_ok {x y : Str} (h : pE (.ok (.int (Txt.find x y)))) : findK2 x (.str y) pE := h
theorem ev_find (ha : EvE K T E te wa) (hb : EvE K T E tf wb) : EvE K T E (tM1 rFind te tf) (pFind wa wb) := by
  rintro c M σ H ρ post Q rfl rfl s hw k e
  refine ha c M σ H ρ _ _ rfl rfl s hw (fun H1 x a t1 r1 h1 => ?_) (e.imp fun _ _ z => z)
  have s1 := s.stp t1
  have h1 : findK ρ wb a post := h1
  cases a with
  | str x =>
    cases r1
    refine ⟨⟨_, rfl⟩, ?_⟩
    refine hb c M σ H1 ρ _ _ rfl rfl s1 h1 (fun H2 y b t2 r2 h2 => ?_) (e.imp fun _ _ z => z)
    have h2 : findK2 x b post := h2
    cases b with
    | str y => cases r2; exact ⟨_, _, rfl, rfl, k H2 _ _ (t1.trans t2) (.int _) h2⟩
    | _ => exact h2.elim
  | _ => exact h1.elim
end
end My
end

section
set_option Elab.async false
set_option maxRecDepth 100000
set_option maxHeartbeats 4000000
set_option linter.all false
namespace My
open PySem L2
section
variable {c : Cfg} {M : List Addr} {σ : L2.St} {H H' : Hp} {ρ : List SV} {K : PySem.W.Frag} {T : List (Addr × Str)} {E E' : XK} {te tf tg : TE} {w wa wb wc : WE} {tt tu : TT} {vt vu : WT} {ta : TA} {ca : WC} {i j n : Nat} {p : PV} {v : V} {b : Bool} {wd : WD} {ts us : TS} {ws wu : WS} {pE : Res PV → Prop}
/-! ### slots that own an instance or a dict -/
theorem StR.addCel (s : StR c M σ H ρ) (t : Stp c H H') (i : Nat) {a : Addr} {o : HO} {k : CL} (f : Fresh H a) (e : H' a = some o) (hi : CelR c.K (a :: M) H' o k) :
    StR c (a :: M) (σ.set i (some (.ref a))) H' (ρ.set i (.cel k)) ∧ Nxt M H (a :: M) H' := by
  obtain ⟨s2, n2⟩ := s.grow t (G := [a]) (fun b hb => by rw [List.mem_singleton.mp hb]; exact ⟨f, o, e, hi.nt⟩)
  have s2 : StR c (a :: M) σ H' ρ := s2
  have n2 : Nxt M H (a :: M) H' := n2
  have bD : ∀ x y, c.B = some (x, y) → a ≠ x ∧ a ≠ y := fun x y e => by
    obtain ⟨h, _⟩ := s.bag x y e
    refine ⟨fun z => ?_, fun z => ?_⟩
    · obtain ⟨xs, h1⟩ := h.some
      exact f _ (z ▸ h1) NT.lst
    · obtain ⟨xs, h1⟩ := bag_cell h
      exact f _ (z ▸ h1) NT.lst
  refine ⟨⟨s2.fr, s2.dom, s2.sub, s2.mm, s2.d0, s2.tabs, s2.bag, by simp [s2.len], fun j u t h1 h2 => ?_, s.uniqO i (s.notIn f)⟩, n2⟩
  by_cases ij : i = j
  · subst ij
    by_cases hi' : i < σ.length
    · rw [List.getElem?_set_self hi'] at h1
      rw [List.getElem?_set_self (s.len ▸ hi')] at h2
      cases h1; cases h2
      exact .cel List.mem_cons_self bD (s.fresh0 f) e hi
    · rw [List.getElem?_eq_none (by simpa using hi')] at h1; cases h1
  · rw [List.getElem?_set_ne ij] at h1
    rw [List.getElem?_set_ne ij] at h2
    exact s2.slots j u t h1 h2
theorem CelR.notTab {o : HO} {k : CL} (h : CelR K M H o k) : (∀ ps, o ≠ .tbl ps) ∧ ∀ c' q, o ≠ LamX.CodeO c' q := by
  cases h with
  | nob _ => exact ⟨fun _ z => by (cases z), fun _ _ z => by (unfold LamX.CodeO at z; cases z)⟩
  | dct _ _ => exact ⟨fun _ z => by (cases z), fun _ _ z => by (unfold LamX.CodeO at z; cases z)⟩
  | set => exact ⟨fun _ z => by (cases z), fun _ _ z => by (unfold LamX.CodeO at z; cases z)⟩
theorem StR.celAt (s : StR c M σ H ρ) {i : Nat} {k : CL} (h : ρ[i]? = some (.cel k)) : ∃ a o, σ[i]? = some (some (.ref a)) ∧ H a = some o ∧ a ∈ M ∧ (∀ x y, c.B = some (x, y) → a ≠ x ∧ a ≠ y) ∧ Fresh c.H0 a ∧ CelR c.K M H o k := by
  obtain ⟨o, h1, h2⟩ := s.get h
  cases h2 with
  | cel hm hb h0 hh hi => exact ⟨_, _, h1, hh, hm, hb, h0, hi⟩
theorem StR.mutC (s : StR c M σ H ρ) {i : Nat} {a : Addr} {o o' : HO} {k k' : CL} (h1 : ρ[i]? = some (.cel k)) (h2 : σ[i]? = some (some (.ref a))) (ha : H a = some o) (hm : a ∈ M) (hb : ∀ x y, c.B = some (x, y) → a ≠ x ∧ a ≠ y) (h0 : Fresh c.H0 a) (ho : CelR c.K M H o k) (hk : CelR c.K M H o' k') :
    StR c M σ (upd H a o') (ρ.set i (.cel k')) ∧ Nxt M H M (upd H a o') := by
  have ex : Ext M H (upd H a o') := fun x u n _ e => by rw [upd_ne (fun z => n (by rw [z]; exact hm))]; exact e
  refine ⟨⟨fun x u n nt e => ?_, fun y hy => ?_, s.sub, s.mm, s.d0, fun q hq => ?_, fun x y e => ⟨(s.bag x y e).1.mut (hb x y e).1.symm (hb x y e).2.symm, (s.bag x y e).2⟩, by simp [s.len], fun j u t e1 e2 => ?_, fun j k b t u e1 e2 e3 e4 e5 e6 => ?_⟩, ex.nxt⟩
  · rw [upd_ne (fun z => h0 u (by rw [← z]; exact e) nt)]; exact s.fr x u n nt e
  · by_cases z : y = a
    · subst z; exact ⟨_, upd_same, hk.nt⟩
    · obtain ⟨u, e, nt⟩ := s.dom y hy
      exact ⟨u, (upd_ne z).trans e, nt⟩
  · obtain ⟨ps, z1, z2, z3⟩ := s.tabs q hq
    refine ⟨ps, (upd_ne (fun z => by rw [z, ha] at z1; exact ho.notTab.1 _ (Option.some.inj z1))).trans z1, z2, fun pos cv hc => ?_⟩
    obtain ⟨c', z4, z5⟩ := z3 pos cv hc
    exact ⟨c', z4, (upd_ne (fun z => by rw [z, ha] at z5; exact ho.notTab.2 _ _ (Option.some.inj z5))).trans z5⟩
  · by_cases e : i = j
    · subst e
      have hi : i < ρ.length := (List.getElem?_eq_some_iff.mp h1).1
      rw [List.getElem?_set_self hi] at e2
      rw [h2] at e1
      cases e1; cases e2
      exact .cel hm hb h0 upd_same (hk.nxt ex.nxt)
    · rw [List.getElem?_set_ne e] at e2
      cases s.slots j u t e1 e2 with
      | un => exact .un
      | fz h => exact .fz (h.ext ex)
      | own hm' hb' h0' h hi =>
        rename_i a' vs' ps'
        have na : a' ≠ a := fun z => e (s.uniq i j a _ _ h2 (z ▸ e1) h1 e2 rfl rfl)
        exact .own hm' hb' h0' ((upd_ne na).trans h) (hi.ext ex)
      | bag h => exact .bag h
      | ob hm' hb' h0' h hi =>
        rename_i a' dx C vs' ps'
        have na : a' ≠ a := fun z => e (s.uniq i j a _ _ h2 (z ▸ e1) h1 e2 rfl rfl)
        exact .ob hm' hb' h0' ((upd_ne na).trans h) (hi.nxt ex.nxt)
      | scr h => exact .scr (h.nxt ex.nxt)
      | ref => exact .ref
      | cel hm' hb' h0' h hi =>
        rename_i a' o'' k''
        have na : a' ≠ a := fun z => e (s.uniq i j a _ _ h2 (z ▸ e1) h1 e2 rfl rfl)
        exact .cel hm' hb' h0' ((upd_ne na).trans h) (hi.nxt ex.nxt)
  · have tr : ∀ (m : Nat) (t : SV), (ρ.set i (.cel k'))[m]? = some t → t.isOwn = true → ∃ t', ρ[m]? = some t' ∧ t'.isOwn = true := fun m t q1 q2 => by
      by_cases z : i = m
      · subst z; exact ⟨_, h1, rfl⟩
      · rw [List.getElem?_set_ne z] at q1; exact ⟨t, q1, q2⟩
    obtain ⟨t', q1, q2⟩ := tr j t e3 e5
    obtain ⟨u', q3, q4⟩ := tr _ u e4 e6
    exact s.uniq j _ b t' u' e1 e2 q1 q3 q2 q4
/-! ### x = C(..), x a slot that owns it -/
def sAsgN (C : Str) (wn : WN) (ca : WC) (i : Nat) : WS := fun ρ post => ca ρ (erO post fun as => ArR.noBag as ∧ wn as (erO post fun fs => post (.nx (ρ.set i (.cel (.nob C fs))))))
theorem es_asgN {C : Str} {wn : WN} (ha : EvC K T E n ta ca) : EvS K T E (tAsg (tMake (He.ga K C) (SpN K T C n wn) [] E ta) (gName i)) (sAsgN C wn ca i) := by
  rintro c M σ H ρ post D rfl rfl s hw d
  refine ha c M σ H ρ _ _ rfl rfl s hw (fun H1 xs as t1 r1 hl h1 => ?_) d.er
  have h1 : ArR.noBag as ∧ wn as (erO post fun fs => post (.nx (ρ.set i (.cel (.nob C fs))))) := h1
  have s1 := s.stp t1
  intro x dx hx hdx hne
  have t2 := (Stp.refl s1).new (o := .own x) s1 hdx
  have hx2 : upd H1 dx (.own x) x = none := (upd_ne (Ne.symm hne)).trans hx
  have t3 := t2.new (o := .ins (He.ga c.K C) dx []) s1 hx2
  have s3 := s1.stp t3
  have hx3 : upd (upd H1 dx (.own x)) x (.ins (He.ga c.K C) dx []) x = some (.ins (He.ga c.K C) dx []) := upd_same
  revert t3 s3 hx3
  generalize upd (upd H1 dx (.own x)) x (.ins (He.ga c.K C) dx []) = H3
  intro t3 s3 hx3
  have n3 : Nxt M H1 (x :: M) H3 := ⟨s1.ext t3, fun b hb => by
    rcases List.mem_cons.mp hb with z | z
    · exact .inr (z ▸ .none hx)
    · exact .inl z⟩
  have nx : x ∉ M := s1.notIn (.none hx)
  have st4 : ∀ {H'}, Lv (⟨c.K, c.T, H3, [x], x :: M, none⟩ : Cfg) H' → Stp c H1 H' := fun {H'} l => ⟨fun y o n nt ey => by
      have ny : y ≠ x := fun z => by rw [z, hx] at ey; cases ey
      exact l.fr y o (by simpa using ny) nt (t3.keep y o n nt ey), l.tabs, fun a b eb => by
      obtain ⟨cs, i, r, m, n, d6, z1, z2, z3, z4⟩ := t3.bag a b eb
      have fx : ∀ y o, H3 y = some o → NT o → y ≠ x → H' y = some o := fun y o e1 e2 e3 => l.fr y o (by simpa using e3) e2 e1
      exact ⟨cs, i, r, m, n, d6, fx _ _ z1 NT.lst (fun z => by rw [z, hx3] at z1; cases z1), z2, fx _ _ z3 NT.lst (fun z => by rw [z, hx3] at z3; cases z3), z4⟩⟩
  refine ⟨⟨c.K, c.T, H3, [x], x :: M, none⟩, as, _, x, dx, xs, rfl, rfl, by rw [List.append_nil], hl, rfl, s3.tabs, fun a ha => ?_, rfl, rfl, List.mem_cons_self, hx3, ⟨r1.len, fun i v q e1 e2 => ?_⟩, h1.2, fun H' dx' vs fs l hx' rf h => ?_, fun H' cn fs dd vs l hd r h => ?_⟩
  · rcases List.mem_cons.mp ha with z | z
    · exact ⟨_, z ▸ hx3, NT.ins⟩
    · exact s3.dom a z
  · obtain ⟨z, hq⟩ := r1.at_ i v q e1 e2
    obtain ⟨p, rfl⟩ := h1.1 q (List.mem_of_getElem? e2)
    cases z with
    | fz h => exact ⟨.fz (h.nxt n3), rfl⟩
  · have t5 := t1.trans (st4 l)
    obtain ⟨s5, n5⟩ := s.addCel t5 i ((Fresh.none hx).back s t1) hx' (CelR.nob (C := C) (dx := dx') rf)
    exact ⟨rfl, d.nx c (x :: M) _ H' _ (.refl c) s5 n5 h⟩
  · exact d.er H' cn fs dd vs (s1.stp (st4 l)).lv hd (r.weak fun a ha => List.mem_cons_of_mem _ (s.sub a ha)) h
/-- x.f = e -/
def sFldN (at_ : List (Str × Str)) (i : Nat) (w : WE) (f : Str) : WS := fun ρ post => w ρ (erO post fun p => ∃ C fs, ρ[i]? = some (.cel (.nob C fs)) ∧ (C, f) ∈ at_ ∧ fs.length < 1000 ∧ post (.nx (ρ.set i (.cel (.nob C (putP f p fs))))))
theorem es_fldN {at_ : List (Str × Str)} {f : Str} (ka : KAt K at_) (h : EvE K T E te w) : EvS K T E (sFld K (tVar i) te f) (sFldN at_ i w f) := by
  rintro c M σ H ρ post D rfl rfl s hw d
  refine h c M σ H ρ _ _ rfl rfl s hw (fun H1 y p t1 r1 h1 => ?_) d.er
  have s1 := s.stp t1
  obtain ⟨C, fs, hp, hin, hl, h1⟩ := h1
  obtain ⟨a, o, e1, hh, hm, hb, h0, hi⟩ := s1.celAt hp
  cases hi with
  | nob hi =>
    rename_i dx vs
    obtain ⟨k1, k2⟩ := ka _ hin
    obtain ⟨s2, n2⟩ := s1.mutC (o' := .ins (He.ga c.K C) dx (putF f y vs)) (k' := .nob C (putP f p fs)) hp e1 hh hm hb h0 (.nob hi) (.nob (RepF.put r1 hi))
    exact ⟨_, e1, a, _, dx, vs, rfl, hh, k1, k2, by have := congrArg List.length hi.1; simp at this; omega, d.nx c M _ _ _ (.refl c) s2 ((s.nxt t1).trans n2) h1⟩
/-- return x -/
def sRetC (i : Nat) : WS := fun ρ post => ∃ C fs, ρ[i]? = some (.cel (.nob C fs)) ∧ post (.rt (.fz (.obj C fs)))
theorem es_retC : EvS K T E (tRet (tVar i)) (sRetC i) := by
  rintro c M σ H ρ post D rfl rfl s hw d
  obtain ⟨C, fs, hp, h⟩ := hw
  obtain ⟨a, o, e1, hh, hm, hb, h0, hi⟩ := s.celAt hp
  cases hi with
  | nob hi =>
    refine ⟨_, e1, d.rt.fz H _ _ s.lv (.obj (fun z => ?_) hh hi.1 fun j x q h1 h2 => (hi.2 j x q h1 h2).weak s.sub) h⟩
    obtain ⟨o, e, nt⟩ := s.d0 a z
    exact h0 o e nt
/-! ### dicts -/
def keyP : PV → Option Key
  | .int i => some (.inl i)
  | .str z => some (.inr z)
  | _ => none
def lookD (ds : List (Key × PV)) (k : Key) : Option PV := (ds.find? fun kv => decide (kv.1 = k)).map (·.2)
def putD (ds : List (Key × PV)) (k : Key) (p : PV) : List (Key × PV) := if (ds.any fun kv => decide (kv.1 = k)) = true then ds.map (fun kv => if kv.1 = k then (kv.1, p) else kv) else ds ++ [(k, p)]
theorem Rep.key {k : Key} (h : Rep K M H v p) (e : keyP p = some k) : v = L2.kV k := by
  cases p with
  | int i => cases h; cases e; rfl
  | str z => cases h; cases e; rfl
  | _ => cases e
theorem look_rel : ∀ {kvs : List (Key × V)} {ds : List (Key × PV)} (hk : kvs.map Prod.fst = ds.map Prod.fst) (h : RepL K M H (kvs.map Prod.snd) (ds.map Prod.snd)) (k : Key), (valV kvs k).isSome = (lookD ds k).isSome ∧ ∀ p, lookD ds k = some p → ∃ v, valV kvs k = some v ∧ Rep K M H v p
  | [], [], _, _, k => ⟨rfl, fun p e => by cases e⟩
  | [], q :: ds, hk, _, _ => by cases hk
  | x :: kvs, [], hk, _, _ => by cases hk
  | x :: kvs, q :: ds, hk, h, k => by
    have h1 : x.1 = q.1 := (List.cons.inj hk).1
    by_cases e : x.1 = k
    · have e2 : q.1 = k := h1 ▸ e
      rw [valV_pos e]
      have : lookD (q :: ds) k = some q.2 := by simp [lookD, List.find?_cons, e2]
      rw [this]
      exact ⟨rfl, fun p hp => by cases hp; exact ⟨_, rfl, h.head⟩⟩
    · have e2 : ¬ q.1 = k := h1 ▸ e
      rw [valV_neg e]
      have : lookD (q :: ds) k = lookD ds k := by simp [lookD, List.find?_cons, e2]
      rw [this]
      exact look_rel (List.cons.inj hk).2 h.tail k
theorem any_rel {α β : Type} : ∀ {kvs : List (Key × α)} {ds : List (Key × β)} (hk : kvs.map Prod.fst = ds.map Prod.fst) (k : Key), (kvs.any fun kv => decide (kv.1 = k)) = ds.any fun kv => decide (kv.1 = k)
  | [], [], _, _ => rfl
  | [], q :: ds, hk, _ => by cases hk
  | x :: kvs, [], hk, _ => by cases hk
  | x :: kvs, q :: ds, hk, k => by
    have h1 : x.1 = q.1 := (List.cons.inj hk).1
    rw [List.any_cons, List.any_cons, h1, any_rel (List.cons.inj hk).2 k]
theorem put_map : ∀ {kvs : List (Key × V)} {ds : List (Key × PV)} (hk : kvs.map Prod.fst = ds.map Prod.fst) (h : RepL K M H (kvs.map Prod.snd) (ds.map Prod.snd)) (k : Key) (_ : Rep K M H v p),
    (kvs.map fun kv => if kv.1 = k then (kv.1, v) else kv).map Prod.fst = (ds.map fun kv => if kv.1 = k then (kv.1, p) else kv).map Prod.fst ∧ RepL K M H ((kvs.map fun kv => if kv.1 = k then (kv.1, v) else kv).map Prod.snd) ((ds.map fun kv => if kv.1 = k then (kv.1, p) else kv).map Prod.snd)
  | [], [], _, _, _, _ => ⟨rfl, .nil⟩
  | [], q :: ds, hk, _, _, _ => by cases hk
  | x :: kvs, [], hk, _, _, _ => by cases hk
  | x :: kvs, q :: ds, hk, h, k, r => by
    have h1 : x.1 = q.1 := (List.cons.inj hk).1
    obtain ⟨i1, i2⟩ := put_map (List.cons.inj hk).2 h.tail k r
    by_cases e : x.1 = k
    · have e2 : q.1 = k := h1 ▸ e
      simp only [List.map_cons, if_pos e, if_pos e2]
      exact ⟨by rw [h1, i1], .cons r i2⟩
    · have e2 : ¬ q.1 = k := h1 ▸ e
      simp only [List.map_cons, if_neg e, if_neg e2]
      exact ⟨by rw [h1, i1], .cons h.head i2⟩
theorem put_rel {kvs : List (Key × V)} {ds : List (Key × PV)} (hk : kvs.map Prod.fst = ds.map Prod.fst) (h : RepL K M H (kvs.map Prod.snd) (ds.map Prod.snd)) (k : Key) (r : Rep K M H v p) :
    (putK kvs k v).map Prod.fst = (putD ds k p).map Prod.fst ∧ RepL K M H ((putK kvs k v).map Prod.snd) ((putD ds k p).map Prod.snd) := by
  unfold putK putD
  rw [any_rel hk k]
  by_cases e : (ds.any fun kv => decide (kv.1 = k)) = true
  · rw [if_pos e, if_pos e]
    exact put_map hk h k r
  · rw [if_neg e, if_neg e]
    refine ⟨by rw [List.map_append, List.map_append, hk]; rfl, ?_⟩
    rw [List.map_append, List.map_append]
    exact h.append (.cons r .nil)
/-- x = {} -/
def sAsgD (i : Nat) : WS := fun ρ post => post (.nx (ρ.set i (.cel (.dct []))))
theorem es_asgD : EvS K T E (tAsg tDNewK (gName i)) (sAsgD i) := by
  rintro c M σ H ρ post D rfl rfl s hw d
  intro q hq
  have t := (Stp.refl s).new (o := .dK []) s hq
  obtain ⟨s2, n2⟩ := s.addCel t i (Fresh.none hq) upd_same (CelR.dct (ds := []) rfl .nil)
  exact d.nx c (q :: M) _ _ _ (.refl c) s2 n2 hw
/-- x = {k: v} -/
def disp1K (i : Nat) (ρ : List SV) (post : Out → Prop) (a b : PV) : Prop := ∃ k, keyP a = some k ∧ post (.nx (ρ.set i (.cel (.dct [(k, b)]))))
def sAsgD1 (wa wb : WE) (i : Nat) : WS := fun ρ post => wa ρ (erO post fun a => wb ρ (erO post fun b => disp1K i ρ post a b))
theorem es_asgD1 (ha : EvE K T E te wa) (hb : EvE K T E tf wb) : EvS K T E (tAsg (tDisp [(te, tf)]) (gName i)) (sAsgD1 wa wb i) := by
  rintro c M σ H ρ post D rfl rfl s hw d
  intro q hq
  have t := (Stp.refl s).new (o := .dK []) s hq
  obtain ⟨s0, n0⟩ := s.grow t (G := [q]) (fun b hb => by rw [List.mem_singleton.mp hb]; exact ⟨Fresh.none hq, _, upd_same, NT.dK⟩)
  have s0 : StR c (q :: M) σ (upd H q (.dK [])) ρ := s0
  have bD : ∀ x y, c.B = some (x, y) → q ≠ x ∧ q ≠ y := fun x y e => by
    obtain ⟨h, _⟩ := s.bag x y e
    exact ⟨(h.na hq).symm, (h.nc hq).symm⟩
  refine ha c (q :: M) σ _ ρ _ _ rfl rfl s0 hw (fun H1 x a t1 r1 h1 => ?_) d.er
  have s1 := s0.stp t1
  refine hb c (q :: M) σ H1 ρ _ _ rfl rfl s1 h1 (fun H2 y b t2 r2 h2 => ?_) d.er
  have s2 := s1.stp t2
  obtain ⟨k, hk, h2⟩ := h2
  have ea := (s1.rep t2 r1).key hk
  have hq2 : H2 q = some (.dK []) := t2.keep _ _ (fun x y e => (bD x y e).1) NT.dK (t1.keep _ _ (fun x y e => (bD x y e).1) NT.dK upd_same)
  refine ⟨hq2, [(k, y)], by rw [ea]; rfl, by simp, ?_⟩
  have ex : Ext (q :: M) H2 (upd H2 q (.dK (mergeK [] [(k, y)]))) := fun z o n _ e => by rw [upd_ne (fun w => n (by simp [w]))]; exact e
  have tt : Stp c H (upd H2 q (.dK (mergeK [] [(k, y)]))) := by
    have t3 := t.trans (t1.trans t2)
    refine ⟨fun z o n nt e => ?_, fun u hu => ?_, fun u v e => (t3.bag u v e).mut (bD u v e).1.symm (bD u v e).2.symm⟩
    · rw [upd_ne (fun w => by rw [w, hq] at e; cases e)]; exact t3.keep z o n nt e
    · obtain ⟨ps, z1, z2, z3⟩ := t3.tabs u hu
      refine ⟨ps, (upd_ne (fun w => by rw [w, hq2] at z1; cases z1)).trans z1, z2, fun pos cv hc => ?_⟩
      obtain ⟨c', z4, z5⟩ := z3 pos cv hc
      exact ⟨c', z4, (upd_ne (fun w => by rw [w, hq2] at z5; unfold LamX.CodeO at z5; cases z5)).trans z5⟩
  obtain ⟨s3, n3⟩ := s.addCel tt i (Fresh.none hq) upd_same (CelR.dct (kvs := [(k, y)]) (ds := [(k, b)]) rfl (.cons (r2.ext ex) .nil))
  exact d.nx c (q :: M) _ _ _ (.refl c) s3 n3 h2
/-- d[e] -/
def dgK (ds : List (Key × PV)) : PV → (Res PV → Prop) → Prop := fun a post => ∃ k p, keyP a = some k ∧ lookD ds k = some p ∧ post (.ok p)
def pDGet (i : Nat) (w : WE) : WE := fun ρ post => ∃ ds, ρ[i]? = some (.cel (.dct ds)) ∧ bindR w (dgK ds) ρ post
theorem ev_dget (h : EvE K T E te w) : EvE K T E (tDGet (tVar i) te) (pDGet i w) := by
  rintro c M σ H ρ post Q rfl rfl s hw k e
  obtain ⟨ds, hp, hw⟩ := hw
  obtain ⟨a, o, e1, hh, hm, hb, h0, hi⟩ := s.celAt hp
  cases hi with
  | dct hk hi =>
    refine ⟨_, e1, ?_⟩
    refine h c M σ H ρ _ _ rfl rfl s hw (fun H1 x q t1 r1 h1 => ?_) (e.imp fun _ _ z => z)
    obtain ⟨ky, p, k1, k2, h1⟩ := h1
    have hh1 := t1.keep _ _ (fun x y e => (hb x y e).1) NT.dK hh
    obtain ⟨v, v1, v2⟩ := (look_rel hk (s.repL t1 hi) ky).2 p k2
    rw [r1.key k1]
    exact ⟨a, v, rfl, by rw [← v1]; exact DGet.k hh1, k H1 v p t1 v2 h1⟩
/-- e in d -/
def diK (neg : Bool) (ds : List (Key × PV)) : PV → (Res PV → Prop) → Prop := fun a post => ∃ k, keyP a = some k ∧ post (.ok (.bl (if neg then !(lookD ds k).isSome else (lookD ds k).isSome)))
def pDIn (neg : Bool) (w : WE) (i : Nat) : WE := fun ρ post => ∃ ds, ρ[i]? = some (.cel (.dct ds)) ∧ bindR w (diK neg ds) ρ post
theorem ev_din (h : EvE K T E te w) : EvE K T E (tDIn te (tVar i)) (pDIn false w i) := by
  rintro c M σ H ρ post Q rfl rfl s hw k e
  obtain ⟨ds, hp, hw⟩ := hw
  obtain ⟨a, o, e1, hh, hm, hb, h0, hi⟩ := s.celAt hp
  cases hi with
  | dct hk hi =>
    refine h c M σ H ρ _ _ rfl rfl s hw (fun H1 x q t1 r1 h1 => ?_) (e.imp fun _ _ z => z)
    obtain ⟨ky, k1, h1⟩ := h1
    have hh1 := t1.keep _ _ (fun x y e => (hb x y e).1) NT.dK hh
    have e2 := (look_rel hk (s.repL t1 hi) ky).1
    rw [r1.key k1]
    refine ⟨_, e1, a, _, rfl, DGet.k hh1, ?_⟩
    rw [e2]
    exact k H1 _ _ t1 (.bl _) h1
theorem ev_dnotin (h : EvE K T E te w) : EvE K T E (tDNotIn te (tVar i)) (pDIn true w i) := by
  rintro c M σ H ρ post Q rfl rfl s hw k e
  obtain ⟨ds, hp, hw⟩ := hw
  obtain ⟨a, o, e1, hh, hm, hb, h0, hi⟩ := s.celAt hp
  cases hi with
  | dct hk hi =>
    refine h c M σ H ρ _ _ rfl rfl s hw (fun H1 x q t1 r1 h1 => ?_) (e.imp fun _ _ z => z)
    obtain ⟨ky, k1, h1⟩ := h1
    have hh1 := t1.keep _ _ (fun x y e => (hb x y e).1) NT.dK hh
    have e2 := (look_rel hk (s.repL t1 hi) ky).1
    rw [r1.key k1]
    refine ⟨_, e1, a, _, rfl, DGet.k hh1, ?_⟩
    rw [e2]
    exact k H1 _ _ t1 (.bl _) h1
/-- d[e] = v -/
def dpK (i : Nat) (ds : List (Key × PV)) (ρ : List SV) (post : Out → Prop) (v a : PV) : Prop := ∃ k, keyP a = some k ∧ ds.length ≤ 1000000 ∧ post (.nx (ρ.set i (.cel (.dct (putD ds k v)))))
def sDPutW (i : Nat) (wk wv : WE) : WS := fun ρ post => ∃ ds, ρ[i]? = some (.cel (.dct ds)) ∧ wv ρ (erO post fun v => wk ρ (erO post fun a => dpK i ds ρ post v a))
theorem es_dput (hk : EvE K T E te wa) (hv : EvE K T E tf wb) : EvS K T E (sDPut (tVar i) te tf) (sDPutW i wa wb) := by
  rintro c M σ H ρ post D rfl rfl s hw d
  obtain ⟨ds, hp, hw⟩ := hw
  refine hv c M σ H ρ _ _ rfl rfl s hw (fun H1 x q t1 r1 h1 => ?_) d.er
  have s1 := s.stp t1
  have h1 : wa ρ (erO post fun a => dpK i ds ρ post q a) := h1
  obtain ⟨a, o, e1, hh, hm, hb, h0, hi⟩ := s1.celAt hp
  refine ⟨_, e1, ?_⟩
  refine hk c M σ H1 ρ _ _ rfl rfl s1 h1 (fun H2 y u t2 r2 h2 => ?_) d.er
  have s2 := s1.stp t2
  obtain ⟨k, k1, hl, h2⟩ := h2
  have hh2 := t2.keep _ _ (fun x y e => (hb x y e).1) hi.nt hh
  have hi2 := hi.nxt (s1.ext t2).nxt
  cases hi2 with
  | dct hk1 hr =>
    rename_i kvs
    obtain ⟨p1, p2⟩ := put_rel hk1 hr k (s1.rep t2 r1)
    obtain ⟨s3, n3⟩ := s2.mutC (o' := .dK (putK kvs k x)) (k' := .dct (putD ds k q)) hp e1 hh2 hm hb h0 (.dct hk1 hr) (.dct p1 p2)
    rw [r2.key k1]
    have hlen : kvs.length = ds.length := by have := congrArg List.length hk1; simpa using this
    exact ⟨a, _, rfl, DPut.k hh2 (szMl (by omega)), d.nx c M σ _ _ (.refl c) s3 ((s.nxt t1).trans ((s1.nxt t2).trans n3)) h2⟩
end
end My
end

section
set_option Elab.async false
set_option maxRecDepth 100000
set_option maxHeartbeats 4000000
set_option linter.all false
namespace My
open PySem L2
theorem units1 {k : Nat} {A : Around} (r : L2.Room k A) : A.units + 1 < cLine := by have := r.un; omega
theorem call_boolC {X : Cx} {k : Nat} {C : Addr} {sp : Sp} (c : CalZL X.prog X.w X.K X.mg X.base k C sp) (hn : PySem.W.findIn X.K (.ref C) "__bool__" = some none) (hr : L2.Room (k + 3) X.A) : CallR X (.type "bool") (rBoolO C sp) := by
  obtain ⟨f, fd, ps, a, F, b⟩ := c.ex
  exact call_boolO a hn F hr b
section
variable {c : Cfg} {M : List Addr} {σ : L2.St} {H H' : Hp} {ρ : List SV} {K : PySem.W.Frag} {T : List (Addr × Str)} {E E' : XK} {te tf tg : TE} {w wa wb wc : WE} {tt tu : TT} {vt vu : WT} {ta : TA} {ca : WC} {i j n : Nat} {p : PV} {v : V} {b : Bool} {wd : WD} {ts us : TS} {ws wu : WS} {pE : Res PV → Prop} {dvs : List V} {ds : List PV}
/-! ### in by an own __contains__ -/
def negB (neg : Bool) (post : Res PV → Prop) : Res PV → Prop
  | .ok (.bl d) => post (.ok (.bl (if neg then !d else d)))
  | _ => False
def inOK2 (neg : Bool) (C : Str) (wd : WD) (a : PV) : PV → (Res PV → Prop) → Prop := fun b post => (∃ fs, b = .obj C fs) ∧ wd [.fz b, .fz a] (frzR (negB neg post))
def pInO (neg : Bool) (C : Str) (wd : WD) (wa wb : WE) : WE := fun ρ => bindR wa (fun a => bindR wb (inOK2 neg C wd a) ρ) ρ
theorem ev_inO {C : Str} {neg : Bool} (ha : EvE K T E te wa) (hb : EvE K T E tf wb) : EvE K T E (tOp (rInO K neg (He.ga K C) (SpP K T 2 wd) E0) te tf) (pInO neg C wd wa wb) := by
  rintro c M σ H ρ post Q rfl rfl s hw k e
  refine ha c M σ H ρ _ _ rfl rfl s hw (fun H1 x a t1 r1 h1 => ?_) (e.imp fun _ _ z => z)
  have s1 := s.stp t1
  refine hb c M σ H1 ρ _ _ rfl rfl s1 h1 (fun H2 y b t2 r2 h2 => ?_) (e.imp fun _ _ z => z)
  have s2 := s1.stp t2
  obtain ⟨⟨fs, rfl⟩, h2⟩ := h2
  have r1 := s1.rep t2 r1
  have r2' := r2
  cases r2 with
  | obj hm h hn hi =>
    refine ⟨_, _, _, rfl, h, ?_⟩
    refine call_fz s2 (ArR.cons (.fz r2') rfl (ArR.cons (.fz r1) rfl .nil)) rfl h2 (fun H' x p t r h => ?_) (fun _ _ _ _ _ _ _ _ h => h.elim)
    cases p with
    | bl d => cases r; exact ⟨d, rfl, k H' _ _ (t1.trans (t2.trans t)) (.bl _) h⟩
    | _ => exact h.elim
theorem q_inO {C : Str} {neg : Bool} (h : wa ρ (bk (fun a => bindR wb (inOK2 neg C wd a) ρ) pE)) : pInO neg C wd wa wb ρ pE := h
theorem inOK2_ok {C : Str} {neg : Bool} {fs : List (Str × PV)} {a : PV} (h : wd [.fz (.obj C fs), .fz a] (frzR (negB neg pE))) : inOK2 neg C wd a (.obj C fs) pE := ⟨⟨fs, rfl⟩, h⟩
/-! ### bool of an object with an own __len__ -/
def boolR (post : Res PV → Prop) : Res RV → Prop
  | .ok (.fz (.int n)) => 0 ≤ n ∧ n < 2 ^ 63 ∧ post (.ok (.bl (n != 0)))
  | _ => False
def pBoolO (C : Str) (wd : WD) (w : WE) : WE := fun ρ => bindR w (fun a post => match a with
  | .obj cn fs => cn = C ∧ wd [.fz (.obj cn fs)] (boolR post)
  | _ => False) ρ
theorem ev_boolO {C : Str} (h : EvE K T E te w) : EvE K T E (tCB (rBoolO (He.ga K C) (SpP K T 1 wd)) (tCons te tNil)) (pBoolO C wd w) := by
  rintro c M σ H ρ post Q rfl rfl s hw k e
  refine h c M σ H ρ _ _ rfl rfl s hw (fun H1 x p t1 r1 h1 => ?_) (e.imp fun _ _ z => z)
  dsimp only at h1
  split at h1
  · obtain ⟨rfl, h1⟩ := h1
    have s1 := s.stp t1
    obtain ⟨a, dx, vs, rfl, hm, hx, rf⟩ := id r1.objI
    refine ⟨a, dx, vs, rfl, hx, ?_⟩
    refine ⟨c.sub M H1, _, boolR post, rfl, rfl, rfl, s1.ent (.cons (.fz r1) rfl .nil), h1, ⟨fun H' x p l r h => ?_, fun H' a xs ps l f hx r h => h.elim⟩, fun _ _ _ _ _ _ _ _ h => h.elim⟩
    cases p with
    | int n => cases r; exact ⟨n, rfl, h.1, h.2.1, k H' _ _ (t1.trans (s1.left l)) (.bl _) h.2.2⟩
    | _ => exact h.elim
  · exact h1.elim
/-! ### try: a block -/
def tellBK (et : ErTab) (post : Out → Prop) : Out → Prop
  | .rt r => post (.rt r)
  | .er cn fs => ∃ l, et cn fs = some l ∧ post (.rt (.fz l))
  | _ => False
def sTellB (et : ErTab) (ws : WS) : WS := fun ρ post => ws (ρ.map SV.hide) (tellBK et post)
theorem es_tellB {cs : List Value} {spX : SpX} {et : ErTab} {t : XK → TS} (tx : TellX K cs spX et) (h : ∀ E, EvS K T E (t E) ws) : EvS K T E' (tTellB K cs spX t) (sTellB et ws) := by
  rintro c M σ H ρ post D rfl rfl s hw d
  refine ⟨fun cls d' H' => ∃ cn fs l dd vs, cls = .ref (He.ga c.K cn) ∧ d' = some dd ∧ et cn fs = some l ∧ Stp c H H' ∧ H' dd = some (.xd vs) ∧ RepF c.K M H' vs fs ∧ post (.rt (.fz l)), ?_, ?_⟩
  · rintro cls d' H' ⟨cn, fs, l, dd, vs, rfl, rfl, el, t2, hd, rf, hp⟩
    obtain ⟨x2, x3⟩ := tx cn fs l el
    have s3 := s.stp t2
    refine ⟨x2, fun a ha => x3 M H' a dd vs D.rt s3.dom hd rf ha fun H2 x sm r => ?_⟩
    exact d.rt.fz H2 x l (s3.stp (Stp.sameR s3 sm)).lv (r.weak s.sub) hp
  · refine h _ (c.sub M H) M σ H _ (tellBK et post) D rfl rfl s.inner hw ⟨fun _ _ _ _ _ _ _ _ h => h.elim, fun _ _ _ _ _ _ _ _ h => h.elim, fun _ _ _ _ _ _ _ _ h => h.elim, ⟨fun H' v p l r h => ?_, fun H' a vs ps l f hx r h => ?_⟩, fun H' cn fs dd vs l hd rf h2 => ?_⟩
    · exact d.rt.fz H' v p (s.stp (s.left l)).lv (r.weak s.sub) h
    · refine d.rt.own H' a vs ps (s.stp (s.left l)).lv (s.fresh0 f) hx (r.weak fun b hb => ?_) h
      rcases List.mem_cons.mp hb with z | z
      · exact z ▸ List.mem_cons_self
      · exact List.mem_cons_of_mem _ (s.sub b z)
    · obtain ⟨l', h3, h4⟩ := h2
      exact ⟨cn, fs, l', dd, vs, rfl, rfl, h3, s.left l, hd, rf, h4⟩
/-! ### x.reverse() -/
def sRev (i : Nat) : WS := fun ρ post => match ρ[i]? with
  | some (.own ps) => post (.nx (ρ.set i (.own ps.reverse)))
  | _ => False
theorem es_rev : EvS K T E (tDrop (tBM0 K "list" rReverse (tVar i))) (sRev i) := by
  rintro c M σ H ρ post D rfl rfl s hw d
  unfold sRev at hw
  split at hw
  · rename_i ps hp
    obtain ⟨a, xs, h1, ha, hm, hb, h0, hi⟩ := s.ownAt hp
    obtain ⟨s3, n3⟩ := s.mut hp h1 ha hm hb h0 hi.rev
    exact ⟨_, h1, ty_list (SqL.of ha), a, xs, rfl, rfl, ha, d.nx c M σ _ _ (.refl c) s3 n3 hw⟩
  · exact hw.elim
/-! ### a method that gives a new list -/
def pMethO (C m : Str) (wd : WD) (ds : List PV) (w : WE) (ca : WC) : WA := fun ρ => bindR w (fun a post => match a with
  | .obj cn fs => cn = C ∧ fs.lookup m = none ∧ bindR ca (fun as post => wd (.fz (.obj cn fs) :: (as ++ ds.map .fz)) (ownR post)) ρ post
  | _ => False) ρ
theorem eo_meth {C m : Str} (hd : ∀ M H, RepL K M H dvs ds) (hn : j + dvs.length + 1 = n) (h : EvE K T E te w) (ha : EvC K T E j ta ca) : EvO K T E (tMeth (He.ga K C) m (SpP K T n wd) dvs E te ta) (pMethO C m wd ds w ca) := by
  rintro c M σ H ρ post Q rfl rfl s hw k e
  refine h c M σ H ρ _ _ rfl rfl s hw (fun H1 x p t1 r1 h1 => ?_) (e.imp fun _ _ z => z)
  dsimp only at h1
  split at h1
  · obtain ⟨rfl, hl, h1⟩ := h1
    have s1 := s.stp t1
    obtain ⟨a, dx, vs, rfl, hm, hx, rf⟩ := id r1.objI
    refine ⟨a, dx, vs, rfl, hx, rf.noLook hl, ?_⟩
    refine ha c M σ H1 ρ _ _ rfl rfl s1 h1 (fun H2 xs as t2 r2 hl2 h2 => ?_) (e.imp fun _ _ z => z)
    have s2 := s1.stp t2
    have r3 := ArR.cons (.fz (s1.rep t2 r1)) rfl (Ent.more r2 hd)
    exact call_own s2 r3 (by rw [List.length_cons, List.length_append, hl2, hn]) h2 (fun H' a vs ps t f hx r h => k H' a vs ps (t1.trans (t2.trans t)) ((f.back s1 t2).back s t1) hx r h) (s2.err e)
  · exact h1.elim
end
end My
end

section
set_option Elab.async false
set_option maxRecDepth 100000
set_option maxHeartbeats 4000000
set_option linter.all false
namespace My
open PySem L2
section
variable {c : Cfg} {M : List Addr} {σ : L2.St} {H H' : Hp} {ρ : List SV} {K : PySem.W.Frag} {T : List (Addr × Str)} {E E' : XK} {te tf tg : TE} {w wa wb wc : WE} {ta : TA} {ca : WC} {i j n : Nat} {p : PV} {v : V} {b : Bool} {pE : Res PV → Prop} {va : WA}
/-! ### a set of numbers -/
/-- x = set(e), e a list of numbers -/
def sAsgS (i : Nat) (w : WE) : WS := fun ρ post => w ρ (erO post fun p => ∃ (ps : List PV) (ns : List Int), p = .lst ps ∧ intL ps = some ns ∧ ns.length ≤ 4000 ∧ post (.nx (ρ.set i (.cel (.set fun k => decide (k ∈ ns))))))
theorem es_asgS (h : EvE K T E te w) : EvS K T E (tAsg (tCB (rSetI K) (tCons te tNil)) (gName i)) (sAsgS i w) := by
  rintro c M σ H ρ post D rfl rfl s hw d
  refine h c M σ H ρ _ _ rfl rfl s hw (fun H1 x p t1 r1 h1 => ?_) d.er
  obtain ⟨ps, ns, rfl, e, hl, h1⟩ := h1
  have s1 := s.stp t1
  obtain ⟨a, xs, rfl, hm, ha, r⟩ := r1.lstI
  have ex := r.ints e
  refine ⟨a, ns, rfl, SqL.of (ex ▸ ha), hl, fun q n hq => ?_⟩
  have t2 := (Stp.refl s1).new (o := .set (fun k => decide (k ∈ ns)) n) s1 hq
  obtain ⟨s2, n2⟩ := s1.addCel t2 i (Fresh.none hq) upd_same (CelR.set (n := n))
  exact d.nx c (q :: M) _ _ _ (.refl c) s2 ((s.nxt t1).trans n2) h1
/-- e in x -/
def sinK (neg : Bool) (S : Int → Bool) : PV → (Res PV → Prop) → Prop := fun a post => ∃ k, a = .int k ∧ post (.ok (.bl (if neg then !S k else S k)))
def pSIn (neg : Bool) (w : WE) (i : Nat) : WE := fun ρ post => ∃ S, ρ[i]? = some (.cel (.set S)) ∧ bindR w (sinK neg S) ρ post
theorem ev_sin {neg : Bool} (h : EvE K T E te w) : EvE K T E (tOp (rSInI neg) te (tVar i)) (pSIn neg w i) := by
  rintro c M σ H ρ post Q rfl rfl s hw k e
  obtain ⟨S, hp, hw⟩ := hw
  obtain ⟨a, o, e1, hh, hm, hb, h0, hi⟩ := s.celAt hp
  refine h c M σ H ρ _ _ rfl rfl s hw (fun H1 x q t1 r1 h1 => ?_) (e.imp fun _ _ z => z)
  obtain ⟨z, rfl, h1⟩ := h1
  cases r1
  have hh1 := t1.keep _ _ (fun x y e => (hb x y e).1) hi.nt hh
  cases hi with
  | set => exact ⟨_, e1, z, a, S, _, rfl, rfl, hh1, k H1 _ _ t1 (.bl _) h1⟩
end
end My
end

section
set_option Elab.async false
set_option maxRecDepth 100000
set_option maxHeartbeats 4000000
set_option linter.all false
namespace My
open PySem L2
def top (i : Nat) : Stmt := PySem.Challenge.pw_buriedsure_k09_whole_common_blocks.main.body.getD i (.Pass ⟨0, 0, 0, 0⟩)
abbrev s__wall : Stmt := top 0
abbrev s_BadRota___init__ : Stmt := inClass (top 2) 0
abbrev s_BadWorld___init__ : Stmt := inClass (top 3) 0
abbrev s_BadTree___init__ : Stmt := inClass (top 4) 0
abbrev s_BadPlay___init__ : Stmt := inClass (top 5) 0
abbrev s_BadBook___init__ : Stmt := inClass (top 6) 0
abbrev s_BadCourse___init__ : Stmt := inClass (top 7) 0
abbrev s_BadDie___init__ : Stmt := inClass (top 8) 0
abbrev s_BadMill___init__ : Stmt := inClass (top 9) 0
abbrev s_BadRoster___init__ : Stmt := inClass (top 10) 0
abbrev s_BadScript___init__ : Stmt := inClass (top 11) 0
abbrev s_NoTree___init__ : Stmt := inClass (top 12) 0
abbrev s_OutOf___init__ : Stmt := inClass (top 13) 0
abbrev s_TooMany___init__ : Stmt := inClass (top 14) 0
abbrev s_NoSuch___init__ : Stmt := inClass (top 15) 0
abbrev s_Ended___init__ : Stmt := inClass (top 16) 0
abbrev s_slot_of : Stmt := top 18
abbrev s_behind_of : Stmt := top 19
abbrev s_depths_of : Stmt := top 20
abbrev s_row_of : Stmt := top 21
abbrev s_shared_row : Stmt := top 22
abbrev s_first_common : Stmt := top 23
abbrev s_check_length : Stmt := top 30
abbrev s_lines_of : Stmt := top 31
abbrev s_number_of : Stmt := top 32
abbrev s_is_number_from : Stmt := top 33
abbrev s_missing_fault : Stmt := top 34
abbrev s_head_fault : Stmt := top 35
abbrev s_end_fault : Stmt := top 36
abbrev s_word_of_truth : Stmt := top 42
abbrev s_block_line : Stmt := top 43
abbrev s_tree_text : Stmt := top 44
abbrev s_is_block_line : Stmt := top 45
abbrev s_triple_of_line : Stmt := top 46
abbrev s_read_tree : Stmt := top 47
abbrev s_can_stand : Stmt := top 48
abbrev s_line_of_wrong_triple : Stmt := top 49
abbrev s_Tree___init__ : Stmt := inClass (top 52) 0
abbrev s_Tree_of : Stmt := inClass (top 52) 1
abbrev s_Tree_blocks : Stmt := inClass (top 52) 2
abbrev s_Tree_slot : Stmt := inClass (top 52) 3
abbrev s_Tree_depth : Stmt := inClass (top 52) 4
abbrev s_Tree_row : Stmt := inClass (top 52) 5
abbrev s_Tree_is_true : Stmt := inClass (top 52) 6
abbrev s_Tree_behind : Stmt := inClass (top 52) 7
abbrev s_Tree___contains__ : Stmt := inClass (top 52) 8
abbrev s_Tree___eq__ : Stmt := inClass (top 52) 9
abbrev s_Tree___len__ : Stmt := inClass (top 52) 10
abbrev s_tree_from : Stmt := top 53
abbrev s_common_block : Stmt := top 54
abbrev s__law_bag : Stmt := top 56
abbrev s__law_draw : Stmt := top 57
abbrev s__law_of : Stmt := top 58
abbrev s__law_like : Stmt := top 59
abbrev s__law_why : Stmt := top 60
abbrev s__law_error : Stmt := top 61
abbrev s__law_letters : Stmt := top 62
abbrev s__law_hands : Stmt := top 63
abbrev s__law_late : Stmt := top 64
abbrev s__law_known : Stmt := top 65
abbrev s__law_near : Stmt := top 66
abbrev s__law_foe_tree : Stmt := top 67
abbrev s__law_turned : Stmt := top 68
abbrev s__law_rows : Stmt := top 69
abbrev s__law_wild : Stmt := top 70
abbrev s__law_any : Stmt := top 71
abbrev s__law_told : Stmt := top 72
abbrev s__law_due : Stmt := top 73
abbrev s__law_pairs : Stmt := top 74
abbrev s_law : Stmt := top 75
abbrev s__law_ofS : Stmt := top 58
abbrev s__law_like0 : Stmt := top 59
abbrev s__law_like1 : Stmt := top 59
abbrev s__law_like2 : Stmt := top 59
abbrev s__law_likeZ : Stmt := top 59
abbrev N__law_draw : List Str := ["bag", "size", "item", "digit"]
abbrev P__law_draw : List Str := ["bag", "size"]
theorem sc__law_draw : FnScope N__law_draw P__law_draw (defScope s__law_draw) := ⟨rfl, rfl, rfl, by decide +kernel, rfl, by decide +kernel, by decide +kernel⟩
abbrev N__law_wild : List Str := ["bag", "most", "found", "k", "slot"]
abbrev P__law_wild : List Str := ["bag", "most"]
theorem sc__law_wild : FnScope N__law_wild P__law_wild (defScope s__law_wild) := ⟨rfl, rfl, rfl, by decide +kernel, rfl, by decide +kernel, by decide +kernel⟩
abbrev N__law_of : List Str := ["bag", "things"]
abbrev P__law_of : List Str := ["bag", "things"]
theorem sc__law_of : FnScope N__law_of P__law_of (defScope s__law_of) := ⟨rfl, rfl, rfl, by decide +kernel, rfl, by decide +kernel, by decide +kernel⟩
abbrev N__law_late : List Str := ["bag"]
abbrev P__law_late : List Str := ["bag"]
theorem sc__law_late : FnScope N__law_late P__law_late (defScope s__law_late) := ⟨rfl, rfl, rfl, by decide +kernel, rfl, by decide +kernel, by decide +kernel⟩
abbrev N__law_turned : List Str := ["bag", "blocks", "fresh", "left", "made", "turn", "pick", "k"]
abbrev P__law_turned : List Str := ["bag", "blocks"]
theorem sc__law_turned : FnScope N__law_turned P__law_turned (defScope s__law_turned) := ⟨rfl, rfl, rfl, by decide +kernel, rfl, by decide +kernel, by decide +kernel⟩
abbrev N__law_hands : List Str := ["letter"]
abbrev P__law_hands : List Str := ["letter"]
theorem sc__law_hands : FnScope N__law_hands P__law_hands (defScope s__law_hands) := ⟨rfl, rfl, rfl, by decide +kernel, rfl, by decide +kernel, by decide +kernel⟩
abbrev N__law_known : List Str := ["blocks", "depths", "late", "now", "deep", "k"]
abbrev P__law_known : List Str := ["blocks", "depths", "late", "now"]
theorem sc__law_known : FnScope N__law_known P__law_known (defScope s__law_known) := ⟨rfl, rfl, rfl, by decide +kernel, rfl, by decide +kernel, by decide +kernel⟩
abbrev N__law_near : List Str := ["bag", "depths", "pick", "deep", "near", "k"]
abbrev P__law_near : List Str := ["bag", "depths"]
theorem sc__law_near : FnScope N__law_near P__law_near (defScope s__law_near) := ⟨rfl, rfl, rfl, by decide +kernel, rfl, by decide +kernel, by decide +kernel⟩
abbrev N__law_foe_tree : List Str := ["bag", "letters", "once", "late", "blocks", "depths", "j", "hands", "deep", "good", "k", "fresh", "hand", "much", "turn", "item"]
abbrev P__law_foe_tree : List Str := ["bag", "letters", "once", "late"]
theorem sc__law_foe_tree : FnScope N__law_foe_tree P__law_foe_tree (defScope s__law_foe_tree) := ⟨rfl, rfl, rfl, by decide +kernel, rfl, by decide +kernel, by decide +kernel⟩
abbrev N__law_ofS : List Str := ["bag", "things"]
abbrev P__law_ofS : List Str := ["bag", "things"]
theorem sc__law_ofS : FnScope N__law_ofS P__law_ofS (defScope s__law_ofS) := ⟨rfl, rfl, rfl, by decide +kernel, rfl, by decide +kernel, by decide +kernel⟩
abbrev N__law_letters : List Str := ["bag", "most", "menu", "k"]
abbrev P__law_letters : List Str := ["bag", "most"]
theorem sc__law_letters : FnScope N__law_letters P__law_letters (defScope s__law_letters) := ⟨rfl, rfl, rfl, by decide +kernel, rfl, by decide +kernel, by decide +kernel⟩
abbrev N__law_any : List Str := ["bag", "most", "once", "late"]
abbrev P__law_any : List Str := ["bag", "most"]
theorem sc__law_any : FnScope N__law_any P__law_any (defScope s__law_any) := ⟨rfl, rfl, rfl, by decide +kernel, rfl, by decide +kernel, by decide +kernel⟩
abbrev N__law_rows : List Str := ["blocks", "found", "k"]
abbrev P__law_rows : List Str := ["blocks"]
theorem sc__law_rows : FnScope N__law_rows P__law_rows (defScope s__law_rows) := ⟨rfl, rfl, rfl, by decide +kernel, rfl, by decide +kernel, by decide +kernel⟩
abbrev N_can_stand : List Str := ["triple", "number", "slot", "_", "behind"]
abbrev P_can_stand : List Str := ["triple", "number"]
theorem sc_can_stand : FnScope N_can_stand P_can_stand (defScope s_can_stand) := ⟨rfl, rfl, rfl, by decide +kernel, rfl, by decide +kernel, by decide +kernel⟩
abbrev N_line_of_wrong_triple : List Str := ["blocks", "at", "triple"]
abbrev P_line_of_wrong_triple : List Str := ["blocks"]
theorem sc_line_of_wrong_triple : FnScope N_line_of_wrong_triple P_line_of_wrong_triple (defScope s_line_of_wrong_triple) := ⟨rfl, rfl, rfl, by decide +kernel, rfl, by decide +kernel, by decide +kernel⟩
abbrev N_check_length : List Str := ["text"]
abbrev P_check_length : List Str := ["text"]
theorem sc_check_length : FnScope N_check_length P_check_length (defScope s_check_length) := ⟨rfl, rfl, rfl, by decide +kernel, rfl, by decide +kernel, by decide +kernel⟩
abbrev N_lines_of : List Str := ["text", "pieces"]
abbrev P_lines_of : List Str := ["text"]
theorem sc_lines_of : FnScope N_lines_of P_lines_of (defScope s_lines_of) := ⟨rfl, rfl, rfl, by decide +kernel, rfl, by decide +kernel, by decide +kernel⟩
abbrev N_head_fault : List Str := ["lines", "rest", "head"]
abbrev P_head_fault : List Str := ["lines", "rest", "head"]
theorem sc_head_fault : FnScope N_head_fault P_head_fault (defScope s_head_fault) := ⟨rfl, rfl, rfl, by decide +kernel, rfl, by decide +kernel, by decide +kernel⟩
abbrev N_end_fault : List Str := ["lines", "rest", "at"]
abbrev P_end_fault : List Str := ["lines", "rest", "at"]
theorem sc_end_fault : FnScope N_end_fault P_end_fault (defScope s_end_fault) := ⟨rfl, rfl, rfl, by decide +kernel, rfl, by decide +kernel, by decide +kernel⟩
abbrev N_read_tree : List Str := ["text", "lines", "rest", "fault", "blocks", "at", "triple"]
abbrev P_read_tree : List Str := ["text"]
theorem sc_read_tree : FnScope N_read_tree P_read_tree (defScope s_read_tree) := ⟨rfl, rfl, rfl, by decide +kernel, rfl, by decide +kernel, by decide +kernel⟩
abbrev N_depths_of : List Str := ["blocks", "depths", "triple"]
abbrev P_depths_of : List Str := ["blocks"]
theorem sc_depths_of : FnScope N_depths_of P_depths_of (defScope s_depths_of) := ⟨rfl, rfl, rfl, by decide +kernel, rfl, by decide +kernel, by decide +kernel⟩
abbrev N_Tree___init__ : List Str := ["self", "text", "blocks", "fault"]
abbrev P_Tree___init__ : List Str := ["self", "text"]
theorem sc_Tree___init__ : FnScope N_Tree___init__ P_Tree___init__ (defScope s_Tree___init__) := ⟨rfl, rfl, rfl, by decide +kernel, rfl, by decide +kernel, by decide +kernel⟩
abbrev N_word_of_truth : List Str := ["true"]
abbrev P_word_of_truth : List Str := ["true"]
theorem sc_word_of_truth : FnScope N_word_of_truth P_word_of_truth (defScope s_word_of_truth) := ⟨rfl, rfl, rfl, by decide +kernel, rfl, by decide +kernel, by decide +kernel⟩
abbrev N_block_line : List Str := ["number", "triple", "slot", "true", "behind"]
abbrev P_block_line : List Str := ["number", "triple"]
theorem sc_block_line : FnScope N_block_line P_block_line (defScope s_block_line) := ⟨rfl, rfl, rfl, by decide +kernel, rfl, by decide +kernel, by decide +kernel⟩
abbrev N_tree_text : List Str := ["blocks", "lines", "at", "triple"]
abbrev P_tree_text : List Str := ["blocks"]
theorem sc_tree_text : FnScope N_tree_text P_tree_text (defScope s_tree_text) := ⟨rfl, rfl, rfl, by decide +kernel, rfl, by decide +kernel, by decide +kernel⟩
abbrev N_tree_from : List Str := ["blocks", "tree"]
abbrev P_tree_from : List Str := ["blocks"]
theorem sc_tree_from : FnScope N_tree_from P_tree_from (defScope s_tree_from) := ⟨rfl, rfl, rfl, by decide +kernel, rfl, by decide +kernel, by decide +kernel⟩
abbrev N_Tree_of : List Str := ["blocks", "triples", "slot", "true", "behind", "line"]
abbrev P_Tree_of : List Str := ["blocks"]
theorem sc_Tree_of : FnScope N_Tree_of P_Tree_of (defScope s_Tree_of) := ⟨rfl, rfl, rfl, by decide +kernel, rfl, by decide +kernel, by decide +kernel⟩
abbrev N__law_pairs : List Str := ["bag", "size", "found", "one", "other", "k"]
abbrev P__law_pairs : List Str := ["bag", "size"]
theorem sc__law_pairs : FnScope N__law_pairs P__law_pairs (defScope s__law_pairs) := ⟨rfl, rfl, rfl, by decide +kernel, rfl, by decide +kernel, by decide +kernel⟩
abbrev N__law_due : List Str := ["blocks", "rows", "one", "other", "slot", "both", "k"]
abbrev P__law_due : List Str := ["blocks", "rows", "one", "other", "slot"]
theorem sc__law_due : FnScope N__law_due P__law_due (defScope s__law_due) := ⟨rfl, rfl, rfl, by decide +kernel, rfl, by decide +kernel, by decide +kernel⟩
abbrev N__law_like0 : List Str := ["told", "due", "k"]
abbrev P__law_like0 : List Str := ["told", "due"]
theorem sc__law_like0 : FnScope N__law_like0 P__law_like0 (defScope s__law_like0) := ⟨rfl, rfl, rfl, by decide +kernel, rfl, by decide +kernel, by decide +kernel⟩
abbrev N__law_like1 : List Str := ["told", "due", "k"]
abbrev P__law_like1 : List Str := ["told", "due"]
theorem sc__law_like1 : FnScope N__law_like1 P__law_like1 (defScope s__law_like1) := ⟨rfl, rfl, rfl, by decide +kernel, rfl, by decide +kernel, by decide +kernel⟩
abbrev N__law_like2 : List Str := ["told", "due", "k"]
abbrev P__law_like2 : List Str := ["told", "due"]
theorem sc__law_like2 : FnScope N__law_like2 P__law_like2 (defScope s__law_like2) := ⟨rfl, rfl, rfl, by decide +kernel, rfl, by decide +kernel, by decide +kernel⟩
abbrev N_Tree___contains__ : List Str := ["self", "number"]
abbrev P_Tree___contains__ : List Str := ["self", "number"]
theorem sc_Tree___contains__ : FnScope N_Tree___contains__ P_Tree___contains__ (defScope s_Tree___contains__) := ⟨rfl, rfl, rfl, by decide +kernel, rfl, by decide +kernel, by decide +kernel⟩
abbrev N_behind_of : List Str := ["blocks", "block"]
abbrev P_behind_of : List Str := ["blocks", "block"]
theorem sc_behind_of : FnScope N_behind_of P_behind_of (defScope s_behind_of) := ⟨rfl, rfl, rfl, by decide +kernel, rfl, by decide +kernel, by decide +kernel⟩
abbrev N_row_of : List Str := ["blocks", "block", "back", "at"]
abbrev P_row_of : List Str := ["blocks", "block"]
theorem sc_row_of : FnScope N_row_of P_row_of (defScope s_row_of) := ⟨rfl, rfl, rfl, by decide +kernel, rfl, by decide +kernel, by decide +kernel⟩
abbrev N_shared_row : List Str := ["blocks", "one", "other", "in_other", "block"]
abbrev P_shared_row : List Str := ["blocks", "one", "other"]
theorem sc_shared_row : FnScope N_shared_row P_shared_row (defScope s_shared_row) := ⟨rfl, rfl, rfl, by decide +kernel, rfl, by decide +kernel, by decide +kernel⟩
abbrev N_slot_of : List Str := ["blocks", "block"]
abbrev P_slot_of : List Str := ["blocks", "block"]
theorem sc_slot_of : FnScope N_slot_of P_slot_of (defScope s_slot_of) := ⟨rfl, rfl, rfl, by decide +kernel, rfl, by decide +kernel, by decide +kernel⟩
abbrev N_first_common : List Str := ["blocks", "one", "other", "slot", "block"]
abbrev P_first_common : List Str := ["blocks", "one", "other", "slot"]
theorem sc_first_common : FnScope N_first_common P_first_common (defScope s_first_common) := ⟨rfl, rfl, rfl, by decide +kernel, rfl, by decide +kernel, by decide +kernel⟩
abbrev N_common_block : List Str := ["tree", "one", "other", "slot"]
abbrev P_common_block : List Str := ["tree", "one", "other", "slot"]
theorem sc_common_block : FnScope N_common_block P_common_block (defScope s_common_block) := ⟨rfl, rfl, rfl, by decide +kernel, rfl, by decide +kernel, by decide +kernel⟩
abbrev N__law_told : List Str := ["tree", "one", "other", "slot", "e"]
abbrev P__law_told : List Str := ["tree", "one", "other", "slot"]
theorem sc__law_told : FnScope N__law_told P__law_told (defScope s__law_told) := ⟨rfl, rfl, rfl, by decide +kernel, rfl, by decide +kernel, by decide +kernel⟩
abbrev N_law : List Str := ["script", "bag", "turn", "blocks", "rows", "size", "tree", "one", "other", "both", "k", "edge", "slot", "due"]
abbrev P_law : List Str := ["script"]
theorem sc_law : FnScope N_law P_law (defScope s_law) := ⟨rfl, rfl, rfl, by decide +kernel, rfl, by decide +kernel, by decide +kernel⟩
abbrev N__law_bag : List Str := ["script", "mixed", "item"]
abbrev P__law_bag : List Str := ["script"]
theorem sc__law_bag : FnScope N__law_bag P__law_bag (defScope s__law_bag) := ⟨rfl, rfl, rfl, by decide +kernel, rfl, by decide +kernel, by decide +kernel⟩
def attrs : List (Str × Str) := [("Tree", "_blocks"), ("Tree", "_depths"), ("Tree", "text")]
structure KT (K : PySem.W.Frag) : Prop where
  z : True
def okP1 (k : Nat) : List PV → Prop := fun ps => ∃ x : Str, ps = [.str x] ∧ x.length ≤ k
def okV1 (k : Nat) : List V → Prop := fun ps => ∃ x : Str, ps = [.str x] ∧ x.length ≤ k
theorem ok1_P : ∀ {K : PySem.W.Frag} M H xs ps, RepL K M H xs ps → okP1 100 ps → okV1 100 xs := by
  rintro K M H xs ps r ⟨x, rfl, h⟩
  match xs, r with
  | [v], r => have := r.head; cases this; exact ⟨x, rfl, h⟩
  | [], r => cases r.1
  | _ :: _ :: _, r => cases r.1
def d_OutOf : SupD := ⟨"OutOf", "OutOf.__init__", defArgs s_OutOf___init__, defBody s_OutOf___init__, defScope s_OutOf___init__⟩
abbrev N_OutOf : List Str := ["self", "what", "__class__"]
abbrev P_OutOf : List Str := ["self", "what"]
def nm_OutOf : List Str := ["what"]
theorem ok_OutOf_P : ∀ {K : PySem.W.Frag} M H xs ps, RepL K M H xs ps → okP1 100 ps → okV1 100 xs := ok1_P
abbrev sp_OutOf (K : PySem.W.Frag) : Sp := sp_err K "OutOf" nm_OutOf (okV1 100)
def Tb (K : PySem.W.Frag) : List (Addr × Str) := []
abbrev NMS : List Str := ["BadTree", "BadPlay", "BadRota", "BadWorld", "NoTree", "OutOf", "TooMany", "NoSuch", "Ended"]
def csE (K : PySem.W.Frag) : List Value := NMS.map fun n => .ref (He.ga K n)
def spX__law_error (K : PySem.W.Frag) : SpX := fun a cls d vs H Q _ => vs = [.ref a] ∧ ∃ (dd : Addr) (x : Str), d = some dd ∧ cls = .ref (He.ga K "OutOf") ∧ H dd = some (.xd [("what", .str x)]) ∧
  ∀ H' l, H l = none → Same H H' → H' l = some (.lst [.str "OutOf", .str x]) → Q (.ref l) H'
def erTab : ErTab := fun cn fs => if cn = "OutOf" then match fs with
  | [(_, .str x)] => if fs.map Prod.fst = (["what"] : List Str) then some (.lst [.str "OutOf", .str x]) else none
  | _ => none else none
def w__law_likeZ : WD := fun _ _ => False
abbrev sp__law_likeZ (K : PySem.W.Frag) : Sp := SpP K (Tb K) 2 w__law_likeZ
abbrev TX (K : PySem.W.Frag) : Prop := TellX K (csE K) (spX__law_error K) erTab

/-! _law_draw -/
def w__law_draw : WD := wDraw
abbrev sp__law_draw (K : PySem.W.Frag) : Sp := SpP K (Tb K) 2 w__law_draw
/-! _law_wild -/
def b0__law_wild : WS := (sSeq (sAsg (pIf (pTest (pOp qEq (pCall w__law_draw [] (cpBag 0 (cpCons (pC (.int 3)) cpNil))) (pC (.int 1)))) (pOp qPlus (pC (.int 1)) (pCall w__law_draw [] (cpBag 0 (cpCons (pC (.int 40)) cpNil)))) (pOp qPlus (pC (.int 1)) (pCall w__law_draw [] (cpBag 0 (cpCons (pC (.int 6)) cpNil))))) (gpName 4))
  (sApp 2 (pTup (pCons (pVar 4) (pCons (pOp qEq (pCall w__law_draw [] (cpBag 0 (cpCons (pC (.int 2)) cpNil))) (pC (.int 1))) (pCons (pIf (pTest (pOp qEq (pCall w__law_draw [] (cpBag 0 (cpCons (pC (.int 2)) cpNil))) (pC (.int 1)))) (pVar 3) (pCall w__law_draw [] (cpBag 0 (cpCons (pOp qPlus (pVar 3) (pC (.int 1))) cpNil)))) pNil))))))
def s_v__law_wild : WS := (sSeq (sAsgO (pLst pNil) 2)
  (sSeq (sFor (pRng1 (pCall w__law_draw [] (cpBag 0 (cpCons (pOp qPlus (pVar 1) (pC (.int 1))) cpNil)))) (gpName 3) b0__law_wild)
  (sRetV 2)))
def w__law_wild : WD := bodyW N__law_wild.length s_v__law_wild
abbrev sp__law_wild (K : PySem.W.Frag) : Sp := SpP K (Tb K) 2 w__law_wild
def r__law_wild (K : PySem.W.Frag) (E : XK) : TS := (tSeq (tAsg (tLst tNil) (gName 2))
  (tSeq (tFor (iRng1 (tCons (tCall (sp__law_draw K) [] E (tCons (tVar 0) (tCons (tOp rPlus (tVar 1) (tC (.int 1))) tNil))) tNil)) (gName 3)
   (tSeq (tAsg (tIf (tTest (tOp rEq (tCall (sp__law_draw K) [] E (tCons (tVar 0) (tCons (tC (.int 3)) tNil))) (tC (.int 1)))) (tOp rPlus (tC (.int 1)) (tCall (sp__law_draw K) [] E (tCons (tVar 0) (tCons (tC (.int 40)) tNil)))) (tOp rPlus (tC (.int 1)) (tCall (sp__law_draw K) [] E (tCons (tVar 0) (tCons (tC (.int 6)) tNil))))) (gName 4))
  (tDrop (tBM K "list" rAppend (tVar 2) (tCons (tTup (tCons (tVar 4) (tCons (tOp rEq (tCall (sp__law_draw K) [] E (tCons (tVar 0) (tCons (tC (.int 2)) tNil))) (tC (.int 1))) (tCons (tIf (tTest (tOp rEq (tCall (sp__law_draw K) [] E (tCons (tVar 0) (tCons (tC (.int 2)) tNil))) (tC (.int 1)))) (tVar 3) (tCall (sp__law_draw K) [] E (tCons (tVar 0) (tCons (tOp rPlus (tVar 3) (tC (.int 1))) tNil)))) tNil)))) tNil)))))
  (tRet (tVar 2))))
theorem v__law_wild {K : PySem.W.Frag} {E : XK} (kt : KT K) (ka : KAt K attrs) (tx : TX K) : EvS K (Tb K) E (r__law_wild K E) s_v__law_wild := (seq_ok (es_asgO (eo_lst ea_nil))
  (seq_ok (es_for (ei_rng1 (ev_call (fun _ _ => .nil) rfl (ec_bag (ec_cons (ev_op v_Plus (EvE.b ev_var) (EvE.b ev_int)) ec_nil)))) eg_name (seq_ok (es_asg (ev_if (et_test (ev_op v_Eq (EvE.b (ev_call (fun _ _ => .nil) rfl (ec_bag (ec_cons ev_int ec_nil)))) (EvE.b ev_int))) (ev_op v_Plus (EvE.b ev_int) (EvE.b (ev_call (fun _ _ => .nil) rfl (ec_bag (ec_cons ev_int ec_nil))))) (ev_op v_Plus (EvE.b ev_int) (EvE.b (ev_call (fun _ _ => .nil) rfl (ec_bag (ec_cons ev_int ec_nil)))))) eg_name)
  (es_app (ev_tup (ea_cons ev_var (ea_cons (ev_op v_Eq (EvE.b (ev_call (fun _ _ => .nil) rfl (ec_bag (ec_cons ev_int ec_nil)))) (EvE.b ev_int)) (ea_cons (ev_if (et_test (ev_op v_Eq (EvE.b (ev_call (fun _ _ => .nil) rfl (ec_bag (ec_cons ev_int ec_nil)))) (EvE.b ev_int))) ev_var (ev_call (fun _ _ => .nil) rfl (ec_bag (ec_cons (ev_op v_Plus (EvE.b ev_var) (EvE.b ev_int)) ec_nil)))) ea_nil)))))))
  es_retV))
/-! _law_of -/
def s_v__law_of : WS := (sRet (pOp qIxL (pVar 1) (pCall w__law_draw [] (cpBag 0 (cpCons (pLen (pVar 1)) cpNil)))))
def w__law_of : WD := bodyW N__law_of.length s_v__law_of
abbrev sp__law_of (K : PySem.W.Frag) : Sp := SpP K (Tb K) 2 w__law_of
def r__law_of (K : PySem.W.Frag) (E : XK) : TS := (tRet (tOp (rIxL K) (tVar 1) (tCall (sp__law_draw K) [] E (tCons (tVar 0) (tCons (tCB (bLen K) (tCons (tVar 1) tNil)) tNil)))))
theorem v__law_of {K : PySem.W.Frag} {E : XK} (kt : KT K) (ka : KAt K attrs) (tx : TX K) : EvS K (Tb K) E (r__law_of K E) s_v__law_of := (es_ret (ev_op v_IxL (EvE.b ev_var) (EvE.b (ev_call (fun _ _ => .nil) rfl (ec_bag (ec_cons (ev_len (EvE.b ev_var)) ec_nil))))))
/-! _law_late -/
def s_v__law_late : WS := (sRet (pCall w__law_of [] (cpBag 0 (cpCons (pFrz (pLst (pCons (pC (.int 0)) (pCons (pC (.int 1)) (pCons (pC (.int 2)) (pCons (pC (.int 0)) (pCons (pC (.int 1)) (pCons (pC (.int 2)) (pCons (pC (.int 0)) (pCons (pC (.int 1)) (pCons (pC (.int 3)) (pCons (pC (.int 4)) pNil)))))))))))) cpNil))))
def w__law_late : WD := bodyW N__law_late.length s_v__law_late
abbrev sp__law_late (K : PySem.W.Frag) : Sp := SpP K (Tb K) 1 w__law_late
def r__law_late (K : PySem.W.Frag) (E : XK) : TS := (tRet (tCall (sp__law_of K) [] E (tCons (tVar 0) (tCons (tLst (tCons (tC (.int 0)) (tCons (tC (.int 1)) (tCons (tC (.int 2)) (tCons (tC (.int 0)) (tCons (tC (.int 1)) (tCons (tC (.int 2)) (tCons (tC (.int 0)) (tCons (tC (.int 1)) (tCons (tC (.int 3)) (tCons (tC (.int 4)) tNil))))))))))) tNil))))
theorem v__law_late {K : PySem.W.Frag} {E : XK} (kt : KT K) (ka : KAt K attrs) (tx : TX K) : EvS K (Tb K) E (r__law_late K E) s_v__law_late := (es_ret (ev_call (fun _ _ => .nil) rfl (ec_bag (ec_cons (ev_frz (eo_lst (ea_cons ev_int (ea_cons ev_int (ea_cons ev_int (ea_cons ev_int (ea_cons ev_int (ea_cons ev_int (ea_cons ev_int (ea_cons ev_int (ea_cons ev_int (ea_cons ev_int ea_nil)))))))))))) ec_nil))))
/-! _law_turned -/
def b0__law_turned : WS := (sSeq (sAsg (pCall w__law_of [] (cpBag 0 (cpCons (pFrz (pLc (pItL (pVar 3)) (gpName 7) (pTest (pDIn false (pOp qIxT (pOp qIxL (pVar 1) (pOp qMinus (pVar 7) (pC (.int 1)))) (pC (.int 2))) 2)) (pVar 7) [7])) cpNil))) (gpName 6))
  (sSeq (sAsg (pFrz (pLc (pItL (pVar 3)) (gpName 7) (pTest (pOp qNe (pVar 7) (pVar 6))) (pVar 7) [7])) (gpName 3))
  (sSeq (sDPutW 2 (pVar 6) (pOp qPlus (pVar 5) (pC (.int 1))))
  (sApp 4 (pTup (pCons (pOp qIxT (pOp qIxL (pVar 1) (pOp qMinus (pVar 6) (pC (.int 1)))) (pC (.int 0))) (pCons (pOp qIxT (pOp qIxL (pVar 1) (pOp qMinus (pVar 6) (pC (.int 1)))) (pC (.int 1))) (pCons (pDGet 2 (pOp qIxT (pOp qIxL (pVar 1) (pOp qMinus (pVar 6) (pC (.int 1)))) (pC (.int 2)))) pNil))))))))
def s_v__law_turned : WS := (sSeq (sAsgD1 (pC (.int 0)) (pC (.int 0)) 2)
  (sSeq (sAsg (pFrz (pLRg2 (pC (.int 1)) (pOp qPlus (pLen (pVar 1)) (pC (.int 1))))) (gpName 3))
  (sSeq (sAsgO (pLst pNil) 4)
  (sSeq (sFor (pRng1 (pLen (pVar 1))) (gpName 5) b0__law_turned)
  (sRetV 4)))))
def w__law_turned : WD := bodyW N__law_turned.length s_v__law_turned
abbrev sp__law_turned (K : PySem.W.Frag) : Sp := SpP K (Tb K) 2 w__law_turned
def r__law_turned (K : PySem.W.Frag) (E : XK) : TS := (tSeq (tAsg (tDisp [((tC (.int 0)), (tC (.int 0)))]) (gName 2))
  (tSeq (tAsg (tLstRg (tRg2 (tC (.int 1)) (tOp rPlus (tCB (bLen K) (tCons (tVar 1) tNil)) (tC (.int 1))))) (gName 3))
  (tSeq (tAsg (tLst tNil) (gName 4))
  (tSeq (tFor (iRng1 (tCons (tCB (bLen K) (tCons (tVar 1) tNil)) tNil)) (gName 5)
   (tSeq (tAsg (tCall (sp__law_of K) [] E (tCons (tVar 0) (tCons (tLc (iList K (tVar 3)) (gName 7) (tB (tDIn (tOp (rIxT K) (tOp (rIxL K) (tVar 1) (tOp rMinus (tVar 7) (tC (.int 1)))) (tC (.int 2))) (tVar 2))) (tVar 7) [7]) tNil))) (gName 6))
  (tSeq (tAsg (tLc (iList K (tVar 3)) (gName 7) (tTest (tOp rNe (tVar 7) (tVar 6))) (tVar 7) [7]) (gName 3))
  (tSeq (sDPut (tVar 2) (tVar 6) (tOp rPlus (tVar 5) (tC (.int 1))))
  (tDrop (tBM K "list" rAppend (tVar 4) (tCons (tTup (tCons (tOp (rIxT K) (tOp (rIxL K) (tVar 1) (tOp rMinus (tVar 6) (tC (.int 1)))) (tC (.int 0))) (tCons (tOp (rIxT K) (tOp (rIxL K) (tVar 1) (tOp rMinus (tVar 6) (tC (.int 1)))) (tC (.int 1))) (tCons (tDGet (tVar 2) (tOp (rIxT K) (tOp (rIxL K) (tVar 1) (tOp rMinus (tVar 6) (tC (.int 1)))) (tC (.int 2)))) tNil)))) tNil)))))))
  (tRet (tVar 4))))))
theorem v__law_turned {K : PySem.W.Frag} {E : XK} (kt : KT K) (ka : KAt K attrs) (tx : TX K) : EvS K (Tb K) E (r__law_turned K E) s_v__law_turned := (seq_ok (es_asgD1 ev_int ev_int)
  (seq_ok (es_asg (ev_frz (eo_lrg2 ev_int (ev_op v_Plus (EvE.b (ev_len (EvE.b ev_var))) (EvE.b ev_int)))) eg_name)
  (seq_ok (es_asgO (eo_lst ea_nil))
  (seq_ok (es_for (ei_rng1 (ev_len (EvE.b ev_var))) eg_name (seq_ok (es_asg (ev_call (fun _ _ => .nil) rfl (ec_bag (ec_cons (ev_frz (eo_lc (ei_listB (EvE.b ev_var)) eg_name (et_b (ev_din (ev_op v_IxT (EvE.b (ev_op v_IxL (EvE.b ev_var) (EvE.b (ev_op v_Minus (EvE.b ev_var) (EvE.b ev_int))))) (EvE.b ev_int)))) ev_var)) ec_nil))) eg_name)
  (seq_ok (es_asg (ev_frz (eo_lc (ei_listB (EvE.b ev_var)) eg_name (et_test (ev_op v_Ne (EvE.b ev_var) (EvE.b ev_var))) ev_var)) eg_name)
  (seq_ok (es_dput ev_var (ev_op v_Plus (EvE.b ev_var) (EvE.b ev_int)))
  (es_app (ev_tup (ea_cons (ev_op v_IxT (EvE.b (ev_op v_IxL (EvE.b ev_var) (EvE.b (ev_op v_Minus (EvE.b ev_var) (EvE.b ev_int))))) (EvE.b ev_int)) (ea_cons (ev_op v_IxT (EvE.b (ev_op v_IxL (EvE.b ev_var) (EvE.b (ev_op v_Minus (EvE.b ev_var) (EvE.b ev_int))))) (EvE.b ev_int)) (ea_cons (ev_dget (ev_op v_IxT (EvE.b (ev_op v_IxL (EvE.b ev_var) (EvE.b (ev_op v_Minus (EvE.b ev_var) (EvE.b ev_int))))) (EvE.b ev_int))) ea_nil)))))))))
  es_retV))))
/-! _law_hands -/
def s_v__law_hands : WS := (sRet (pTup (pCons (pOp qModP (p1 qInt (pFind (pC (.str ".hHabB")) (pVar 0))) (pC (.int 3))) (pCons (pOp qInS (pVar 0) (pC (.str "abB"))) pNil))))
def w__law_hands : WD := bodyW N__law_hands.length s_v__law_hands
abbrev sp__law_hands (K : PySem.W.Frag) : Sp := SpP K (Tb K) 1 w__law_hands
def r__law_hands (K : PySem.W.Frag) (E : XK) : TS := (tRet (tTup (tCons (tOp rModP (tCB bInt (tCons (tM1 rFind (tC (.str ".hHabB")) (tVar 0)) tNil)) (tC (.int 3))) (tCons (tOp rInS (tVar 0) (tC (.str "abB"))) tNil))))
theorem v__law_hands {K : PySem.W.Frag} {E : XK} (kt : KT K) (ka : KAt K attrs) (tx : TX K) : EvS K (Tb K) E (r__law_hands K E) s_v__law_hands := (es_ret (ev_tup (ea_cons (ev_op v_ModP (EvE.b (ev_bint (ev_find ev_str ev_var))) (EvE.b ev_int)) (ea_cons (ev_op v_InS (EvE.b ev_var) (EvE.b ev_str)) ea_nil))))
/-! _law_known -/
def b0__law_known : WS := (sIf (pAnd (pTru (pOp qIxT (pOp qIxL (pVar 0) (pVar 5)) (pC (.int 1)))) (pTest (pOp qLe0 (pOp qIxT (pOp qIxL (pVar 0) (pVar 5)) (pC (.int 0))) (pOp qMinus (pVar 3) (pVar 2))))) (sAsg (p2 qMax2 (pVar 4) (pOp qIxL (pVar 1) (pOp qPlus (pVar 5) (pC (.int 1))))) (gpName 4)) sNext)
def s_v__law_known : WS := (sSeq (sAsg (pC (.int 0)) (gpName 4))
  (sSeq (sFor (pRng1 (pLen (pVar 0))) (gpName 5) b0__law_known)
  (sRet (pVar 4))))
def w__law_known : WD := bodyW N__law_known.length s_v__law_known
abbrev sp__law_known (K : PySem.W.Frag) : Sp := SpP K (Tb K) 4 w__law_known
def r__law_known (K : PySem.W.Frag) (E : XK) : TS := (tSeq (tAsg (tC (.int 0)) (gName 4))
  (tSeq (tFor (iRng1 (tCons (tCB (bLen K) (tCons (tVar 0) tNil)) tNil)) (gName 5)
   (tIfS (tAnd (tTru K (tOp (rIxT K) (tOp (rIxL K) (tVar 0) (tVar 5)) (tC (.int 1)))) (tTest (tOp rLe0 (tOp (rIxT K) (tOp (rIxL K) (tVar 0) (tVar 5)) (tC (.int 0))) (tOp rMinus (tVar 3) (tVar 2))))) (tAsg (tCB bMax2 (tCons (tVar 4) (tCons (tOp (rIxL K) (tVar 1) (tOp rPlus (tVar 5) (tC (.int 1)))) tNil))) (gName 4)) tNext))
  (tRet (tVar 4))))
theorem v__law_known {K : PySem.W.Frag} {E : XK} (kt : KT K) (ka : KAt K attrs) (tx : TX K) : EvS K (Tb K) E (r__law_known K E) s_v__law_known := (seq_ok (es_asg ev_int eg_name)
  (seq_ok (es_for (ei_rng1 (ev_len (EvE.b ev_var))) eg_name (es_if (et_and (et_tru (EvE.b (ev_op v_IxT (EvE.b (ev_op v_IxL (EvE.b ev_var) (EvE.b ev_var))) (EvE.b ev_int)))) (et_test (ev_op v_Le0 (EvE.b (ev_op v_IxT (EvE.b (ev_op v_IxL (EvE.b ev_var) (EvE.b ev_var))) (EvE.b ev_int))) (EvE.b (ev_op v_Minus (EvE.b ev_var) (EvE.b ev_var)))))) (es_asg (ev_max2 ev_var (ev_op v_IxL (EvE.b ev_var) (EvE.b (ev_op v_Plus (EvE.b ev_var) (EvE.b ev_int))))) eg_name) es_next))
  (es_ret ev_var)))
/-! _law_near -/
def s_v__law_near : WS := (sSeq (sAsg (pCall w__law_draw [] (cpBag 0 (cpCons (pC (.int 3)) cpNil))) (gpName 2))
  (sSeq (sAsg (pMaxL (pVar 1)) (gpName 3))
  (sSeq (sAsg (pFrz (pLc (pRng1 (pLen (pVar 1))) (gpName 5) (pTest (pOp qGe0 (pOp qIxL (pVar 1) (pVar 5)) (pOp qMinus (pVar 3) (pVar 2)))) (pVar 5) [5])) (gpName 4))
  (sRet (pIf (pTest (pOp qLt0 (pVar 2) (pC (.int 2)))) (pCall w__law_of [] (cpBag 0 (cpCons (pVar 4) cpNil))) (pCall w__law_draw [] (cpBag 0 (cpCons (pLen (pVar 1)) cpNil))))))))
def w__law_near : WD := bodyW N__law_near.length s_v__law_near
abbrev sp__law_near (K : PySem.W.Frag) : Sp := SpP K (Tb K) 2 w__law_near
def r__law_near (K : PySem.W.Frag) (E : XK) : TS := (tSeq (tAsg (tCall (sp__law_draw K) [] E (tCons (tVar 0) (tCons (tC (.int 3)) tNil))) (gName 2))
  (tSeq (tAsg (tCB (rMax K) (tCons (tVar 1) tNil)) (gName 3))
  (tSeq (tAsg (tLc (iRng1 (tCons (tCB (bLen K) (tCons (tVar 1) tNil)) tNil)) (gName 5) (tTest (tOp rGe0 (tOp (rIxL K) (tVar 1) (tVar 5)) (tOp rMinus (tVar 3) (tVar 2)))) (tVar 5) [5]) (gName 4))
  (tRet (tIf (tTest (tOp rLt0 (tVar 2) (tC (.int 2)))) (tCall (sp__law_of K) [] E (tCons (tVar 0) (tCons (tVar 4) tNil))) (tCall (sp__law_draw K) [] E (tCons (tVar 0) (tCons (tCB (bLen K) (tCons (tVar 1) tNil)) tNil))))))))
theorem v__law_near {K : PySem.W.Frag} {E : XK} (kt : KT K) (ka : KAt K attrs) (tx : TX K) : EvS K (Tb K) E (r__law_near K E) s_v__law_near := (seq_ok (es_asg (ev_call (fun _ _ => .nil) rfl (ec_bag (ec_cons ev_int ec_nil))) eg_name)
  (seq_ok (es_asg (ev_maxL (EvE.b ev_var)) eg_name)
  (seq_ok (es_asg (ev_frz (eo_lc (ei_rng1 (ev_len (EvE.b ev_var))) eg_name (et_test (ev_op v_Ge0 (EvE.b (ev_op v_IxL (EvE.b ev_var) (EvE.b ev_var))) (EvE.b (ev_op v_Minus (EvE.b ev_var) (EvE.b ev_var))))) ev_var)) eg_name)
  (es_ret (ev_if (et_test (ev_op v_Lt0 (EvE.b ev_var) (EvE.b ev_int))) (ev_call (fun _ _ => .nil) rfl (ec_bag (ec_cons ev_var ec_nil))) (ev_call (fun _ _ => .nil) rfl (ec_bag (ec_cons (ev_len (EvE.b ev_var)) ec_nil))))))))
/-! _law_foe_tree -/
def b0__law_foe_tree : WS := (sApp 11 (pTup (pCons (pVar 6) (pCons (pC (.bl true)) (pCons (pCall w__law_of [] (cpBag 0 (cpCons (pVar 9) cpNil))) pNil)))))
def b1__law_foe_tree : WS := (sApp 11 (pTup (pCons (pVar 6) (pCons (pC (.bl false)) (pCons (pLoose 5 (pCall w__law_near [] (cpBag 0 (cpCons (pVar 5) cpNil)))) pNil)))))
def b2__law_foe_tree : WS := (sSeq (sApp 4 (pVar 15))
  (sApp 5 (pOp qPlus (pOp qIxL (pVarB 5) (pOp qIxT (pVar 15) (pC (.int 2)))) (pC (.int 1)))))
def b3__law_foe_tree : WS := (sSeq (sAsg (pCall w__law_hands [] (cpCons (pOp qItemS (pVar 1) (pOp qMinus (pVar 6) (pC (.int 1)))) cpNil)) (gpName 7))
  (sSeq (sAsg (pLoose 5 (pLoose 4 (pCall w__law_known [] (cpCons (pVar 4) (cpCons (pVar 5) (cpCons (pVar 3) (cpCons (pOp qMinus (pVar 6) (pC (.int 1))) cpNil))))))) (gpName 8))
  (sSeq (sAsg (pFrz (pLc (pRng1 (pLen (pVarB 5))) (gpName 10) (pTest (pOp qGe0 (pOp qIxL (pVarB 5) (pVar 10)) (pVar 8))) (pVar 10) [10])) (gpName 9))
  (sSeq (sAsgO (pLst pNil) 11)
  (sSeq (sFor (pRng1 (pOp qIxT (pVar 7) (pC (.int 0)))) (gpName 12) b0__law_foe_tree)
  (sSeq (sAsg (pC (.int 0)) (gpName 13))
  (sSeq (sIf (pTru (pOp qIxT (pVar 7) (pC (.int 1)))) (sAsg (pIf (pTru (pVar 2)) (pCall w__law_of [] (cpBag 0 (cpCons (pFrz (pLst (pCons (pC (.int 1)) (pCons (pC (.int 0)) (pCons (pC (.int 1)) pNil))))) cpNil))) (pCall w__law_of [] (cpBag 0 (cpCons (pFrz (pLst (pCons (pC (.int 1)) (pCons (pC (.int 0)) (pCons (pC (.int 2)) (pCons (pC (.int 1)) (pCons (pC (.int 3)) pNil))))))) cpNil)))) (gpName 13)) sNext)
  (sSeq (sFor (pRng1 (pVar 13)) (gpName 14) b1__law_foe_tree)
  (sFreeze 11 (sFor (pItL (pVar 11)) (gpName 15) b2__law_foe_tree))))))))))
def s_v__law_foe_tree : WS := (sSeq (sAsgO (pLst pNil) 4)
  (sSeq (sAsgO (pLst (pCons (pC (.int 0)) pNil)) 5)
  (sSeq (sFor (pRng2 (pC (.int 1)) (pOp qPlus (p1 qLenS (pVar 1)) (pC (.int 1)))) (gpName 6) b3__law_foe_tree)
  (sRetV 4))))
def w__law_foe_tree : WD := bodyW N__law_foe_tree.length s_v__law_foe_tree
abbrev sp__law_foe_tree (K : PySem.W.Frag) : Sp := SpP K (Tb K) 4 w__law_foe_tree
def r__law_foe_tree (K : PySem.W.Frag) (E : XK) : TS := (tSeq (tAsg (tLst tNil) (gName 4))
  (tSeq (tAsg (tLst (tCons (tC (.int 0)) tNil)) (gName 5))
  (tSeq (tFor (iRng2 (tCons (tC (.int 1)) (tCons (tOp rPlus (tCB bLenS (tCons (tVar 1) tNil)) (tC (.int 1))) tNil))) (gName 6)
   (tSeq (tAsg (tCall (sp__law_hands K) [] E (tCons (tOp rItemS (tVar 1) (tOp rMinus (tVar 6) (tC (.int 1)))) tNil)) (gName 7))
  (tSeq (tAsg (tCall (sp__law_known K) [] E (tCons (tVar 4) (tCons (tVar 5) (tCons (tVar 3) (tCons (tOp rMinus (tVar 6) (tC (.int 1))) tNil))))) (gName 8))
  (tSeq (tAsg (tLc (iRng1 (tCons (tCB (bLen K) (tCons (tVar 5) tNil)) tNil)) (gName 10) (tTest (tOp rGe0 (tOp (rIxL K) (tVar 5) (tVar 10)) (tVar 8))) (tVar 10) [10]) (gName 9))
  (tSeq (tAsg (tLst tNil) (gName 11))
  (tSeq (tFor (iRng1 (tCons (tOp (rIxT K) (tVar 7) (tC (.int 0))) tNil)) (gName 12)
   (tDrop (tBM K "list" rAppend (tVar 11) (tCons (tTup (tCons (tVar 6) (tCons (tC (.bl true)) (tCons (tCall (sp__law_of K) [] E (tCons (tVar 0) (tCons (tVar 9) tNil))) tNil)))) tNil))))
  (tSeq (tAsg (tC (.int 0)) (gName 13))
  (tSeq (tIfS (tTru K (tOp (rIxT K) (tVar 7) (tC (.int 1)))) (tAsg (tIf (tTru K (tVar 2)) (tCall (sp__law_of K) [] E (tCons (tVar 0) (tCons (tLst (tCons (tC (.int 1)) (tCons (tC (.int 0)) (tCons (tC (.int 1)) tNil)))) tNil))) (tCall (sp__law_of K) [] E (tCons (tVar 0) (tCons (tLst (tCons (tC (.int 1)) (tCons (tC (.int 0)) (tCons (tC (.int 2)) (tCons (tC (.int 1)) (tCons (tC (.int 3)) tNil)))))) tNil)))) (gName 13)) tNext)
  (tSeq (tFor (iRng1 (tCons (tVar 13) tNil)) (gName 14)
   (tDrop (tBM K "list" rAppend (tVar 11) (tCons (tTup (tCons (tVar 6) (tCons (tC (.bl false)) (tCons (tCall (sp__law_near K) [] E (tCons (tVar 0) (tCons (tVar 5) tNil))) tNil)))) tNil))))
  (tFor (iList K (tVar 11)) (gName 15)
   (tSeq (tDrop (tBM K "list" rAppend (tVar 4) (tCons (tVar 15) tNil)))
  (tDrop (tBM K "list" rAppend (tVar 5) (tCons (tOp rPlus (tOp (rIxL K) (tVar 5) (tOp (rIxT K) (tVar 15) (tC (.int 2)))) (tC (.int 1))) tNil))))))))))))))
  (tRet (tVar 4)))))
theorem v__law_foe_tree {K : PySem.W.Frag} {E : XK} (kt : KT K) (ka : KAt K attrs) (tx : TX K) : EvS K (Tb K) E (r__law_foe_tree K E) s_v__law_foe_tree := (seq_ok (es_asgO (eo_lst ea_nil))
  (seq_ok (es_asgO (eo_lst (ea_cons ev_int ea_nil)))
  (seq_ok (es_for (ei_rng2 ev_int (ev_op v_Plus (EvE.b (ev_lenS ev_var)) (EvE.b ev_int))) eg_name (seq_ok (es_asg (ev_call (fun _ _ => .nil) rfl (ec_cons (ev_op v_ItemS (EvE.b ev_var) (EvE.b (ev_op v_Minus (EvE.b ev_var) (EvE.b ev_int)))) ec_nil)) eg_name)
  (seq_ok (es_asg (ev_loose (ev_loose (ev_call (fun _ _ => .nil) rfl (ec_cons ev_var (ec_cons ev_var (ec_cons ev_var (ec_cons (ev_op v_Minus (EvE.b ev_var) (EvE.b ev_int)) ec_nil))))))) eg_name)
  (seq_ok (es_asg (ev_frz (eo_lc (ei_rng1 (ev_len eb_var)) eg_name (et_test (ev_op v_Ge0 (EvE.b (ev_op v_IxL eb_var (EvE.b ev_var))) (EvE.b ev_var))) ev_var)) eg_name)
  (seq_ok (es_asgO (eo_lst ea_nil))
  (seq_ok (es_for (ei_rng1 (ev_op v_IxT (EvE.b ev_var) (EvE.b ev_int))) eg_name (es_app (ev_tup (ea_cons ev_var (ea_cons ev_bl (ea_cons (ev_call (fun _ _ => .nil) rfl (ec_bag (ec_cons ev_var ec_nil))) ea_nil))))))
  (seq_ok (es_asg ev_int eg_name)
  (seq_ok (es_if (et_tru (EvE.b (ev_op v_IxT (EvE.b ev_var) (EvE.b ev_int)))) (es_asg (ev_if (et_tru (EvE.b ev_var)) (ev_call (fun _ _ => .nil) rfl (ec_bag (ec_cons (ev_frz (eo_lst (ea_cons ev_int (ea_cons ev_int (ea_cons ev_int ea_nil))))) ec_nil))) (ev_call (fun _ _ => .nil) rfl (ec_bag (ec_cons (ev_frz (eo_lst (ea_cons ev_int (ea_cons ev_int (ea_cons ev_int (ea_cons ev_int (ea_cons ev_int ea_nil))))))) ec_nil)))) eg_name) es_next)
  (seq_ok (es_for (ei_rng1 ev_var) eg_name (es_app (ev_tup (ea_cons ev_var (ea_cons ev_bl (ea_cons (ev_loose (ev_call (fun _ _ => .nil) rfl (ec_bag (ec_cons ev_var ec_nil)))) ea_nil))))))
  (es_freeze (es_for (ei_list ev_var) eg_name (seq_ok (es_app ev_var)
  (es_app (ev_op v_Plus (EvE.b (ev_op v_IxL eb_var (EvE.b (ev_op v_IxT (EvE.b ev_var) (EvE.b ev_int))))) (EvE.b ev_int)))))))))))))))
  es_retV)))
/-! _law_ofS -/
def s_v__law_ofS : WS := (sRet (pOp qItemS (pVar 1) (pCall w__law_draw [] (cpBag 0 (cpCons (p1 qLenS (pVar 1)) cpNil)))))
def w__law_ofS : WD := bodyW N__law_ofS.length s_v__law_ofS
abbrev sp__law_ofS (K : PySem.W.Frag) : Sp := SpP K (Tb K) 2 w__law_ofS
def r__law_ofS (K : PySem.W.Frag) (E : XK) : TS := (tRet (tOp rItemS (tVar 1) (tCall (sp__law_draw K) [] E (tCons (tVar 0) (tCons (tCB bLenS (tCons (tVar 1) tNil)) tNil)))))
theorem v__law_ofS {K : PySem.W.Frag} {E : XK} (kt : KT K) (ka : KAt K attrs) (tx : TX K) : EvS K (Tb K) E (r__law_ofS K E) s_v__law_ofS := (es_ret (ev_op v_ItemS (EvE.b ev_var) (EvE.b (ev_call (fun _ _ => .nil) rfl (ec_bag (ec_cons (ev_lenS ev_var) ec_nil))))))
/-! _law_letters -/
def s_v__law_letters : WS := (sSeq (sAsg (pCall w__law_of [] (cpBag 0 (cpCons (pFrz (pLst (pCons (pC (.str ".hHabB")) (pCons (pC (.str "hhhHa")) (pCons (pC (.str "hhab")) (pCons (pC (.str "aahbH")) (pCons (pC (.str "..hhHa")) (pCons (pC (.str "hHHa")) (pCons (pC (.str "h.h.a.bB")) (pCons (pC (.str "hBbH")) (pCons (pC (.str "H.Hb")) (pCons (pC (.str "abB")) pNil)))))))))))) cpNil))) (gpName 2))
  (sRet (pJoin (pC (.str "")) (pFrz (pLc (pRng1 (pCall w__law_draw [] (cpBag 0 (cpCons (pOp qPlus (pVar 1) (pC (.int 1))) cpNil)))) (gpName 3) pYes (pCall0 w__law_ofS [] (cpBag 0 (cpCons (pVar 2) cpNil))) [3])))))
def w__law_letters : WD := bodyW N__law_letters.length s_v__law_letters
abbrev sp__law_letters (K : PySem.W.Frag) : Sp := SpP K (Tb K) 2 w__law_letters
def r__law_letters (K : PySem.W.Frag) (E : XK) : TS := (tSeq (tAsg (tCall (sp__law_of K) [] E (tCons (tVar 0) (tCons (tLst (tCons (tC (.str ".hHabB")) (tCons (tC (.str "hhhHa")) (tCons (tC (.str "hhab")) (tCons (tC (.str "aahbH")) (tCons (tC (.str "..hhHa")) (tCons (tC (.str "hHHa")) (tCons (tC (.str "h.h.a.bB")) (tCons (tC (.str "hBbH")) (tCons (tC (.str "H.Hb")) (tCons (tC (.str "abB")) tNil))))))))))) tNil))) (gName 2))
  (tRet (tBM K "str" (mJoin K) (tC (.str "")) (tCons (tLc (iRng1 (tCons (tCall (sp__law_draw K) [] E (tCons (tVar 0) (tCons (tOp rPlus (tVar 1) (tC (.int 1))) tNil))) tNil)) (gName 3) tYes (tCall (sp__law_ofS K) [] E0 (tCons (tVar 0) (tCons (tVar 2) tNil))) [3]) tNil))))
theorem v__law_letters {K : PySem.W.Frag} {E : XK} (kt : KT K) (ka : KAt K attrs) (tx : TX K) : EvS K (Tb K) E (r__law_letters K E) s_v__law_letters := (seq_ok (es_asg (ev_call (fun _ _ => .nil) rfl (ec_bag (ec_cons (ev_frz (eo_lst (ea_cons ev_str (ea_cons ev_str (ea_cons ev_str (ea_cons ev_str (ea_cons ev_str (ea_cons ev_str (ea_cons ev_str (ea_cons ev_str (ea_cons ev_str (ea_cons ev_str ea_nil)))))))))))) ec_nil))) eg_name)
  (es_ret (ev_join ev_str (EvE.b (ev_frz (eo_lc (ei_rng1 (ev_call (fun _ _ => .nil) rfl (ec_bag (ec_cons (ev_op v_Plus (EvE.b ev_var) (EvE.b ev_int)) ec_nil)))) eg_name et_yes (ev_call0 (fun _ _ => .nil) rfl (ec_bag (ec_cons ev_var ec_nil)))))))))
/-! _law_any -/
def s_v__law_any : WS := (sSeq (sIf (pTest (pOp qEq (pCall w__law_draw [] (cpBag 0 (cpCons (pC (.int 3)) cpNil))) (pC (.int 1)))) (sRet (pCall w__law_wild [] (cpBag 0 (cpCons (pVar 1) cpNil)))) sNext)
  (sSeq (sAsg (pOp qEq (pCall w__law_draw [] (cpBag 0 (cpCons (pC (.int 2)) cpNil))) (pC (.int 1))) (gpName 2))
  (sSeq (sAsg (pCall w__law_late [] (cpBag 0 cpNil)) (gpName 3))
  (sRet (pCall w__law_turned [] (cpBag 0 (cpCons (pCall w__law_foe_tree [] (cpBag 0 (cpCons (pCall w__law_letters [] (cpBag 0 (cpCons (pVar 1) cpNil))) (cpCons (pVar 2) (cpCons (pVar 3) cpNil))))) cpNil)))))))
def w__law_any : WD := bodyW N__law_any.length s_v__law_any
abbrev sp__law_any (K : PySem.W.Frag) : Sp := SpP K (Tb K) 2 w__law_any
def r__law_any (K : PySem.W.Frag) (E : XK) : TS := (tSeq (tIfS (tTest (tOp rEq (tCall (sp__law_draw K) [] E (tCons (tVar 0) (tCons (tC (.int 3)) tNil))) (tC (.int 1)))) (tRet (tCall (sp__law_wild K) [] E (tCons (tVar 0) (tCons (tVar 1) tNil)))) tNext)
  (tSeq (tAsg (tOp rEq (tCall (sp__law_draw K) [] E (tCons (tVar 0) (tCons (tC (.int 2)) tNil))) (tC (.int 1))) (gName 2))
  (tSeq (tAsg (tCall (sp__law_late K) [] E (tCons (tVar 0) tNil)) (gName 3))
  (tRet (tCall (sp__law_turned K) [] E (tCons (tVar 0) (tCons (tCall (sp__law_foe_tree K) [] E (tCons (tVar 0) (tCons (tCall (sp__law_letters K) [] E (tCons (tVar 0) (tCons (tVar 1) tNil))) (tCons (tVar 2) (tCons (tVar 3) tNil))))) tNil)))))))
theorem v__law_any {K : PySem.W.Frag} {E : XK} (kt : KT K) (ka : KAt K attrs) (tx : TX K) : EvS K (Tb K) E (r__law_any K E) s_v__law_any := (seq_ok (es_if (et_test (ev_op v_Eq (EvE.b (ev_call (fun _ _ => .nil) rfl (ec_bag (ec_cons ev_int ec_nil)))) (EvE.b ev_int))) (es_ret (ev_call (fun _ _ => .nil) rfl (ec_bag (ec_cons ev_var ec_nil)))) es_next)
  (seq_ok (es_asg (ev_op v_Eq (EvE.b (ev_call (fun _ _ => .nil) rfl (ec_bag (ec_cons ev_int ec_nil)))) (EvE.b ev_int)) eg_name)
  (seq_ok (es_asg (ev_call (fun _ _ => .nil) rfl (ec_bag ec_nil)) eg_name)
  (es_ret (ev_call (fun _ _ => .nil) rfl (ec_bag (ec_cons (ev_call (fun _ _ => .nil) rfl (ec_bag (ec_cons (ev_call (fun _ _ => .nil) rfl (ec_bag (ec_cons ev_var ec_nil))) (ec_cons ev_var (ec_cons ev_var ec_nil))))) ec_nil)))))))
/-! _law_rows -/
def b0__law_rows : WS := (sApp 1 (pFrz (pCat (pOp qIxL (pVarB 1) (pOp qIxT (pOp qIxL (pVar 0) (pVar 2)) (pC (.int 2)))) (pFrz (pLst (pCons (pOp qPlus (pVar 2) (pC (.int 1))) pNil))))))
def s_v__law_rows : WS := (sSeq (sAsgO (pLst (pCons (pFrz (pLst pNil)) pNil)) 1)
  (sSeq (sFor (pRng1 (pLen (pVar 0))) (gpName 2) b0__law_rows)
  (sRetV 1)))
def w__law_rows : WD := bodyW N__law_rows.length s_v__law_rows
abbrev sp__law_rows (K : PySem.W.Frag) : Sp := SpP K (Tb K) 1 w__law_rows
def r__law_rows (K : PySem.W.Frag) (E : XK) : TS := (tSeq (tAsg (tLst (tCons (tLst tNil) tNil)) (gName 1))
  (tSeq (tFor (iRng1 (tCons (tCB (bLen K) (tCons (tVar 0) tNil)) tNil)) (gName 2)
   (tDrop (tBM K "list" rAppend (tVar 1) (tCons (tOp rCat (tOp (rIxL K) (tVar 1) (tOp (rIxT K) (tOp (rIxL K) (tVar 0) (tVar 2)) (tC (.int 2)))) (tLst (tCons (tOp rPlus (tVar 2) (tC (.int 1))) tNil))) tNil))))
  (tRet (tVar 1))))
theorem v__law_rows {K : PySem.W.Frag} {E : XK} (kt : KT K) (ka : KAt K attrs) (tx : TX K) : EvS K (Tb K) E (r__law_rows K E) s_v__law_rows := (seq_ok (es_asgO (eo_lst (ea_cons (ev_frz (eo_lst ea_nil)) ea_nil)))
  (seq_ok (es_for (ei_rng1 (ev_len (EvE.b ev_var))) eg_name (es_app (ev_frz (eo_cat (EvE.b (ev_op v_IxL eb_var (EvE.b (ev_op v_IxT (EvE.b (ev_op v_IxL (EvE.b ev_var) (EvE.b ev_var))) (EvE.b ev_int))))) (EvE.b (ev_frz (eo_lst (ea_cons (ev_op v_Plus (EvE.b ev_var) (EvE.b ev_int)) ea_nil))))))))
  es_retV))
/-! can_stand -/
def s_v_can_stand : WS := (sSeq (sAsg (pVar 0) (gpTup 3 (gpCons (gpName 2) (gpCons (gpName 3) (gpCons (gpName 4) gpNil)))))
  (sRet (pAndV (pChain qLe0 qLe0 (pC (.int 1)) (pVar 2) (pC (.int 40))) (pChain qLe0 qLt0 (pC (.int 0)) (pVar 4) (pVar 1)))))
def w_can_stand : WD := bodyW N_can_stand.length s_v_can_stand
abbrev sp_can_stand (K : PySem.W.Frag) : Sp := SpP K (Tb K) 2 w_can_stand
def r_can_stand (K : PySem.W.Frag) (E : XK) : TS := (tSeq (tAsg (tVar 0) (gTup K 3 (gCons (gName 2) (gCons (gName 3) (gCons (gName 4) gNil)))))
  (tRet (tAndV (tChain rLe0 rLe0 (tC (.int 1)) (tVar 2) (tC (.int 40))) (tChain rLe0 rLt0 (tC (.int 0)) (tVar 4) (tVar 1)))))
theorem v_can_stand {K : PySem.W.Frag} {E : XK} (kt : KT K) (ka : KAt K attrs) (tx : TX K) : EvS K (Tb K) E (r_can_stand K E) s_v_can_stand := (seq_ok (es_asg ev_var (eg_tup (eg_cons eg_name (eg_cons eg_name (eg_cons eg_name eg_nil)))))
  (es_ret (ev_andV (ev_chain v_Le0 v_Le0 ev_int ev_var ev_int) (ev_chain v_Le0 v_Lt0 ev_int ev_var ev_var))))
/-! line_of_wrong_triple -/
def b0_line_of_wrong_triple : WS := (sIf (pNot (pTest (pCall w_can_stand [] (cpCons (pVar 2) (cpCons (pOp qPlus (pVar 1) (pC (.int 1))) cpNil))))) (sRet (pOp qPlus (pVar 1) (pC (.int 2)))) sNext)
def s_v_line_of_wrong_triple : WS := (sSeq (sFor (pEnum (pVar 0)) (gpTup 2 (gpCons (gpName 1) (gpCons (gpName 2) gpNil))) b0_line_of_wrong_triple)
  (sRet (pC .non)))
def w_line_of_wrong_triple : WD := bodyW N_line_of_wrong_triple.length s_v_line_of_wrong_triple
abbrev sp_line_of_wrong_triple (K : PySem.W.Frag) : Sp := SpP K (Tb K) 1 w_line_of_wrong_triple
def r_line_of_wrong_triple (K : PySem.W.Frag) (E : XK) : TS := (tSeq (tFor (iEnum K (tCons (tVar 0) tNil)) (gTup K 2 (gCons (gName 1) (gCons (gName 2) gNil)))
   (tIfS (tNot (tB (tCall (sp_can_stand K) [] E (tCons (tVar 2) (tCons (tOp rPlus (tVar 1) (tC (.int 1))) tNil))))) (tRet (tOp rPlus (tVar 1) (tC (.int 2)))) tNext))
  (tRet (tC .non)))
theorem v_line_of_wrong_triple {K : PySem.W.Frag} {E : XK} (kt : KT K) (ka : KAt K attrs) (tx : TX K) : EvS K (Tb K) E (r_line_of_wrong_triple K E) s_v_line_of_wrong_triple := (seq_ok (es_for (ei_enum ev_var) (eg_tup (eg_cons eg_name (eg_cons eg_name eg_nil))) (es_if (et_not (et_b (ev_call (fun _ _ => .nil) rfl (ec_cons ev_var (ec_cons (ev_op v_Plus (EvE.b ev_var) (EvE.b ev_int)) ec_nil))))) (es_ret (ev_op v_Plus (EvE.b ev_var) (EvE.b ev_int))) es_next))
  (es_ret ev_non))
/-! check_length -/
def s_v_check_length : WS := (sIf (pTest (pOp qGt0 (p1 qLenS (pVar 0)) (pC (.int 100000)))) sNever sNext)
def w_check_length : WD := bodyW N_check_length.length s_v_check_length
abbrev sp_check_length (K : PySem.W.Frag) : Sp := SpP K (Tb K) 1 w_check_length
def r_check_length (K : PySem.W.Frag) (E : XK) : TS := (tIfS (tTest (tOp rGt0 (tCB bLenS (tCons (tVar 0) tNil)) (tC (.int 100000)))) tNever tNext)
theorem v_check_length {K : PySem.W.Frag} {E : XK} (kt : KT K) (ka : KAt K attrs) (tx : TX K) : EvS K (Tb K) E (r_check_length K E) s_v_check_length := (es_if (et_test (ev_op v_Gt0 (EvE.b (ev_lenS ev_var)) (EvE.b ev_int))) es_never es_next)
/-! lines_of -/
def s_v_lines_of : WS := (sSeq (sAsg (pFrz (pSplit (pVar 0) (pC (.str "\n")))) (gpName 1))
  (sRet (pTup (pCons (pFrz (pSlL (pVar 1) pNoPart (pPart (pNeg (pC (.int 1)))))) (pCons (pOp qIxL (pVar 1) (pNeg (pC (.int 1)))) pNil)))))
def w_lines_of : WD := bodyW N_lines_of.length s_v_lines_of
abbrev sp_lines_of (K : PySem.W.Frag) : Sp := SpP K (Tb K) 1 w_lines_of
def r_lines_of (K : PySem.W.Frag) (E : XK) : TS := (tSeq (tAsg (tBM K "str" mSplit (tVar 0) (tCons (tC (.str "\n")) tNil)) (gName 1))
  (tRet (tTup (tCons (tSl (rSlL K) (tVar 1) tNoPart (tPart (tUn uNeg (tC (.int 1))))) (tCons (tOp (rIxL K) (tVar 1) (tUn uNeg (tC (.int 1)))) tNil)))))
theorem v_lines_of {K : PySem.W.Frag} {E : XK} (kt : KT K) (ka : KAt K attrs) (tx : TX K) : EvS K (Tb K) E (r_lines_of K E) s_v_lines_of := (seq_ok (es_asg (ev_frz (eo_split ev_var ev_str)) eg_name)
  (es_ret (ev_tup (ea_cons (ev_frz (eo_slL (EvE.b ev_var) ep_no (ep_part (ev_neg ev_int)))) (ea_cons (ev_op v_IxL (EvE.b ev_var) (EvE.b (ev_neg ev_int))) ea_nil)))))
/-! head_fault -/
def s_v_head_fault : WS := (sSeq (sIf (pTest (pOp qEq (pLen (pVar 0)) (pC (.int 0)))) sNever sNext)
  (sSeq (sIf (pTest (pOp qNe (pOp qIxL (pVar 0) (pC (.int 0))) (pVar 2))) sNever sNext)
  (sRet (pC .non))))
def w_head_fault : WD := bodyW N_head_fault.length s_v_head_fault
abbrev sp_head_fault (K : PySem.W.Frag) : Sp := SpP K (Tb K) 3 w_head_fault
def r_head_fault (K : PySem.W.Frag) (E : XK) : TS := (tSeq (tIfS (tTest (tOp rEq (tCB (bLen K) (tCons (tVar 0) tNil)) (tC (.int 0)))) tNever tNext)
  (tSeq (tIfS (tTest (tOp rNe (tOp (rIxL K) (tVar 0) (tC (.int 0))) (tVar 2))) tNever tNext)
  (tRet (tC .non))))
theorem v_head_fault {K : PySem.W.Frag} {E : XK} (kt : KT K) (ka : KAt K attrs) (tx : TX K) : EvS K (Tb K) E (r_head_fault K E) s_v_head_fault := (seq_ok (es_if (et_test (ev_op v_Eq (EvE.b (ev_len (EvE.b ev_var))) (EvE.b ev_int))) es_never es_next)
  (seq_ok (es_if (et_test (ev_op v_Ne (EvE.b (ev_op v_IxL (EvE.b ev_var) (EvE.b ev_int))) (EvE.b ev_var))) es_never es_next)
  (es_ret ev_non)))
/-! end_fault -/
def s_v_end_fault : WS := (sSeq (sIf (pOr (pTest (pOp qGt0 (pLen (pVar 0)) (pOp qPlus (pVar 2) (pC (.int 1))))) (pTest (pOp qNe (pVar 1) (pC (.str ""))))) sNever sNext)
  (sRet (pC .non)))
def w_end_fault : WD := bodyW N_end_fault.length s_v_end_fault
abbrev sp_end_fault (K : PySem.W.Frag) : Sp := SpP K (Tb K) 3 w_end_fault
def r_end_fault (K : PySem.W.Frag) (E : XK) : TS := (tSeq (tIfS (tOr (tTest (tOp rGt0 (tCB (bLen K) (tCons (tVar 0) tNil)) (tOp rPlus (tVar 2) (tC (.int 1))))) (tTest (tOp rNe (tVar 1) (tC (.str ""))))) tNever tNext)
  (tRet (tC .non)))
theorem v_end_fault {K : PySem.W.Frag} {E : XK} (kt : KT K) (ka : KAt K attrs) (tx : TX K) : EvS K (Tb K) E (r_end_fault K E) s_v_end_fault := (seq_ok (es_if (et_or (et_test (ev_op v_Gt0 (EvE.b (ev_len (EvE.b ev_var))) (EvE.b (ev_op v_Plus (EvE.b ev_var) (EvE.b ev_int))))) (et_test (ev_op v_Ne (EvE.b ev_var) (EvE.b ev_str)))) es_never es_next)
  (es_ret ev_non))
/-! read_tree -/
def b0_read_tree : WS := (sSeq (sIf (pTest (pOp qEq (pOp qIxL (pVar 1) (pVar 5)) (pC (.str "done")))) (sFreeze 4 (sRet (pTup (pCons (pVar 4) (pCons (pCall w_end_fault [] (cpCons (pVar 1) (cpCons (pVar 2) (cpCons (pVar 5) cpNil)))) pNil))))) sNext)
  sNever)
def s_v_read_tree : WS := (sSeq (sAsg (pCall w_lines_of [] (cpCons (pVar 0) cpNil)) (gpTup 2 (gpCons (gpName 1) (gpCons (gpName 2) gpNil))))
  (sSeq (sAsg (pCall w_head_fault [] (cpCons (pVar 1) (cpCons (pVar 2) (cpCons (pC (.str "tree")) cpNil)))) (gpName 3))
  (sSeq (sIf (pTest (pOp qNotN0 (pVar 3) (pC .non))) sNever sNext)
  (sSeq (sAsgO (pLst pNil) 4)
  (sSeq (sFor (pRng2 (pC (.int 1)) (pLen (pVar 1))) (gpName 5) b0_read_tree)
  sNever)))))
def w_read_tree : WD := bodyW N_read_tree.length s_v_read_tree
abbrev sp_read_tree (K : PySem.W.Frag) : Sp := SpP K (Tb K) 1 w_read_tree
def r_read_tree (K : PySem.W.Frag) (E : XK) : TS := (tSeq (tAsg (tCall (sp_lines_of K) [] E (tCons (tVar 0) tNil)) (gTup K 2 (gCons (gName 1) (gCons (gName 2) gNil))))
  (tSeq (tAsg (tCall (sp_head_fault K) [] E (tCons (tVar 1) (tCons (tVar 2) (tCons (tC (.str "tree")) tNil)))) (gName 3))
  (tSeq (tIfS (tTest (tOp rNotN0 (tVar 3) (tC .non))) tNever tNext)
  (tSeq (tAsg (tLst tNil) (gName 4))
  (tSeq (tFor (iRng2 (tCons (tC (.int 1)) (tCons (tCB (bLen K) (tCons (tVar 1) tNil)) tNil))) (gName 5)
   (tSeq (tIfS (tTest (tOp rEq (tOp (rIxL K) (tVar 1) (tVar 5)) (tC (.str "done")))) (tRet (tTup (tCons (tVar 4) (tCons (tCall (sp_end_fault K) [] E (tCons (tVar 1) (tCons (tVar 2) (tCons (tVar 5) tNil)))) tNil)))) tNext)
  tNever))
  tNever)))))
theorem v_read_tree {K : PySem.W.Frag} {E : XK} (kt : KT K) (ka : KAt K attrs) (tx : TX K) : EvS K (Tb K) E (r_read_tree K E) s_v_read_tree := (seq_ok (es_asg (ev_call (fun _ _ => .nil) rfl (ec_cons ev_var ec_nil)) (eg_tup (eg_cons eg_name (eg_cons eg_name eg_nil))))
  (seq_ok (es_asg (ev_call (fun _ _ => .nil) rfl (ec_cons ev_var (ec_cons ev_var (ec_cons ev_str ec_nil)))) eg_name)
  (seq_ok (es_if (et_test (ev_op v_NotN0 (EvE.b ev_var) (EvE.b ev_non))) es_never es_next)
  (seq_ok (es_asgO (eo_lst ea_nil))
  (seq_ok (es_for (ei_rng2 ev_int (ev_len (EvE.b ev_var))) eg_name (seq_ok (es_if (et_test (ev_op v_Eq (EvE.b (ev_op v_IxL (EvE.b ev_var) (EvE.b ev_var))) (EvE.b ev_str))) (es_freeze (es_ret (ev_tup (ea_cons ev_var (ea_cons (ev_call (fun _ _ => .nil) rfl (ec_cons ev_var (ec_cons ev_var (ec_cons ev_var ec_nil)))) ea_nil))))) es_next)
  es_never))
  es_never)))))
/-! depths_of -/
def b0_depths_of : WS := (sApp 1 (pOp qPlus (pOp qIxL (pVarB 1) (pOp qIxT (pVar 2) (pC (.int 2)))) (pC (.int 1))))
def s_v_depths_of : WS := (sSeq (sAsgO (pLst (pCons (pC (.int 0)) pNil)) 1)
  (sSeq (sFor (pItL (pVar 0)) (gpName 2) b0_depths_of)
  (sRetV 1)))
def w_depths_of : WD := bodyW N_depths_of.length s_v_depths_of
abbrev sp_depths_of (K : PySem.W.Frag) : Sp := SpP K (Tb K) 1 w_depths_of
def r_depths_of (K : PySem.W.Frag) (E : XK) : TS := (tSeq (tAsg (tLst (tCons (tC (.int 0)) tNil)) (gName 1))
  (tSeq (tFor (iList K (tVar 0)) (gName 2)
   (tDrop (tBM K "list" rAppend (tVar 1) (tCons (tOp rPlus (tOp (rIxL K) (tVar 1) (tOp (rIxT K) (tVar 2) (tC (.int 2)))) (tC (.int 1))) tNil))))
  (tRet (tVar 1))))
theorem v_depths_of {K : PySem.W.Frag} {E : XK} (kt : KT K) (ka : KAt K attrs) (tx : TX K) : EvS K (Tb K) E (r_depths_of K E) s_v_depths_of := (seq_ok (es_asgO (eo_lst (ea_cons ev_int ea_nil)))
  (seq_ok (es_for (ei_list ev_var) eg_name (es_app (ev_op v_Plus (EvE.b (ev_op v_IxL eb_var (EvE.b (ev_op v_IxT (EvE.b ev_var) (EvE.b ev_int))))) (EvE.b ev_int))))
  es_retV))
/-! Tree.__init__ -/
def s_v_Tree___init__ : WS := (sSeq (sDrop (pCall w_check_length [] (cpCons (pVar 1) cpNil)))
  (sSeq (sAsg (pCall w_read_tree [] (cpCons (pVar 1) cpNil)) (gpTup 2 (gpCons (gpName 2) (gpCons (gpName 3) gpNil))))
  (sSeq (sIf (pTest (pOp qNotN0 (pVar 3) (pC .non))) sNever sNext)
  (sSeq (sIf (pTest (pOp qGt0 (pLen (pVar 2)) (pC (.int 1000)))) sNever sNext)
  (sSeq (sFldW attrs 0 (pVar 2) "_blocks")
  (sSeq (sFldW attrs 0 (pFrz (pCallO w_depths_of [] (cpCons (pVar 2) cpNil))) "_depths")
  (sFldW attrs 0 (pVar 1) "text")))))))
def w_Tree___init__ : WN := bodyN "Tree" N_Tree___init__.length s_v_Tree___init__
abbrev sp_Tree___init__ (K : PySem.W.Frag) : Sp := SpN K (Tb K) "Tree" 1 w_Tree___init__
def r_Tree___init__ (K : PySem.W.Frag) (E : XK) : TS := (tSeq (tDrop (tCall (sp_check_length K) [] E (tCons (tVar 1) tNil)))
  (tSeq (tAsg (tCall (sp_read_tree K) [] E (tCons (tVar 1) tNil)) (gTup K 2 (gCons (gName 2) (gCons (gName 3) gNil))))
  (tSeq (tIfS (tTest (tOp rNotN0 (tVar 3) (tC .non))) tNever tNext)
  (tSeq (tIfS (tTest (tOp rGt0 (tCB (bLen K) (tCons (tVar 2) tNil)) (tC (.int 1000)))) tNever tNext)
  (tSeq (sFld K (tVar 0) (tVar 2) "_blocks")
  (tSeq (sFld K (tVar 0) (tCall (sp_depths_of K) [] E (tCons (tVar 2) tNil)) "_depths")
  (sFld K (tVar 0) (tVar 1) "text")))))))
theorem v_Tree___init__ {K : PySem.W.Frag} {E : XK} (kt : KT K) (ka : KAt K attrs) (tx : TX K) : EvS K (Tb K) E (r_Tree___init__ K E) s_v_Tree___init__ := (seq_ok (es_drop (ev_call (fun _ _ => .nil) rfl (ec_cons ev_var ec_nil)))
  (seq_ok (es_asg (ev_call (fun _ _ => .nil) rfl (ec_cons ev_var ec_nil)) (eg_tup (eg_cons eg_name (eg_cons eg_name eg_nil))))
  (seq_ok (es_if (et_test (ev_op v_NotN0 (EvE.b ev_var) (EvE.b ev_non))) es_never es_next)
  (seq_ok (es_if (et_test (ev_op v_Gt0 (EvE.b (ev_len (EvE.b ev_var))) (EvE.b ev_int))) es_never es_next)
  (seq_ok (es_fld ka ev_var)
  (seq_ok (es_fld ka (ev_frz (eo_call (fun _ _ => .nil) rfl (ec_cons ev_var ec_nil))))
  (es_fld ka ev_var)))))))
/-! word_of_truth -/
def s_v_word_of_truth : WS := (sSeq (sIf (pTru (pVar 0)) (sRet (pC (.str "true"))) sNext)
  (sRet (pC (.str "false"))))
def w_word_of_truth : WD := bodyW N_word_of_truth.length s_v_word_of_truth
abbrev sp_word_of_truth (K : PySem.W.Frag) : Sp := SpP K (Tb K) 1 w_word_of_truth
def r_word_of_truth (K : PySem.W.Frag) (E : XK) : TS := (tSeq (tIfS (tTru K (tVar 0)) (tRet (tC (.str "true"))) tNext)
  (tRet (tC (.str "false"))))
theorem v_word_of_truth {K : PySem.W.Frag} {E : XK} (kt : KT K) (ka : KAt K attrs) (tx : TX K) : EvS K (Tb K) E (r_word_of_truth K E) s_v_word_of_truth := (seq_ok (es_if (et_tru (EvE.b ev_var)) (es_ret ev_str) es_next)
  (es_ret ev_str))
/-! block_line -/
def s_v_block_line : WS := (sSeq (sAsg (pVar 1) (gpTup 3 (gpCons (gpName 2) (gpCons (gpName 3) (gpCons (gpName 4) gpNil)))))
  (sRet (pFS (pJ1 (pC (.str "block ")) (pJ1 (pFmt (pVar 0)) (pJ1 (pC (.str " slot ")) (pJ1 (pFmt (pVar 2)) (pJ1 (pC (.str " ")) (pJ1 (pFmt (pCall w_word_of_truth [] (cpCons (pVar 3) cpNil))) (pJ1 (pC (.str " behind ")) (pJ1 (pFmt (pVar 4)) pJ0)))))))))))
def w_block_line : WD := bodyW N_block_line.length s_v_block_line
abbrev sp_block_line (K : PySem.W.Frag) : Sp := SpP K (Tb K) 2 w_block_line
def r_block_line (K : PySem.W.Frag) (E : XK) : TS := (tSeq (tAsg (tVar 1) (gTup K 3 (gCons (gName 2) (gCons (gName 3) (gCons (gName 4) gNil)))))
  (tRet (tJoin [(tC (.str "block ")), (tFmt (tVar 0)), (tC (.str " slot ")), (tFmt (tVar 2)), (tC (.str " ")), (tFmt (tCall (sp_word_of_truth K) [] E (tCons (tVar 3) tNil))), (tC (.str " behind ")), (tFmt (tVar 4))])))
theorem v_block_line {K : PySem.W.Frag} {E : XK} (kt : KT K) (ka : KAt K attrs) (tx : TX K) : EvS K (Tb K) E (r_block_line K E) s_v_block_line := (seq_ok (es_asg ev_var (eg_tup (eg_cons eg_name (eg_cons eg_name (eg_cons eg_name eg_nil)))))
  (es_ret (ev_fs (ej_cons ev_str (ej_cons (ev_fmt ev_var) (ej_cons ev_str (ej_cons (ev_fmt ev_var) (ej_cons ev_str (ej_cons (ev_fmt (ev_call (fun _ _ => .nil) rfl (ec_cons ev_var ec_nil))) (ej_cons ev_str (ej_cons (ev_fmt ev_var) ej_nil)))))))))))
/-! tree_text -/
def b0_tree_text : WS := (sApp 1 (pCall w_block_line [] (cpCons (pOp qPlus (pVar 2) (pC (.int 1))) (cpCons (pVar 3) cpNil))))
def s_v_tree_text : WS := (sSeq (sAsgO (pLst (pCons (pC (.str "tree")) pNil)) 1)
  (sSeq (sFor (pEnum (pVar 0)) (gpTup 2 (gpCons (gpName 2) (gpCons (gpName 3) gpNil))) b0_tree_text)
  (sSeq (sApp 1 (pC (.str "done")))
  (sRet (pOp qAddS (pJoin (pC (.str "\n")) (pVarB 1)) (pC (.str "\n")))))))
def w_tree_text : WD := bodyW N_tree_text.length s_v_tree_text
abbrev sp_tree_text (K : PySem.W.Frag) : Sp := SpP K (Tb K) 1 w_tree_text
def r_tree_text (K : PySem.W.Frag) (E : XK) : TS := (tSeq (tAsg (tLst (tCons (tC (.str "tree")) tNil)) (gName 1))
  (tSeq (tFor (iEnum K (tCons (tVar 0) tNil)) (gTup K 2 (gCons (gName 2) (gCons (gName 3) gNil)))
   (tDrop (tBM K "list" rAppend (tVar 1) (tCons (tCall (sp_block_line K) [] E (tCons (tOp rPlus (tVar 2) (tC (.int 1))) (tCons (tVar 3) tNil))) tNil))))
  (tSeq (tDrop (tBM K "list" rAppend (tVar 1) (tCons (tC (.str "done")) tNil)))
  (tRet (tOp rAddS (tBM K "str" (mJoin K) (tC (.str "\n")) (tCons (tVar 1) tNil)) (tC (.str "\n")))))))
theorem v_tree_text {K : PySem.W.Frag} {E : XK} (kt : KT K) (ka : KAt K attrs) (tx : TX K) : EvS K (Tb K) E (r_tree_text K E) s_v_tree_text := (seq_ok (es_asgO (eo_lst (ea_cons ev_str ea_nil)))
  (seq_ok (es_for (ei_enum ev_var) (eg_tup (eg_cons eg_name (eg_cons eg_name eg_nil))) (es_app (ev_call (fun _ _ => .nil) rfl (ec_cons (ev_op v_Plus (EvE.b ev_var) (EvE.b ev_int)) (ec_cons ev_var ec_nil)))))
  (seq_ok (es_app ev_str)
  (es_ret (ev_op v_AddS (EvE.b (ev_join ev_str eb_var)) (EvE.b ev_str))))))
/-! tree_from -/
def s_v_tree_from : WS := (sSeq (sAsgN "Tree" w_Tree___init__ (cpCons (pC (.str "tree\ndone\n")) cpNil) 1)
  (sSeq (sFldN attrs 1 (pFrz (pListO (pVar 0))) "_blocks")
  (sSeq (sFldN attrs 1 (pFrz (pCallO w_depths_of [] (cpCons (pVar 0) cpNil))) "_depths")
  (sSeq (sFldN attrs 1 (pCall w_tree_text [] (cpCons (pVar 0) cpNil)) "text")
  (sRetC 1)))))
def w_tree_from : WD := bodyW N_tree_from.length s_v_tree_from
abbrev sp_tree_from (K : PySem.W.Frag) : Sp := SpP K (Tb K) 1 w_tree_from
def r_tree_from (K : PySem.W.Frag) (E : XK) : TS := (tSeq (tAsg (tMake (He.ga K "Tree") (sp_Tree___init__ K) [] E (tCons (tC (.str "tree\ndone\n")) tNil)) (gName 1))
  (tSeq (sFld K (tVar 1) (tCB (bList K) (tCons (tVar 0) tNil)) "_blocks")
  (tSeq (sFld K (tVar 1) (tCall (sp_depths_of K) [] E (tCons (tVar 0) tNil)) "_depths")
  (tSeq (sFld K (tVar 1) (tCall (sp_tree_text K) [] E (tCons (tVar 0) tNil)) "text")
  (tRet (tVar 1))))))
theorem v_tree_from {K : PySem.W.Frag} {E : XK} (kt : KT K) (ka : KAt K attrs) (tx : TX K) : EvS K (Tb K) E (r_tree_from K E) s_v_tree_from := (seq_ok (es_asgN (ec_cons ev_str ec_nil))
  (seq_ok (es_fldN ka (ev_frz (eo_list (EvE.b ev_var))))
  (seq_ok (es_fldN ka (ev_frz (eo_call (fun _ _ => .nil) rfl (ec_cons ev_var ec_nil))))
  (seq_ok (es_fldN ka (ev_call (fun _ _ => .nil) rfl (ec_cons ev_var ec_nil)))
  es_retC))))
/-! Tree.of -/
def s_v_Tree_of : WS := (sSeq (sAsg (pFrz (pLc (pItL (pVar 0)) (gpTup 3 (gpCons (gpName 2) (gpCons (gpName 3) (gpCons (gpName 4) gpNil)))) pYes (pTup (pCons (pVar 2) (pCons (pVar 3) (pCons (pVar 4) pNil)))) [2, 3, 4])) (gpName 1))
  (sSeq (sAsg (pCall w_line_of_wrong_triple [] (cpCons (pVar 1) cpNil)) (gpName 5))
  (sSeq (sIf (pTest (pOp qNotN0 (pVar 5) (pC .non))) sNever sNext)
  (sSeq (sIf (pTest (pOp qGt0 (pLen (pVar 1)) (pC (.int 1000)))) sNever sNext)
  (sRet (pCall w_tree_from [] (cpCons (pVar 1) cpNil)))))))
def w_Tree_of : WD := bodyW N_Tree_of.length s_v_Tree_of
abbrev sp_Tree_of (K : PySem.W.Frag) : Sp := SpP K (Tb K) 1 w_Tree_of
def r_Tree_of (K : PySem.W.Frag) (E : XK) : TS := (tSeq (tAsg (tLc (iList K (tVar 0)) (gTup K 3 (gCons (gName 2) (gCons (gName 3) (gCons (gName 4) gNil)))) tYes (tTup (tCons (tVar 2) (tCons (tVar 3) (tCons (tVar 4) tNil)))) [2, 3, 4]) (gName 1))
  (tSeq (tAsg (tCall (sp_line_of_wrong_triple K) [] E (tCons (tVar 1) tNil)) (gName 5))
  (tSeq (tIfS (tTest (tOp rNotN0 (tVar 5) (tC .non))) tNever tNext)
  (tSeq (tIfS (tTest (tOp rGt0 (tCB (bLen K) (tCons (tVar 1) tNil)) (tC (.int 1000)))) tNever tNext)
  (tRet (tCall (sp_tree_from K) [] E (tCons (tVar 1) tNil)))))))
theorem v_Tree_of {K : PySem.W.Frag} {E : XK} (kt : KT K) (ka : KAt K attrs) (tx : TX K) : EvS K (Tb K) E (r_Tree_of K E) s_v_Tree_of := (seq_ok (es_asg (ev_frz (eo_lc (ei_listB (EvE.b ev_var)) (eg_tup (eg_cons eg_name (eg_cons eg_name (eg_cons eg_name eg_nil)))) et_yes (ev_tup (ea_cons ev_var (ea_cons ev_var (ea_cons ev_var ea_nil)))))) eg_name)
  (seq_ok (es_asg (ev_call (fun _ _ => .nil) rfl (ec_cons ev_var ec_nil)) eg_name)
  (seq_ok (es_if (et_test (ev_op v_NotN0 (EvE.b ev_var) (EvE.b ev_non))) es_never es_next)
  (seq_ok (es_if (et_test (ev_op v_Gt0 (EvE.b (ev_len (EvE.b ev_var))) (EvE.b ev_int))) es_never es_next)
  (es_ret (ev_call (fun _ _ => .nil) rfl (ec_cons ev_var ec_nil)))))))
/-! _law_pairs -/
def b0__law_pairs : WS := (sApp 2 (pTup (pCons (pVar 3) (pCons (pVar 4) pNil))))
def b1__law_pairs : WS := (sFor (pRng1 (pOp qPlus (pVar 3) (pC (.int 1)))) (gpName 4) b0__law_pairs)
def b2__law_pairs : WS := (sApp 2 (pTup (pCons (pCall w__law_draw [] (cpBag 0 (cpCons (pOp qPlus (pVar 1) (pC (.int 1))) cpNil))) (pCons (p2 qMax2 (pC (.int 0)) (pOp qMinus (pVar 1) (pCall w__law_draw [] (cpBag 0 (cpCons (pC (.int 6)) cpNil))))) pNil))))
def s_v__law_pairs : WS := (sSeq (sAsgO (pLst pNil) 2)
  (sSeq (sFor (pRng1 (pOp qPlus (p2 qMin2 (pVar 1) (pC (.int 6))) (pC (.int 1)))) (gpName 3) b1__law_pairs)
  (sSeq (sFor (pRng1 (pC (.int 24))) (gpName 5) b2__law_pairs)
  (sRetV 2))))
def w__law_pairs : WD := bodyW N__law_pairs.length s_v__law_pairs
abbrev sp__law_pairs (K : PySem.W.Frag) : Sp := SpP K (Tb K) 2 w__law_pairs
def r__law_pairs (K : PySem.W.Frag) (E : XK) : TS := (tSeq (tAsg (tLst tNil) (gName 2))
  (tSeq (tFor (iRng1 (tCons (tOp rPlus (tCB bMin2 (tCons (tVar 1) (tCons (tC (.int 6)) tNil))) (tC (.int 1))) tNil)) (gName 3)
   (tFor (iRng1 (tCons (tOp rPlus (tVar 3) (tC (.int 1))) tNil)) (gName 4)
   (tDrop (tBM K "list" rAppend (tVar 2) (tCons (tTup (tCons (tVar 3) (tCons (tVar 4) tNil))) tNil)))))
  (tSeq (tFor (iRng1 (tCons (tC (.int 24)) tNil)) (gName 5)
   (tDrop (tBM K "list" rAppend (tVar 2) (tCons (tTup (tCons (tCall (sp__law_draw K) [] E (tCons (tVar 0) (tCons (tOp rPlus (tVar 1) (tC (.int 1))) tNil))) (tCons (tCB bMax2 (tCons (tC (.int 0)) (tCons (tOp rMinus (tVar 1) (tCall (sp__law_draw K) [] E (tCons (tVar 0) (tCons (tC (.int 6)) tNil)))) tNil))) tNil))) tNil))))
  (tRet (tVar 2)))))
theorem v__law_pairs {K : PySem.W.Frag} {E : XK} (kt : KT K) (ka : KAt K attrs) (tx : TX K) : EvS K (Tb K) E (r__law_pairs K E) s_v__law_pairs := (seq_ok (es_asgO (eo_lst ea_nil))
  (seq_ok (es_for (ei_rng1 (ev_op v_Plus (EvE.b (ev_min2 ev_var ev_int)) (EvE.b ev_int))) eg_name (es_for (ei_rng1 (ev_op v_Plus (EvE.b ev_var) (EvE.b ev_int))) eg_name (es_app (ev_tup (ea_cons ev_var (ea_cons ev_var ea_nil))))))
  (seq_ok (es_for (ei_rng1 ev_int) eg_name (es_app (ev_tup (ea_cons (ev_call (fun _ _ => .nil) rfl (ec_bag (ec_cons (ev_op v_Plus (EvE.b ev_var) (EvE.b ev_int)) ec_nil))) (ea_cons (ev_max2 ev_int (ev_op v_Minus (EvE.b ev_var) (EvE.b (ev_call (fun _ _ => .nil) rfl (ec_bag (ec_cons ev_int ec_nil)))))) ea_nil)))))
  es_retV)))
/-! _law_due -/
def s_v__law_due : WS := (sSeq (sIf (pTest (pOp qLt0 (pVar 4) (pC (.int 1)))) (sRetO (pLst (pCons (pC (.str "OutOf")) (pCons (pC (.str "slot")) pNil)))) sNext)
  (sSeq (sIf (pOr (pNot (pTest (pChain qLe0 qLe0 (pC (.int 0)) (pVar 2) (pLen (pVar 0))))) (pNot (pTest (pChain qLe0 qLe0 (pC (.int 0)) (pVar 3) (pLen (pVar 0)))))) (sRetO (pLst (pCons (pC (.str "OutOf")) (pCons (pC (.str "block")) pNil)))) sNext)
  (sSeq (sAsg (pFrz (pLc (pItL (pOp qIxL (pVar 1) (pVar 2))) (gpName 6) (pAnd (pTest (pOp (qInG false) (pVar 6) (pOp qIxL (pVar 1) (pVar 3)))) (pTest (pOp qGe0 (pOp qIxT (pOp qIxL (pVar 0) (pOp qMinus (pVar 6) (pC (.int 1)))) (pC (.int 0))) (pVar 4)))) (pVar 6) [6])) (gpName 5))
  (sRetO (pLst (pCons (pC (.str "told")) (pCons (pIf (pTru (pVar 5)) (pOp qIxL (pVar 5) (pC (.int 0))) (pC .non)) pNil)))))))
def w__law_due : WD := bodyW N__law_due.length s_v__law_due
abbrev sp__law_due (K : PySem.W.Frag) : Sp := SpP K (Tb K) 5 w__law_due
def r__law_due (K : PySem.W.Frag) (E : XK) : TS := (tSeq (tIfS (tTest (tOp rLt0 (tVar 4) (tC (.int 1)))) (tRet (tLst (tCons (tC (.str "OutOf")) (tCons (tC (.str "slot")) tNil)))) tNext)
  (tSeq (tIfS (tOr (tNot (tTest (tChain rLe0 rLe0 (tC (.int 0)) (tVar 2) (tCB (bLen K) (tCons (tVar 0) tNil))))) (tNot (tTest (tChain rLe0 rLe0 (tC (.int 0)) (tVar 3) (tCB (bLen K) (tCons (tVar 0) tNil)))))) (tRet (tLst (tCons (tC (.str "OutOf")) (tCons (tC (.str "block")) tNil)))) tNext)
  (tSeq (tAsg (tLc (iList K (tOp (rIxL K) (tVar 1) (tVar 2))) (gName 6) (tAnd (tTest (tOp (rIn K false) (tVar 6) (tOp (rIxL K) (tVar 1) (tVar 3)))) (tTest (tOp rGe0 (tOp (rIxT K) (tOp (rIxL K) (tVar 0) (tOp rMinus (tVar 6) (tC (.int 1)))) (tC (.int 0))) (tVar 4)))) (tVar 6) [6]) (gName 5))
  (tRet (tLst (tCons (tC (.str "told")) (tCons (tIf (tTru K (tVar 5)) (tOp (rIxL K) (tVar 5) (tC (.int 0))) (tC .non)) tNil)))))))
theorem v__law_due {K : PySem.W.Frag} {E : XK} (kt : KT K) (ka : KAt K attrs) (tx : TX K) : EvS K (Tb K) E (r__law_due K E) s_v__law_due := (seq_ok (es_if (et_test (ev_op v_Lt0 (EvE.b ev_var) (EvE.b ev_int))) (es_retO (eo_lst (ea_cons ev_str (ea_cons ev_str ea_nil)))) es_next)
  (seq_ok (es_if (et_or (et_not (et_test (ev_chain v_Le0 v_Le0 ev_int ev_var (ev_len (EvE.b ev_var))))) (et_not (et_test (ev_chain v_Le0 v_Le0 ev_int ev_var (ev_len (EvE.b ev_var)))))) (es_retO (eo_lst (ea_cons ev_str (ea_cons ev_str ea_nil)))) es_next)
  (seq_ok (es_asg (ev_frz (eo_lc (ei_listB (EvE.b (ev_op v_IxL (EvE.b ev_var) (EvE.b ev_var)))) eg_name (et_and (et_test (ev_op v_InG (EvE.b ev_var) (EvE.b (ev_op v_IxL (EvE.b ev_var) (EvE.b ev_var))))) (et_test (ev_op v_Ge0 (EvE.b (ev_op v_IxT (EvE.b (ev_op v_IxL (EvE.b ev_var) (EvE.b (ev_op v_Minus (EvE.b ev_var) (EvE.b ev_int))))) (EvE.b ev_int))) (EvE.b ev_var)))) ev_var)) eg_name)
  (es_retO (eo_lst (ea_cons ev_str (ea_cons (ev_if (et_tru (EvE.b ev_var)) (ev_op v_IxL (EvE.b ev_var) (EvE.b ev_int)) ev_non) ea_nil)))))))
/-! _law_like0 -/
def b0__law_like0 : WS := (sIf (pNot (pTest (pCall w__law_likeZ [] (cpCons (pOp qIx (pVar 0) (pVar 2)) (cpCons (pOp qIx (pVar 1) (pVar 2)) cpNil))))) (sRet (pC (.bl false))) sNext)
def s_v__law_like0 : WS := (sSeq (sIf (pTest (pIsi "bool" (pVar 1))) (sRet (pAndV (pIsi "bool" (pVar 0)) (pOp qEq (pVar 0) (pVar 1)))) sNext)
  (sSeq (sIf (pTest (pIsi "int" (pVar 1))) (sRet (pAndV (pIsi "int" (pVar 0)) (pAndV (pNotV (pIsi "bool" (pVar 0))) (pOp qEq (pVar 0) (pVar 1))))) sNext)
  (sSeq (sIf (pTest (pIsi "str" (pVar 1))) (sRet (pAndV (pIsi "str" (pVar 0)) (pOp qEq (pVar 0) (pVar 1)))) sNext)
  (sSeq (sIf (pOr (pTest (pIsi "list" (pVar 1))) (pTest (pIsi "tuple" (pVar 1)))) (sSeq (sIf (pOr (pTest (pOp qNe (pIsi "list" (pVar 0)) (pIsi "list" (pVar 1)))) (pTest (pOp qNe (pIsi "tuple" (pVar 0)) (pIsi "tuple" (pVar 1))))) (sRet (pC (.bl false))) sNext)
  (sSeq (sIf (pTest (pOp qNe (pLen (pVar 0)) (pLen (pVar 1)))) (sRet (pC (.bl false))) sNext)
  (sSeq (sFor (pRng1 (pLen (pVar 1))) (gpName 2) b0__law_like0)
  (sRet (pC (.bl true)))))) sNext)
  (sRet (pAndV (pOp qIsN0 (pVar 1) (pC .non)) (pOp qIsN0 (pVar 0) (pC .non))))))))
def w__law_like0 : WD := bodyW N__law_like0.length s_v__law_like0
abbrev sp__law_like0 (K : PySem.W.Frag) : Sp := SpP K (Tb K) 2 w__law_like0
def r__law_like0 (K : PySem.W.Frag) (E : XK) : TS := (tSeq (tIfS (tB (tCB (rIsi K) (tCons (tVar 1) (tCons (tC (.ty "bool")) tNil)))) (tRet (tAndV (tCB (rIsi K) (tCons (tVar 0) (tCons (tC (.ty "bool")) tNil))) (tOp rEq (tVar 0) (tVar 1)))) tNext)
  (tSeq (tIfS (tB (tCB (rIsi K) (tCons (tVar 1) (tCons (tC (.ty "int")) tNil)))) (tRet (tAndV (tCB (rIsi K) (tCons (tVar 0) (tCons (tC (.ty "int")) tNil))) (tAndV (tNotV (tCB (rIsi K) (tCons (tVar 0) (tCons (tC (.ty "bool")) tNil)))) (tOp rEq (tVar 0) (tVar 1))))) tNext)
  (tSeq (tIfS (tB (tCB (rIsi K) (tCons (tVar 1) (tCons (tC (.ty "str")) tNil)))) (tRet (tAndV (tCB (rIsi K) (tCons (tVar 0) (tCons (tC (.ty "str")) tNil))) (tOp rEq (tVar 0) (tVar 1)))) tNext)
  (tSeq (tIfS (tOr (tB (tCB (rIsi K) (tCons (tVar 1) (tCons (tC (.ty "list")) tNil)))) (tB (tCB (rIsi K) (tCons (tVar 1) (tCons (tC (.ty "tuple")) tNil))))) (tSeq (tIfS (tOr (tTest (tOp rNe (tCB (rIsi K) (tCons (tVar 0) (tCons (tC (.ty "list")) tNil))) (tCB (rIsi K) (tCons (tVar 1) (tCons (tC (.ty "list")) tNil))))) (tTest (tOp rNe (tCB (rIsi K) (tCons (tVar 0) (tCons (tC (.ty "tuple")) tNil))) (tCB (rIsi K) (tCons (tVar 1) (tCons (tC (.ty "tuple")) tNil)))))) (tRet (tC (.bl false))) tNext)
  (tSeq (tIfS (tTest (tOp rNe (tCB (bLen K) (tCons (tVar 0) tNil)) (tCB (bLen K) (tCons (tVar 1) tNil)))) (tRet (tC (.bl false))) tNext)
  (tSeq (tFor (iRng1 (tCons (tCB (bLen K) (tCons (tVar 1) tNil)) tNil)) (gName 2)
   (tIfS (tNot (tB (tCall (sp__law_likeZ K) [] E (tCons (tOp (rIx K) (tVar 0) (tVar 2)) (tCons (tOp (rIx K) (tVar 1) (tVar 2)) tNil))))) (tRet (tC (.bl false))) tNext))
  (tRet (tC (.bl true)))))) tNext)
  (tRet (tAndV (tOp rIsN0 (tVar 1) (tC .non)) (tOp rIsN0 (tVar 0) (tC .non))))))))
theorem v__law_like0 {K : PySem.W.Frag} {E : XK} (kt : KT K) (ka : KAt K attrs) (tx : TX K) : EvS K (Tb K) E (r__law_like0 K E) s_v__law_like0 := (seq_ok (es_if (et_b (ev_isi (by decide) (EvE.b ev_var))) (es_ret (ev_andV (ev_isi (by decide) (EvE.b ev_var)) (ev_op v_Eq (EvE.b ev_var) (EvE.b ev_var)))) es_next)
  (seq_ok (es_if (et_b (ev_isi (by decide) (EvE.b ev_var))) (es_ret (ev_andV (ev_isi (by decide) (EvE.b ev_var)) (ev_andV (ev_notV (ev_isi (by decide) (EvE.b ev_var))) (ev_op v_Eq (EvE.b ev_var) (EvE.b ev_var))))) es_next)
  (seq_ok (es_if (et_b (ev_isi (by decide) (EvE.b ev_var))) (es_ret (ev_andV (ev_isi (by decide) (EvE.b ev_var)) (ev_op v_Eq (EvE.b ev_var) (EvE.b ev_var)))) es_next)
  (seq_ok (es_if (et_or (et_b (ev_isi (by decide) (EvE.b ev_var))) (et_b (ev_isi (by decide) (EvE.b ev_var)))) (seq_ok (es_if (et_or (et_test (ev_op v_Ne (EvE.b (ev_isi (by decide) (EvE.b ev_var))) (EvE.b (ev_isi (by decide) (EvE.b ev_var))))) (et_test (ev_op v_Ne (EvE.b (ev_isi (by decide) (EvE.b ev_var))) (EvE.b (ev_isi (by decide) (EvE.b ev_var)))))) (es_ret ev_bl) es_next)
  (seq_ok (es_if (et_test (ev_op v_Ne (EvE.b (ev_len (EvE.b ev_var))) (EvE.b (ev_len (EvE.b ev_var))))) (es_ret ev_bl) es_next)
  (seq_ok (es_for (ei_rng1 (ev_len (EvE.b ev_var))) eg_name (es_if (et_not (et_b (ev_call (fun _ _ => .nil) rfl (ec_cons (ev_op v_Ix (EvE.b ev_var) (EvE.b ev_var)) (ec_cons (ev_op v_Ix (EvE.b ev_var) (EvE.b ev_var)) ec_nil))))) (es_ret ev_bl) es_next))
  (es_ret ev_bl)))) es_next)
  (es_ret (ev_andV (ev_op v_IsN0 (EvE.b ev_var) (EvE.b ev_non)) (ev_op v_IsN0 (EvE.b ev_var) (EvE.b ev_non))))))))
/-! _law_like1 -/
def b0__law_like1 : WS := (sIf (pNot (pTest (pCall w__law_like0 [] (cpCons (pOp qIx (pVar 0) (pVar 2)) (cpCons (pOp qIx (pVar 1) (pVar 2)) cpNil))))) (sRet (pC (.bl false))) sNext)
def s_v__law_like1 : WS := (sSeq (sIf (pTest (pIsi "bool" (pVar 1))) (sRet (pAndV (pIsi "bool" (pVar 0)) (pOp qEq (pVar 0) (pVar 1)))) sNext)
  (sSeq (sIf (pTest (pIsi "int" (pVar 1))) (sRet (pAndV (pIsi "int" (pVar 0)) (pAndV (pNotV (pIsi "bool" (pVar 0))) (pOp qEq (pVar 0) (pVar 1))))) sNext)
  (sSeq (sIf (pTest (pIsi "str" (pVar 1))) (sRet (pAndV (pIsi "str" (pVar 0)) (pOp qEq (pVar 0) (pVar 1)))) sNext)
  (sSeq (sIf (pOr (pTest (pIsi "list" (pVar 1))) (pTest (pIsi "tuple" (pVar 1)))) (sSeq (sIf (pOr (pTest (pOp qNe (pIsi "list" (pVar 0)) (pIsi "list" (pVar 1)))) (pTest (pOp qNe (pIsi "tuple" (pVar 0)) (pIsi "tuple" (pVar 1))))) (sRet (pC (.bl false))) sNext)
  (sSeq (sIf (pTest (pOp qNe (pLen (pVar 0)) (pLen (pVar 1)))) (sRet (pC (.bl false))) sNext)
  (sSeq (sFor (pRng1 (pLen (pVar 1))) (gpName 2) b0__law_like1)
  (sRet (pC (.bl true)))))) sNext)
  (sRet (pAndV (pOp qIsN0 (pVar 1) (pC .non)) (pOp qIsN0 (pVar 0) (pC .non))))))))
def w__law_like1 : WD := bodyW N__law_like1.length s_v__law_like1
abbrev sp__law_like1 (K : PySem.W.Frag) : Sp := SpP K (Tb K) 2 w__law_like1
def r__law_like1 (K : PySem.W.Frag) (E : XK) : TS := (tSeq (tIfS (tB (tCB (rIsi K) (tCons (tVar 1) (tCons (tC (.ty "bool")) tNil)))) (tRet (tAndV (tCB (rIsi K) (tCons (tVar 0) (tCons (tC (.ty "bool")) tNil))) (tOp rEq (tVar 0) (tVar 1)))) tNext)
  (tSeq (tIfS (tB (tCB (rIsi K) (tCons (tVar 1) (tCons (tC (.ty "int")) tNil)))) (tRet (tAndV (tCB (rIsi K) (tCons (tVar 0) (tCons (tC (.ty "int")) tNil))) (tAndV (tNotV (tCB (rIsi K) (tCons (tVar 0) (tCons (tC (.ty "bool")) tNil)))) (tOp rEq (tVar 0) (tVar 1))))) tNext)
  (tSeq (tIfS (tB (tCB (rIsi K) (tCons (tVar 1) (tCons (tC (.ty "str")) tNil)))) (tRet (tAndV (tCB (rIsi K) (tCons (tVar 0) (tCons (tC (.ty "str")) tNil))) (tOp rEq (tVar 0) (tVar 1)))) tNext)
  (tSeq (tIfS (tOr (tB (tCB (rIsi K) (tCons (tVar 1) (tCons (tC (.ty "list")) tNil)))) (tB (tCB (rIsi K) (tCons (tVar 1) (tCons (tC (.ty "tuple")) tNil))))) (tSeq (tIfS (tOr (tTest (tOp rNe (tCB (rIsi K) (tCons (tVar 0) (tCons (tC (.ty "list")) tNil))) (tCB (rIsi K) (tCons (tVar 1) (tCons (tC (.ty "list")) tNil))))) (tTest (tOp rNe (tCB (rIsi K) (tCons (tVar 0) (tCons (tC (.ty "tuple")) tNil))) (tCB (rIsi K) (tCons (tVar 1) (tCons (tC (.ty "tuple")) tNil)))))) (tRet (tC (.bl false))) tNext)
  (tSeq (tIfS (tTest (tOp rNe (tCB (bLen K) (tCons (tVar 0) tNil)) (tCB (bLen K) (tCons (tVar 1) tNil)))) (tRet (tC (.bl false))) tNext)
  (tSeq (tFor (iRng1 (tCons (tCB (bLen K) (tCons (tVar 1) tNil)) tNil)) (gName 2)
   (tIfS (tNot (tB (tCall (sp__law_like0 K) [] E (tCons (tOp (rIx K) (tVar 0) (tVar 2)) (tCons (tOp (rIx K) (tVar 1) (tVar 2)) tNil))))) (tRet (tC (.bl false))) tNext))
  (tRet (tC (.bl true)))))) tNext)
  (tRet (tAndV (tOp rIsN0 (tVar 1) (tC .non)) (tOp rIsN0 (tVar 0) (tC .non))))))))
theorem v__law_like1 {K : PySem.W.Frag} {E : XK} (kt : KT K) (ka : KAt K attrs) (tx : TX K) : EvS K (Tb K) E (r__law_like1 K E) s_v__law_like1 := (seq_ok (es_if (et_b (ev_isi (by decide) (EvE.b ev_var))) (es_ret (ev_andV (ev_isi (by decide) (EvE.b ev_var)) (ev_op v_Eq (EvE.b ev_var) (EvE.b ev_var)))) es_next)
  (seq_ok (es_if (et_b (ev_isi (by decide) (EvE.b ev_var))) (es_ret (ev_andV (ev_isi (by decide) (EvE.b ev_var)) (ev_andV (ev_notV (ev_isi (by decide) (EvE.b ev_var))) (ev_op v_Eq (EvE.b ev_var) (EvE.b ev_var))))) es_next)
  (seq_ok (es_if (et_b (ev_isi (by decide) (EvE.b ev_var))) (es_ret (ev_andV (ev_isi (by decide) (EvE.b ev_var)) (ev_op v_Eq (EvE.b ev_var) (EvE.b ev_var)))) es_next)
  (seq_ok (es_if (et_or (et_b (ev_isi (by decide) (EvE.b ev_var))) (et_b (ev_isi (by decide) (EvE.b ev_var)))) (seq_ok (es_if (et_or (et_test (ev_op v_Ne (EvE.b (ev_isi (by decide) (EvE.b ev_var))) (EvE.b (ev_isi (by decide) (EvE.b ev_var))))) (et_test (ev_op v_Ne (EvE.b (ev_isi (by decide) (EvE.b ev_var))) (EvE.b (ev_isi (by decide) (EvE.b ev_var)))))) (es_ret ev_bl) es_next)
  (seq_ok (es_if (et_test (ev_op v_Ne (EvE.b (ev_len (EvE.b ev_var))) (EvE.b (ev_len (EvE.b ev_var))))) (es_ret ev_bl) es_next)
  (seq_ok (es_for (ei_rng1 (ev_len (EvE.b ev_var))) eg_name (es_if (et_not (et_b (ev_call (fun _ _ => .nil) rfl (ec_cons (ev_op v_Ix (EvE.b ev_var) (EvE.b ev_var)) (ec_cons (ev_op v_Ix (EvE.b ev_var) (EvE.b ev_var)) ec_nil))))) (es_ret ev_bl) es_next))
  (es_ret ev_bl)))) es_next)
  (es_ret (ev_andV (ev_op v_IsN0 (EvE.b ev_var) (EvE.b ev_non)) (ev_op v_IsN0 (EvE.b ev_var) (EvE.b ev_non))))))))
/-! _law_like2 -/
def b0__law_like2 : WS := (sIf (pNot (pTest (pCall w__law_like1 [] (cpCons (pOp qIx (pVar 0) (pVar 2)) (cpCons (pOp qIx (pVar 1) (pVar 2)) cpNil))))) (sRet (pC (.bl false))) sNext)
def s_v__law_like2 : WS := (sSeq (sIf (pTest (pIsi "bool" (pVar 1))) (sRet (pAndV (pIsi "bool" (pVar 0)) (pOp qEq (pVar 0) (pVar 1)))) sNext)
  (sSeq (sIf (pTest (pIsi "int" (pVar 1))) (sRet (pAndV (pIsi "int" (pVar 0)) (pAndV (pNotV (pIsi "bool" (pVar 0))) (pOp qEq (pVar 0) (pVar 1))))) sNext)
  (sSeq (sIf (pTest (pIsi "str" (pVar 1))) (sRet (pAndV (pIsi "str" (pVar 0)) (pOp qEq (pVar 0) (pVar 1)))) sNext)
  (sSeq (sIf (pOr (pTest (pIsi "list" (pVar 1))) (pTest (pIsi "tuple" (pVar 1)))) (sSeq (sIf (pOr (pTest (pOp qNe (pIsi "list" (pVar 0)) (pIsi "list" (pVar 1)))) (pTest (pOp qNe (pIsi "tuple" (pVar 0)) (pIsi "tuple" (pVar 1))))) (sRet (pC (.bl false))) sNext)
  (sSeq (sIf (pTest (pOp qNe (pLen (pVar 0)) (pLen (pVar 1)))) (sRet (pC (.bl false))) sNext)
  (sSeq (sFor (pRng1 (pLen (pVar 1))) (gpName 2) b0__law_like2)
  (sRet (pC (.bl true)))))) sNext)
  (sRet (pAndV (pOp qIsN0 (pVar 1) (pC .non)) (pOp qIsN0 (pVar 0) (pC .non))))))))
def w__law_like2 : WD := bodyW N__law_like2.length s_v__law_like2
abbrev sp__law_like2 (K : PySem.W.Frag) : Sp := SpP K (Tb K) 2 w__law_like2
def r__law_like2 (K : PySem.W.Frag) (E : XK) : TS := (tSeq (tIfS (tB (tCB (rIsi K) (tCons (tVar 1) (tCons (tC (.ty "bool")) tNil)))) (tRet (tAndV (tCB (rIsi K) (tCons (tVar 0) (tCons (tC (.ty "bool")) tNil))) (tOp rEq (tVar 0) (tVar 1)))) tNext)
  (tSeq (tIfS (tB (tCB (rIsi K) (tCons (tVar 1) (tCons (tC (.ty "int")) tNil)))) (tRet (tAndV (tCB (rIsi K) (tCons (tVar 0) (tCons (tC (.ty "int")) tNil))) (tAndV (tNotV (tCB (rIsi K) (tCons (tVar 0) (tCons (tC (.ty "bool")) tNil)))) (tOp rEq (tVar 0) (tVar 1))))) tNext)
  (tSeq (tIfS (tB (tCB (rIsi K) (tCons (tVar 1) (tCons (tC (.ty "str")) tNil)))) (tRet (tAndV (tCB (rIsi K) (tCons (tVar 0) (tCons (tC (.ty "str")) tNil))) (tOp rEq (tVar 0) (tVar 1)))) tNext)
  (tSeq (tIfS (tOr (tB (tCB (rIsi K) (tCons (tVar 1) (tCons (tC (.ty "list")) tNil)))) (tB (tCB (rIsi K) (tCons (tVar 1) (tCons (tC (.ty "tuple")) tNil))))) (tSeq (tIfS (tOr (tTest (tOp rNe (tCB (rIsi K) (tCons (tVar 0) (tCons (tC (.ty "list")) tNil))) (tCB (rIsi K) (tCons (tVar 1) (tCons (tC (.ty "list")) tNil))))) (tTest (tOp rNe (tCB (rIsi K) (tCons (tVar 0) (tCons (tC (.ty "tuple")) tNil))) (tCB (rIsi K) (tCons (tVar 1) (tCons (tC (.ty "tuple")) tNil)))))) (tRet (tC (.bl false))) tNext)
  (tSeq (tIfS (tTest (tOp rNe (tCB (bLen K) (tCons (tVar 0) tNil)) (tCB (bLen K) (tCons (tVar 1) tNil)))) (tRet (tC (.bl false))) tNext)
  (tSeq (tFor (iRng1 (tCons (tCB (bLen K) (tCons (tVar 1) tNil)) tNil)) (gName 2)
   (tIfS (tNot (tB (tCall (sp__law_like1 K) [] E (tCons (tOp (rIx K) (tVar 0) (tVar 2)) (tCons (tOp (rIx K) (tVar 1) (tVar 2)) tNil))))) (tRet (tC (.bl false))) tNext))
  (tRet (tC (.bl true)))))) tNext)
  (tRet (tAndV (tOp rIsN0 (tVar 1) (tC .non)) (tOp rIsN0 (tVar 0) (tC .non))))))))
theorem v__law_like2 {K : PySem.W.Frag} {E : XK} (kt : KT K) (ka : KAt K attrs) (tx : TX K) : EvS K (Tb K) E (r__law_like2 K E) s_v__law_like2 := (seq_ok (es_if (et_b (ev_isi (by decide) (EvE.b ev_var))) (es_ret (ev_andV (ev_isi (by decide) (EvE.b ev_var)) (ev_op v_Eq (EvE.b ev_var) (EvE.b ev_var)))) es_next)
  (seq_ok (es_if (et_b (ev_isi (by decide) (EvE.b ev_var))) (es_ret (ev_andV (ev_isi (by decide) (EvE.b ev_var)) (ev_andV (ev_notV (ev_isi (by decide) (EvE.b ev_var))) (ev_op v_Eq (EvE.b ev_var) (EvE.b ev_var))))) es_next)
  (seq_ok (es_if (et_b (ev_isi (by decide) (EvE.b ev_var))) (es_ret (ev_andV (ev_isi (by decide) (EvE.b ev_var)) (ev_op v_Eq (EvE.b ev_var) (EvE.b ev_var)))) es_next)
  (seq_ok (es_if (et_or (et_b (ev_isi (by decide) (EvE.b ev_var))) (et_b (ev_isi (by decide) (EvE.b ev_var)))) (seq_ok (es_if (et_or (et_test (ev_op v_Ne (EvE.b (ev_isi (by decide) (EvE.b ev_var))) (EvE.b (ev_isi (by decide) (EvE.b ev_var))))) (et_test (ev_op v_Ne (EvE.b (ev_isi (by decide) (EvE.b ev_var))) (EvE.b (ev_isi (by decide) (EvE.b ev_var)))))) (es_ret ev_bl) es_next)
  (seq_ok (es_if (et_test (ev_op v_Ne (EvE.b (ev_len (EvE.b ev_var))) (EvE.b (ev_len (EvE.b ev_var))))) (es_ret ev_bl) es_next)
  (seq_ok (es_for (ei_rng1 (ev_len (EvE.b ev_var))) eg_name (es_if (et_not (et_b (ev_call (fun _ _ => .nil) rfl (ec_cons (ev_op v_Ix (EvE.b ev_var) (EvE.b ev_var)) (ec_cons (ev_op v_Ix (EvE.b ev_var) (EvE.b ev_var)) ec_nil))))) (es_ret ev_bl) es_next))
  (es_ret ev_bl)))) es_next)
  (es_ret (ev_andV (ev_op v_IsN0 (EvE.b ev_var) (EvE.b ev_non)) (ev_op v_IsN0 (EvE.b ev_var) (EvE.b ev_non))))))))
/-! Tree.__contains__ -/
def s_v_Tree___contains__ : WS := (sRet (pChain qLe0 qLe0 (pC (.int 0)) (pVar 1) (pLen (pFld attrs "_blocks" (pVar 0)))))
def w_Tree___contains__ : WD := bodyW N_Tree___contains__.length s_v_Tree___contains__
abbrev sp_Tree___contains__ (K : PySem.W.Frag) : Sp := SpP K (Tb K) 2 w_Tree___contains__
def r_Tree___contains__ (K : PySem.W.Frag) (E : XK) : TS := (tRet (tChain rLe0 rLe0 (tC (.int 0)) (tVar 1) (tCB (bLen K) (tCons (tFld K (tVar 0) "_blocks") tNil))))
theorem v_Tree___contains__ {K : PySem.W.Frag} {E : XK} (kt : KT K) (ka : KAt K attrs) (tx : TX K) : EvS K (Tb K) E (r_Tree___contains__ K E) s_v_Tree___contains__ := (es_ret (ev_chain v_Le0 v_Le0 ev_int ev_var (ev_len (EvE.b (ev_fld ka ev_var)))))
/-! behind_of -/
def s_v_behind_of : WS := (sRet (pOp qIxT (pOp qIxL (pVar 0) (pOp qMinus (pVar 1) (pC (.int 1)))) (pC (.int 2))))
def w_behind_of : WD := bodyW N_behind_of.length s_v_behind_of
abbrev sp_behind_of (K : PySem.W.Frag) : Sp := SpP K (Tb K) 2 w_behind_of
def r_behind_of (K : PySem.W.Frag) (E : XK) : TS := (tRet (tOp (rIxT K) (tOp (rIxL K) (tVar 0) (tOp rMinus (tVar 1) (tC (.int 1)))) (tC (.int 2))))
theorem v_behind_of {K : PySem.W.Frag} {E : XK} (kt : KT K) (ka : KAt K attrs) (tx : TX K) : EvS K (Tb K) E (r_behind_of K E) s_v_behind_of := (es_ret (ev_op v_IxT (EvE.b (ev_op v_IxL (EvE.b ev_var) (EvE.b (ev_op v_Minus (EvE.b ev_var) (EvE.b ev_int))))) (EvE.b ev_int)))
/-! row_of -/
def b0_row_of : WS := (sSeq (sApp 2 (pVar 3))
  (sAsg (pCall w_behind_of [] (cpCons (pVar 0) (cpCons (pVar 3) cpNil))) (gpName 3)))
def s_v_row_of : WS := (sSeq (sAsgO (pLst pNil) 2)
  (sSeq (sAsg (pVar 1) (gpName 3))
  (sSeq (sWhile (pTest (pOp qNe (pVar 3) (pC (.int 0)))) b0_row_of)
  (sRetO (pRevL (pVarB 2))))))
def w_row_of : WD := bodyW N_row_of.length s_v_row_of
abbrev sp_row_of (K : PySem.W.Frag) : Sp := SpP K (Tb K) 2 w_row_of
def r_row_of (K : PySem.W.Frag) (E : XK) : TS := (tSeq (tAsg (tLst tNil) (gName 2))
  (tSeq (tAsg (tVar 1) (gName 3))
  (tSeq (tWhile (tTest (tOp rNe (tVar 3) (tC (.int 0)))) (tSeq (tDrop (tBM K "list" rAppend (tVar 2) (tCons (tVar 3) tNil)))
  (tAsg (tCall (sp_behind_of K) [] E (tCons (tVar 0) (tCons (tVar 3) tNil))) (gName 3))))
  (tRet (tRevL K (tVar 2))))))
theorem v_row_of {K : PySem.W.Frag} {E : XK} (kt : KT K) (ka : KAt K attrs) (tx : TX K) : EvS K (Tb K) E (r_row_of K E) s_v_row_of := (seq_ok (es_asgO (eo_lst ea_nil))
  (seq_ok (es_asg ev_var eg_name)
  (seq_ok (es_while (et_test (ev_op v_Ne (EvE.b ev_var) (EvE.b ev_int))) (seq_ok (es_app ev_var)
  (es_asg (ev_call (fun _ _ => .nil) rfl (ec_cons ev_var (ec_cons ev_var ec_nil))) eg_name)))
  (es_retO (eo_revL eb_var)))))
/-! shared_row -/
def s_v_shared_row : WS := (sSeq (sAsgS 3 (pFrz (pCallO w_row_of [] (cpCons (pVar 0) (cpCons (pVar 2) cpNil)))))
  (sRetO (pLc (pItL (pFrz (pCallO w_row_of [] (cpCons (pVar 0) (cpCons (pVar 1) cpNil))))) (gpName 4) (pTest (pSIn false (pVar 4) 3)) (pVar 4) [4])))
def w_shared_row : WD := bodyW N_shared_row.length s_v_shared_row
abbrev sp_shared_row (K : PySem.W.Frag) : Sp := SpP K (Tb K) 3 w_shared_row
def r_shared_row (K : PySem.W.Frag) (E : XK) : TS := (tSeq (tAsg (tCB (rSetI K) (tCons (tCall (sp_row_of K) [] E (tCons (tVar 0) (tCons (tVar 2) tNil))) tNil)) (gName 3))
  (tRet (tLc (iList K (tCall (sp_row_of K) [] E (tCons (tVar 0) (tCons (tVar 1) tNil)))) (gName 4) (tTest (tOp (rSInI false) (tVar 4) (tVar 3))) (tVar 4) [4])))
theorem v_shared_row {K : PySem.W.Frag} {E : XK} (kt : KT K) (ka : KAt K attrs) (tx : TX K) : EvS K (Tb K) E (r_shared_row K E) s_v_shared_row := (seq_ok (es_asgS (ev_frz (eo_call (fun _ _ => .nil) rfl (ec_cons ev_var (ec_cons ev_var ec_nil)))))
  (es_retO (eo_lc (ei_listB (EvE.b (ev_frz (eo_call (fun _ _ => .nil) rfl (ec_cons ev_var (ec_cons ev_var ec_nil)))))) eg_name (et_test (ev_sin ev_var)) ev_var)))
/-! slot_of -/
def s_v_slot_of : WS := (sSeq (sIf (pTest (pOp qEq (pVar 1) (pC (.int 0)))) (sRet (pC (.int 0))) sNext)
  (sRet (pOp qIxT (pOp qIxL (pVar 0) (pOp qMinus (pVar 1) (pC (.int 1)))) (pC (.int 0)))))
def w_slot_of : WD := bodyW N_slot_of.length s_v_slot_of
abbrev sp_slot_of (K : PySem.W.Frag) : Sp := SpP K (Tb K) 2 w_slot_of
def r_slot_of (K : PySem.W.Frag) (E : XK) : TS := (tSeq (tIfS (tTest (tOp rEq (tVar 1) (tC (.int 0)))) (tRet (tC (.int 0))) tNext)
  (tRet (tOp (rIxT K) (tOp (rIxL K) (tVar 0) (tOp rMinus (tVar 1) (tC (.int 1)))) (tC (.int 0)))))
theorem v_slot_of {K : PySem.W.Frag} {E : XK} (kt : KT K) (ka : KAt K attrs) (tx : TX K) : EvS K (Tb K) E (r_slot_of K E) s_v_slot_of := (seq_ok (es_if (et_test (ev_op v_Eq (EvE.b ev_var) (EvE.b ev_int))) (es_ret ev_int) es_next)
  (es_ret (ev_op v_IxT (EvE.b (ev_op v_IxL (EvE.b ev_var) (EvE.b (ev_op v_Minus (EvE.b ev_var) (EvE.b ev_int))))) (EvE.b ev_int))))
/-! first_common -/
def b0_first_common : WS := (sIf (pTest (pOp qGe0 (pCall w_slot_of [] (cpCons (pVar 0) (cpCons (pVar 4) cpNil))) (pVar 3))) (sRet (pVar 4)) sNext)
def s_v_first_common : WS := (sSeq (sFor (pItL (pFrz (pCallO w_shared_row [] (cpCons (pVar 0) (cpCons (pVar 1) (cpCons (pVar 2) cpNil)))))) (gpName 4) b0_first_common)
  (sRet (pC .non)))
def w_first_common : WD := bodyW N_first_common.length s_v_first_common
abbrev sp_first_common (K : PySem.W.Frag) : Sp := SpP K (Tb K) 4 w_first_common
def r_first_common (K : PySem.W.Frag) (E : XK) : TS := (tSeq (tFor (iList K (tCall (sp_shared_row K) [] E (tCons (tVar 0) (tCons (tVar 1) (tCons (tVar 2) tNil))))) (gName 4)
   (tIfS (tTest (tOp rGe0 (tCall (sp_slot_of K) [] E (tCons (tVar 0) (tCons (tVar 4) tNil))) (tVar 3))) (tRet (tVar 4)) tNext))
  (tRet (tC .non)))
theorem v_first_common {K : PySem.W.Frag} {E : XK} (kt : KT K) (ka : KAt K attrs) (tx : TX K) : EvS K (Tb K) E (r_first_common K E) s_v_first_common := (seq_ok (es_for (ei_list (ev_frz (eo_call (fun _ _ => .nil) rfl (ec_cons ev_var (ec_cons ev_var (ec_cons ev_var ec_nil)))))) eg_name (es_if (et_test (ev_op v_Ge0 (EvE.b (ev_call (fun _ _ => .nil) rfl (ec_cons ev_var (ec_cons ev_var ec_nil)))) (EvE.b ev_var))) (es_ret ev_var) es_next))
  (es_ret ev_non))
/-! common_block -/
def s_v_common_block : WS := (sSeq (sIf (pTest (pOp qLt0 (pVar 3) (pC (.int 1)))) (sRaise "OutOf" nm_OutOf (okP1 100) (pCons (pC (.str "slot")) pNil)) sNext)
  (sSeq (sIf (pOr (pTest (pInO true "Tree" w_Tree___contains__ (pVar 1) (pVar 0))) (pTest (pInO true "Tree" w_Tree___contains__ (pVar 2) (pVar 0)))) (sRaise "OutOf" nm_OutOf (okP1 100) (pCons (pC (.str "block")) pNil)) sNext)
  (sRet (pCall w_first_common [] (cpCons (pFld attrs "_blocks" (pVar 0)) (cpCons (pVar 1) (cpCons (pVar 2) (cpCons (pVar 3) cpNil))))))))
def w_common_block : WD := bodyW N_common_block.length s_v_common_block
abbrev sp_common_block (K : PySem.W.Frag) : Sp := SpP K (Tb K) 4 w_common_block
def r_common_block (K : PySem.W.Frag) (E : XK) : TS := (tSeq (tIfS (tTest (tOp rLt0 (tVar 3) (tC (.int 1)))) (tRaise (He.ga K "OutOf") (sp_OutOf K) E (tCons (tC (.str "slot")) tNil)) tNext)
  (tSeq (tIfS (tOr (tTest (tOp (rInO K true (He.ga K "Tree") (sp_Tree___contains__ K) E0) (tVar 1) (tVar 0))) (tTest (tOp (rInO K true (He.ga K "Tree") (sp_Tree___contains__ K) E0) (tVar 2) (tVar 0)))) (tRaise (He.ga K "OutOf") (sp_OutOf K) E (tCons (tC (.str "block")) tNil)) tNext)
  (tRet (tCall (sp_first_common K) [] E (tCons (tFld K (tVar 0) "_blocks") (tCons (tVar 1) (tCons (tVar 2) (tCons (tVar 3) tNil))))))))
theorem v_common_block {K : PySem.W.Frag} {E : XK} (kt : KT K) (ka : KAt K attrs) (tx : TX K) : EvS K (Tb K) E (r_common_block K E) s_v_common_block := (seq_ok (es_if (et_test (ev_op v_Lt0 (EvE.b ev_var) (EvE.b ev_int))) (es_raise ok_OutOf_P (ea_cons ev_str ea_nil)) es_next)
  (seq_ok (es_if (et_or (et_test (ev_inO ev_var ev_var)) (et_test (ev_inO ev_var ev_var))) (es_raise ok_OutOf_P (ea_cons ev_str ea_nil)) es_next)
  (es_ret (ev_call (fun _ _ => .nil) rfl (ec_cons (ev_fld ka ev_var) (ec_cons ev_var (ec_cons ev_var (ec_cons ev_var ec_nil))))))))
/-! _law_told -/
def s_v__law_told : WS := (sTell erTab (pFrz (pLst (pCons (pC (.str "told")) (pCons (pCall w_common_block [] (cpCons (pVar 0) (cpCons (pVar 1) (cpCons (pVar 2) (cpCons (pVar 3) cpNil))))) pNil)))))
def w__law_told : WD := bodyW N__law_told.length s_v__law_told
abbrev sp__law_told (K : PySem.W.Frag) : Sp := SpP K (Tb K) 4 w__law_told
def r__law_told (K : PySem.W.Frag) (E : XK) : TS := (tTell K (csE K) (spX__law_error K) (fun Ec => (tLst (tCons (tC (.str "told")) (tCons (tCall (sp_common_block K) [] Ec (tCons (tVar 0) (tCons (tVar 1) (tCons (tVar 2) (tCons (tVar 3) tNil))))) tNil)))))
theorem v__law_told {K : PySem.W.Frag} {E : XK} (kt : KT K) (ka : KAt K attrs) (tx : TX K) : EvS K (Tb K) E (r__law_told K E) s_v__law_told := (es_tell tx (fun Ec => (ev_frz (eo_lst (ea_cons ev_str (ea_cons (ev_call (fun _ _ => .nil) rfl (ec_cons ev_var (ec_cons ev_var (ec_cons ev_var (ec_cons ev_var ec_nil))))) ea_nil))))))
/-! law -/
def b0_law : WS := (sSeq (sAsg (pCall0 w__law_due [] (cpCons (pVar 3) (cpCons (pVar 4) (cpCons (pVar 7) (cpCons (pVar 8) (cpCons (pVar 12) cpNil)))))) (gpName 13))
  (sIf (pNot (pTest (pCall0 w__law_like2 [] (cpCons (pFrz (pLst (pCons (pCall0 w__law_told [] (cpCons (pVar 6) (cpCons (pVar 7) (cpCons (pVar 8) (cpCons (pVar 12) cpNil))))) (pCons (pCall0 w__law_told [] (cpCons (pVar 6) (cpCons (pVar 8) (cpCons (pVar 7) (cpCons (pVar 12) cpNil))))) pNil)))) (cpCons (pFrz (pLst (pCons (pVar 13) (pCons (pVar 13) pNil)))) cpNil))))) (sRet (pC (.bl false))) sNext))
def b1_law : WS := (sSeq (sAsg (pFrz (pLc (pItL (pOp qIxL (pVar 4) (pVar 7))) (gpName 10) (pTest (pOp (qInG false) (pVar 10) (pOp qIxL (pVar 4) (pVar 8)))) (pOp qIxT (pOp qIxL (pVar 3) (pOp qMinus (pVar 10) (pC (.int 1)))) (pC (.int 0))) [10])) (gpName 9))
  (sSeq (sAsg (pCall0 w__law_of [] (cpBag 1 (cpCons (pFrz (pCat (pVar 9) (pFrz (pLst (pCons (pC (.int 1)) pNil))))) cpNil))) (gpName 11))
  (sFor (pItL (pFrz (pLst (pCons (pC (.int 1)) (pCons (pVar 11) (pCons (p2 qMin2 (pOp qPlus (pVar 11) (pC (.int 1))) (pC (.int 45))) (pCons (pOp qPlus (pC (.int 1)) (pCall0 w__law_draw [] (cpBag 1 (cpCons (pC (.int 45)) cpNil)))) pNil))))))) (gpName 12) b0_law)))
def b2_law : WS := (sSeq (sAsg (pCall0 w__law_of [] (cpBag 1 (cpCons (pFrz (pLst (pCons (pNeg (pC (.int 1))) (pCons (pOp qPlus (pVar 5) (pC (.int 1))) (pCons (pC (.int 0)) (pCons (pVar 5) (pCons (pC (.int 123456789)) (pCons (pOp qMinus (pNeg (pVar 5)) (pC (.int 1))) (pCons (pCall0 w__law_draw [] (cpBag 1 (cpCons (pOp qPlus (pVar 5) (pC (.int 1))) cpNil))) pNil))))))))) cpNil))) (gpName 7))
  (sSeq (sAsg (pCall0 w__law_of [] (cpBag 1 (cpCons (pFrz (pLst (pCons (pC (.int 0)) (pCons (pVar 5) (pCons (pNeg (pC (.int 2))) (pCons (pOp qPlus (pVar 5) (pC (.int 2))) (pCons (pCall0 w__law_draw [] (cpBag 1 (cpCons (pOp qPlus (pVar 5) (pC (.int 1))) cpNil))) pNil))))))) cpNil))) (gpName 8))
  (sSeq (sAsg (pCall0 w__law_of [] (cpBag 1 (cpCons (pFrz (pLst (pCons (pC (.int 1)) (pCons (pC (.int 0)) (pCons (pNeg (pC (.int 1))) (pCons (pC (.int 41)) (pCons (pC (.int 2)) (pCons (pNeg (pC (.int 123456789))) pNil)))))))) cpNil))) (gpName 12))
  (sSeq (sAsg (pCall0 w__law_due [] (cpCons (pVar 3) (cpCons (pVar 4) (cpCons (pVar 7) (cpCons (pVar 8) (cpCons (pVar 12) cpNil)))))) (gpName 13))
  (sIf (pNot (pTest (pCall0 w__law_like2 [] (cpCons (pFrz (pLst (pCons (pCall0 w__law_told [] (cpCons (pVar 6) (cpCons (pVar 7) (cpCons (pVar 8) (cpCons (pVar 12) cpNil))))) (pCons (pCall0 w__law_told [] (cpCons (pVar 6) (cpCons (pVar 8) (cpCons (pVar 7) (cpCons (pVar 12) cpNil))))) pNil)))) (cpCons (pFrz (pLst (pCons (pVar 13) (pCons (pVar 13) pNil)))) cpNil))))) (sRet (pC (.bl false))) sNext)))))
def b3_law : WS := (sSeq (sAsg (pCall0 w__law_any [] (cpBag 1 (cpCons (pIf (pAnd (pTest (pOp qEq (pVar 2) (pC (.int 2)))) (pTest (pOp qEq (pCall0 w__law_draw [] (cpBag 1 (cpCons (pC (.int 4)) cpNil))) (pC (.int 1))))) (pC (.int 40)) (pC (.int 10))) cpNil))) (gpName 3))
  (sSeq (sAsg (pCall0 w__law_rows [] (cpCons (pVar 3) cpNil)) (gpName 4))
  (sSeq (sAsg (pLen (pVar 3)) (gpName 5))
  (sSeq (sAsg (pCall0 w_Tree_of [] (cpCons (pFrz (pListO (pVar 3))) cpNil)) (gpName 6))
  (sSeq (sFor (pItL (pCall0 w__law_pairs [] (cpBag 1 (cpCons (pVar 5) cpNil)))) (gpTup 2 (gpCons (gpName 7) (gpCons (gpName 8) gpNil))) b1_law)
  (sFor (pRng1 (pC (.int 8))) (gpName 10) b2_law))))))
def s_v_law : WS := (sSeq (sFor (pRng1 (pC (.int 3))) (gpName 2) b3_law)
  (sRet (pC (.bl true))))
def q_law (K : PySem.W.Frag) : TS := (tSeq (tFor (iRng1 (tCons (tC (.int 3)) tNil)) (gName 2) (tSeq (tAsg (tCall (sp__law_any K) [] E0 (tCons (tVar 1) (tCons (tIf (tAnd (tTest (tOp rEq (tVar 2) (tC (.int 2)))) (tTest (tOp rEq (tCall (sp__law_draw K) [] E0 (tCons (tVar 1) (tCons (tC (.int 4)) tNil))) (tC (.int 1))))) (tC (.int 40)) (tC (.int 10))) tNil))) (gName 3)) (tSeq (tAsg (tCall (sp__law_rows K) [] E0 (tCons (tVar 3) tNil)) (gName 4)) (tSeq (tAsg (tCB (bLen K) (tCons (tVar 3) tNil)) (gName 5)) (tSeq (tAsg (tSMeth (He.ga K "Tree") (sp_Tree_of K) E0 (tC (.ref (He.ga K "Tree"))) (tCons (tCB (bList K) (tCons (tVar 3) tNil)) tNil)) (gName 6)) (tSeq (tFor (iList K (tCall (sp__law_pairs K) [] E0 (tCons (tVar 1) (tCons (tVar 5) tNil)))) (gTup K 2 (gCons (gName 7) (gCons (gName 8) gNil))) (tSeq (tAsg (tLc (iList K (tOp (rIxL K) (tVar 4) (tVar 7))) (gName 10) (tTest (tOp (rIn K false) (tVar 10) (tOp (rIxL K) (tVar 4) (tVar 8)))) (tOp (rIxT K) (tOp (rIxL K) (tVar 3) (tOp rMinus (tVar 10) (tC (.int 1)))) (tC (.int 0))) [10]) (gName 9)) (tSeq (tAsg (tCall (sp__law_of K) [] E0 (tCons (tVar 1) (tCons (tOp rCat (tVar 9) (tLst (tCons (tC (.int 1)) tNil))) tNil))) (gName 11)) (tFor (iList K (tLst (tCons (tC (.int 1)) (tCons (tVar 11) (tCons (tCB bMin2 (tCons (tOp rPlus (tVar 11) (tC (.int 1))) (tCons (tC (.int 45)) tNil))) (tCons (tOp rPlus (tC (.int 1)) (tCall (sp__law_draw K) [] E0 (tCons (tVar 1) (tCons (tC (.int 45)) tNil)))) tNil)))))) (gName 12) (tSeq (tAsg (tCall (sp__law_due K) [] E0 (tCons (tVar 3) (tCons (tVar 4) (tCons (tVar 7) (tCons (tVar 8) (tCons (tVar 12) tNil)))))) (gName 13)) (tIfS (tNot (tB (tCall (sp__law_like2 K) [] E0 (tCons (tLst (tCons (tCall (sp__law_told K) [] E0 (tCons (tVar 6) (tCons (tVar 7) (tCons (tVar 8) (tCons (tVar 12) tNil))))) (tCons (tCall (sp__law_told K) [] E0 (tCons (tVar 6) (tCons (tVar 8) (tCons (tVar 7) (tCons (tVar 12) tNil))))) tNil))) (tCons (tLst (tCons (tVar 13) (tCons (tVar 13) tNil))) tNil))))) (tRet (tC (.bl false))) tNext)))))) (tFor (iRng1 (tCons (tC (.int 8)) tNil)) (gName 10) (tSeq (tAsg (tCall (sp__law_of K) [] E0 (tCons (tVar 1) (tCons (tLst (tCons (tUn uNeg (tC (.int 1))) (tCons (tOp rPlus (tVar 5) (tC (.int 1))) (tCons (tC (.int 0)) (tCons (tVar 5) (tCons (tC (.int 123456789)) (tCons (tOp rMinus (tUn uNeg (tVar 5)) (tC (.int 1))) (tCons (tCall (sp__law_draw K) [] E0 (tCons (tVar 1) (tCons (tOp rPlus (tVar 5) (tC (.int 1))) tNil))) tNil)))))))) tNil))) (gName 7)) (tSeq (tAsg (tCall (sp__law_of K) [] E0 (tCons (tVar 1) (tCons (tLst (tCons (tC (.int 0)) (tCons (tVar 5) (tCons (tUn uNeg (tC (.int 2))) (tCons (tOp rPlus (tVar 5) (tC (.int 2))) (tCons (tCall (sp__law_draw K) [] E0 (tCons (tVar 1) (tCons (tOp rPlus (tVar 5) (tC (.int 1))) tNil))) tNil)))))) tNil))) (gName 8)) (tSeq (tAsg (tCall (sp__law_of K) [] E0 (tCons (tVar 1) (tCons (tLst (tCons (tC (.int 1)) (tCons (tC (.int 0)) (tCons (tUn uNeg (tC (.int 1))) (tCons (tC (.int 41)) (tCons (tC (.int 2)) (tCons (tUn uNeg (tC (.int 123456789))) tNil))))))) tNil))) (gName 12)) (tSeq (tAsg (tCall (sp__law_due K) [] E0 (tCons (tVar 3) (tCons (tVar 4) (tCons (tVar 7) (tCons (tVar 8) (tCons (tVar 12) tNil)))))) (gName 13)) (tIfS (tNot (tB (tCall (sp__law_like2 K) [] E0 (tCons (tLst (tCons (tCall (sp__law_told K) [] E0 (tCons (tVar 6) (tCons (tVar 7) (tCons (tVar 8) (tCons (tVar 12) tNil))))) (tCons (tCall (sp__law_told K) [] E0 (tCons (tVar 6) (tCons (tVar 8) (tCons (tVar 7) (tCons (tVar 12) tNil))))) tNil))) (tCons (tLst (tCons (tVar 13) (tCons (tVar 13) tNil))) tNil))))) (tRet (tC (.bl false))) tNext)))))))))))) (tRet (tC (.bl true))))
def r_law (K : PySem.W.Frag) : TS := tSeq (tAsg (tCall (sp__law_bag K) [] E0 (tCons (tVar 0) tNil)) (gName 1)) (q_law K)
theorem v_law {K : PySem.W.Frag} (kt : KT K) (ka : KAt K attrs) (tx : TX K) : EvS K (Tb K) L2.E0 (q_law K) s_v_law := (seq_ok (es_for (ei_rng1 ev_int) eg_name (seq_ok (es_asg (ev_call0 (fun _ _ => .nil) rfl (ec_bag (ec_cons (ev_if (et_and (et_test (ev_op v_Eq (EvE.b ev_var) (EvE.b ev_int))) (et_test (ev_op v_Eq (EvE.b (ev_call0 (fun _ _ => .nil) rfl (ec_bag (ec_cons ev_int ec_nil)))) (EvE.b ev_int)))) ev_int ev_int) ec_nil))) eg_name)
  (seq_ok (es_asg (ev_call0 (fun _ _ => .nil) rfl (ec_cons ev_var ec_nil)) eg_name)
  (seq_ok (es_asg (ev_len (EvE.b ev_var)) eg_name)
  (seq_ok (es_asg (ev_smeth0 rfl (ec_cons (ev_frz (eo_list (EvE.b ev_var))) ec_nil)) eg_name)
  (seq_ok (es_for (ei_list (ev_call0 (fun _ _ => .nil) rfl (ec_bag (ec_cons ev_var ec_nil)))) (eg_tup (eg_cons eg_name (eg_cons eg_name eg_nil))) (seq_ok (es_asg (ev_frz (eo_lc (ei_listB (EvE.b (ev_op v_IxL (EvE.b ev_var) (EvE.b ev_var)))) eg_name (et_test (ev_op v_InG (EvE.b ev_var) (EvE.b (ev_op v_IxL (EvE.b ev_var) (EvE.b ev_var))))) (ev_op v_IxT (EvE.b (ev_op v_IxL (EvE.b ev_var) (EvE.b (ev_op v_Minus (EvE.b ev_var) (EvE.b ev_int))))) (EvE.b ev_int)))) eg_name)
  (seq_ok (es_asg (ev_call0 (fun _ _ => .nil) rfl (ec_bag (ec_cons (ev_frz (eo_cat (EvE.b ev_var) (EvE.b (ev_frz (eo_lst (ea_cons ev_int ea_nil)))))) ec_nil))) eg_name)
  (es_for (ei_list (ev_frz (eo_lst (ea_cons ev_int (ea_cons ev_var (ea_cons (ev_min2 (ev_op v_Plus (EvE.b ev_var) (EvE.b ev_int)) ev_int) (ea_cons (ev_op v_Plus (EvE.b ev_int) (EvE.b (ev_call0 (fun _ _ => .nil) rfl (ec_bag (ec_cons ev_int ec_nil))))) ea_nil))))))) eg_name (seq_ok (es_asg (ev_call0 (fun _ _ => .nil) rfl (ec_cons ev_var (ec_cons ev_var (ec_cons ev_var (ec_cons ev_var (ec_cons ev_var ec_nil)))))) eg_name)
  (es_if (et_not (et_b (ev_call0 (fun _ _ => .nil) rfl (ec_cons (ev_frz (eo_lst (ea_cons (ev_call0 (fun _ _ => .nil) rfl (ec_cons ev_var (ec_cons ev_var (ec_cons ev_var (ec_cons ev_var ec_nil))))) (ea_cons (ev_call0 (fun _ _ => .nil) rfl (ec_cons ev_var (ec_cons ev_var (ec_cons ev_var (ec_cons ev_var ec_nil))))) ea_nil)))) (ec_cons (ev_frz (eo_lst (ea_cons ev_var (ea_cons ev_var ea_nil)))) ec_nil))))) (es_ret ev_bl) es_next))))))
  (es_for (ei_rng1 ev_int) eg_name (seq_ok (es_asg (ev_call0 (fun _ _ => .nil) rfl (ec_bag (ec_cons (ev_frz (eo_lst (ea_cons (ev_neg ev_int) (ea_cons (ev_op v_Plus (EvE.b ev_var) (EvE.b ev_int)) (ea_cons ev_int (ea_cons ev_var (ea_cons ev_int (ea_cons (ev_op v_Minus (EvE.b (ev_neg ev_var)) (EvE.b ev_int)) (ea_cons (ev_call0 (fun _ _ => .nil) rfl (ec_bag (ec_cons (ev_op v_Plus (EvE.b ev_var) (EvE.b ev_int)) ec_nil))) ea_nil))))))))) ec_nil))) eg_name)
  (seq_ok (es_asg (ev_call0 (fun _ _ => .nil) rfl (ec_bag (ec_cons (ev_frz (eo_lst (ea_cons ev_int (ea_cons ev_var (ea_cons (ev_neg ev_int) (ea_cons (ev_op v_Plus (EvE.b ev_var) (EvE.b ev_int)) (ea_cons (ev_call0 (fun _ _ => .nil) rfl (ec_bag (ec_cons (ev_op v_Plus (EvE.b ev_var) (EvE.b ev_int)) ec_nil))) ea_nil))))))) ec_nil))) eg_name)
  (seq_ok (es_asg (ev_call0 (fun _ _ => .nil) rfl (ec_bag (ec_cons (ev_frz (eo_lst (ea_cons ev_int (ea_cons ev_int (ea_cons (ev_neg ev_int) (ea_cons ev_int (ea_cons ev_int (ea_cons (ev_neg ev_int) ea_nil)))))))) ec_nil))) eg_name)
  (seq_ok (es_asg (ev_call0 (fun _ _ => .nil) rfl (ec_cons ev_var (ec_cons ev_var (ec_cons ev_var (ec_cons ev_var (ec_cons ev_var ec_nil)))))) eg_name)
  (es_if (et_not (et_b (ev_call0 (fun _ _ => .nil) rfl (ec_cons (ev_frz (eo_lst (ea_cons (ev_call0 (fun _ _ => .nil) rfl (ec_cons ev_var (ec_cons ev_var (ec_cons ev_var (ec_cons ev_var ec_nil))))) (ea_cons (ev_call0 (fun _ _ => .nil) rfl (ec_cons ev_var (ec_cons ev_var (ec_cons ev_var (ec_cons ev_var ec_nil))))) ea_nil)))) (ec_cons (ev_frz (eo_lst (ea_cons ev_var (ea_cons ev_var ea_nil)))) ec_nil))))) (es_ret ev_bl) es_next))))))))))))
  (es_ret ev_bl))
end My
end

section
set_option Elab.async false
set_option maxRecDepth 100000
set_option maxHeartbeats 4000000
set_option linter.all false
namespace My
open PySem L2
/-! ### the head: facts by names, the run -/
def d__law_bag : He5.DefA := ⟨fun K => He.ga K "_law_bag", "_law_bag", "_law_bag", defArgs s__law_bag, defBody s__law_bag, defScope s__law_bag, [], []⟩
def d__law_draw : He5.DefA := ⟨fun K => He.ga K "_law_draw", "_law_draw", "_law_draw", defArgs s__law_draw, defBody s__law_draw, defScope s__law_draw, [], []⟩
def d__law_wild : He5.DefA := ⟨fun K => He.ga K "_law_wild", "_law_wild", "_law_wild", defArgs s__law_wild, defBody s__law_wild, defScope s__law_wild, [], []⟩
def d__law_of : He5.DefA := ⟨fun K => He.ga K "_law_of", "_law_of", "_law_of", defArgs s__law_of, defBody s__law_of, defScope s__law_of, [], []⟩
def d__law_late : He5.DefA := ⟨fun K => He.ga K "_law_late", "_law_late", "_law_late", defArgs s__law_late, defBody s__law_late, defScope s__law_late, [], []⟩
def d__law_turned : He5.DefA := ⟨fun K => He.ga K "_law_turned", "_law_turned", "_law_turned", defArgs s__law_turned, defBody s__law_turned, defScope s__law_turned, [], []⟩
def d__law_hands : He5.DefA := ⟨fun K => He.ga K "_law_hands", "_law_hands", "_law_hands", defArgs s__law_hands, defBody s__law_hands, defScope s__law_hands, [], []⟩
def d__law_known : He5.DefA := ⟨fun K => He.ga K "_law_known", "_law_known", "_law_known", defArgs s__law_known, defBody s__law_known, defScope s__law_known, [], []⟩
def d__law_near : He5.DefA := ⟨fun K => He.ga K "_law_near", "_law_near", "_law_near", defArgs s__law_near, defBody s__law_near, defScope s__law_near, [], []⟩
def d__law_foe_tree : He5.DefA := ⟨fun K => He.ga K "_law_foe_tree", "_law_foe_tree", "_law_foe_tree", defArgs s__law_foe_tree, defBody s__law_foe_tree, defScope s__law_foe_tree, [], []⟩
def d__law_ofS : He5.DefA := ⟨fun K => He.ga K "_law_of", "_law_of", "_law_of", defArgs s__law_ofS, defBody s__law_ofS, defScope s__law_ofS, [], []⟩
def d__law_letters : He5.DefA := ⟨fun K => He.ga K "_law_letters", "_law_letters", "_law_letters", defArgs s__law_letters, defBody s__law_letters, defScope s__law_letters, [], []⟩
def d__law_any : He5.DefA := ⟨fun K => He.ga K "_law_any", "_law_any", "_law_any", defArgs s__law_any, defBody s__law_any, defScope s__law_any, [], []⟩
def d__law_rows : He5.DefA := ⟨fun K => He.ga K "_law_rows", "_law_rows", "_law_rows", defArgs s__law_rows, defBody s__law_rows, defScope s__law_rows, [], []⟩
def d_can_stand : He5.DefA := ⟨fun K => He.ga K "can_stand", "can_stand", "can_stand", defArgs s_can_stand, defBody s_can_stand, defScope s_can_stand, [], []⟩
def d_line_of_wrong_triple : He5.DefA := ⟨fun K => He.ga K "line_of_wrong_triple", "line_of_wrong_triple", "line_of_wrong_triple", defArgs s_line_of_wrong_triple, defBody s_line_of_wrong_triple, defScope s_line_of_wrong_triple, [], []⟩
def d_check_length : He5.DefA := ⟨fun K => He.ga K "check_length", "check_length", "check_length", defArgs s_check_length, defBody s_check_length, defScope s_check_length, [], []⟩
def d_lines_of : He5.DefA := ⟨fun K => He.ga K "lines_of", "lines_of", "lines_of", defArgs s_lines_of, defBody s_lines_of, defScope s_lines_of, [], []⟩
def d_head_fault : He5.DefA := ⟨fun K => He.ga K "head_fault", "head_fault", "head_fault", defArgs s_head_fault, defBody s_head_fault, defScope s_head_fault, [], []⟩
def d_end_fault : He5.DefA := ⟨fun K => He.ga K "end_fault", "end_fault", "end_fault", defArgs s_end_fault, defBody s_end_fault, defScope s_end_fault, [], []⟩
def d_read_tree : He5.DefA := ⟨fun K => He.ga K "read_tree", "read_tree", "read_tree", defArgs s_read_tree, defBody s_read_tree, defScope s_read_tree, [], []⟩
def d_depths_of : He5.DefA := ⟨fun K => He.ga K "depths_of", "depths_of", "depths_of", defArgs s_depths_of, defBody s_depths_of, defScope s_depths_of, [], []⟩
def d_Tree___init__ : He5.DefA := ⟨fun K => He.ma K (He.ga K "Tree") "__init__", "__init__", "Tree.__init__", defArgs s_Tree___init__, defBody s_Tree___init__, defScope s_Tree___init__, [], []⟩
def d_word_of_truth : He5.DefA := ⟨fun K => He.ga K "word_of_truth", "word_of_truth", "word_of_truth", defArgs s_word_of_truth, defBody s_word_of_truth, defScope s_word_of_truth, [], []⟩
def d_block_line : He5.DefA := ⟨fun K => He.ga K "block_line", "block_line", "block_line", defArgs s_block_line, defBody s_block_line, defScope s_block_line, [], []⟩
def d_tree_text : He5.DefA := ⟨fun K => He.ga K "tree_text", "tree_text", "tree_text", defArgs s_tree_text, defBody s_tree_text, defScope s_tree_text, [], []⟩
def d_tree_from : He5.DefA := ⟨fun K => He.ga K "tree_from", "tree_from", "tree_from", defArgs s_tree_from, defBody s_tree_from, defScope s_tree_from, [], []⟩
def d_Tree_of : He5.DefA := ⟨fun K => smAt K (He.ga K "Tree") "of", "of", "Tree.of", defArgs s_Tree_of, defBody s_Tree_of, defScope s_Tree_of, [], []⟩
def d__law_pairs : He5.DefA := ⟨fun K => He.ga K "_law_pairs", "_law_pairs", "_law_pairs", defArgs s__law_pairs, defBody s__law_pairs, defScope s__law_pairs, [], []⟩
def d__law_due : He5.DefA := ⟨fun K => He.ga K "_law_due", "_law_due", "_law_due", defArgs s__law_due, defBody s__law_due, defScope s__law_due, [], []⟩
def d__law_like0 : He5.DefA := ⟨fun K => He.ga K "_law_like", "_law_like", "_law_like", defArgs s__law_like0, defBody s__law_like0, defScope s__law_like0, [], []⟩
def d__law_like1 : He5.DefA := ⟨fun K => He.ga K "_law_like", "_law_like", "_law_like", defArgs s__law_like1, defBody s__law_like1, defScope s__law_like1, [], []⟩
def d__law_like2 : He5.DefA := ⟨fun K => He.ga K "_law_like", "_law_like", "_law_like", defArgs s__law_like2, defBody s__law_like2, defScope s__law_like2, [], []⟩
def d_Tree___contains__ : He5.DefA := ⟨fun K => He.ma K (He.ga K "Tree") "__contains__", "__contains__", "Tree.__contains__", defArgs s_Tree___contains__, defBody s_Tree___contains__, defScope s_Tree___contains__, [], []⟩
def d_behind_of : He5.DefA := ⟨fun K => He.ga K "behind_of", "behind_of", "behind_of", defArgs s_behind_of, defBody s_behind_of, defScope s_behind_of, [], []⟩
def d_row_of : He5.DefA := ⟨fun K => He.ga K "row_of", "row_of", "row_of", defArgs s_row_of, defBody s_row_of, defScope s_row_of, [], []⟩
def d_shared_row : He5.DefA := ⟨fun K => He.ga K "shared_row", "shared_row", "shared_row", defArgs s_shared_row, defBody s_shared_row, defScope s_shared_row, [], []⟩
def d_slot_of : He5.DefA := ⟨fun K => He.ga K "slot_of", "slot_of", "slot_of", defArgs s_slot_of, defBody s_slot_of, defScope s_slot_of, [], []⟩
def d_first_common : He5.DefA := ⟨fun K => He.ga K "first_common", "first_common", "first_common", defArgs s_first_common, defBody s_first_common, defScope s_first_common, [], []⟩
def d_common_block : He5.DefA := ⟨fun K => He.ga K "common_block", "common_block", "common_block", defArgs s_common_block, defBody s_common_block, defScope s_common_block, [], []⟩
def d__law_told : He5.DefA := ⟨fun K => He.ga K "_law_told", "_law_told", "_law_told", defArgs s__law_told, defBody s__law_told, defScope s__law_told, [], []⟩
def d_law : He5.DefA := ⟨fun K => He.ga K "law", "law", "law", defArgs s_law, defBody s_law, defScope s_law, [], []⟩
def d__law_error : He5.DefA := ⟨fun K => He.ga K "_law_error", "_law_error", "_law_error", defArgs s__law_error, defBody s__law_error, defScope s__law_error, [], []⟩
def fn : List He5.DefA := [d__law_bag, d__law_draw, d__law_wild, d__law_of, d__law_late, d__law_turned, d__law_hands, d__law_known, d__law_near, d__law_foe_tree, d__law_ofS, d__law_letters, d__law_any, d__law_rows, d_can_stand, d_line_of_wrong_triple, d_check_length, d_lines_of, d_head_fault, d_end_fault, d_read_tree, d_depths_of, d_Tree___init__, d_word_of_truth, d_block_line, d_tree_text, d_tree_from, d_Tree_of, d__law_pairs, d__law_due, d__law_like0, d__law_like1, d__law_like2, d_Tree___contains__, d_behind_of, d_row_of, d_shared_row, d_slot_of, d_first_common, d_common_block, d__law_told, d_law, d__law_error]
def fa : List He.Fa := [.glo "_law_bag", .glo "_law_draw", .glo "_law_wild", .glo "_law_of", .glo "_law_late", .glo "_law_turned", .glo "_law_hands", .glo "_law_known", .glo "_law_near", .glo "_law_foe_tree", .glo "_law_letters", .glo "_law_any", .glo "_law_rows", .glo "can_stand", .glo "line_of_wrong_triple", .glo "check_length", .glo "lines_of", .glo "head_fault", .glo "end_fault", .glo "read_tree", .glo "depths_of", .glo "word_of_truth", .glo "block_line", .glo "tree_text", .glo "tree_from", .glo "_law_pairs", .glo "_law_due", .glo "_law_like", .glo "behind_of", .glo "row_of", .glo "shared_row", .glo "slot_of", .glo "first_common", .glo "common_block", .glo "_law_told", .glo "law", .glo "_law_error", .free "bool", .free "enumerate", .free "int", .free "isinstance", .free "len", .free "list", .free "max", .free "min", .free "range", .free "set", .free "str", .free "tuple", .str "DONE" "done", .str "EMPTY_TREE" "tree\ndone\n", .str "FALSE_WORD" "false", .str "HEAD" "tree", .int "MOST_BLOCKS" 1000, .int "MOST_CHARACTERS" 100000, .int "MOST_SLOTS" 40, .str "TRUE_WORD" "true", .glo "Tree", .mkr "Tree", .cls "Tree", .meth "Tree" "__contains__", .noat "Tree" "_blocks", .noat "Tree" "_depths", .noat "Tree" "text", .free "super", .glo "OutOf", .glo "BadRota", .glo "BadWorld", .glo "BadTree", .glo "BadPlay", .glo "BadBook", .glo "BadCourse", .glo "BadDie", .glo "BadMill", .glo "BadRoster", .glo "BadScript", .glo "NoTree", .glo "TooMany", .glo "NoSuch", .glo "Ended"]
def ts : List He.Tab := []
def tf : List He.Defn := []
def sf : List SupD := [d_OutOf]
abbrev R : PySem.W.OpenRow := PySem.W.OpenLaw.row PySem.Challenge.rw_buriedsure_k09_whole_common_blocks
def file0 : Str := R.prog.main.file
def kitW (K : PySem.W.Frag) (n : Str) : Bool := decide (PySem.W.kitOne K (.ref (He.ga K "OutOf")) (.ref (He.ga K n)) = some false)
def ewB (K : PySem.W.Frag) : Bool := (["BadRota", "BadWorld", "BadTree", "BadPlay", "BadBook", "BadCourse", "BadDie", "BadMill", "BadRoster", "BadScript", "NoTree", "TooMany", "NoSuch", "Ended"] : List Str).all (kitW K) && decide (PySem.W.kitOne K (.ref (He.ga K "OutOf")) (.ref (He.ga K "OutOf")) = some true)
def excB (K : PySem.W.Frag) (D : Addr) : Bool := decide (PySem.W.findIn K (.ref D) "__getattribute__" = some (some (.builtin "BaseException.__getattribute__"))) && (decide (PySem.W.findIn K (.ref D) "__getattr__" = some none) && (decide (PySem.W.subIn K (.ref D) (.type "BaseException") = some true) && (decide (PySem.W.hasDictIn K D = true) &&
  (decide (PySem.W.findIn K (.ref D) "__class__" = some (some (.builtin "object.__class__"))) && (decide (PySem.W.specialIn K (.builtin "object.__class__") "__get__" = some (some (.builtin "getset_descriptor.__get__"))) && (decide (PySem.W.takesIn K (.builtin "object.__class__") = some true) && decide (PySem.W.mroIn K D (.type "object") = some true)))))))
def ex (K : PySem.W.Frag) : Bool := ewB K && (excB K (He.ga K "OutOf") && (xfB K (He.ga K "OutOf") && (decide (PySem.W.findIn K (.ref (He.ga K "OutOf")) "what" = some none) && (decide (PySem.W.exmAny K (.ref (He.ga K "OutOf")) (csE K) = some true) && (smB K (He.ga K "Tree") "of" && decide (PySem.W.findIn K (.ref (He.ga K "Tree")) "__bool__" = some none))))))
abbrev hk : PySem.W.Hook := hookY 7 fa fn ts tf sf file0 ex
def ob (s : PySem.W.SharedT) : AlY := obsY 7 fa fn ts tf sf file0 ex (HandSHeadRun.getT s)
theorem ob_eq (s : PySem.W.SharedT) : ob s = hk.obs s.abs := obsY_eq (HandSHeadRun.getT_eq s)
def loose : List Str := (["_wall", "__name__", "BadRota", "BadWorld", "BadTree", "BadPlay", "BadBook", "BadCourse", "BadDie", "BadMill", "BadRoster", "BadScript", "NoTree", "OutOf", "TooMany", "NoSuch", "Ended", "slot_of", "behind_of", "depths_of", "row_of", "shared_row", "first_common", "MOST_SLOTS", "MOST_CHARACTERS", "MOST_DIGITS", "DIGITS", "DONE", "check_length", "lines_of"] : List Str) ++ (["number_of", "is_number_from", "missing_fault", "head_fault", "end_fault", "HEAD", "EMPTY_TREE", "TRUE_WORD", "FALSE_WORD", "word_of_truth", "block_line", "tree_text", "is_block_line", "triple_of_line", "read_tree", "can_stand", "line_of_wrong_triple", "MOST_BLOCKS", "Tree", "tree_from", "common_block", "_law_bag", "_law_draw", "_law_of", "_law_like", "_law_why", "_law_error", "_law_letters", "_law_hands", "_law_late"] : List Str) ++ (["_law_known", "_law_near", "_law_foe_tree", "_law_turned", "_law_rows", "_law_wild", "_law_any", "_law_told", "_law_due", "_law_pairs"] : List Str)
theorem ft_split (f : String → Bool) : (fun s => bif s == "special-get-raises" then f "special-get-raises" else f s) = f := funext fun s => by
  cases e : s == "special-get-raises" with
  | false => simp [e]
  | true => simp [eq_of_beq e]
theorem and3 {α β γ δ : Type} {o : Option α} {f : α → β} {g : α → γ} {h : α → δ} {a : β} {b : γ} {c : δ} (h1 : o.map f = some a) (h2 : o.map g = some b) (h3 : o.map h = some c) : o.map (fun s => (f s, g s, h s)) = some (a, b, c) := by
  cases o with
  | none => cases h1
  | some s =>
    cases h1
    cases h2
    cases h3
    rfl
abbrev wAt (b : Bool) (f : String → Bool) (w : World) : World := { w with params := { w.params with followText := fun s => bif s == "special-get-raises" then b else f s } }
abbrev qv : Program := PySem.W.view R.prog [75]
abbrev rN : Nat := 12000
end My
end

section
set_option Elab.async false
set_option maxRecDepth 100000
set_option maxHeartbeats 4000000
set_option linter.all false
namespace My
open PySem L2
theorem run1_false (f : String → Bool) (w : World) (os : OsState) : (HandSHeadRun.endF (HandSHeadRun.stepQ (HandSHeadRun.denQ HandSHeadRun.tabQ) R.prog (wAt false f w)) rN R.prog (wAt false f w) os).map (fun s => HandSHeadRun.looksF R.prog (PySem.W.boot_heap (wAt false f w).params) s.abs) = some true := by kernel_rfl
end My
end

section
set_option Elab.async false
set_option maxRecDepth 100000
set_option maxHeartbeats 4000000
set_option linter.all false
namespace My
open PySem L2
theorem run2_false (f : String → Bool) (w : World) (os : OsState) : (HandSHeadRun.endF (HandSHeadRun.stepQ (HandSHeadRun.denQ HandSHeadRun.tabQ) R.prog (wAt false f w)) rN R.prog (wAt false f w) os).map (fun s => HandSHeadRun.seenQ qv loose (importedModules R.prog.main.body) (fun s => PySem.W.xlAt qv [] s && PySem.W.recOk R.toRowW.records s) s.abs) = some (PySem.W.openGood qv loose) := by kernel_rfl
end My
end

section
set_option Elab.async false
set_option maxRecDepth 100000
set_option maxHeartbeats 4000000
set_option linter.all false
namespace My
open PySem L2
theorem run3_false (f : String → Bool) (w : World) (os : OsState) : (HandSHeadRun.endF (HandSHeadRun.stepQ (HandSHeadRun.denQ HandSHeadRun.tabQ) R.prog (wAt false f w)) rN R.prog (wAt false f w) os).map (fun s => ob s) = some (hk.val (wAt false f w)) := by kernel_rfl
end My
end

section
set_option Elab.async false
set_option maxRecDepth 100000
set_option maxHeartbeats 4000000
set_option linter.all false
namespace My
open PySem L2
theorem run1_true (f : String → Bool) (w : World) (os : OsState) : (HandSHeadRun.endF (HandSHeadRun.stepQ (HandSHeadRun.denQ HandSHeadRun.tabQ) R.prog (wAt true f w)) rN R.prog (wAt true f w) os).map (fun s => HandSHeadRun.looksF R.prog (PySem.W.boot_heap (wAt true f w).params) s.abs) = some true := by kernel_rfl
end My
end

section
set_option Elab.async false
set_option maxRecDepth 100000
set_option maxHeartbeats 4000000
set_option linter.all false
namespace My
open PySem L2
theorem run2_true (f : String → Bool) (w : World) (os : OsState) : (HandSHeadRun.endF (HandSHeadRun.stepQ (HandSHeadRun.denQ HandSHeadRun.tabQ) R.prog (wAt true f w)) rN R.prog (wAt true f w) os).map (fun s => HandSHeadRun.seenQ qv loose (importedModules R.prog.main.body) (fun s => PySem.W.xlAt qv [] s && PySem.W.recOk R.toRowW.records s) s.abs) = some (PySem.W.openGood qv loose) := by kernel_rfl
end My
end

section
set_option Elab.async false
set_option maxRecDepth 100000
set_option maxHeartbeats 4000000
set_option linter.all false
namespace My
open PySem L2
theorem run3_true (f : String → Bool) (w : World) (os : OsState) : (HandSHeadRun.endF (HandSHeadRun.stepQ (HandSHeadRun.denQ HandSHeadRun.tabQ) R.prog (wAt true f w)) rN R.prog (wAt true f w) os).map (fun s => ob s) = some (hk.val (wAt true f w)) := by kernel_rfl
end My
end

section
set_option Elab.async false
set_option maxRecDepth 100000
set_option maxHeartbeats 4000000
set_option linter.all false
namespace My
open PySem L2
theorem wAt_self (w : World) : wAt (w.params.followText "special-get-raises") w.params.followText w = w := by
  unfold wAt
  rw [ft_split]
theorem run_at (b : Bool) (f : String → Bool) (w : World) (os : OsState) : (HandSHeadRun.endF (HandSHeadRun.stepQ (HandSHeadRun.denQ HandSHeadRun.tabQ) R.prog (wAt b f w)) rN R.prog (wAt b f w) os).map (fun s => (HandSHeadRun.looksF R.prog (PySem.W.boot_heap (wAt b f w).params) s.abs, HandSHeadRun.seenQ qv loose (importedModules R.prog.main.body) (fun s => PySem.W.xlAt qv [] s && PySem.W.recOk R.toRowW.records s) s.abs, ob s)) = some (true, PySem.W.openGood qv loose, hk.val (wAt b f w)) := by
  cases b with
  | false => exact and3 (run1_false f w os) (run2_false f w os) (run3_false f w os)
  | true => exact and3 (run1_true f w os) (run2_true f w os) (run3_true f w os)
theorem run (w : World) : HandSHeadRun.RunEq R qv hk ob rN loose w := fun os => by
  have h := run_at (w.params.followText "special-get-raises") w.params.followText w os
  rw [wAt_self] at h
  exact h
end My
end

section
set_option Elab.async false
set_option maxRecDepth 100000
set_option maxHeartbeats 4000000
set_option linter.all false
namespace My
open PySem L2
abbrev tl (z : Str) : List Nat := z.cps.toList
def L6 : List Nat := [46, 104, 72, 97, 98, 66]
def okL (l : List Nat) : Prop := ∀ c ∈ l, c ∈ L6
theorem tl_len (z : Str) : (tl z).length = z.length := by
  show z.cps.toList.length = z.cps.size
  rw [Array.length_toList]
theorem pl {f : Str} {v : V} {fs : List (Str × V)} {n : Nat} (h : fs.length ≤ n) : (putF f v fs).length ≤ n + 1 := Nat.le_trans (length_putF f v fs) (Nat.succ_le_succ h)
theorem joinL_nil : ∀ L : List (List Nat), TL.joinL [] L = L.flatten
  | [] => rfl
  | [p] => by show p = [p].flatten; simp
  | p :: r :: s => by
    show p ++ ([] ++ TL.joinL [] (r :: s)) = _
    rw [List.nil_append, joinL_nil (r :: s), List.flatten_cons (L := r :: s)]
theorem tl_joined (ys : List Str) : tl (Txt.join "" ys) = (ys.map tl).flatten := by
  rw [TL.join_eq]
  show TL.tl _ = _
  rw [TL.tl_join, show TL.tl ("" : Str) = [] by decide +kernel, joinL_nil]
theorem join_ok {ys : List Str} (h : ∀ y ∈ ys, ∃ d, d ∈ L6 ∧ y = ⟨#[d]⟩) : okL (tl (Txt.join "" ys)) ∧ (Txt.join "" ys).length = ys.length := by
  rw [← tl_len, tl_joined]
  induction ys with
  | nil => exact ⟨(fun c hc => by cases hc), rfl⟩
  | cons y ys ih =>
    obtain ⟨d, hd, rfl⟩ := h y (.head _)
    obtain ⟨i1, i2⟩ := ih (fun z hz => h z (.tail _ hz))
    rw [List.map_cons, List.flatten_cons]
    refine ⟨fun c hc => ?_, ?_⟩
    · rcases List.mem_append.mp hc with z | z
      · have : c = d := by simpa using z
        rw [this]; exact hd
      · exact i1 c z
    · rw [List.length_append, i2]
      show 1 + ys.length = ys.length + 1
      omega
theorem sum_ones : ∀ {ys : List Str}, (∀ y ∈ ys, ∃ d, d ∈ L6 ∧ y = (⟨#[d]⟩ : Str)) → (ys.map (·.length)).sum = ys.length
  | [], _ => rfl
  | y :: ys, h => by
    obtain ⟨d, _, rfl⟩ := h y (.head _)
    rw [List.map_cons, List.sum_cons, sum_ones (fun z hz => h z (.tail _ hz))]
    show 1 + ys.length = ys.length + 1
    omega
/-- the letters that count -/
def fl (l : List Nat) : List Nat := l.filter fun c => decide (c = 97 ∨ c = 104 ∨ c = 72)
theorem str_app_len (x y : Str) : (x ++ y).length = x.length + y.length := by
  rw [TL.len_tl, TL.len_tl, TL.len_tl, TL.tl_append, List.length_append]
end My
end

section
set_option Elab.async false
set_option maxRecDepth 100000
set_option maxHeartbeats 4000000
set_option linter.all false
namespace My
open PySem L2
local macro_rules | `(tactic| acc_open) => `(tactic| with_reducible first
  | refine sqK_nx ?_ | refine sqK_rt ?_ | refine sqK_bk ?_ | refine sqK_ct ?_ | refine sqK_er ?_ | refine bk_ok ?_ | refine bk_er ?_ | refine erO_ok ?_ | refine erO_er ?_
  | refine testK_ok ?_ | refine partK_ok ?_ | refine frz_fz ?_ | refine frz_own ?_ | refine frz_er ?_ | refine own_own ?_ | refine own_er ?_ | refine noR_ok ?_ | refine retD_rt ?_ | refine retD_nx ?_ | refine retD_er ?_
  | refine loopK_nx ?_ | refine loopK_ct ?_ | refine loopK_bk ?_ | refine loopK_rt ?_ | refine loopK_er ?_ | refine objR_ok ?_ | refine objR_er ?_
  | refine q_seq ?_ | refine q_next ?_ | refine q_retN ?_ | refine q_break ?_ | refine q_cont ?_ | refine q_if ?_ | refine q_ret ?_ | refine q_retO ?_ | refine q_drop ?_ | refine q_asg ?_ | refine q_asgO ?_ | refine q_app rfl ?_ | refine q_retV rfl ?_ | refine q_retVo rfl ?_ | refine q_frz rfl ?_ | refine q_frz0 rfl ?_ | refine q_par ?_ | refine q_for ?_ | refine q_forN ?_
  | refine q_name ?_ | refine q_gtup rfl ?_ | refine q_gunl rfl ?_ | refine q_gcons ?_ | refine gcK_ok ?_ | refine q_gnil ?_
  | refine q_bind ?_ | refine q_var rfl ?_ | refine q_varB rfl ?_ | refine q_varBo rfl ?_ | refine q_c ?_ | refine q_op ?_ | refine q_p2 ?_ | refine q_p1 ?_ | refine q_ixK ?_ | refine q_neg ?_ | refine q_pif ?_ | refine q_test ?_ | refine q_tand ?_ | refine q_tor ?_ | refine q_tnot ?_ | refine q_yes ?_ | refine q_tru ?_ | refine truK_bl ?_ | refine truK_int ?_ | refine truK_lst ?_ | refine truK_tup ?_
  | refine q_andV ?_ | refine q_orV ?_ | refine q_notV ?_ | refine andVK_ok ?_ | refine orVK_ok ?_ | refine notVK_ok ?_ | refine q_anil ?_ | refine q_acons ?_ | refine q_tup ?_ | refine q_lst ?_ | refine q_pfrz ?_ | refine q_nopart ?_ | refine q_part ?_ | refine q_slS ?_ | refine slSK_ok ?_ | refine q_slL ?_ | refine slLK_ok ?_ | refine slLK2_ok ?_
  | refine q_len ?_ | refine lenK_l ?_ | refine lenK_t ?_ | refine q_listO ?_ | refine seqK_l ?_ | refine seqK_t ?_ | refine q_cat ?_ | refine q_rep ?_ | refine q_join ?_ | refine joinK_ok ?_
  | refine q_itL ?_ | refine q_itT ?_ | refine q_itS ?_ | refine itLK_ok ?_ | refine itTK_ok ?_ | refine itSK_ok ?_ | refine q_rng1 ?_ | refine q_rng2 ?_ | refine q_rev1 ?_ | refine q_lrg1 ?_ | refine q_lrg2 ?_ | refine q_enum ?_ | refine q_enumS ?_ | refine q_enumSK ?_ | refine enK_ok ?_ | refine enSK_ok ?_ | refine q_zip ?_ | refine zipK_l ?_ | refine zipK_t ?_ | refine q_itRev ?_ | refine q_revL ?_ | refine revK_ok ?_ | refine q_revL2 ?_ | refine rev2K_ok ?_
  | refine q_cnil ?_ | refine q_ccons ?_ | refine q_cbag rfl ?_ | refine q_call ?_ | refine q_call0 ?_ | refine q_callO ?_ | refine q_callO0 ?_ | refine q_callK ?_ | refine q_callK0 ?_ | refine q_make ?_ | refine q_make0 ?_ | refine q_meth ?_ | refine q_meth0 ?_ | refine q_lenC ?_ | refine q_fld ?_ | refine q_isi ?_ | refine q_said ?_ | refine saidK_ok ?_
  | refine k_Plus ?_ | refine k_Minus ?_ | refine k_Lt0 ?_ | refine k_Le0 ?_ | refine k_Gt0 ?_ | refine k_Ge0 ?_ | refine k_EqI ?_ | refine k_EqS ?_ | refine k_EqB ?_ | refine k_NeI ?_ | refine k_NeS ?_ | refine k_NeB ?_ | refine k_IsN ?_ | refine k_NotN ?_ | refine k_InS ?_ | refine k_NotInS ?_ | refine k_Int ?_ | refine k_IntB ?_ | refine q_lc ?_
  | refine q_loose rfl ?_ | refine looseK_bl ?_ | refine looseK_int ?_ | refine looseK_str ?_ | refine looseK_non ?_ | refine looseK_er ?_ | refine n_int ?_ | refine n_str ?_ | refine n_bl ?_ | refine n_lst ?_ | refine n_tup ?_ | refine n_obj ?_ | refine n_non ?_ | refine m_int ?_ | refine m_str ?_ | refine m_bl ?_ | refine m_lst ?_ | refine m_tup ?_ | refine m_obj ?_ | refine m_non ?_
  | refine q_fs ?_ | refine q_j0 ?_ | refine q_j1 ?_ | refine q_fmt ?_ | refine q_split ?_ | refine splitK_ok ?_ | refine q_idx ?_ | refine idxK_ok ?_
  | refine i_t ?_ | refine i_f ?_ | refine i_nt ?_ | refine i_nf ?_)
local macro_rules | `(tactic| acc_peel) => `(tactic| repeat' acc_open)
/-- of this depth, lists and tuples alone, none long -/
def lkP : Nat → PV → Prop
  | 0, .int _ => True
  | 0, .bl _ => True
  | 0, .str _ => True
  | 0, .non => True
  | _ + 1, .int _ => True
  | _ + 1, .bl _ => True
  | _ + 1, .str _ => True
  | _ + 1, .non => True
  | n + 1, .lst ps => ps.length ≤ 1000 ∧ ∀ p ∈ ps, lkP n p
  | n + 1, .tup ps => ps.length ≤ 1000 ∧ ∀ p ∈ ps, lkP n p
  | _, _ => False
theorem isTy_1 {A B : Prop} {t u : String} (e : isTy t u = true) (h : A) : if isTy t u = true then A else B := by rw [if_pos e]; exact h
theorem isTy_0 {A B : Prop} {t u : String} (e : isTy t u = false) (h : B) : if isTy t u = true then A else B := by rw [if_neg (by rw [e]; exact Bool.false_ne_true)]; exact h
theorem lk_int {n : Nat} {i : Int} : lkP n (.int i) := by cases n <;> trivial
theorem lk_bl {n : Nat} {i : Bool} : lkP n (.bl i) := by cases n <;> trivial
theorem lk_str {n : Nat} {i : Str} : lkP n (.str i) := by cases n <;> trivial
theorem lk_non {n : Nat} : lkP n .non := by cases n <;> trivial
theorem lk_ints {n : Nat} {ns : List Int} (h : ns.length ≤ 1000) : lkP (n + 1) (.lst (ns.map PV.int)) := ⟨by rw [List.length_map]; exact h, fun p hp => by obtain ⟨i, _, rfl⟩ := List.mem_map.mp hp; exact lk_int⟩
theorem lp__law_like0 {p : PV} {post : Res RV → Prop} (hp : lkP 0 p) (h : post (.ok (.fz (.bl true)))) : w__law_like0 [.fz p, .fz p] post := by
  unfold w__law_like0 bodyW s_v__law_like0
  cases p with
  | int i =>
    acc_peel
    refine isiK_ok rfl ?_
    acc_peel
    refine isTy_0 rfl ?_
    acc_peel
    refine isiK_ok rfl ?_
    acc_peel
    refine isTy_1 rfl ?_
    acc_peel
    refine isiK_ok rfl ?_
    acc_peel
    refine isTy_1 rfl ?_
    acc_peel
    refine isiK_ok rfl ?_
    acc_peel
    rw [show isTy "int" "bool" = false from rfl]
    acc_peel
    rw [decide_eq_true rfl]
    exact h
  | bl i =>
    acc_peel
    refine isiK_ok rfl ?_
    acc_peel
    refine isTy_1 rfl ?_
    acc_peel
    refine isiK_ok rfl ?_
    acc_peel
    refine isTy_1 rfl ?_
    acc_peel
    rw [decide_eq_true rfl]
    exact h
  | str i =>
    acc_peel
    refine isiK_ok rfl ?_
    acc_peel
    refine isTy_0 rfl ?_
    acc_peel
    refine isiK_ok rfl ?_
    acc_peel
    refine isTy_0 rfl ?_
    acc_peel
    refine isiK_ok rfl ?_
    acc_peel
    refine isTy_1 rfl ?_
    acc_peel
    refine isiK_ok rfl ?_
    acc_peel
    refine isTy_1 rfl ?_
    acc_peel
    rw [decide_eq_true rfl]
    exact h
  | non =>
    acc_peel
    refine isiK_ok rfl ?_
    acc_peel
    refine isTy_0 rfl ?_
    acc_peel
    refine isiK_ok rfl ?_
    acc_peel
    refine isTy_0 rfl ?_
    acc_peel
    refine isiK_ok rfl ?_
    acc_peel
    refine isTy_0 rfl ?_
    acc_peel
    refine isiK_ok rfl ?_
    acc_peel
    refine isTy_0 rfl ?_
    acc_peel
    refine isiK_ok rfl ?_
    acc_peel
    refine isTy_0 rfl ?_
    acc_peel
    exact h
  | lst ps => exact hp.elim
  | tup ps => exact hp.elim
  | obj C fs => exact hp.elim
theorem lp__law_like1 {p : PV} {post : Res RV → Prop} (hp : lkP 1 p) (h : post (.ok (.fz (.bl true)))) : w__law_like1 [.fz p, .fz p] post := by
  unfold w__law_like1 bodyW s_v__law_like1
  cases p with
  | int i =>
    acc_peel
    refine isiK_ok rfl ?_
    acc_peel
    refine isTy_0 rfl ?_
    acc_peel
    refine isiK_ok rfl ?_
    acc_peel
    refine isTy_1 rfl ?_
    acc_peel
    refine isiK_ok rfl ?_
    acc_peel
    refine isTy_1 rfl ?_
    acc_peel
    refine isiK_ok rfl ?_
    acc_peel
    rw [show isTy "int" "bool" = false from rfl]
    acc_peel
    rw [decide_eq_true rfl]
    exact h
  | bl i =>
    acc_peel
    refine isiK_ok rfl ?_
    acc_peel
    refine isTy_1 rfl ?_
    acc_peel
    refine isiK_ok rfl ?_
    acc_peel
    refine isTy_1 rfl ?_
    acc_peel
    rw [decide_eq_true rfl]
    exact h
  | str i =>
    acc_peel
    refine isiK_ok rfl ?_
    acc_peel
    refine isTy_0 rfl ?_
    acc_peel
    refine isiK_ok rfl ?_
    acc_peel
    refine isTy_0 rfl ?_
    acc_peel
    refine isiK_ok rfl ?_
    acc_peel
    refine isTy_1 rfl ?_
    acc_peel
    refine isiK_ok rfl ?_
    acc_peel
    refine isTy_1 rfl ?_
    acc_peel
    rw [decide_eq_true rfl]
    exact h
  | non =>
    acc_peel
    refine isiK_ok rfl ?_
    acc_peel
    refine isTy_0 rfl ?_
    acc_peel
    refine isiK_ok rfl ?_
    acc_peel
    refine isTy_0 rfl ?_
    acc_peel
    refine isiK_ok rfl ?_
    acc_peel
    refine isTy_0 rfl ?_
    acc_peel
    refine isiK_ok rfl ?_
    acc_peel
    refine isTy_0 rfl ?_
    acc_peel
    refine isiK_ok rfl ?_
    acc_peel
    refine isTy_0 rfl ?_
    acc_peel
    exact h
  | lst ps =>
    obtain ⟨hl, hp⟩ := hp
    acc_peel
    refine isiK_ok rfl ?_
    acc_peel
    refine isTy_0 rfl ?_
    acc_peel
    refine isiK_ok rfl ?_
    acc_peel
    refine isTy_0 rfl ?_
    acc_peel
    refine isiK_ok rfl ?_
    acc_peel
    refine isTy_0 rfl ?_
    acc_peel
    refine isiK_ok rfl ?_
    acc_peel
    refine isTy_1 rfl ?_
    acc_peel
    refine isiK_ok rfl ?_
    acc_peel
    refine isiK_ok rfl ?_
    acc_peel
    rw [decide_eq_true rfl]
    acc_peel
    refine isiK_ok rfl ?_
    acc_peel
    refine isiK_ok rfl ?_
    acc_peel
    rw [decide_eq_true rfl]
    acc_peel
    rw [decide_eq_true rfl]
    acc_peel
    refine rg1K_ok ⟨by omega, by omega⟩ ?_
    acc_peel
    rw [rgP_map]
    refine forL_inv (fun i ρ => ∃ v, ρ = [.fz (.lst ps), .fz (.lst ps), v]) ⟨_, rfl⟩ (fun i x ρ K hx hq hk => ?_) (fun ρ hq => ?_)
    · obtain ⟨v, rfl⟩ := hq
      have hi := (List.getElem?_eq_some_iff.mp hx).1
      rw [List.length_range] at hi
      rw [List.getElem?_range hi] at hx
      cases hx
      have hil : i < ps.length := by omega
      have e : L2.atI ps (0 + (i : Int) * 1) = some ps[i] := by
        rw [show (0 : Int) + (i : Int) * 1 = (i : Int) by omega]
        exact atI_nn (Int.natCast_nonneg i) (by rw [Int.toNat_natCast, List.getElem?_eq_getElem hil])
      unfold b0__law_like1
      acc_peel
      refine k_IxaL e ?_
      acc_peel
      refine k_IxaL e ?_
      acc_peel
      refine lp__law_like0 (hp _ (List.getElem_mem hil)) ?_
      acc_peel
      exact hk.nx _ ⟨_, rfl⟩
    · obtain ⟨v, rfl⟩ := hq
      acc_peel
      exact h
  | tup ps =>
    obtain ⟨hl, hp⟩ := hp
    acc_peel
    refine isiK_ok rfl ?_
    acc_peel
    refine isTy_0 rfl ?_
    acc_peel
    refine isiK_ok rfl ?_
    acc_peel
    refine isTy_0 rfl ?_
    acc_peel
    refine isiK_ok rfl ?_
    acc_peel
    refine isTy_0 rfl ?_
    acc_peel
    refine isiK_ok rfl ?_
    acc_peel
    refine isTy_0 rfl ?_
    acc_peel
    refine isiK_ok rfl ?_
    acc_peel
    refine isTy_1 rfl ?_
    acc_peel
    refine isiK_ok rfl ?_
    acc_peel
    refine isiK_ok rfl ?_
    acc_peel
    rw [decide_eq_true rfl]
    acc_peel
    refine isiK_ok rfl ?_
    acc_peel
    refine isiK_ok rfl ?_
    acc_peel
    rw [decide_eq_true rfl]
    acc_peel
    rw [decide_eq_true rfl]
    acc_peel
    refine rg1K_ok ⟨by omega, by omega⟩ ?_
    acc_peel
    rw [rgP_map]
    refine forL_inv (fun i ρ => ∃ v, ρ = [.fz (.tup ps), .fz (.tup ps), v]) ⟨_, rfl⟩ (fun i x ρ K hx hq hk => ?_) (fun ρ hq => ?_)
    · obtain ⟨v, rfl⟩ := hq
      have hi := (List.getElem?_eq_some_iff.mp hx).1
      rw [List.length_range] at hi
      rw [List.getElem?_range hi] at hx
      cases hx
      have hil : i < ps.length := by omega
      have e : L2.atI ps (0 + (i : Int) * 1) = some ps[i] := by
        rw [show (0 : Int) + (i : Int) * 1 = (i : Int) by omega]
        exact atI_nn (Int.natCast_nonneg i) (by rw [Int.toNat_natCast, List.getElem?_eq_getElem hil])
      unfold b0__law_like1
      acc_peel
      refine k_IxaT e ?_
      acc_peel
      refine k_IxaT e ?_
      acc_peel
      refine lp__law_like0 (hp _ (List.getElem_mem hil)) ?_
      acc_peel
      exact hk.nx _ ⟨_, rfl⟩
    · obtain ⟨v, rfl⟩ := hq
      acc_peel
      exact h
  | obj C fs => exact hp.elim
theorem lp__law_like2 {p : PV} {post : Res RV → Prop} (hp : lkP 2 p) (h : post (.ok (.fz (.bl true)))) : w__law_like2 [.fz p, .fz p] post := by
  unfold w__law_like2 bodyW s_v__law_like2
  cases p with
  | int i =>
    acc_peel
    refine isiK_ok rfl ?_
    acc_peel
    refine isTy_0 rfl ?_
    acc_peel
    refine isiK_ok rfl ?_
    acc_peel
    refine isTy_1 rfl ?_
    acc_peel
    refine isiK_ok rfl ?_
    acc_peel
    refine isTy_1 rfl ?_
    acc_peel
    refine isiK_ok rfl ?_
    acc_peel
    rw [show isTy "int" "bool" = false from rfl]
    acc_peel
    rw [decide_eq_true rfl]
    exact h
  | bl i =>
    acc_peel
    refine isiK_ok rfl ?_
    acc_peel
    refine isTy_1 rfl ?_
    acc_peel
    refine isiK_ok rfl ?_
    acc_peel
    refine isTy_1 rfl ?_
    acc_peel
    rw [decide_eq_true rfl]
    exact h
  | str i =>
    acc_peel
    refine isiK_ok rfl ?_
    acc_peel
    refine isTy_0 rfl ?_
    acc_peel
    refine isiK_ok rfl ?_
    acc_peel
    refine isTy_0 rfl ?_
    acc_peel
    refine isiK_ok rfl ?_
    acc_peel
    refine isTy_1 rfl ?_
    acc_peel
    refine isiK_ok rfl ?_
    acc_peel
    refine isTy_1 rfl ?_
    acc_peel
    rw [decide_eq_true rfl]
    exact h
  | non =>
    acc_peel
    refine isiK_ok rfl ?_
    acc_peel
    refine isTy_0 rfl ?_
    acc_peel
    refine isiK_ok rfl ?_
    acc_peel
    refine isTy_0 rfl ?_
    acc_peel
    refine isiK_ok rfl ?_
    acc_peel
    refine isTy_0 rfl ?_
    acc_peel
    refine isiK_ok rfl ?_
    acc_peel
    refine isTy_0 rfl ?_
    acc_peel
    refine isiK_ok rfl ?_
    acc_peel
    refine isTy_0 rfl ?_
    acc_peel
    exact h
  | lst ps =>
    obtain ⟨hl, hp⟩ := hp
    acc_peel
    refine isiK_ok rfl ?_
    acc_peel
    refine isTy_0 rfl ?_
    acc_peel
    refine isiK_ok rfl ?_
    acc_peel
    refine isTy_0 rfl ?_
    acc_peel
    refine isiK_ok rfl ?_
    acc_peel
    refine isTy_0 rfl ?_
    acc_peel
    refine isiK_ok rfl ?_
    acc_peel
    refine isTy_1 rfl ?_
    acc_peel
    refine isiK_ok rfl ?_
    acc_peel
    refine isiK_ok rfl ?_
    acc_peel
    rw [decide_eq_true rfl]
    acc_peel
    refine isiK_ok rfl ?_
    acc_peel
    refine isiK_ok rfl ?_
    acc_peel
    rw [decide_eq_true rfl]
    acc_peel
    rw [decide_eq_true rfl]
    acc_peel
    refine rg1K_ok ⟨by omega, by omega⟩ ?_
    acc_peel
    rw [rgP_map]
    refine forL_inv (fun i ρ => ∃ v, ρ = [.fz (.lst ps), .fz (.lst ps), v]) ⟨_, rfl⟩ (fun i x ρ K hx hq hk => ?_) (fun ρ hq => ?_)
    · obtain ⟨v, rfl⟩ := hq
      have hi := (List.getElem?_eq_some_iff.mp hx).1
      rw [List.length_range] at hi
      rw [List.getElem?_range hi] at hx
      cases hx
      have hil : i < ps.length := by omega
      have e : L2.atI ps (0 + (i : Int) * 1) = some ps[i] := by
        rw [show (0 : Int) + (i : Int) * 1 = (i : Int) by omega]
        exact atI_nn (Int.natCast_nonneg i) (by rw [Int.toNat_natCast, List.getElem?_eq_getElem hil])
      unfold b0__law_like2
      acc_peel
      refine k_IxaL e ?_
      acc_peel
      refine k_IxaL e ?_
      acc_peel
      refine lp__law_like1 (hp _ (List.getElem_mem hil)) ?_
      acc_peel
      exact hk.nx _ ⟨_, rfl⟩
    · obtain ⟨v, rfl⟩ := hq
      acc_peel
      exact h
  | tup ps =>
    obtain ⟨hl, hp⟩ := hp
    acc_peel
    refine isiK_ok rfl ?_
    acc_peel
    refine isTy_0 rfl ?_
    acc_peel
    refine isiK_ok rfl ?_
    acc_peel
    refine isTy_0 rfl ?_
    acc_peel
    refine isiK_ok rfl ?_
    acc_peel
    refine isTy_0 rfl ?_
    acc_peel
    refine isiK_ok rfl ?_
    acc_peel
    refine isTy_0 rfl ?_
    acc_peel
    refine isiK_ok rfl ?_
    acc_peel
    refine isTy_1 rfl ?_
    acc_peel
    refine isiK_ok rfl ?_
    acc_peel
    refine isiK_ok rfl ?_
    acc_peel
    rw [decide_eq_true rfl]
    acc_peel
    refine isiK_ok rfl ?_
    acc_peel
    refine isiK_ok rfl ?_
    acc_peel
    rw [decide_eq_true rfl]
    acc_peel
    rw [decide_eq_true rfl]
    acc_peel
    refine rg1K_ok ⟨by omega, by omega⟩ ?_
    acc_peel
    rw [rgP_map]
    refine forL_inv (fun i ρ => ∃ v, ρ = [.fz (.tup ps), .fz (.tup ps), v]) ⟨_, rfl⟩ (fun i x ρ K hx hq hk => ?_) (fun ρ hq => ?_)
    · obtain ⟨v, rfl⟩ := hq
      have hi := (List.getElem?_eq_some_iff.mp hx).1
      rw [List.length_range] at hi
      rw [List.getElem?_range hi] at hx
      cases hx
      have hil : i < ps.length := by omega
      have e : L2.atI ps (0 + (i : Int) * 1) = some ps[i] := by
        rw [show (0 : Int) + (i : Int) * 1 = (i : Int) by omega]
        exact atI_nn (Int.natCast_nonneg i) (by rw [Int.toNat_natCast, List.getElem?_eq_getElem hil])
      unfold b0__law_like2
      acc_peel
      refine k_IxaT e ?_
      acc_peel
      refine k_IxaT e ?_
      acc_peel
      refine lp__law_like1 (hp _ (List.getElem_mem hil)) ?_
      acc_peel
      exact hk.nx _ ⟨_, rfl⟩
    · obtain ⟨v, rfl⟩ := hq
      acc_peel
      exact h
  | obj C fs => exact hp.elim

end My
end

section
set_option Elab.async false
set_option maxRecDepth 100000
set_option maxHeartbeats 4000000
set_option linter.all false
namespace My
open PySem L2
local macro_rules | `(tactic| acc_open) => `(tactic| with_reducible first
  | refine sqK_nx ?_ | refine sqK_rt ?_ | refine sqK_bk ?_ | refine sqK_ct ?_ | refine sqK_er ?_ | refine bk_ok ?_ | refine bk_er ?_ | refine erO_ok ?_ | refine erO_er ?_
  | refine testK_ok ?_ | refine partK_ok ?_ | refine frz_fz ?_ | refine frz_own ?_ | refine frz_er ?_ | refine own_own ?_ | refine own_er ?_ | refine noR_ok ?_ | refine retD_rt ?_ | refine retD_nx ?_ | refine retD_er ?_
  | refine loopK_nx ?_ | refine loopK_ct ?_ | refine loopK_bk ?_ | refine loopK_rt ?_ | refine loopK_er ?_ | refine objR_ok ?_ | refine objR_er ?_
  | refine q_seq ?_ | refine q_next ?_ | refine q_retN ?_ | refine q_break ?_ | refine q_cont ?_ | refine q_if ?_ | refine q_ret ?_ | refine q_retO ?_ | refine q_drop ?_ | refine q_asg ?_ | refine q_asgO ?_ | refine q_app rfl ?_ | refine q_retV rfl ?_ | refine q_retVo rfl ?_ | refine q_frz rfl ?_ | refine q_frz0 rfl ?_ | refine q_par ?_ | refine q_for ?_ | refine q_forN ?_
  | refine q_name ?_ | refine q_gtup rfl ?_ | refine q_gunl rfl ?_ | refine q_gcons ?_ | refine gcK_ok ?_ | refine q_gnil ?_
  | refine q_bind ?_ | refine q_var rfl ?_ | refine q_varB rfl ?_ | refine q_varBo rfl ?_ | refine q_c ?_ | refine q_op ?_ | refine q_p2 ?_ | refine q_p1 ?_ | refine q_ixK ?_ | refine q_neg ?_ | refine q_pif ?_ | refine q_test ?_ | refine q_tand ?_ | refine q_tor ?_ | refine q_tnot ?_ | refine q_yes ?_ | refine q_tru ?_ | refine truK_bl ?_ | refine truK_int ?_ | refine truK_lst ?_ | refine truK_tup ?_
  | refine q_andV ?_ | refine q_orV ?_ | refine q_notV ?_ | refine andVK_ok ?_ | refine orVK_ok ?_ | refine notVK_ok ?_ | refine q_anil ?_ | refine q_acons ?_ | refine q_tup ?_ | refine q_lst ?_ | refine q_pfrz ?_ | refine q_nopart ?_ | refine q_part ?_ | refine q_slS ?_ | refine slSK_ok ?_ | refine q_slL ?_ | refine slLK_ok ?_ | refine slLK2_ok ?_
  | refine q_len ?_ | refine lenK_l ?_ | refine lenK_t ?_ | refine q_listO ?_ | refine seqK_l ?_ | refine seqK_t ?_ | refine q_cat ?_ | refine q_rep ?_ | refine q_join ?_ | refine joinK_ok ?_
  | refine q_itL ?_ | refine q_itT ?_ | refine q_itS ?_ | refine itLK_ok ?_ | refine itTK_ok ?_ | refine itSK_ok ?_ | refine q_rng1 ?_ | refine q_rng2 ?_ | refine q_rev1 ?_ | refine q_lrg1 ?_ | refine q_lrg2 ?_ | refine q_enum ?_ | refine q_enumS ?_ | refine q_enumSK ?_ | refine enK_ok ?_ | refine enSK_ok ?_ | refine q_zip ?_ | refine zipK_l ?_ | refine zipK_t ?_ | refine q_itRev ?_ | refine q_revL ?_ | refine revK_ok ?_ | refine q_revL2 ?_ | refine rev2K_ok ?_
  | refine q_cnil ?_ | refine q_ccons ?_ | refine q_cbag rfl ?_ | refine q_call ?_ | refine q_call0 ?_ | refine q_callO ?_ | refine q_callO0 ?_ | refine q_callK ?_ | refine q_callK0 ?_ | refine q_make ?_ | refine q_make0 ?_ | refine q_meth ?_ | refine q_meth0 ?_ | refine q_lenC ?_ | refine q_fld ?_ | refine q_isi ?_ | refine q_said ?_ | refine saidK_ok ?_
  | refine k_Plus ?_ | refine k_Minus ?_ | refine k_Lt0 ?_ | refine k_Le0 ?_ | refine k_Gt0 ?_ | refine k_Ge0 ?_ | refine k_EqI ?_ | refine k_EqS ?_ | refine k_EqB ?_ | refine k_NeI ?_ | refine k_NeS ?_ | refine k_NeB ?_ | refine k_IsN ?_ | refine k_NotN ?_ | refine k_InS ?_ | refine k_NotInS ?_ | refine k_Int ?_ | refine k_IntB ?_ | refine q_lc ?_
  | refine q_loose rfl ?_ | refine looseK_bl ?_ | refine looseK_int ?_ | refine looseK_str ?_ | refine looseK_non ?_ | refine looseK_er ?_ | refine n_int ?_ | refine n_str ?_ | refine n_bl ?_ | refine n_lst ?_ | refine n_tup ?_ | refine n_obj ?_ | refine n_non ?_ | refine m_int ?_ | refine m_str ?_ | refine m_bl ?_ | refine m_lst ?_ | refine m_tup ?_ | refine m_obj ?_ | refine m_non ?_
  | refine q_fs ?_ | refine q_j0 ?_ | refine q_j1 ?_ | refine q_fmt ?_ | refine q_split ?_ | refine splitK_ok ?_ | refine q_idx ?_ | refine idxK_ok ?_
  | refine i_t ?_ | refine i_f ?_ | refine i_nt ?_ | refine i_nf ?_)
local macro_rules | `(tactic| acc_peel) => `(tactic| repeat' acc_open)
instance (l : List Nat) : Decidable (okL l) := by unfold okL; infer_instance
theorem lp__law_of {ps : List PV} {post : Res RV → Prop} (hn : ps ≠ []) (hl : ps.length ≤ 1000) (h : ∀ p ∈ ps, post (.ok (.fz p))) : w__law_of [.bag, .fz (.lst ps)] post := by
  have h0 : 0 < ps.length := List.length_pos_iff.mpr hn
  unfold w__law_of bodyW s_v__law_of
  acc_peel
  refine q_draw (by omega) (by omega) (fun d d0 d1 => ?_)
  acc_peel
  have hd : d.toNat < ps.length := by omega
  refine k_IxL (atI_nn d0 (by rw [List.getElem?_eq_getElem hd])) ?_
  acc_peel
  exact h _ (List.getElem_mem hd)
theorem lp__law_ofS {z : Str} {post : Res RV → Prop} (hn : z.length ≠ 0) (hl : z.length ≤ 1000) (h : ∀ d ∈ tl z, post (.ok (.fz (.str ⟨#[d]⟩)))) : w__law_ofS [.bag, .fz (.str z)] post := by
  unfold w__law_ofS bodyW s_v__law_ofS
  acc_peel
  refine k_LenS (by omega) ?_
  acc_peel
  refine q_draw (by omega) (by omega) (fun d d0 d1 => ?_)
  acc_peel
  have hd : d.toNat < z.cps.size := by show d.toNat < z.length; omega
  refine k_ItemS d0 (by omega) (by rw [Array.getElem?_eq_getElem hd]) ?_
  acc_peel
  exact h _ (Array.mem_toList_iff.mpr (Array.getElem_mem hd))
theorem inB_of {i : Int} (h0 : -1000000 ≤ i) (h1 : i ≤ 1000000) : inB i := ⟨by omega, by omega⟩
theorem noBag_fz {p : PV} : ArR.noBag [.fz p] := fun a h => ⟨p, List.mem_singleton.mp h⟩

end My
end

section
set_option Elab.async false
set_option maxRecDepth 100000
set_option maxHeartbeats 4000000
set_option linter.all false
namespace My
open PySem L2
local macro_rules | `(tactic| acc_open) => `(tactic| with_reducible first
  | refine sqK_nx ?_ | refine sqK_rt ?_ | refine sqK_bk ?_ | refine sqK_ct ?_ | refine sqK_er ?_ | refine bk_ok ?_ | refine bk_er ?_ | refine erO_ok ?_ | refine erO_er ?_
  | refine testK_ok ?_ | refine partK_ok ?_ | refine frz_fz ?_ | refine frz_own ?_ | refine frz_er ?_ | refine own_own ?_ | refine own_er ?_ | refine noR_ok ?_ | refine retD_rt ?_ | refine retD_nx ?_ | refine retD_er ?_
  | refine loopK_nx ?_ | refine loopK_ct ?_ | refine loopK_bk ?_ | refine loopK_rt ?_ | refine loopK_er ?_ | refine objR_ok ?_ | refine objR_er ?_
  | refine q_seq ?_ | refine q_next ?_ | refine q_retN ?_ | refine q_break ?_ | refine q_cont ?_ | refine q_if ?_ | refine q_ret ?_ | refine q_retO ?_ | refine q_drop ?_ | refine q_asg ?_ | refine q_asgO ?_ | refine q_app rfl ?_ | refine q_retV rfl ?_ | refine q_retVo rfl ?_ | refine q_frz rfl ?_ | refine q_frz0 rfl ?_ | refine q_par ?_ | refine q_for ?_ | refine q_forN ?_
  | refine q_name ?_ | refine q_gtup rfl ?_ | refine q_gunl rfl ?_ | refine q_gcons ?_ | refine gcK_ok ?_ | refine q_gnil ?_
  | refine q_bind ?_ | refine q_var rfl ?_ | refine q_varB rfl ?_ | refine q_varBo rfl ?_ | refine q_c ?_ | refine q_op ?_ | refine q_p2 ?_ | refine q_p1 ?_ | refine q_ixK ?_ | refine q_neg ?_ | refine q_pif ?_ | refine q_test ?_ | refine q_tand ?_ | refine q_tor ?_ | refine q_tnot ?_ | refine q_yes ?_ | refine q_tru ?_ | refine truK_bl ?_ | refine truK_int ?_ | refine truK_lst ?_ | refine truK_tup ?_
  | refine q_andV ?_ | refine q_orV ?_ | refine q_notV ?_ | refine andVK_ok ?_ | refine orVK_ok ?_ | refine notVK_ok ?_ | refine q_anil ?_ | refine q_acons ?_ | refine q_tup ?_ | refine q_lst ?_ | refine q_pfrz ?_ | refine q_nopart ?_ | refine q_part ?_ | refine q_slS ?_ | refine slSK_ok ?_ | refine q_slL ?_ | refine slLK_ok ?_ | refine slLK2_ok ?_
  | refine q_len ?_ | refine lenK_l ?_ | refine lenK_t ?_ | refine q_listO ?_ | refine seqK_l ?_ | refine seqK_t ?_ | refine q_cat ?_ | refine q_rep ?_ | refine q_join ?_ | refine joinK_ok ?_
  | refine q_itL ?_ | refine q_itT ?_ | refine q_itS ?_ | refine itLK_ok ?_ | refine itTK_ok ?_ | refine itSK_ok ?_ | refine q_rng1 ?_ | refine q_rng2 ?_ | refine q_rev1 ?_ | refine q_lrg1 ?_ | refine q_lrg2 ?_ | refine q_enum ?_ | refine q_enumS ?_ | refine q_enumSK ?_ | refine enK_ok ?_ | refine enSK_ok ?_ | refine q_zip ?_ | refine zipK_l ?_ | refine zipK_t ?_ | refine q_itRev ?_ | refine q_revL ?_ | refine revK_ok ?_ | refine q_revL2 ?_ | refine rev2K_ok ?_
  | refine q_cnil ?_ | refine q_ccons ?_ | refine q_cbag rfl ?_ | refine q_call ?_ | refine q_call0 ?_ | refine q_callO ?_ | refine q_callO0 ?_ | refine q_callK ?_ | refine q_callK0 ?_ | refine q_make ?_ | refine q_make0 ?_ | refine q_meth ?_ | refine q_meth0 ?_ | refine q_lenC ?_ | refine q_fld ?_ | refine q_isi ?_ | refine q_said ?_ | refine saidK_ok ?_
  | refine k_Plus ?_ | refine k_Minus ?_ | refine k_Lt0 ?_ | refine k_Le0 ?_ | refine k_Gt0 ?_ | refine k_Ge0 ?_ | refine k_EqI ?_ | refine k_EqS ?_ | refine k_EqB ?_ | refine k_NeI ?_ | refine k_NeS ?_ | refine k_NeB ?_ | refine k_IsN ?_ | refine k_NotN ?_ | refine k_InS ?_ | refine k_NotInS ?_ | refine k_Int ?_ | refine k_IntB ?_ | refine q_lc ?_
  | refine q_loose rfl ?_ | refine looseK_bl ?_ | refine looseK_int ?_ | refine looseK_str ?_ | refine looseK_non ?_ | refine looseK_er ?_ | refine n_int ?_ | refine n_str ?_ | refine n_bl ?_ | refine n_lst ?_ | refine n_tup ?_ | refine n_obj ?_ | refine n_non ?_ | refine m_int ?_ | refine m_str ?_ | refine m_bl ?_ | refine m_lst ?_ | refine m_tup ?_ | refine m_obj ?_ | refine m_non ?_
  | refine q_fs ?_ | refine q_j0 ?_ | refine q_j1 ?_ | refine q_fmt ?_ | refine q_split ?_ | refine splitK_ok ?_ | refine q_idx ?_ | refine idxK_ok ?_
  | refine i_t ?_ | refine i_f ?_ | refine i_nt ?_ | refine i_nf ?_)
local macro_rules | `(tactic| acc_peel) => `(tactic| repeat' acc_open)
theorem seq_gen {a b : WS} {ρ : List SV} {K : Out → Prop} (P : List SV → Prop) (h1 : ∀ K' : Out → Prop, (∀ ρ', P ρ' → K' (.nx ρ')) → a ρ K') (h2 : ∀ ρ', P ρ' → b ρ' K) : sSeq a b ρ K := q_seq (h1 _ fun ρ' p => sqK_nx (h2 ρ' p))
theorem seq_gen2 {a b : WS} {ρ : List SV} {K : Out → Prop} (P : List SV → Prop) (h1 : ∀ K' : Out → Prop, (∀ ρ', P ρ' → K' (.nx ρ')) → (∀ r, K (.rt r) → K' (.rt r)) → a ρ K') (h2 : ∀ ρ', P ρ' → b ρ' K) : sSeq a b ρ K := q_seq (h1 _ (fun ρ' p => sqK_nx (h2 ρ' p)) fun r h => sqK_rt h)
theorem chK_ok {q' : PV → PV → (Res PV → Prop) → Prop} {wc : WE} {ρ : List SV} {b : PV} {post : Res PV → Prop} {d : Bool} (h : if d = true then wc ρ (bk (fun e => q' b e) post) else post (.ok (.bl false))) : chK q' wc ρ b post (.ok (.bl d)) := h
/-! ### trees: blocks as numbers -/
abbrev Blk : Type := Nat × Bool × Nat
def bP (b : Blk) : PV := .tup [.int (b.1 : Int), .bl b.2.1, .int (b.2.2 : Int)]
abbrev bsP (bs : List Blk) : PV := .lst (bs.map bP)
abbrev nI (n : Nat) : PV := .int (n : Int)
structure okT (bs : List Blk) : Prop where
  len : bs.length ≤ 200
  at_ : ∀ (i : Nat) (b : Blk), bs[i]? = some b → 1 ≤ b.1 ∧ b.1 ≤ 40 ∧ b.2.2 ≤ i
def bhd (bs : List Blk) (k : Nat) : Nat := match bs[k - 1]? with
  | some b => b.2.2
  | none => 0
def rowF (bs : List Blk) : Nat → Nat → List Nat
  | 0, _ => []
  | f + 1, k => if k = 0 then [] else rowF bs f (bhd bs k) ++ [k]
def rowOf (bs : List Blk) (k : Nat) : List Nat := rowF bs k k
theorem okT.bhd_lt {bs : List Blk} (o : okT bs) {k : Nat} (h0 : 0 < k) : bhd bs k < k := by
  unfold bhd
  split
  · rename_i b e
    have := (o.at_ _ _ e).2.2
    omega
  · exact h0
theorem rowF_eq {bs : List Blk} (o : okT bs) : ∀ (n k f g : Nat), k ≤ n → k ≤ f → k ≤ g → rowF bs f k = rowF bs g k
  | 0, k, f, g, h, _, _ => by
    have : k = 0 := by omega
    subst this
    cases f <;> cases g <;> simp [rowF]
  | n + 1, k, f, g, h, hf, hg => by
    by_cases h0 : k = 0
    · subst h0; cases f <;> cases g <;> simp [rowF]
    · have hb := o.bhd_lt (Nat.pos_of_ne_zero h0)
      obtain ⟨f, rfl⟩ : ∃ f', f = f' + 1 := ⟨f - 1, by omega⟩
      obtain ⟨g, rfl⟩ : ∃ g', g = g' + 1 := ⟨g - 1, by omega⟩
      simp only [rowF, if_neg h0]
      rw [rowF_eq o n (bhd bs k) f g (by omega) (by omega) (by omega)]
theorem row_0 {bs : List Blk} : rowOf bs 0 = [] := rfl
theorem row_s {bs : List Blk} (o : okT bs) {k : Nat} (h0 : 0 < k) : rowOf bs k = rowOf bs (bhd bs k) ++ [k] := by
  have hb := o.bhd_lt h0
  obtain ⟨k', rfl⟩ : ∃ k', k = k' + 1 := ⟨k - 1, by omega⟩
  show (if k' + 1 = 0 then [] else rowF bs k' (bhd bs (k' + 1)) ++ [k' + 1]) = _
  rw [if_neg (by omega), rowF_eq o _ _ k' (bhd bs (k' + 1)) (Nat.le_refl _) (by omega) (Nat.le_refl _)]
  rfl
theorem rowF_len {bs : List Blk} : ∀ (f k : Nat), (rowF bs f k).length ≤ f
  | 0, _ => Nat.le_refl 0
  | f + 1, k => by
    unfold rowF
    split
    · simp
    · have := rowF_len (bs := bs) f (bhd bs k)
      rw [List.length_append]
      simp only [List.length_cons, List.length_nil]
      omega
theorem row_len {bs : List Blk} {k : Nat} : (rowOf bs k).length ≤ k := rowF_len k k
theorem bhd_at {bs : List Blk} {i : Nat} {b : Blk} (e : bs[i]? = some b) : bhd bs (i + 1) = b.2.2 := by
  unfold bhd
  rw [Nat.add_sub_cancel, e]
theorem row_at {bs : List Blk} (o : okT bs) {i : Nat} {b : Blk} (e : bs[i]? = some b) : rowOf bs (i + 1) = rowOf bs b.2.2 ++ [i + 1] := by rw [row_s o (by omega), bhd_at e]
def dpL (bs : List Blk) (n : Nat) : List PV := (List.range n).map fun k => nI (rowOf bs k).length
theorem dpL_len {bs : List Blk} {n : Nat} : (dpL bs n).length = n := by unfold dpL; rw [List.length_map, List.length_range]
theorem dpL_s {bs : List Blk} {n : Nat} : dpL bs (n + 1) = dpL bs n ++ [nI (rowOf bs n).length] := by unfold dpL; rw [List.range_succ, List.map_append]; rfl
theorem dpL_at {bs : List Blk} {n k : Nat} (h : k < n) : L2.atI (dpL bs n) (k : Int) = some (nI (rowOf bs k).length) :=
  atI_nn (by omega) (by unfold dpL; rw [Int.toNat_natCast, List.getElem?_map, List.getElem?_range h]; rfl)
theorem bs_at {bs : List Blk} {k : Nat} {b : Blk} (e : bs[k]? = some b) {i : Int} (hi : i = (k : Int)) : L2.atI (bs.map bP) i = some (bP b) := by
  subst hi
  exact atI_nn (by omega) (by rw [Int.toNat_natCast, List.getElem?_map, e]; rfl)
theorem lp_depths_of {bs : List Blk} {post : Res RV → Prop} (o : okT bs) (h : post (.ok (.own (dpL bs (bs.length + 1))))) : w_depths_of [.fz (bsP bs)] post := by
  have hl := o.len
  unfold w_depths_of bodyW s_v_depths_of
  acc_peel
  refine ⟨by simp, ?_⟩
  acc_peel
  refine forL_inv (fun i ρ => ∃ s, ρ = [.fz (bsP bs), .own (dpL bs (i + 1)), s]) ⟨_, rfl⟩ (fun i b ρ K hb hp hk => ?_) (fun ρ hp => ?_)
  · obtain ⟨s, rfl⟩ := hp
    obtain ⟨_, _, b3⟩ := o.at_ i b hb
    have hi := (List.getElem?_eq_some_iff.mp hb).1
    refine q_name (erO_ok ?_)
    unfold b0_depths_of
    acc_peel
    refine k_IxT (p := nI b.2.2) rfl ?_
    acc_peel
    refine k_IxL (dpL_at (by omega)) ?_
    acc_peel
    refine ⟨by rw [dpL_len]; omega, hk.nx _ ⟨.fz (bP b), ?_⟩⟩
    rw [dpL_s (n := i + 1), row_at o hb, List.length_append]
    rfl
  · obtain ⟨s, rfl⟩ := hp
    acc_peel
    exact h

end My
end

section
set_option Elab.async false
set_option maxRecDepth 100000
set_option maxHeartbeats 4000000
set_option linter.all false
namespace My
open PySem L2
local macro_rules | `(tactic| acc_open) => `(tactic| with_reducible first
  | refine sqK_nx ?_ | refine sqK_rt ?_ | refine sqK_bk ?_ | refine sqK_ct ?_ | refine sqK_er ?_ | refine bk_ok ?_ | refine bk_er ?_ | refine erO_ok ?_ | refine erO_er ?_
  | refine testK_ok ?_ | refine partK_ok ?_ | refine frz_fz ?_ | refine frz_own ?_ | refine frz_er ?_ | refine own_own ?_ | refine own_er ?_ | refine noR_ok ?_ | refine retD_rt ?_ | refine retD_nx ?_ | refine retD_er ?_
  | refine loopK_nx ?_ | refine loopK_ct ?_ | refine loopK_bk ?_ | refine loopK_rt ?_ | refine loopK_er ?_ | refine objR_ok ?_ | refine objR_er ?_
  | refine q_seq ?_ | refine q_next ?_ | refine q_retN ?_ | refine q_break ?_ | refine q_cont ?_ | refine q_if ?_ | refine q_ret ?_ | refine q_retO ?_ | refine q_drop ?_ | refine q_asg ?_ | refine q_asgO ?_ | refine q_app rfl ?_ | refine q_retV rfl ?_ | refine q_retVo rfl ?_ | refine q_frz rfl ?_ | refine q_frz0 rfl ?_ | refine q_par ?_ | refine q_for ?_ | refine q_forN ?_
  | refine q_name ?_ | refine q_gtup rfl ?_ | refine q_gunl rfl ?_ | refine q_gcons ?_ | refine gcK_ok ?_ | refine q_gnil ?_
  | refine q_bind ?_ | refine q_var rfl ?_ | refine q_varB rfl ?_ | refine q_varBo rfl ?_ | refine q_c ?_ | refine q_op ?_ | refine q_p2 ?_ | refine q_p1 ?_ | refine q_ixK ?_ | refine q_neg ?_ | refine q_pif ?_ | refine q_test ?_ | refine q_tand ?_ | refine q_tor ?_ | refine q_tnot ?_ | refine q_yes ?_ | refine q_tru ?_ | refine truK_bl ?_ | refine truK_int ?_ | refine truK_lst ?_ | refine truK_tup ?_
  | refine q_andV ?_ | refine q_orV ?_ | refine q_notV ?_ | refine andVK_ok ?_ | refine orVK_ok ?_ | refine notVK_ok ?_ | refine q_anil ?_ | refine q_acons ?_ | refine q_tup ?_ | refine q_lst ?_ | refine q_pfrz ?_ | refine q_nopart ?_ | refine q_part ?_ | refine q_slS ?_ | refine slSK_ok ?_ | refine q_slL ?_ | refine slLK_ok ?_ | refine slLK2_ok ?_
  | refine q_len ?_ | refine lenK_l ?_ | refine lenK_t ?_ | refine q_listO ?_ | refine seqK_l ?_ | refine seqK_t ?_ | refine q_cat ?_ | refine q_rep ?_ | refine q_join ?_ | refine joinK_ok ?_
  | refine q_itL ?_ | refine q_itT ?_ | refine q_itS ?_ | refine itLK_ok ?_ | refine itTK_ok ?_ | refine itSK_ok ?_ | refine q_rng1 ?_ | refine q_rng2 ?_ | refine q_rev1 ?_ | refine q_lrg1 ?_ | refine q_lrg2 ?_ | refine q_enum ?_ | refine q_enumS ?_ | refine q_enumSK ?_ | refine enK_ok ?_ | refine enSK_ok ?_ | refine q_zip ?_ | refine zipK_l ?_ | refine zipK_t ?_ | refine q_itRev ?_ | refine q_revL ?_ | refine revK_ok ?_ | refine q_revL2 ?_ | refine rev2K_ok ?_
  | refine q_cnil ?_ | refine q_ccons ?_ | refine q_cbag rfl ?_ | refine q_call ?_ | refine q_call0 ?_ | refine q_callO ?_ | refine q_callO0 ?_ | refine q_callK ?_ | refine q_callK0 ?_ | refine q_make ?_ | refine q_make0 ?_ | refine q_meth ?_ | refine q_meth0 ?_ | refine q_lenC ?_ | refine q_fld ?_ | refine q_isi ?_ | refine q_said ?_ | refine saidK_ok ?_
  | refine k_Plus ?_ | refine k_Minus ?_ | refine k_Lt0 ?_ | refine k_Le0 ?_ | refine k_Gt0 ?_ | refine k_Ge0 ?_ | refine k_EqI ?_ | refine k_EqS ?_ | refine k_EqB ?_ | refine k_NeI ?_ | refine k_NeS ?_ | refine k_NeB ?_ | refine k_IsN ?_ | refine k_NotN ?_ | refine k_InS ?_ | refine k_NotInS ?_ | refine k_Int ?_ | refine k_IntB ?_ | refine q_lc ?_
  | refine q_loose rfl ?_ | refine looseK_bl ?_ | refine looseK_int ?_ | refine looseK_str ?_ | refine looseK_non ?_ | refine looseK_er ?_ | refine n_int ?_ | refine n_str ?_ | refine n_bl ?_ | refine n_lst ?_ | refine n_tup ?_ | refine n_obj ?_ | refine n_non ?_ | refine m_int ?_ | refine m_str ?_ | refine m_bl ?_ | refine m_lst ?_ | refine m_tup ?_ | refine m_obj ?_ | refine m_non ?_
  | refine q_fs ?_ | refine q_j0 ?_ | refine q_j1 ?_ | refine q_fmt ?_ | refine q_split ?_ | refine splitK_ok ?_ | refine q_idx ?_ | refine idxK_ok ?_
  | refine i_t ?_ | refine i_f ?_ | refine i_nt ?_ | refine i_nf ?_)
local macro_rules | `(tactic| acc_peel) => `(tactic| repeat' acc_open)
theorem q_tellB {et : ErTab} {ws : WS} {ρ : List SV} {post : Out → Prop} (h : ws (ρ.map SV.hide) (tellBK et post)) : sTellB et ws ρ post := h
theorem lp_slot_of {bs : List Blk} {k : Nat} {post : Res RV → Prop} (h0 : k = 0 → post (.ok (.fz (.int 0)))) (h1 : k ≠ 0 → ∃ b, bs[k - 1]? = some b ∧ post (.ok (.fz (.int (b.1 : Int))))) : w_slot_of [.fz (bsP bs), .fz (.int (k : Int))] post := by
  unfold w_slot_of bodyW s_v_slot_of
  acc_peel
  refine i_dec (fun e => ?_) (fun e => ?_)
  · acc_peel
    exact h0 (by omega)
  · obtain ⟨b, e2, h⟩ := h1 (by omega)
    acc_peel
    refine k_IxL (bs_at e2 (by omega)) ?_
    acc_peel
    refine k_IxT (p := .int (b.1 : Int)) rfl ?_
    acc_peel
    exact h
theorem lp_behind_of {bs : List Blk} {k : Nat} {b : Blk} {post : Res RV → Prop} (h0 : 0 < k) (e : bs[k - 1]? = some b) (h : post (.ok (.fz (.int (b.2.2 : Int))))) : w_behind_of [.fz (bsP bs), .fz (.int (k : Int))] post := by
  unfold w_behind_of bodyW s_v_behind_of
  acc_peel
  refine k_IxL (bs_at e (by omega)) ?_
  acc_peel
  refine k_IxT (p := .int (b.2.2 : Int)) rfl ?_
  acc_peel
  exact h
def nsL (ns : List Nat) : List PV := ns.map nI
theorem lp_row_of {bs : List Blk} {k : Nat} {post : Res RV → Prop} (o : okT bs) (hk : k ≤ bs.length) (h : post (.ok (.own (nsL (rowOf bs k))))) : w_row_of [.fz (bsP bs), .fz (.int (k : Int))] post := by
  have hl := o.len
  unfold w_row_of bodyW s_v_row_of
  acc_peel
  refine ⟨by simp, ?_⟩
  acc_peel
  refine q_while (k + 1) ?_
  have key : ∀ (n at_ : Nat) (back : List Nat), at_ < n → at_ ≤ k → rowOf bs k = rowOf bs at_ ++ back.reverse → whW (pTest (pOp qNe (pVar 3) (pC (.int 0)))) b0_row_of n [.fz (bsP bs), .fz (.int (k : Int)), .own (nsL back), .fz (.int (at_ : Int))] (sqK (sRetO (pRevL (pVarB 2))) (retD post)) := by
    intro n
    induction n with
    | zero => intro at_ back h; omega
    | succ n ih =>
      intro at_ back hn hle hr
      refine q_whS ?_
      acc_peel
      refine i_ndec (fun e => ?_) (fun e => ?_)
      · have h0 : 0 < at_ := by omega
        have hlt : at_ - 1 < bs.length := by omega
        have hb := o.bhd_lt h0
        have hbl : back.length ≤ 1000 := by
          have e1 := congrArg List.length hr
          have e2 := row_len (bs := bs) (k := k)
          rw [List.length_append, List.length_reverse] at e1
          omega
        unfold b0_row_of
        acc_peel
        refine ⟨by unfold nsL; rw [List.length_map]; omega, ?_⟩
        acc_peel
        refine lp_behind_of h0 (List.getElem?_eq_getElem hlt) ?_
        acc_peel
        refine whK_nx ?_
        have e3 : bhd bs at_ = (bs[at_ - 1]).2.2 := by unfold bhd; rw [List.getElem?_eq_getElem hlt]
        rw [← e3]
        have := ih (bhd bs at_) (back ++ [at_]) (by omega) (by omega) (by rw [hr, row_s o h0, List.reverse_append, List.append_assoc]; rfl)
        unfold nsL at this ⊢
        rw [List.map_append] at this
        exact this
      · have e : at_ = 0 := by omega
        subst e
        acc_peel
        rw [row_0, List.nil_append] at hr
        unfold nsL at h ⊢
        rw [hr, List.map_reverse] at h
        exact h
  exact key (k + 1) k [] (by omega) (Nat.le_refl _) (by simp)
theorem txt_len {i : Nat} (h : i ≤ 400) : (Str.ofString (toString (i : Int))).length ≤ 10 := by
  have : ∀ i : Fin 401, (Str.ofString (toString ((i : Nat) : Int))).length ≤ 10 := by decide +kernel
  exact this ⟨i, by omega⟩

end My
end

section
set_option Elab.async false
set_option maxRecDepth 100000
set_option maxHeartbeats 4000000
set_option linter.all false
namespace My
open PySem L2
local macro_rules | `(tactic| acc_open) => `(tactic| with_reducible first
  | refine sqK_nx ?_ | refine sqK_rt ?_ | refine sqK_bk ?_ | refine sqK_ct ?_ | refine sqK_er ?_ | refine bk_ok ?_ | refine bk_er ?_ | refine erO_ok ?_ | refine erO_er ?_
  | refine testK_ok ?_ | refine partK_ok ?_ | refine frz_fz ?_ | refine frz_own ?_ | refine frz_er ?_ | refine own_own ?_ | refine own_er ?_ | refine noR_ok ?_ | refine retD_rt ?_ | refine retD_nx ?_ | refine retD_er ?_
  | refine loopK_nx ?_ | refine loopK_ct ?_ | refine loopK_bk ?_ | refine loopK_rt ?_ | refine loopK_er ?_ | refine objR_ok ?_ | refine objR_er ?_
  | refine q_seq ?_ | refine q_next ?_ | refine q_retN ?_ | refine q_break ?_ | refine q_cont ?_ | refine q_if ?_ | refine q_ret ?_ | refine q_retO ?_ | refine q_drop ?_ | refine q_asg ?_ | refine q_asgO ?_ | refine q_app rfl ?_ | refine q_retV rfl ?_ | refine q_retVo rfl ?_ | refine q_frz rfl ?_ | refine q_frz0 rfl ?_ | refine q_par ?_ | refine q_for ?_ | refine q_forN ?_
  | refine q_name ?_ | refine q_gtup rfl ?_ | refine q_gunl rfl ?_ | refine q_gcons ?_ | refine gcK_ok ?_ | refine q_gnil ?_
  | refine q_bind ?_ | refine q_var rfl ?_ | refine q_varB rfl ?_ | refine q_varBo rfl ?_ | refine q_c ?_ | refine q_op ?_ | refine q_p2 ?_ | refine q_p1 ?_ | refine q_ixK ?_ | refine q_neg ?_ | refine q_pif ?_ | refine q_test ?_ | refine q_tand ?_ | refine q_tor ?_ | refine q_tnot ?_ | refine q_yes ?_ | refine q_tru ?_ | refine truK_bl ?_ | refine truK_int ?_ | refine truK_lst ?_ | refine truK_tup ?_
  | refine q_andV ?_ | refine q_orV ?_ | refine q_notV ?_ | refine andVK_ok ?_ | refine orVK_ok ?_ | refine notVK_ok ?_ | refine q_anil ?_ | refine q_acons ?_ | refine q_tup ?_ | refine q_lst ?_ | refine q_pfrz ?_ | refine q_nopart ?_ | refine q_part ?_ | refine q_slS ?_ | refine slSK_ok ?_ | refine q_slL ?_ | refine slLK_ok ?_ | refine slLK2_ok ?_
  | refine q_len ?_ | refine lenK_l ?_ | refine lenK_t ?_ | refine q_listO ?_ | refine seqK_l ?_ | refine seqK_t ?_ | refine q_cat ?_ | refine q_rep ?_ | refine q_join ?_ | refine joinK_ok ?_
  | refine q_itL ?_ | refine q_itT ?_ | refine q_itS ?_ | refine itLK_ok ?_ | refine itTK_ok ?_ | refine itSK_ok ?_ | refine q_rng1 ?_ | refine q_rng2 ?_ | refine q_rev1 ?_ | refine q_lrg1 ?_ | refine q_lrg2 ?_ | refine q_enum ?_ | refine q_enumS ?_ | refine q_enumSK ?_ | refine enK_ok ?_ | refine enSK_ok ?_ | refine q_zip ?_ | refine zipK_l ?_ | refine zipK_t ?_ | refine q_itRev ?_ | refine q_revL ?_ | refine revK_ok ?_ | refine q_revL2 ?_ | refine rev2K_ok ?_
  | refine q_cnil ?_ | refine q_ccons ?_ | refine q_cbag rfl ?_ | refine q_call ?_ | refine q_call0 ?_ | refine q_callO ?_ | refine q_callO0 ?_ | refine q_callK ?_ | refine q_callK0 ?_ | refine q_make ?_ | refine q_make0 ?_ | refine q_meth ?_ | refine q_meth0 ?_ | refine q_lenC ?_ | refine q_fld ?_ | refine q_isi ?_ | refine q_said ?_ | refine saidK_ok ?_
  | refine k_Plus ?_ | refine k_Minus ?_ | refine k_Lt0 ?_ | refine k_Le0 ?_ | refine k_Gt0 ?_ | refine k_Ge0 ?_ | refine k_EqI ?_ | refine k_EqS ?_ | refine k_EqB ?_ | refine k_NeI ?_ | refine k_NeS ?_ | refine k_NeB ?_ | refine k_IsN ?_ | refine k_NotN ?_ | refine k_InS ?_ | refine k_NotInS ?_ | refine k_Int ?_ | refine k_IntB ?_ | refine q_lc ?_
  | refine q_loose rfl ?_ | refine looseK_bl ?_ | refine looseK_int ?_ | refine looseK_str ?_ | refine looseK_non ?_ | refine looseK_er ?_ | refine n_int ?_ | refine n_str ?_ | refine n_bl ?_ | refine n_lst ?_ | refine n_tup ?_ | refine n_obj ?_ | refine n_non ?_ | refine m_int ?_ | refine m_str ?_ | refine m_bl ?_ | refine m_lst ?_ | refine m_tup ?_ | refine m_obj ?_ | refine m_non ?_
  | refine q_fs ?_ | refine q_j0 ?_ | refine q_j1 ?_ | refine q_fmt ?_ | refine q_split ?_ | refine splitK_ok ?_ | refine q_idx ?_ | refine idxK_ok ?_
  | refine i_t ?_ | refine i_f ?_ | refine i_nt ?_ | refine i_nf ?_)
local macro_rules | `(tactic| acc_peel) => `(tactic| repeat' acc_open)
theorem sjoin_len (z : Str) : ∀ zs : List Str, (Str.join z zs).length ≤ (zs.map (·.length)).sum + zs.length * z.length
  | [] => Nat.zero_le _
  | [x] => by show x.length ≤ _; simp
  | x :: y :: r => by
    have ih := sjoin_len z (y :: r)
    show (x ++ z ++ Str.join z (y :: r)).length ≤ _
    rw [str_app_len, str_app_len]
    simp only [List.map_cons, List.sum_cons, List.length_cons] at ih ⊢
    have : (r.length + 1 + 1) * z.length = (r.length + 1) * z.length + z.length := Nat.succ_mul _ _
    omega
theorem tjoin_len (z : Str) (zs : List Str) : (Txt.join z zs).length ≤ (zs.map (·.length)).sum + zs.length * z.length := by
  rw [TL.join_eq]; exact sjoin_len z zs
theorem lp_word {t : Bool} {post : Res RV → Prop} (h : ∀ z : Str, z.length ≤ 5 → post (.ok (.fz (.str z)))) : w_word_of_truth [.fz (.bl t)] post := by
  unfold w_word_of_truth bodyW s_v_word_of_truth
  cases t <;> acc_peel <;> exact h _ (by decide +kernel)
theorem log_le {i : Int} (h0 : 0 ≤ i) (h1 : i ≤ 400) : i.natAbs.log2 < 1920 := Nat.lt_of_le_of_lt (Nat.log2_le_self _) (by omega)
theorem lp_block_line {k : Nat} {b : Blk} {post : Res RV → Prop} (hk : k ≤ 400) (h1 : b.1 ≤ 400) (h2 : b.2.2 ≤ 400) (h : ∀ z : Str, z.length ≤ 100 → post (.ok (.fz (.str z)))) : w_block_line [.fz (.int (k : Int)), .fz (bP b)] post := by
  have t1 := txt_len hk
  have t2 := txt_len h1
  have t3 := txt_len h2
  unfold w_block_line bodyW s_v_block_line
  acc_peel
  refine q_gtup (ps := [.int (b.1 : Int), .bl b.2.1, .int (b.2.2 : Int)]) rfl ?_
  acc_peel
  refine jK_ok (by decide +kernel) ?_
  have l0 : (Str.empty ++ "block " : Str).length = 6 := by decide +kernel
  acc_peel
  refine fmtK_i (log_le (by omega) (by omega)) ?_
  acc_peel
  refine jK_ok (by rw [str_app_len]; omega) ?_
  acc_peel
  refine jK_ok (by rw [str_app_len, str_app_len, show (" slot " : Str).length = 6 by decide +kernel]; omega) ?_
  acc_peel
  refine fmtK_i (log_le (by omega) (by omega)) ?_
  acc_peel
  refine jK_ok (by rw [str_app_len, str_app_len, str_app_len, show (" slot " : Str).length = 6 by decide +kernel]; omega) ?_
  acc_peel
  refine jK_ok (by rw [str_app_len, str_app_len, str_app_len, str_app_len, show (" slot " : Str).length = 6 by decide +kernel, show (" " : Str).length = 1 by decide +kernel]; omega) ?_
  acc_peel
  refine lp_word (fun z hz => ?_)
  acc_peel
  refine fmtK_s (by omega) ?_
  acc_peel
  refine jK_ok (by rw [str_app_len, str_app_len, str_app_len, str_app_len, str_app_len, show (" slot " : Str).length = 6 by decide +kernel, show (" " : Str).length = 1 by decide +kernel]; omega) ?_
  acc_peel
  refine jK_ok (by rw [str_app_len, str_app_len, str_app_len, str_app_len, str_app_len, str_app_len, show (" slot " : Str).length = 6 by decide +kernel, show (" " : Str).length = 1 by decide +kernel, show (" behind " : Str).length = 8 by decide +kernel]; omega) ?_
  acc_peel
  refine fmtK_i (log_le (by omega) (by omega)) ?_
  acc_peel
  have l9 : (Str.empty ++ "block " ++ Str.ofString (toString (k : Int)) ++ " slot " ++ Str.ofString (toString (b.1 : Int)) ++ " " ++ z ++ " behind " ++ Str.ofString (toString (b.2.2 : Int)) : Str).length ≤ 100 := by
    rw [str_app_len, str_app_len, str_app_len, str_app_len, str_app_len, str_app_len, str_app_len, show (" slot " : Str).length = 6 by decide +kernel, show (" " : Str).length = 1 by decide +kernel, show (" behind " : Str).length = 8 by decide +kernel]; omega
  refine jK_ok (by omega) ?_
  acc_peel
  exact h _ l9

end My
end

section
set_option Elab.async false
set_option maxRecDepth 100000
set_option maxHeartbeats 4000000
set_option linter.all false
namespace My
open PySem L2
local macro_rules | `(tactic| acc_open) => `(tactic| with_reducible first
  | refine sqK_nx ?_ | refine sqK_rt ?_ | refine sqK_bk ?_ | refine sqK_ct ?_ | refine sqK_er ?_ | refine bk_ok ?_ | refine bk_er ?_ | refine erO_ok ?_ | refine erO_er ?_
  | refine testK_ok ?_ | refine partK_ok ?_ | refine frz_fz ?_ | refine frz_own ?_ | refine frz_er ?_ | refine own_own ?_ | refine own_er ?_ | refine noR_ok ?_ | refine retD_rt ?_ | refine retD_nx ?_ | refine retD_er ?_
  | refine loopK_nx ?_ | refine loopK_ct ?_ | refine loopK_bk ?_ | refine loopK_rt ?_ | refine loopK_er ?_ | refine objR_ok ?_ | refine objR_er ?_
  | refine q_seq ?_ | refine q_next ?_ | refine q_retN ?_ | refine q_break ?_ | refine q_cont ?_ | refine q_if ?_ | refine q_ret ?_ | refine q_retO ?_ | refine q_drop ?_ | refine q_asg ?_ | refine q_asgO ?_ | refine q_app rfl ?_ | refine q_retV rfl ?_ | refine q_retVo rfl ?_ | refine q_frz rfl ?_ | refine q_frz0 rfl ?_ | refine q_par ?_ | refine q_for ?_ | refine q_forN ?_
  | refine q_name ?_ | refine q_gtup rfl ?_ | refine q_gunl rfl ?_ | refine q_gcons ?_ | refine gcK_ok ?_ | refine q_gnil ?_
  | refine q_bind ?_ | refine q_var rfl ?_ | refine q_varB rfl ?_ | refine q_varBo rfl ?_ | refine q_c ?_ | refine q_op ?_ | refine q_p2 ?_ | refine q_p1 ?_ | refine q_ixK ?_ | refine q_neg ?_ | refine q_pif ?_ | refine q_test ?_ | refine q_tand ?_ | refine q_tor ?_ | refine q_tnot ?_ | refine q_yes ?_ | refine q_tru ?_ | refine truK_bl ?_ | refine truK_int ?_ | refine truK_lst ?_ | refine truK_tup ?_
  | refine q_andV ?_ | refine q_orV ?_ | refine q_notV ?_ | refine andVK_ok ?_ | refine orVK_ok ?_ | refine notVK_ok ?_ | refine q_anil ?_ | refine q_acons ?_ | refine q_tup ?_ | refine q_lst ?_ | refine q_pfrz ?_ | refine q_nopart ?_ | refine q_part ?_ | refine q_slS ?_ | refine slSK_ok ?_ | refine q_slL ?_ | refine slLK_ok ?_ | refine slLK2_ok ?_
  | refine q_len ?_ | refine lenK_l ?_ | refine lenK_t ?_ | refine q_listO ?_ | refine seqK_l ?_ | refine seqK_t ?_ | refine q_cat ?_ | refine q_rep ?_ | refine q_join ?_ | refine joinK_ok ?_
  | refine q_itL ?_ | refine q_itT ?_ | refine q_itS ?_ | refine itLK_ok ?_ | refine itTK_ok ?_ | refine itSK_ok ?_ | refine q_rng1 ?_ | refine q_rng2 ?_ | refine q_rev1 ?_ | refine q_lrg1 ?_ | refine q_lrg2 ?_ | refine q_enum ?_ | refine q_enumS ?_ | refine q_enumSK ?_ | refine enK_ok ?_ | refine enSK_ok ?_ | refine q_zip ?_ | refine zipK_l ?_ | refine zipK_t ?_ | refine q_itRev ?_ | refine q_revL ?_ | refine revK_ok ?_ | refine q_revL2 ?_ | refine rev2K_ok ?_
  | refine q_cnil ?_ | refine q_ccons ?_ | refine q_cbag rfl ?_ | refine q_call ?_ | refine q_call0 ?_ | refine q_callO ?_ | refine q_callO0 ?_ | refine q_callK ?_ | refine q_callK0 ?_ | refine q_make ?_ | refine q_make0 ?_ | refine q_meth ?_ | refine q_meth0 ?_ | refine q_lenC ?_ | refine q_fld ?_ | refine q_isi ?_ | refine q_said ?_ | refine saidK_ok ?_
  | refine k_Plus ?_ | refine k_Minus ?_ | refine k_Lt0 ?_ | refine k_Le0 ?_ | refine k_Gt0 ?_ | refine k_Ge0 ?_ | refine k_EqI ?_ | refine k_EqS ?_ | refine k_EqB ?_ | refine k_NeI ?_ | refine k_NeS ?_ | refine k_NeB ?_ | refine k_IsN ?_ | refine k_NotN ?_ | refine k_InS ?_ | refine k_NotInS ?_ | refine k_Int ?_ | refine k_IntB ?_ | refine q_lc ?_
  | refine q_loose rfl ?_ | refine looseK_bl ?_ | refine looseK_int ?_ | refine looseK_str ?_ | refine looseK_non ?_ | refine looseK_er ?_ | refine n_int ?_ | refine n_str ?_ | refine n_bl ?_ | refine n_lst ?_ | refine n_tup ?_ | refine n_obj ?_ | refine n_non ?_ | refine m_int ?_ | refine m_str ?_ | refine m_bl ?_ | refine m_lst ?_ | refine m_tup ?_ | refine m_obj ?_ | refine m_non ?_
  | refine q_fs ?_ | refine q_j0 ?_ | refine q_j1 ?_ | refine q_fmt ?_ | refine q_split ?_ | refine splitK_ok ?_ | refine q_idx ?_ | refine idxK_ok ?_
  | refine i_t ?_ | refine i_f ?_ | refine i_nt ?_ | refine i_nf ?_)
local macro_rules | `(tactic| acc_peel) => `(tactic| repeat' acc_open)
theorem enum_at {ps : List PV} {k : Int} {i : Nat} {x : PV} (h : (enumP k ps)[i]? = some x) : ∃ p, ps[i]? = some p ∧ x = .tup [.int (k + (i : Int)), p] := by
  have hi : i < ps.length := by have := (List.getElem?_eq_some_iff.mp h).1; rw [enumP_len] at this; exact this
  refine ⟨ps[i], by rw [List.getElem?_eq_getElem hi], ?_⟩
  rw [enumP_at (p := ps[i]) (by rw [List.getElem?_eq_getElem hi])] at h
  cases h; rfl
theorem enum_blk {bs : List Blk} {i : Nat} {x : PV} (h : (enumP 0 (bs.map bP))[i]? = some x) : ∃ b, bs[i]? = some b ∧ x = .tup [.int (i : Int), bP b] := by
  obtain ⟨p, h1, h2⟩ := enum_at h
  rw [List.getElem?_map] at h1
  cases e : bs[i]? with
  | none => rw [e] at h1; cases h1
  | some b => rw [e] at h1; cases h1; exact ⟨b, rfl, by rw [h2, Int.zero_add]⟩
theorem lp_tree_text {bs : List Blk} {post : Res RV → Prop} (o : okT bs) (h : ∀ z : Str, post (.ok (.fz (.str z)))) : w_tree_text [.fz (bsP bs)] post := by
  have hl := o.len
  unfold w_tree_text bodyW s_v_tree_text
  refine seq_gen (fun ρ => ρ = [.fz (bsP bs), .own [.str "tree"], .un, .un]) (fun K' hk => ?_) (fun ρ e => ?_)
  · acc_peel
    refine ⟨by simp, ?_⟩
    exact hk _ rfl
  subst e
  refine seq_gen (fun ρ => ∃ (zs : List Str) (s t : SV), ρ = [.fz (bsP bs), .own (zs.map PV.str), s, t] ∧ zs.length = bs.length + 1 ∧ ∀ z ∈ zs, z.length ≤ 100) (fun K' hk => ?_) (fun ρ e => ?_)
  · acc_peel
    refine forW_inv (fun i ρ => ∃ (zs : List Str) (s t : SV), ρ = [.fz (bsP bs), .own (zs.map PV.str), s, t] ∧ zs.length = i + 1 ∧ ∀ z ∈ zs, z.length ≤ 100) ⟨["tree"], .un, .un, rfl, rfl, by decide +kernel⟩ (fun i x ρ K hx hp kk => ?_) (fun ρ hp => ?_)
    · obtain ⟨zs, s, t, rfl, zl, zd⟩ := hp
      obtain ⟨b, hb, rfl⟩ := enum_blk hx
      obtain ⟨b1, b2, b3⟩ := o.at_ i b hb
      have hi := (List.getElem?_eq_some_iff.mp hb).1
      unfold b0_tree_text
      acc_peel
      rw [show (i : Int) + 1 = ((i + 1 : Nat) : Int) by omega]
      refine lp_block_line (by omega) (by omega) (by omega) (fun z hz => ?_)
      acc_peel
      refine ⟨by rw [List.length_map]; omega, kk.nx _ ⟨zs ++ [z], .fz (.int (i : Int)), .fz (bP b), by rw [List.map_append]; rfl, by rw [List.length_append, zl]; rfl, fun y hy => ?_⟩⟩
      rcases List.mem_append.mp hy with q | q
      · exact zd y q
      · rw [List.mem_singleton.mp q]; exact hz
    · rw [enumP_len, List.length_map] at hp
      exact hk _ hp
  obtain ⟨zs, s, t, rfl, zl, zd⟩ := e
  acc_peel
  refine ⟨by rw [List.length_map]; omega, ?_⟩
  have zd2 : ∀ z ∈ zs ++ [("done" : Str)], z.length ≤ 100 := fun z hz => by
    rcases List.mem_append.mp hz with q | q
    · exact zd z q
    · rw [List.mem_singleton.mp q]; decide +kernel
  have hs : ((zs ++ [("done" : Str)]).map (·.length)).sum ≤ (zs ++ [("done" : Str)]).length * 100 := by
    have : ∀ l : List Str, (∀ z ∈ l, z.length ≤ 100) → (l.map (·.length)).sum ≤ l.length * 100 := fun l => by
      induction l with
      | nil => intro _; exact Nat.le_refl _
      | cons a l ih =>
        intro h
        have h1 := h a (.head _)
        have h2 := ih fun z hz => h z (.tail _ hz)
        simp only [List.map_cons, List.sum_cons, List.length_cons]
        omega
    exact this _ zd2
  have hn : (zs ++ [("done" : Str)]).length = bs.length + 2 := by rw [List.length_append, zl]; rfl
  rw [hn] at hs
  have l1 : ("\n" : Str).length = 1 := by decide +kernel
  acc_peel
  refine qJoin_ok (zs := zs ++ [("done" : Str)]) (by rw [show zs.map PV.str ++ [PV.str "done"] = (zs ++ [("done" : Str)]).map PV.str by rw [List.map_append]; rfl]; exact strL_map _) (by rw [hn, l1]; omega) ?_
  acc_peel
  have := tjoin_len "\n" (zs ++ [("done" : Str)])
  rw [hn, l1] at this
  refine k_AddS (by rw [l1]; omega) ?_
  acc_peel
  exact h _
theorem okT_nil : okT [] := ⟨by simp, fun i b h => by simp at h⟩
abbrev ET : Str := "tree\ndone\n"
theorem lp_lines_of {post : Res RV → Prop} (h : post (.ok (.fz (.tup [.lst [.str "tree", .str "done"], .str ""])))) : w_lines_of [.fz (.str ET)] post := by
  unfold w_lines_of bodyW s_v_lines_of
  acc_peel
  refine splitK2_ok (by decide +kernel) (by decide +kernel) ?_
  rw [show Txt.split ET "\n" = [("tree" : Str), ("done" : Str), ("" : Str)] by decide +kernel]
  simp only [List.map_cons, List.map_nil]
  acc_peel
  refine k_IxL (p := .str "") rfl ?_
  acc_peel
  exact ⟨by simp, h⟩
theorem lp_head_fault {post : Res RV → Prop} (h : post (.ok (.fz .non))) : w_head_fault [.fz (.lst [.str "tree", .str "done"]), .fz (.str ""), .fz (.str "tree")] post := by
  unfold w_head_fault bodyW s_v_head_fault
  acc_peel
  refine i_dec (fun e => absurd e (by decide)) (fun _ => ?_)
  acc_peel
  refine k_IxL (p := .str "tree") rfl ?_
  acc_peel
  refine i_ndec (fun e => absurd rfl e) (fun _ => ?_)
  acc_peel
  exact h
theorem lp_end_fault {post : Res RV → Prop} (h : post (.ok (.fz .non))) : w_end_fault [.fz (.lst [.str "tree", .str "done"]), .fz (.str ""), .fz (.int 1)] post := by
  unfold w_end_fault bodyW s_v_end_fault
  acc_peel
  refine i_dec (fun e => absurd e (by decide)) (fun _ => ?_)
  acc_peel
  refine i_ndec (fun e => absurd rfl e) (fun _ => ?_)
  acc_peel
  exact h
theorem lp_read_tree {post : Res RV → Prop} (h : post (.ok (.fz (.tup [.lst [], .non])))) : w_read_tree [.fz (.str ET)] post := by
  unfold w_read_tree bodyW s_v_read_tree
  acc_peel
  refine lp_lines_of ?_
  acc_peel
  refine lp_head_fault ?_
  acc_peel
  refine ⟨by simp, ?_⟩
  acc_peel
  refine rg2K_ok (inB_of (by decide) (by decide)) (inB_of (by decide) (by decide)) ?_
  acc_peel
  show forW _ _ [.int 1] _ _
  refine q_forC (q_name (erO_ok ?_))
  unfold b0_read_tree
  acc_peel
  refine k_IxL (p := .str "done") rfl ?_
  acc_peel
  refine i_dec (fun _ => ?_) (fun e => absurd rfl e)
  acc_peel
  refine lp_end_fault ?_
  acc_peel
  exact ⟨by simp, h⟩
abbrev trF (bs : List Blk) (t : Str) : List (Str × PV) := [("_blocks", bsP bs), ("_depths", .lst (dpL bs (bs.length + 1))), ("text", .str t)]
abbrev treeP (bs : List Blk) (t : Str) : PV := .obj "Tree" (trF bs t)
theorem lp_check_length {z : Str} {post : Res RV → Prop} (hl : z.length ≤ 1000) (h : post (.ok (.fz .non))) : w_check_length [.fz (.str z)] post := by
  unfold w_check_length bodyW s_v_check_length
  acc_peel
  refine k_LenS (by omega) ?_
  acc_peel
  refine i_dec (fun e => absurd e (by omega)) (fun _ => ?_)
  acc_peel
  exact h
theorem lp_Tree___init__ {post : Res (List (Str × PV)) → Prop} (h : post (.ok (trF [] ET))) : w_Tree___init__ [.fz (.str ET)] post := by
  unfold w_Tree___init__ bodyN s_v_Tree___init__
  acc_peel
  refine lp_check_length (by decide +kernel) ?_
  acc_peel
  refine lp_read_tree ?_
  acc_peel
  refine i_dec (fun e => absurd e (by decide)) (fun _ => ?_)
  acc_peel
  refine q_fldW (q_var rfl (erO_ok ⟨by decide, by show 0 < 1000; decide, ?_⟩))
  acc_peel
  refine q_fldW ?_
  acc_peel
  refine lp_depths_of (bs := []) okT_nil ?_
  acc_peel
  refine ⟨by decide, by show 1 < 1000; decide, ?_⟩
  acc_peel
  refine q_fldW (q_var rfl (erO_ok ⟨by decide, by show 2 < 1000; decide, ?_⟩))
  exact ⟨rfl, h⟩
theorem lp_tree_from {bs : List Blk} {post : Res RV → Prop} (o : okT bs) (h : ∀ t, post (.ok (.fz (treeP bs t)))) : w_tree_from [.fz (bsP bs)] post := by
  unfold w_tree_from bodyW s_v_tree_from
  refine seq_gen (fun ρ => ρ = [.fz (bsP bs), .cel (.nob "Tree" (trF [] ET))]) (fun K' hk => ?_) (fun ρ e => ?_)
  · unfold sAsgN
    acc_peel
    refine ⟨noBag_fz, lp_Tree___init__ ?_⟩
    exact hk _ rfl
  subst e
  refine seq_gen (fun ρ => ρ = [.fz (bsP bs), .cel (.nob "Tree" [("_blocks", bsP bs), ("_depths", .lst (dpL [] 1)), ("text", .str ET)])]) (fun K' hk => ?_) (fun ρ e => ?_)
  · unfold sFldN
    acc_peel
    exact ⟨"Tree", _, rfl, by decide, by show 3 < 1000; decide, hk _ rfl⟩
  subst e
  refine seq_gen (fun ρ => ρ = [.fz (bsP bs), .cel (.nob "Tree" [("_blocks", bsP bs), ("_depths", .lst (dpL bs (bs.length + 1))), ("text", .str ET)])]) (fun K' hk => ?_) (fun ρ e => ?_)
  · unfold sFldN
    acc_peel
    refine lp_depths_of o ?_
    acc_peel
    exact ⟨"Tree", _, rfl, by decide, by show 3 < 1000; decide, hk _ rfl⟩
  subst e
  refine seq_gen (fun ρ => ∃ t, ρ = [.fz (bsP bs), .cel (.nob "Tree" (trF bs t))]) (fun K' hk => ?_) (fun ρ e => ?_)
  · unfold sFldN
    acc_peel
    refine lp_tree_text o (fun t => ?_)
    acc_peel
    exact ⟨"Tree", _, rfl, by decide, by show 3 < 1000; decide, hk _ ⟨t, rfl⟩⟩
  obtain ⟨t, rfl⟩ := e
  exact ⟨"Tree", _, rfl, h t⟩

end My
end

section
set_option Elab.async false
set_option maxRecDepth 100000
set_option maxHeartbeats 4000000
set_option linter.all false
namespace My
open PySem L2
local macro_rules | `(tactic| acc_open) => `(tactic| with_reducible first
  | refine sqK_nx ?_ | refine sqK_rt ?_ | refine sqK_bk ?_ | refine sqK_ct ?_ | refine sqK_er ?_ | refine bk_ok ?_ | refine bk_er ?_ | refine erO_ok ?_ | refine erO_er ?_
  | refine testK_ok ?_ | refine partK_ok ?_ | refine frz_fz ?_ | refine frz_own ?_ | refine frz_er ?_ | refine own_own ?_ | refine own_er ?_ | refine noR_ok ?_ | refine retD_rt ?_ | refine retD_nx ?_ | refine retD_er ?_
  | refine loopK_nx ?_ | refine loopK_ct ?_ | refine loopK_bk ?_ | refine loopK_rt ?_ | refine loopK_er ?_ | refine objR_ok ?_ | refine objR_er ?_
  | refine q_seq ?_ | refine q_next ?_ | refine q_retN ?_ | refine q_break ?_ | refine q_cont ?_ | refine q_if ?_ | refine q_ret ?_ | refine q_retO ?_ | refine q_drop ?_ | refine q_asg ?_ | refine q_asgO ?_ | refine q_app rfl ?_ | refine q_retV rfl ?_ | refine q_retVo rfl ?_ | refine q_frz rfl ?_ | refine q_frz0 rfl ?_ | refine q_par ?_ | refine q_for ?_ | refine q_forN ?_
  | refine q_name ?_ | refine q_gtup rfl ?_ | refine q_gunl rfl ?_ | refine q_gcons ?_ | refine gcK_ok ?_ | refine q_gnil ?_
  | refine q_bind ?_ | refine q_var rfl ?_ | refine q_varB rfl ?_ | refine q_varBo rfl ?_ | refine q_c ?_ | refine q_op ?_ | refine q_p2 ?_ | refine q_p1 ?_ | refine q_ixK ?_ | refine q_neg ?_ | refine q_pif ?_ | refine q_test ?_ | refine q_tand ?_ | refine q_tor ?_ | refine q_tnot ?_ | refine q_yes ?_ | refine q_tru ?_ | refine truK_bl ?_ | refine truK_int ?_ | refine truK_lst ?_ | refine truK_tup ?_
  | refine q_andV ?_ | refine q_orV ?_ | refine q_notV ?_ | refine andVK_ok ?_ | refine orVK_ok ?_ | refine notVK_ok ?_ | refine q_anil ?_ | refine q_acons ?_ | refine q_tup ?_ | refine q_lst ?_ | refine q_pfrz ?_ | refine q_nopart ?_ | refine q_part ?_ | refine q_slS ?_ | refine slSK_ok ?_ | refine q_slL ?_ | refine slLK_ok ?_ | refine slLK2_ok ?_
  | refine q_len ?_ | refine lenK_l ?_ | refine lenK_t ?_ | refine q_listO ?_ | refine seqK_l ?_ | refine seqK_t ?_ | refine q_cat ?_ | refine q_rep ?_ | refine q_join ?_ | refine joinK_ok ?_
  | refine q_itL ?_ | refine q_itT ?_ | refine q_itS ?_ | refine itLK_ok ?_ | refine itTK_ok ?_ | refine itSK_ok ?_ | refine q_rng1 ?_ | refine q_rng2 ?_ | refine q_rev1 ?_ | refine q_lrg1 ?_ | refine q_lrg2 ?_ | refine q_enum ?_ | refine q_enumS ?_ | refine q_enumSK ?_ | refine enK_ok ?_ | refine enSK_ok ?_ | refine q_zip ?_ | refine zipK_l ?_ | refine zipK_t ?_ | refine q_itRev ?_ | refine q_revL ?_ | refine revK_ok ?_ | refine q_revL2 ?_ | refine rev2K_ok ?_
  | refine q_cnil ?_ | refine q_ccons ?_ | refine q_cbag rfl ?_ | refine q_call ?_ | refine q_call0 ?_ | refine q_callO ?_ | refine q_callO0 ?_ | refine q_callK ?_ | refine q_callK0 ?_ | refine q_make ?_ | refine q_make0 ?_ | refine q_meth ?_ | refine q_meth0 ?_ | refine q_lenC ?_ | refine q_fld ?_ | refine q_isi ?_ | refine q_said ?_ | refine saidK_ok ?_
  | refine k_Plus ?_ | refine k_Minus ?_ | refine k_Lt0 ?_ | refine k_Le0 ?_ | refine k_Gt0 ?_ | refine k_Ge0 ?_ | refine k_EqI ?_ | refine k_EqS ?_ | refine k_EqB ?_ | refine k_NeI ?_ | refine k_NeS ?_ | refine k_NeB ?_ | refine k_IsN ?_ | refine k_NotN ?_ | refine k_InS ?_ | refine k_NotInS ?_ | refine k_Int ?_ | refine k_IntB ?_ | refine q_lc ?_
  | refine q_loose rfl ?_ | refine looseK_bl ?_ | refine looseK_int ?_ | refine looseK_str ?_ | refine looseK_non ?_ | refine looseK_er ?_ | refine n_int ?_ | refine n_str ?_ | refine n_bl ?_ | refine n_lst ?_ | refine n_tup ?_ | refine n_obj ?_ | refine n_non ?_ | refine m_int ?_ | refine m_str ?_ | refine m_bl ?_ | refine m_lst ?_ | refine m_tup ?_ | refine m_obj ?_ | refine m_non ?_
  | refine q_fs ?_ | refine q_j0 ?_ | refine q_j1 ?_ | refine q_fmt ?_ | refine q_split ?_ | refine splitK_ok ?_ | refine q_idx ?_ | refine idxK_ok ?_
  | refine i_t ?_ | refine i_f ?_ | refine i_nt ?_ | refine i_nf ?_)
local macro_rules | `(tactic| acc_peel) => `(tactic| repeat' acc_open)
theorem lp_can_stand {b : Blk} {n : Nat} {post : Res RV → Prop} (h1 : 1 ≤ b.1) (h2 : b.1 ≤ 40) (h3 : b.2.2 < n) (h : post (.ok (.fz (.bl true)))) : w_can_stand [.fz (bP b), .fz (.int (n : Int))] post := by
  unfold w_can_stand bodyW s_v_can_stand
  acc_peel
  refine q_gtup (ps := [.int (b.1 : Int), .bl b.2.1, .int (b.2.2 : Int)]) rfl ?_
  acc_peel
  refine q_chain ?_
  acc_peel
  refine chK_ok ?_
  refine i_dec (fun _ => ?_) (fun e => absurd (by omega) e)
  acc_peel
  refine i_dec (fun _ => ?_) (fun e => absurd (by omega) e)
  refine q_chain ?_
  acc_peel
  refine chK_ok ?_
  refine i_dec (fun _ => ?_) (fun e => absurd (by omega) e)
  acc_peel
  rw [decide_eq_true (show (b.2.2 : Int) < (n : Int) by omega)]
  exact h
theorem lp_line_of_wrong {bs : List Blk} {post : Res RV → Prop} (o : okT bs) (h : post (.ok (.fz .non))) : w_line_of_wrong_triple [.fz (bsP bs)] post := by
  have hl := o.len
  unfold w_line_of_wrong_triple bodyW s_v_line_of_wrong_triple
  acc_peel
  refine forW_inv (fun i ρ => ∃ s t, ρ = [.fz (bsP bs), s, t]) ⟨.un, .un, rfl⟩ (fun i x ρ K hx hp kk => ?_) (fun ρ hp => ?_)
  · obtain ⟨s, t, rfl⟩ := hp
    obtain ⟨b, hb, rfl⟩ := enum_blk hx
    obtain ⟨b1, b2, b3⟩ := o.at_ i b hb
    unfold b0_line_of_wrong_triple
    acc_peel
    rw [show (i : Int) + 1 = ((i + 1 : Nat) : Int) by omega]
    refine lp_can_stand b1 b2 (by omega) ?_
    acc_peel
    exact kk.nx _ ⟨_, _, rfl⟩
  · obtain ⟨s, t, rfl⟩ := hp
    acc_peel
    exact h
theorem lp_Tree_of {bs : List Blk} {post : Res RV → Prop} (o : okT bs) (h : ∀ t, post (.ok (.fz (treeP bs t)))) : w_Tree_of [.fz (bsP bs)] post := by
  have hl := o.len
  unfold w_Tree_of bodyW s_v_Tree_of
  refine seq_gen (fun ρ => ρ = [.fz (bsP bs), .fz (bsP bs), .un, .un, .un, .un]) (fun K' hk => ?_) (fun ρ e => ?_)
  · acc_peel
    refine lc_map (f := bP) bP (by omega) (fun b acc K hb hk ha => ?_) ?_
    · refine q_gtup (ps := [.int (b.1 : Int), .bl b.2.1, .int (b.2.2 : Int)]) rfl ?_
      acc_peel
      refine lk1_ok (q_yes (lk2_b (i_t ?_)))
      acc_peel
      refine ⟨by simp, ?_⟩
      acc_peel
      exact lk3_ok ha hk
    · acc_peel
      exact hk _ rfl
  subst e
  refine seq_gen (fun ρ => ρ = [.fz (bsP bs), .fz (bsP bs), .un, .un, .un, .fz .non]) (fun K' hk => ?_) (fun ρ e => ?_)
  · acc_peel
    refine lp_line_of_wrong o ?_
    acc_peel
    exact hk _ rfl
  subst e
  acc_peel
  refine i_dec (fun e => absurd e (by rw [List.length_map]; omega)) (fun _ => ?_)
  acc_peel
  refine lp_tree_from o (fun t => ?_)
  acc_peel
  exact h t
theorem lp_contains {bs : List Blk} {t : Str} {i : Int} {post : Res RV → Prop} (h : post (.ok (.fz (.bl (decide (0 ≤ i ∧ i ≤ (bs.length : Int))))))) : w_Tree___contains__ [.fz (treeP bs t), .fz (.int i)] post := by
  unfold w_Tree___contains__ bodyW s_v_Tree___contains__
  acc_peel
  refine q_chain ?_
  acc_peel
  refine chK_ok ?_
  refine i_dec (fun h0 => ?_) (fun h0 => ?_)
  · acc_peel
    refine fldK_ok (p := bsP bs) (by decide) rfl ?_
    acc_peel
    rw [List.length_map, show decide (i ≤ (bs.length : Int)) = decide (0 ≤ i ∧ i ≤ (bs.length : Int)) from decide_eq_decide.mpr ⟨fun z => ⟨h0, z⟩, fun z => z.2⟩]
    exact h
  · acc_peel
    rw [decide_eq_false (show ¬ (0 ≤ i ∧ i ≤ (bs.length : Int)) from fun z => h0 z.1)] at h
    exact h
theorem q_inT {bs : List Blk} {t : Str} {i : Int} {neg : Bool} {j k : Nat} {ρ : List SV} {pE : Res PV → Prop} (e1 : ρ[j]? = some (.fz (.int i))) (e2 : ρ[k]? = some (.fz (treeP bs t))) (h : pE (.ok (.bl (if neg then !decide (0 ≤ i ∧ i ≤ (bs.length : Int)) else decide (0 ≤ i ∧ i ≤ (bs.length : Int)))))) : pInO neg "Tree" w_Tree___contains__ (pVar j) (pVar k) ρ pE := by
  refine q_inO (q_var e1 (bk_ok (q_bind (q_var e2 (bk_ok (inOK2_ok (lp_contains (frz_fz ?_))))))))
  exact h
abbrev outB : List (Str × PV) := [("what", .str "block")]

end My
end

section
set_option Elab.async false
set_option maxRecDepth 100000
set_option maxHeartbeats 4000000
set_option linter.all false
namespace My
open PySem L2
local macro_rules | `(tactic| acc_open) => `(tactic| with_reducible first
  | refine sqK_nx ?_ | refine sqK_rt ?_ | refine sqK_bk ?_ | refine sqK_ct ?_ | refine sqK_er ?_ | refine bk_ok ?_ | refine bk_er ?_ | refine erO_ok ?_ | refine erO_er ?_
  | refine testK_ok ?_ | refine partK_ok ?_ | refine frz_fz ?_ | refine frz_own ?_ | refine frz_er ?_ | refine own_own ?_ | refine own_er ?_ | refine noR_ok ?_ | refine retD_rt ?_ | refine retD_nx ?_ | refine retD_er ?_
  | refine loopK_nx ?_ | refine loopK_ct ?_ | refine loopK_bk ?_ | refine loopK_rt ?_ | refine loopK_er ?_ | refine objR_ok ?_ | refine objR_er ?_
  | refine q_seq ?_ | refine q_next ?_ | refine q_retN ?_ | refine q_break ?_ | refine q_cont ?_ | refine q_if ?_ | refine q_ret ?_ | refine q_retO ?_ | refine q_drop ?_ | refine q_asg ?_ | refine q_asgO ?_ | refine q_app rfl ?_ | refine q_retV rfl ?_ | refine q_retVo rfl ?_ | refine q_frz rfl ?_ | refine q_frz0 rfl ?_ | refine q_par ?_ | refine q_for ?_ | refine q_forN ?_
  | refine q_name ?_ | refine q_gtup rfl ?_ | refine q_gunl rfl ?_ | refine q_gcons ?_ | refine gcK_ok ?_ | refine q_gnil ?_
  | refine q_bind ?_ | refine q_var rfl ?_ | refine q_varB rfl ?_ | refine q_varBo rfl ?_ | refine q_c ?_ | refine q_op ?_ | refine q_p2 ?_ | refine q_p1 ?_ | refine q_ixK ?_ | refine q_neg ?_ | refine q_pif ?_ | refine q_test ?_ | refine q_tand ?_ | refine q_tor ?_ | refine q_tnot ?_ | refine q_yes ?_ | refine q_tru ?_ | refine truK_bl ?_ | refine truK_int ?_ | refine truK_lst ?_ | refine truK_tup ?_
  | refine q_andV ?_ | refine q_orV ?_ | refine q_notV ?_ | refine andVK_ok ?_ | refine orVK_ok ?_ | refine notVK_ok ?_ | refine q_anil ?_ | refine q_acons ?_ | refine q_tup ?_ | refine q_lst ?_ | refine q_pfrz ?_ | refine q_nopart ?_ | refine q_part ?_ | refine q_slS ?_ | refine slSK_ok ?_ | refine q_slL ?_ | refine slLK_ok ?_ | refine slLK2_ok ?_
  | refine q_len ?_ | refine lenK_l ?_ | refine lenK_t ?_ | refine q_listO ?_ | refine seqK_l ?_ | refine seqK_t ?_ | refine q_cat ?_ | refine q_rep ?_ | refine q_join ?_ | refine joinK_ok ?_
  | refine q_itL ?_ | refine q_itT ?_ | refine q_itS ?_ | refine itLK_ok ?_ | refine itTK_ok ?_ | refine itSK_ok ?_ | refine q_rng1 ?_ | refine q_rng2 ?_ | refine q_rev1 ?_ | refine q_lrg1 ?_ | refine q_lrg2 ?_ | refine q_enum ?_ | refine q_enumS ?_ | refine q_enumSK ?_ | refine enK_ok ?_ | refine enSK_ok ?_ | refine q_zip ?_ | refine zipK_l ?_ | refine zipK_t ?_ | refine q_itRev ?_ | refine q_revL ?_ | refine revK_ok ?_ | refine q_revL2 ?_ | refine rev2K_ok ?_
  | refine q_cnil ?_ | refine q_ccons ?_ | refine q_cbag rfl ?_ | refine q_call ?_ | refine q_call0 ?_ | refine q_callO ?_ | refine q_callO0 ?_ | refine q_callK ?_ | refine q_callK0 ?_ | refine q_make ?_ | refine q_make0 ?_ | refine q_meth ?_ | refine q_meth0 ?_ | refine q_lenC ?_ | refine q_fld ?_ | refine q_isi ?_ | refine q_said ?_ | refine saidK_ok ?_
  | refine k_Plus ?_ | refine k_Minus ?_ | refine k_Lt0 ?_ | refine k_Le0 ?_ | refine k_Gt0 ?_ | refine k_Ge0 ?_ | refine k_EqI ?_ | refine k_EqS ?_ | refine k_EqB ?_ | refine k_NeI ?_ | refine k_NeS ?_ | refine k_NeB ?_ | refine k_IsN ?_ | refine k_NotN ?_ | refine k_InS ?_ | refine k_NotInS ?_ | refine k_Int ?_ | refine k_IntB ?_ | refine q_lc ?_
  | refine q_loose rfl ?_ | refine looseK_bl ?_ | refine looseK_int ?_ | refine looseK_str ?_ | refine looseK_non ?_ | refine looseK_er ?_ | refine n_int ?_ | refine n_str ?_ | refine n_bl ?_ | refine n_lst ?_ | refine n_tup ?_ | refine n_obj ?_ | refine n_non ?_ | refine m_int ?_ | refine m_str ?_ | refine m_bl ?_ | refine m_lst ?_ | refine m_tup ?_ | refine m_obj ?_ | refine m_non ?_
  | refine q_fs ?_ | refine q_j0 ?_ | refine q_j1 ?_ | refine q_fmt ?_ | refine q_split ?_ | refine splitK_ok ?_ | refine q_idx ?_ | refine idxK_ok ?_
  | refine i_t ?_ | refine i_f ?_ | refine i_nt ?_ | refine i_nf ?_)
local macro_rules | `(tactic| acc_peel) => `(tactic| repeat' acc_open)
theorem lp__law_letters {n : Int} {post : Res RV → Prop} (n0 : 0 ≤ n) (n1 : n ≤ 40) (h : ∀ z : Str, z.length ≤ 40 → post (.ok (.fz (.str z)))) : w__law_letters [.bag, .fz (.int n)] post := by
  unfold w__law_letters bodyW s_v__law_letters
  acc_peel
  refine ⟨by decide, ?_⟩
  acc_peel
  refine lp__law_of (by exact List.cons_ne_nil _ _) (by decide) (fun p hp => ?_)
  have hz : ∃ z : Str, p = .str z ∧ z.length ≠ 0 ∧ z.length ≤ 1000 ∧ okL (tl z) := by
    have : ∀ z ∈ ([".hHabB", "hhhHa", "hhab", "aahbH", "..hhHa", "hHHa", "h.h.a.bB", "hBbH", "H.Hb", "abB"] : List Str), z.length ≠ 0 ∧ z.length ≤ 1000 ∧ okL (tl z) := by decide +kernel
    have hp : p ∈ ([".hHabB", "hhhHa", "hhab", "aahbH", "..hhHa", "hHHa", "h.h.a.bB", "hBbH", "H.Hb", "abB"] : List Str).map PV.str := hp
    obtain ⟨z, hz, rfl⟩ := List.mem_map.mp hp
    exact ⟨z, rfl, this z hz⟩
  clear hp
  obtain ⟨z, rfl, z0, z1, zk⟩ := hz
  acc_peel
  refine q_draw (by omega) (by omega) (fun n2 m0 m1 => ?_)
  acc_peel
  refine rg1K_ok (inB_of (by omega) (by omega)) ?_
  acc_peel
  rw [rgP_map]
  refine lcL_inv (fun i acc => ∃ zs : List Str, acc = zs.map PV.str ∧ zs.length = i ∧ ∀ y ∈ zs, ∃ d, d ∈ L6 ∧ y = (⟨#[d]⟩ : Str)) ⟨[], rfl, rfl, fun y h => by cases h⟩ (fun i x acc K hx hp hk => ?_) (fun acc hp => ?_)
  · obtain ⟨zs, rfl, zl, zd⟩ := hp
    have hi := (List.getElem?_eq_some_iff.mp hx).1
    rw [List.length_range] at hi
    refine q_name (lk1_ok (q_yes (lk2_b (i_t ?_))))
    acc_peel
    refine lp__law_ofS z0 z1 (fun d hd => ?_)
    acc_peel
    refine lk3_ok (by rw [List.length_map]; omega) (hk _ ⟨zs ++ [⟨#[d]⟩], by rw [List.map_append]; rfl, by rw [List.length_append, zl]; rfl, fun y hy => ?_⟩)
    rcases List.mem_append.mp hy with q | q
    · exact zd y q
    · rw [List.mem_singleton.mp q]; exact ⟨d, zk d hd, rfl⟩
  · obtain ⟨zs, rfl, zl, zd⟩ := hp
    rw [List.length_range] at zl
    obtain ⟨j1, j2⟩ := join_ok zd
    acc_peel
    refine qJoin_ok (strL_map zs) ?_ ?_
    · rw [sum_ones zd, show ("" : Str).length = 0 by decide +kernel, Nat.mul_zero]; omega
    acc_peel
    exact h _ (by rw [j2, zl]; omega)
theorem lp__law_late {post : Res RV → Prop} (h : ∀ d : Int, post (.ok (.fz (.int d)))) : w__law_late [.bag] post := by
  unfold w__law_late bodyW s_v__law_late
  acc_peel
  refine ⟨by decide, ?_⟩
  acc_peel
  refine lp__law_of (by exact List.cons_ne_nil _ _) (by decide) (fun p hp => ?_)
  have : ∃ d : Int, p = .int d := by
    have hp : p ∈ ([0, 1, 2, 0, 1, 2, 0, 1, 3, 4] : List Int).map PV.int := hp
    obtain ⟨d, _, rfl⟩ := List.mem_map.mp hp
    exact ⟨d, rfl⟩
  obtain ⟨d, rfl⟩ := this
  acc_peel
  exact h d
theorem lp__law_hands {c : Nat} {post : Res RV → Prop} (h : ∀ (k : Int) (f : Bool), 0 ≤ k → k ≤ 2 → post (.ok (.fz (.tup [.int k, .bl f])))) : w__law_hands [.fz (.str ⟨#[c]⟩)] post := by
  unfold w__law_hands bodyW s_v__law_hands
  acc_peel
  refine q_find ?_
  acc_peel
  refine findK_ok ?_
  acc_peel
  refine findK2_ok ?_
  acc_peel
  refine k_ModP (by omega) ?_
  acc_peel
  exact ⟨by simp, h _ _ (Int.emod_nonneg _ (by omega)) (by have := Int.emod_lt_of_pos (Txt.find (".hHabB" : Str) ⟨#[c]⟩) (show (0 : Int) < 3 by omega); omega)⟩
/-- blocks whose length is not bounded -/
def okB (bs : List Blk) : Prop := ∀ (i : Nat) (b : Blk), bs[i]? = some b → 1 ≤ b.1 ∧ b.1 ≤ 40 ∧ b.2.2 ≤ i
theorem okB.snoc {bs : List Blk} {b : Blk} (o : okB bs) (h : 1 ≤ b.1 ∧ b.1 ≤ 40 ∧ b.2.2 ≤ bs.length) : okB (bs ++ [b]) := fun i x e => by
  by_cases hi : i < bs.length
  · rw [List.getElem?_append_left hi] at e; exact o i x e
  · have hlt := (List.getElem?_eq_some_iff.mp e).1
    rw [List.length_append] at hlt
    simp only [List.length_cons, List.length_nil] at hlt
    have : i = bs.length := by omega
    subst this
    rw [List.getElem?_append_right (Nat.le_refl _), Nat.sub_self] at e
    cases e
    exact h
theorem okB.nil : okB [] := fun i x e => by simp at e
theorem okB.t {bs : List Blk} (o : okB bs) (h : bs.length ≤ 200) : okT bs := ⟨h, o⟩
theorem lp__law_wild {n : Int} {post : Res RV → Prop} (n0 : 0 ≤ n) (n1 : n ≤ 40) (h : ∀ bs, okT bs → post (.ok (.own (bs.map bP)))) : w__law_wild [.bag, .fz (.int n)] post := by
  unfold w__law_wild bodyW s_v__law_wild
  acc_peel
  refine ⟨by simp, ?_⟩
  acc_peel
  refine q_draw (by omega) (by omega) (fun m m0 m1 => ?_)
  acc_peel
  refine rg1K_ok (inB_of (by omega) (by omega)) ?_
  acc_peel
  rw [rgP_map]
  refine forL_inv (fun i ρ => ∃ (bs : List Blk) (s t : SV), ρ = [.bag, .fz (.int n), .own (bs.map bP), s, t] ∧ bs.length = i ∧ okB bs) ⟨[], _, _, rfl, rfl, okB.nil⟩ (fun i x ρ K hx hp hk => ?_) (fun ρ hp => ?_)
  · obtain ⟨bs, s, t, rfl, bl, ob⟩ := hp
    have hi := (List.getElem?_eq_some_iff.mp hx).1
    rw [List.length_range] at hi
    have hx : x = i := by rw [List.getElem?_range hi] at hx; cases hx; rfl
    subst hx
    refine q_name (erO_ok ?_)
    unfold b0__law_wild
    rw [show (0 : Int) + (x : Int) * 1 = (x : Int) by omega]
    refine seq_gen (fun ρ => ∃ sl : Nat, ρ = [.bag, .fz (.int n), .own (bs.map bP), .fz (.int (x : Int)), .fz (.int (sl : Int))] ∧ 1 ≤ sl ∧ sl ≤ 40) (fun K' kk => ?_) (fun ρ e => ?_)
    · acc_peel
      refine q_draw (by omega) (by omega) (fun d d0 d1 => ?_)
      acc_peel
      refine i_dec (fun _ => ?_) (fun _ => ?_)
      · acc_peel
        refine q_draw (by omega) (by omega) (fun e e0 e1 => ?_)
        acc_peel
        exact kk _ ⟨(1 + e).toNat, by rw [show (((1 + e).toNat : Nat) : Int) = 1 + e by omega]; rfl, by omega, by omega⟩
      · acc_peel
        refine q_draw (by omega) (by omega) (fun e e0 e1 => ?_)
        acc_peel
        exact kk _ ⟨(1 + e).toNat, by rw [show (((1 + e).toNat : Nat) : Int) = 1 + e by omega]; rfl, by omega, by omega⟩
    obtain ⟨sl, rfl, s1, s2⟩ := e
    have fin : ∀ (tr : Bool) (bh : Int), 0 ≤ bh → bh ≤ x → K (.nx [.bag, .fz (.int n), .own (bs.map bP ++ [.tup [.int (sl : Int), .bl tr, .int bh]]), .fz (.int (x : Int)), .fz (.int (sl : Int))]) := fun tr bh h0 h1 => by
      refine hk.nx _ ⟨bs ++ [(sl, tr, bh.toNat)], .fz (.int (x : Int)), .fz (.int (sl : Int)), ?_, by rw [List.length_append, bl]; rfl, ob.snoc ⟨s1, s2, by show bh.toNat ≤ _; omega⟩⟩
      rw [List.map_append]
      show _ = [_, _, SV.own (_ ++ [.tup [.int (sl : Int), .bl tr, .int ((bh.toNat : Nat) : Int)]]), _, _]
      rw [show ((bh.toNat : Nat) : Int) = bh by omega]
    acc_peel
    refine q_draw (by omega) (by omega) (fun d d0 d1 => ?_)
    acc_peel
    refine q_draw (by omega) (by omega) (fun e e0 e1 => ?_)
    acc_peel
    refine i_dec (fun _ => ?_) (fun _ => ?_)
    · acc_peel
      refine ⟨by simp, ?_⟩
      acc_peel
      refine ⟨by rw [List.length_map]; omega, ?_⟩
      exact fin _ _ (by omega) (by omega)
    · acc_peel
      refine q_draw (by omega) (by omega) (fun f f0 f1 => ?_)
      acc_peel
      refine ⟨by simp, ?_⟩
      acc_peel
      refine ⟨by rw [List.length_map]; omega, ?_⟩
      exact fin _ _ (by omega) (by omega)
  · obtain ⟨bs, s, t, rfl, bl, ob⟩ := hp
    rw [List.length_range] at bl
    acc_peel
    exact h bs (ob.t (by omega))

end My
end

section
set_option Elab.async false
set_option maxRecDepth 100000
set_option maxHeartbeats 4000000
set_option linter.all false
namespace My
open PySem L2
local macro_rules | `(tactic| acc_open) => `(tactic| with_reducible first
  | refine sqK_nx ?_ | refine sqK_rt ?_ | refine sqK_bk ?_ | refine sqK_ct ?_ | refine sqK_er ?_ | refine bk_ok ?_ | refine bk_er ?_ | refine erO_ok ?_ | refine erO_er ?_
  | refine testK_ok ?_ | refine partK_ok ?_ | refine frz_fz ?_ | refine frz_own ?_ | refine frz_er ?_ | refine own_own ?_ | refine own_er ?_ | refine noR_ok ?_ | refine retD_rt ?_ | refine retD_nx ?_ | refine retD_er ?_
  | refine loopK_nx ?_ | refine loopK_ct ?_ | refine loopK_bk ?_ | refine loopK_rt ?_ | refine loopK_er ?_ | refine objR_ok ?_ | refine objR_er ?_
  | refine q_seq ?_ | refine q_next ?_ | refine q_retN ?_ | refine q_break ?_ | refine q_cont ?_ | refine q_if ?_ | refine q_ret ?_ | refine q_retO ?_ | refine q_drop ?_ | refine q_asg ?_ | refine q_asgO ?_ | refine q_app rfl ?_ | refine q_retV rfl ?_ | refine q_retVo rfl ?_ | refine q_frz rfl ?_ | refine q_frz0 rfl ?_ | refine q_par ?_ | refine q_for ?_ | refine q_forN ?_
  | refine q_name ?_ | refine q_gtup rfl ?_ | refine q_gunl rfl ?_ | refine q_gcons ?_ | refine gcK_ok ?_ | refine q_gnil ?_
  | refine q_bind ?_ | refine q_var rfl ?_ | refine q_varB rfl ?_ | refine q_varBo rfl ?_ | refine q_c ?_ | refine q_op ?_ | refine q_p2 ?_ | refine q_p1 ?_ | refine q_ixK ?_ | refine q_neg ?_ | refine q_pif ?_ | refine q_test ?_ | refine q_tand ?_ | refine q_tor ?_ | refine q_tnot ?_ | refine q_yes ?_ | refine q_tru ?_ | refine truK_bl ?_ | refine truK_int ?_ | refine truK_lst ?_ | refine truK_tup ?_
  | refine q_andV ?_ | refine q_orV ?_ | refine q_notV ?_ | refine andVK_ok ?_ | refine orVK_ok ?_ | refine notVK_ok ?_ | refine q_anil ?_ | refine q_acons ?_ | refine q_tup ?_ | refine q_lst ?_ | refine q_pfrz ?_ | refine q_nopart ?_ | refine q_part ?_ | refine q_slS ?_ | refine slSK_ok ?_ | refine q_slL ?_ | refine slLK_ok ?_ | refine slLK2_ok ?_
  | refine q_len ?_ | refine lenK_l ?_ | refine lenK_t ?_ | refine q_listO ?_ | refine seqK_l ?_ | refine seqK_t ?_ | refine q_cat ?_ | refine q_rep ?_ | refine q_join ?_ | refine joinK_ok ?_
  | refine q_itL ?_ | refine q_itT ?_ | refine q_itS ?_ | refine itLK_ok ?_ | refine itTK_ok ?_ | refine itSK_ok ?_ | refine q_rng1 ?_ | refine q_rng2 ?_ | refine q_rev1 ?_ | refine q_lrg1 ?_ | refine q_lrg2 ?_ | refine q_enum ?_ | refine q_enumS ?_ | refine q_enumSK ?_ | refine enK_ok ?_ | refine enSK_ok ?_ | refine q_zip ?_ | refine zipK_l ?_ | refine zipK_t ?_ | refine q_itRev ?_ | refine q_revL ?_ | refine revK_ok ?_ | refine q_revL2 ?_ | refine rev2K_ok ?_
  | refine q_cnil ?_ | refine q_ccons ?_ | refine q_cbag rfl ?_ | refine q_call ?_ | refine q_call0 ?_ | refine q_callO ?_ | refine q_callO0 ?_ | refine q_callK ?_ | refine q_callK0 ?_ | refine q_make ?_ | refine q_make0 ?_ | refine q_meth ?_ | refine q_meth0 ?_ | refine q_lenC ?_ | refine q_fld ?_ | refine q_isi ?_ | refine q_said ?_ | refine saidK_ok ?_
  | refine k_Plus ?_ | refine k_Minus ?_ | refine k_Lt0 ?_ | refine k_Le0 ?_ | refine k_Gt0 ?_ | refine k_Ge0 ?_ | refine k_EqI ?_ | refine k_EqS ?_ | refine k_EqB ?_ | refine k_NeI ?_ | refine k_NeS ?_ | refine k_NeB ?_ | refine k_IsN ?_ | refine k_NotN ?_ | refine k_InS ?_ | refine k_NotInS ?_ | refine k_Int ?_ | refine k_IntB ?_ | refine q_lc ?_
  | refine q_loose rfl ?_ | refine looseK_bl ?_ | refine looseK_int ?_ | refine looseK_str ?_ | refine looseK_non ?_ | refine looseK_er ?_ | refine n_int ?_ | refine n_str ?_ | refine n_bl ?_ | refine n_lst ?_ | refine n_tup ?_ | refine n_obj ?_ | refine n_non ?_ | refine m_int ?_ | refine m_str ?_ | refine m_bl ?_ | refine m_lst ?_ | refine m_tup ?_ | refine m_obj ?_ | refine m_non ?_
  | refine q_fs ?_ | refine q_j0 ?_ | refine q_j1 ?_ | refine q_fmt ?_ | refine q_split ?_ | refine splitK_ok ?_ | refine q_idx ?_ | refine idxK_ok ?_
  | refine i_t ?_ | refine i_f ?_ | refine i_nt ?_ | refine i_nf ?_)
local macro_rules | `(tactic| acc_peel) => `(tactic| repeat' acc_open)
theorem nsL_at {ns : List Nat} {k : Nat} (h : k < ns.length) {i : Int} (hi : i = (k : Int)) : L2.atI (nsL ns) i = some (nI ns[k]) := by
  subst hi
  exact atI_nn (by omega) (by unfold nsL; rw [Int.toNat_natCast, List.getElem?_map, List.getElem?_eq_getElem h]; rfl)
theorem lp__law_known {bs : List Blk} {ds : List Nat} {late now : Int} {post : Res RV → Prop} (hb : bs.length ≤ 200) (hd : ds.length = bs.length + 1) (h : ∀ m : Nat, (m = 0 ∨ m ∈ ds) → post (.ok (.fz (.int (m : Int))))) : w__law_known [.fz (bsP bs), .fz (.lst (nsL ds)), .fz (.int late), .fz (.int now)] post := by
  unfold w__law_known bodyW s_v__law_known
  acc_peel
  rw [List.length_map]
  refine rg1K_ok (inB_of (by omega) (by omega)) ?_
  acc_peel
  rw [rgP_map]
  refine forL_inv (fun i ρ => ∃ (m : Nat) (s : SV), ρ = [.fz (bsP bs), .fz (.lst (nsL ds)), .fz (.int late), .fz (.int now), .fz (.int (m : Int)), s] ∧ (m = 0 ∨ m ∈ ds)) ⟨0, _, rfl, .inl rfl⟩ (fun i x ρ K hx hp hk => ?_) (fun ρ hp => ?_)
  · obtain ⟨m, s, rfl, hm⟩ := hp
    have hi := (List.getElem?_eq_some_iff.mp hx).1
    rw [List.length_range] at hi
    have hx : x = i := by rw [List.getElem?_range hi] at hx; cases hx; rfl
    subst hx
    have hlt : x < bs.length := by omega
    refine q_name (erO_ok ?_)
    unfold b0__law_known
    rw [show (0 : Int) + (x : Int) * 1 = (x : Int) by omega]
    acc_peel
    refine k_IxL (bs_at (List.getElem?_eq_getElem hlt) rfl) ?_
    acc_peel
    refine k_IxT (p := .bl (bs[x]).2.1) rfl ?_
    acc_peel
    have no : K (.nx [.fz (bsP bs), .fz (.lst (nsL ds)), .fz (.int late), .fz (.int now), .fz (.int (m : Int)), .fz (.int (x : Int))]) := hk.nx _ ⟨m, _, rfl, hm⟩
    cases (bs[x]).2.1 with
    | false => exact no
    | true =>
      acc_peel
      refine k_IxL (bs_at (List.getElem?_eq_getElem hlt) rfl) ?_
      acc_peel
      refine k_IxT (p := .int ((bs[x]).1 : Int)) rfl ?_
      acc_peel
      refine i_dec (fun _ => ?_) (fun _ => ?_)
      · acc_peel
        refine k_IxL (nsL_at (k := x + 1) (by omega) (by omega)) ?_
        acc_peel
        refine k_Max (fun m2 _ _ hm2 => ?_)
        acc_peel
        rcases hm2 with rfl | rfl
        · exact no
        · exact hk.nx _ ⟨ds[x + 1], _, rfl, .inr (List.getElem_mem _)⟩
      · acc_peel
        exact no
  · obtain ⟨m, s, rfl, hm⟩ := hp
    acc_peel
    exact h m hm
theorem maxL_ok {ns : List Int} {pE : Res PV → Prop} (h0 : 0 < ns.length) (h : ∀ m, m ∈ ns → (∀ y ∈ ns, y ≤ m) → pE (.ok (.int m))) : (fun (a : PV) (post : Res PV → Prop) => match a with
  | .lst ps => ∃ ns, intL ps = some ns ∧ 0 < ns.length ∧ ∀ m, m ∈ ns → (∀ y ∈ ns, y ≤ m) → post (.ok (.int m))
  | _ => False) (.lst (ns.map PV.int)) pE := ⟨ns, intL_map ns, h0, h⟩
theorem nsL_int (ns : List Nat) : nsL ns = (ns.map fun n : Nat => (n : Int)).map PV.int := by unfold nsL; rw [List.map_map]; rfl
theorem lp__law_near {ds : List Nat} {post : Res RV → Prop} (h0 : 0 < ds.length) (h1 : ds.length ≤ 1000) (h : ∀ k : Nat, k < ds.length → post (.ok (.fz (.int (k : Int))))) : w__law_near [.bag, .fz (.lst (nsL ds))] post := by
  have nl : (nsL ds).length = ds.length := by unfold nsL; rw [List.length_map]
  unfold w__law_near bodyW s_v__law_near
  refine seq_gen (fun ρ => ∃ p : Int, 0 ≤ p ∧ ρ = [.bag, .fz (.lst (nsL ds)), .fz (.int p), .un, .un, .un]) (fun K' hk => ?_) (fun ρ e => ?_)
  · acc_peel
    refine q_draw (by omega) (by omega) (fun d d0 d1 => ?_)
    acc_peel
    exact hk _ ⟨d, d0, rfl⟩
  obtain ⟨p, p0, rfl⟩ := e
  refine seq_gen (fun ρ => ∃ k : Nat, ∃ hk : k < ds.length, ρ = [.bag, .fz (.lst (nsL ds)), .fz (.int p), .fz (.int (ds[k] : Int)), .un, .un]) (fun K' hk => ?_) (fun ρ e => ?_)
  · acc_peel
    refine q_maxL (ns := []) ?_
    acc_peel
    rw [nsL_int]
    refine maxL_ok (by rw [List.length_map]; exact h0) (fun m hm _ => ?_)
    rw [← nsL_int]
    obtain ⟨n, hn, rfl⟩ := List.mem_map.mp hm
    obtain ⟨k, hk2, rfl⟩ := List.getElem_of_mem hn
    acc_peel
    exact hk _ ⟨k, hk2, rfl⟩
  obtain ⟨k, hk, rfl⟩ := e
  refine seq_gen (fun ρ => ∃ g : List Nat, g ≠ [] ∧ g.length ≤ 1000 ∧ (∀ y ∈ g, y < ds.length) ∧ ∃ s, ρ = [.bag, .fz (.lst (nsL ds)), .fz (.int p), .fz (.int (ds[k] : Int)), .fz (.lst (nsL g)), s]) (fun K' hkk => ?_) (fun ρ e => ?_)
  · acc_peel
    rw [nl]
    refine rg1K_ok (inB_of (by omega) (by omega)) ?_
    acc_peel
    rw [rgP_map]
    refine lc_filter (fun i : Nat => decide ((ds[k] : Int) - p ≤ (ds.getD i 0 : Int))) (fun i : Nat => nI i) (by rw [List.length_range]; omega) (fun i acc K hi ha h1 h2 => ?_) ?_
    · have hi := List.mem_range.mp hi
      rw [show (0 : Int) + (i : Int) * 1 = (i : Int) by omega]
      refine q_name (lk1_ok ?_)
      acc_peel
      refine k_IxL (nsL_at (k := i) (by omega) rfl) ?_
      acc_peel
      refine lk2_b ?_
      rw [show ds.getD i 0 = ds[i] from by rw [List.getD_eq_getElem?_getD, List.getElem?_eq_getElem (by omega)]; rfl] at h1 h2
      refine i_dec (fun e => ?_) (fun e => ?_)
      · acc_peel
        exact lk3_ok ha (h1 (decide_eq_true e))
      · exact h2 (decide_eq_false e)
    · acc_peel
      refine hkk _ ⟨(List.range ((ds.length : Nat) : Int).toNat).filter (fun i : Nat => decide ((ds[k] : Int) - p ≤ (ds.getD i 0 : Int))), ?_, ?_, ?_, .un, rfl⟩
      · refine List.ne_nil_of_mem (a := k) (List.mem_filter.mpr ⟨List.mem_range.mpr (by omega), decide_eq_true ?_⟩)
        rw [show ds.getD k 0 = ds[k] from by rw [List.getD_eq_getElem?_getD, List.getElem?_eq_getElem hk]; rfl]
        omega
      · exact Nat.le_trans (List.length_filter_le _ _) (by rw [List.length_range]; omega)
      · intro y hy
        have := List.mem_range.mp (List.mem_filter.mp hy).1
        omega
  obtain ⟨g, g0, g1, g2, s, rfl⟩ := e
  acc_peel
  refine i_dec (fun _ => ?_) (fun _ => ?_)
  · acc_peel
    refine lp__law_of (by unfold nsL; exact fun z => g0 (List.map_eq_nil_iff.mp z)) (by unfold nsL; rw [List.length_map]; exact g1) (fun q hq => ?_)
    obtain ⟨y, hy, rfl⟩ := List.mem_map.mp hq
    acc_peel
    exact h y (g2 y hy)
  · acc_peel
    rw [nl]
    refine q_draw (by omega) (by omega) (fun d d0 d1 => ?_)
    acc_peel
    rw [← Int.toNat_of_nonneg d0]
    exact h d.toNat (by omega)

end My
end

section
set_option Elab.async false
set_option maxRecDepth 100000
set_option maxHeartbeats 4000000
set_option linter.all false
namespace My
open PySem L2
local macro_rules | `(tactic| acc_open) => `(tactic| with_reducible first
  | refine sqK_nx ?_ | refine sqK_rt ?_ | refine sqK_bk ?_ | refine sqK_ct ?_ | refine sqK_er ?_ | refine bk_ok ?_ | refine bk_er ?_ | refine erO_ok ?_ | refine erO_er ?_
  | refine testK_ok ?_ | refine partK_ok ?_ | refine frz_fz ?_ | refine frz_own ?_ | refine frz_er ?_ | refine own_own ?_ | refine own_er ?_ | refine noR_ok ?_ | refine retD_rt ?_ | refine retD_nx ?_ | refine retD_er ?_
  | refine loopK_nx ?_ | refine loopK_ct ?_ | refine loopK_bk ?_ | refine loopK_rt ?_ | refine loopK_er ?_ | refine objR_ok ?_ | refine objR_er ?_
  | refine q_seq ?_ | refine q_next ?_ | refine q_retN ?_ | refine q_break ?_ | refine q_cont ?_ | refine q_if ?_ | refine q_ret ?_ | refine q_retO ?_ | refine q_drop ?_ | refine q_asg ?_ | refine q_asgO ?_ | refine q_app rfl ?_ | refine q_retV rfl ?_ | refine q_retVo rfl ?_ | refine q_frz rfl ?_ | refine q_frz0 rfl ?_ | refine q_par ?_ | refine q_for ?_ | refine q_forN ?_
  | refine q_name ?_ | refine q_gtup rfl ?_ | refine q_gunl rfl ?_ | refine q_gcons ?_ | refine gcK_ok ?_ | refine q_gnil ?_
  | refine q_bind ?_ | refine q_var rfl ?_ | refine q_varB rfl ?_ | refine q_varBo rfl ?_ | refine q_c ?_ | refine q_op ?_ | refine q_p2 ?_ | refine q_p1 ?_ | refine q_ixK ?_ | refine q_neg ?_ | refine q_pif ?_ | refine q_test ?_ | refine q_tand ?_ | refine q_tor ?_ | refine q_tnot ?_ | refine q_yes ?_ | refine q_tru ?_ | refine truK_bl ?_ | refine truK_int ?_ | refine truK_lst ?_ | refine truK_tup ?_
  | refine q_andV ?_ | refine q_orV ?_ | refine q_notV ?_ | refine andVK_ok ?_ | refine orVK_ok ?_ | refine notVK_ok ?_ | refine q_anil ?_ | refine q_acons ?_ | refine q_tup ?_ | refine q_lst ?_ | refine q_pfrz ?_ | refine q_nopart ?_ | refine q_part ?_ | refine q_slS ?_ | refine slSK_ok ?_ | refine q_slL ?_ | refine slLK_ok ?_ | refine slLK2_ok ?_
  | refine q_len ?_ | refine lenK_l ?_ | refine lenK_t ?_ | refine q_listO ?_ | refine seqK_l ?_ | refine seqK_t ?_ | refine q_cat ?_ | refine q_rep ?_ | refine q_join ?_ | refine joinK_ok ?_
  | refine q_itL ?_ | refine q_itT ?_ | refine q_itS ?_ | refine itLK_ok ?_ | refine itTK_ok ?_ | refine itSK_ok ?_ | refine q_rng1 ?_ | refine q_rng2 ?_ | refine q_rev1 ?_ | refine q_lrg1 ?_ | refine q_lrg2 ?_ | refine q_enum ?_ | refine q_enumS ?_ | refine q_enumSK ?_ | refine enK_ok ?_ | refine enSK_ok ?_ | refine q_zip ?_ | refine zipK_l ?_ | refine zipK_t ?_ | refine q_itRev ?_ | refine q_revL ?_ | refine revK_ok ?_ | refine q_revL2 ?_ | refine rev2K_ok ?_
  | refine q_cnil ?_ | refine q_ccons ?_ | refine q_cbag rfl ?_ | refine q_call ?_ | refine q_call0 ?_ | refine q_callO ?_ | refine q_callO0 ?_ | refine q_callK ?_ | refine q_callK0 ?_ | refine q_make ?_ | refine q_make0 ?_ | refine q_meth ?_ | refine q_meth0 ?_ | refine q_lenC ?_ | refine q_fld ?_ | refine q_isi ?_ | refine q_said ?_ | refine saidK_ok ?_
  | refine k_Plus ?_ | refine k_Minus ?_ | refine k_Lt0 ?_ | refine k_Le0 ?_ | refine k_Gt0 ?_ | refine k_Ge0 ?_ | refine k_EqI ?_ | refine k_EqS ?_ | refine k_EqB ?_ | refine k_NeI ?_ | refine k_NeS ?_ | refine k_NeB ?_ | refine k_IsN ?_ | refine k_NotN ?_ | refine k_InS ?_ | refine k_NotInS ?_ | refine k_Int ?_ | refine k_IntB ?_ | refine q_lc ?_
  | refine q_loose rfl ?_ | refine looseK_bl ?_ | refine looseK_int ?_ | refine looseK_str ?_ | refine looseK_non ?_ | refine looseK_er ?_ | refine n_int ?_ | refine n_str ?_ | refine n_bl ?_ | refine n_lst ?_ | refine n_tup ?_ | refine n_obj ?_ | refine n_non ?_ | refine m_int ?_ | refine m_str ?_ | refine m_bl ?_ | refine m_lst ?_ | refine m_tup ?_ | refine m_obj ?_ | refine m_non ?_
  | refine q_fs ?_ | refine q_j0 ?_ | refine q_j1 ?_ | refine q_fmt ?_ | refine q_split ?_ | refine splitK_ok ?_ | refine q_idx ?_ | refine idxK_ok ?_
  | refine i_t ?_ | refine i_f ?_ | refine i_nt ?_ | refine i_nf ?_)
local macro_rules | `(tactic| acc_peel) => `(tactic| repeat' acc_open)
theorem nsL_len {ns : List Nat} : (nsL ns).length = ns.length := by unfold nsL; rw [List.length_map]
theorem getD_lt {ds : List Nat} {i : Nat} (h : i < ds.length) : ds.getD i 0 = ds[i] := by rw [List.getD_eq_getElem?_getD, List.getElem?_eq_getElem h]; rfl
theorem rg_at {n i x : Nat} (hx : (List.range n)[i]? = some x) : x = i ∧ i < n := by
  have hi := (List.getElem?_eq_some_iff.mp hx).1
  rw [List.length_range] at hi
  rw [List.getElem?_range hi] at hx
  cases hx
  exact ⟨rfl, hi⟩
/-- what a turn puts in -/
def frB (j n : Nat) (fr : List Blk) : Prop := ∀ b ∈ fr, b.1 = j ∧ b.2.2 ≤ n
theorem frB.snoc {j n : Nat} {fr : List Blk} {b : Blk} (h : frB j n fr) (hb : b.1 = j ∧ b.2.2 ≤ n) : frB j n (fr ++ [b]) := fun y hy => by
  rcases List.mem_append.mp hy with q | q
  · exact h y q
  · rw [List.mem_singleton.mp q]; exact hb
theorem lp_ft_body {z : Str} {once : Bool} {late : Int} {bs : List Blk} {ds : List Nat} {i : Nat} {s7 s8 s9 s10 s11 s12 s13 s14 s15 : SV} {K : Out → Prop} (hz : z.length ≤ 40) (hi : i < z.length) (hb : bs.length ≤ 5 * i) (ob : okB bs) (hd : ds.length = bs.length + 1)
    (h : ∀ (bs' : List Blk) (ds' : List Nat) (t7 t8 t9 t10 t11 t12 t13 t14 t15 : SV), bs'.length ≤ 5 * (i + 1) → okB bs' → ds'.length = bs'.length + 1 → K (.nx [.bag, .fz (.str z), .fz (.bl once), .fz (.int late), .own (bs'.map bP), .own (nsL ds'), .fz (.int ((i + 1 : Nat) : Int)), t7, t8, t9, t10, t11, t12, t13, t14, t15])) :
    b3__law_foe_tree [.bag, .fz (.str z), .fz (.bl once), .fz (.int late), .own (bs.map bP), .own (nsL ds), .fz (.int ((i + 1 : Nat) : Int)), s7, s8, s9, s10, s11, s12, s13, s14, s15] K := by
  unfold b3__law_foe_tree
  refine seq_gen (fun ρ => ∃ (k : Int) (f : Bool), 0 ≤ k ∧ k ≤ 2 ∧ ρ = [.bag, .fz (.str z), .fz (.bl once), .fz (.int late), .own (bs.map bP), .own (nsL ds), .fz (.int ((i + 1 : Nat) : Int)), .fz (.tup [.int k, .bl f]), s8, s9, s10, s11, s12, s13, s14, s15]) (fun K' hk => ?_) (fun ρ e => ?_)
  · acc_peel
    have hi2 : i < z.cps.size := hi
    refine k_ItemS (n := z.cps[i]) (by omega) (by omega) (by rw [show (((i + 1 : Nat) : Int) - 1).toNat = i by omega, Array.getElem?_eq_getElem hi2]) ?_
    acc_peel
    refine lp__law_hands (fun k f k0 k1 => ?_)
    acc_peel
    exact hk _ ⟨k, f, k0, k1, rfl⟩
  obtain ⟨k, f, k0, k1, rfl⟩ := e
  refine seq_gen (fun ρ => ∃ m : Nat, (m = 0 ∨ m ∈ ds) ∧ ρ = [.bag, .fz (.str z), .fz (.bl once), .fz (.int late), .own (bs.map bP), .own (nsL ds), .fz (.int ((i + 1 : Nat) : Int)), .fz (.tup [.int k, .bl f]), .fz (.int (m : Int)), s9, s10, s11, s12, s13, s14, s15]) (fun K' hk => ?_) (fun ρ e => ?_)
  · acc_peel
    refine lp__law_known (bs := bs) (ds := ds) (by omega) hd (fun m hm => ?_)
    acc_peel
    exact hk _ ⟨m, hm, rfl⟩
  obtain ⟨m, hm, rfl⟩ := e
  refine seq_gen (fun ρ => ∃ g : List Nat, g ≠ [] ∧ g.length ≤ 1000 ∧ (∀ y ∈ g, y ≤ bs.length) ∧ ρ = [.bag, .fz (.str z), .fz (.bl once), .fz (.int late), .own (bs.map bP), .own (nsL ds), .fz (.int ((i + 1 : Nat) : Int)), .fz (.tup [.int k, .bl f]), .fz (.int (m : Int)), .fz (.lst (nsL g)), s10, s11, s12, s13, s14, s15]) (fun K' hk => ?_) (fun ρ e => ?_)
  · acc_peel
    rw [nsL_len]
    refine rg1K_ok (inB_of (by omega) (by omega)) ?_
    acc_peel
    rw [rgP_map]
    refine lc_filter (fun i : Nat => decide ((m : Int) ≤ (ds.getD i 0 : Int))) (fun i : Nat => nI i) (by rw [List.length_range]; omega) (fun i acc K hi ha h1 h2 => ?_) ?_
    · have hi := List.mem_range.mp hi
      rw [show (0 : Int) + (i : Int) * 1 = (i : Int) by omega]
      refine q_name (lk1_ok ?_)
      acc_peel
      refine k_IxL (nsL_at (k := i) (by omega) rfl) ?_
      acc_peel
      refine lk2_b ?_
      rw [getD_lt (show i < ds.length by omega)] at h1 h2
      refine i_dec (fun e => ?_) (fun e => ?_)
      · acc_peel
        exact lk3_ok ha (h1 (decide_eq_true e))
      · exact h2 (decide_eq_false e)
    · acc_peel
      refine hk _ ⟨(List.range ((ds.length : Nat) : Int).toNat).filter (fun i : Nat => decide ((m : Int) ≤ (ds.getD i 0 : Int))), ?_, ?_, ?_, rfl⟩
      · have : ∃ a, a < ds.length ∧ m ≤ ds.getD a 0 := by
          rcases hm with rfl | hm
          · exact ⟨0, by omega, Nat.zero_le _⟩
          · obtain ⟨a, ha, rfl⟩ := List.getElem_of_mem hm
            exact ⟨a, ha, by rw [getD_lt ha]; exact Nat.le_refl _⟩
        obtain ⟨a, ha, hma⟩ := this
        exact List.ne_nil_of_mem (a := a) (List.mem_filter.mpr ⟨List.mem_range.mpr (by omega), decide_eq_true (by omega)⟩)
      · exact Nat.le_trans (List.length_filter_le _ _) (by rw [List.length_range]; omega)
      · intro y hy
        have := List.mem_range.mp (List.mem_filter.mp hy).1
        omega
  obtain ⟨g, g0, g1, g2, rfl⟩ := e
  refine seq_gen (fun ρ => ρ = [.bag, .fz (.str z), .fz (.bl once), .fz (.int late), .own (bs.map bP), .own (nsL ds), .fz (.int ((i + 1 : Nat) : Int)), .fz (.tup [.int k, .bl f]), .fz (.int (m : Int)), .fz (.lst (nsL g)), s10, .own [], s12, s13, s14, s15]) (fun K' hk => ?_) (fun ρ e => ?_)
  · acc_peel
    refine ⟨by simp, ?_⟩
    exact hk _ rfl
  subst e
  refine seq_gen (fun ρ => ∃ (fr : List Blk) (t12 : SV), fr.length ≤ 2 ∧ frB (i + 1) bs.length fr ∧ ρ = [.bag, .fz (.str z), .fz (.bl once), .fz (.int late), .own (bs.map bP), .own (nsL ds), .fz (.int ((i + 1 : Nat) : Int)), .fz (.tup [.int k, .bl f]), .fz (.int (m : Int)), .fz (.lst (nsL g)), s10, .own (fr.map bP), t12, s13, s14, s15]) (fun K' hk => ?_) (fun ρ e => ?_)
  · acc_peel
    refine k_IxT (p := .int k) rfl ?_
    acc_peel
    refine rg1K_ok (inB_of (by omega) (by omega)) ?_
    acc_peel
    rw [rgP_map]
    refine forL_inv (fun n ρ => ∃ (fr : List Blk) (t12 : SV), fr.length = n ∧ frB (i + 1) bs.length fr ∧ ρ = [.bag, .fz (.str z), .fz (.bl once), .fz (.int late), .own (bs.map bP), .own (nsL ds), .fz (.int ((i + 1 : Nat) : Int)), .fz (.tup [.int k, .bl f]), .fz (.int (m : Int)), .fz (.lst (nsL g)), s10, .own (fr.map bP), t12, s13, s14, s15]) ⟨[], s12, rfl, (fun b hb => by cases hb), rfl⟩ (fun n x ρ K hx hp kk => ?_) (fun ρ hp => ?_)
    · obtain ⟨fr, t12, fl, fb, rfl⟩ := hp
      obtain ⟨rfl, hn⟩ := rg_at hx
      refine q_name (erO_ok ?_)
      unfold b0__law_foe_tree
      acc_peel
      refine lp__law_of (by unfold nsL; exact fun z => g0 (List.map_eq_nil_iff.mp z)) (by rw [nsL_len]; exact g1) (fun q hq => ?_)
      obtain ⟨y, hy, rfl⟩ := List.mem_map.mp hq
      acc_peel
      refine ⟨by simp, ?_⟩
      acc_peel
      refine ⟨by rw [List.length_map]; omega, kk.nx _ ⟨fr ++ [(i + 1, true, y)], .fz (.int (0 + (x : Int) * 1)), by rw [List.length_append, fl]; rfl, fb.snoc ⟨rfl, g2 y hy⟩, ?_⟩⟩
      rw [List.map_append]
      rfl
    · obtain ⟨fr, t12, fl, fb, rfl⟩ := hp
      rw [List.length_range] at fl
      exact hk _ ⟨fr, t12, by omega, fb, rfl⟩
  obtain ⟨fr, t12, fl, fb, rfl⟩ := e
  refine seq_gen (fun ρ => ρ = [.bag, .fz (.str z), .fz (.bl once), .fz (.int late), .own (bs.map bP), .own (nsL ds), .fz (.int ((i + 1 : Nat) : Int)), .fz (.tup [.int k, .bl f]), .fz (.int (m : Int)), .fz (.lst (nsL g)), s10, .own (fr.map bP), t12, .fz (.int 0), s14, s15]) (fun K' hk => ?_) (fun ρ e => ?_)
  · acc_peel
    exact hk _ rfl
  subst e
  refine seq_gen (fun ρ => ∃ c : Int, 0 ≤ c ∧ c ≤ 3 ∧ ρ = [.bag, .fz (.str z), .fz (.bl once), .fz (.int late), .own (bs.map bP), .own (nsL ds), .fz (.int ((i + 1 : Nat) : Int)), .fz (.tup [.int k, .bl f]), .fz (.int (m : Int)), .fz (.lst (nsL g)), s10, .own (fr.map bP), t12, .fz (.int c), s14, s15]) (fun K' hk => ?_) (fun ρ e => ?_)
  · acc_peel
    refine k_IxT (p := .bl f) rfl ?_
    acc_peel
    cases f with
    | false => exact hk _ ⟨0, by omega, by omega, rfl⟩
    | true =>
      cases once with
      | true =>
        acc_peel
        refine ⟨by decide, ?_⟩
        acc_peel
        refine lp__law_of (by exact List.cons_ne_nil _ _) (by decide) (fun p hp => ?_)
        have : ∃ d : Int, 0 ≤ d ∧ d ≤ 3 ∧ p = .int d := by
          have hp : p ∈ ([1, 0, 1] : List Int).map PV.int := hp
          obtain ⟨d, hd, rfl⟩ := List.mem_map.mp hp
          have : ∀ d ∈ ([1, 0, 1] : List Int), 0 ≤ d ∧ d ≤ 3 := by decide
          exact ⟨d, (this d hd).1, (this d hd).2, rfl⟩
        obtain ⟨d, d0, d1, rfl⟩ := this
        acc_peel
        exact hk _ ⟨d, d0, d1, rfl⟩
      | false =>
        acc_peel
        refine ⟨by decide, ?_⟩
        acc_peel
        refine lp__law_of (by exact List.cons_ne_nil _ _) (by decide) (fun p hp => ?_)
        have : ∃ d : Int, 0 ≤ d ∧ d ≤ 3 ∧ p = .int d := by
          have hp : p ∈ ([1, 0, 2, 1, 3] : List Int).map PV.int := hp
          obtain ⟨d, hd, rfl⟩ := List.mem_map.mp hp
          have : ∀ d ∈ ([1, 0, 2, 1, 3] : List Int), 0 ≤ d ∧ d ≤ 3 := by decide
          exact ⟨d, (this d hd).1, (this d hd).2, rfl⟩
        obtain ⟨d, d0, d1, rfl⟩ := this
        acc_peel
        exact hk _ ⟨d, d0, d1, rfl⟩
  obtain ⟨c, c0, c1, rfl⟩ := e
  refine seq_gen (fun ρ => ∃ (fr : List Blk) (t14 : SV), fr.length ≤ 5 ∧ frB (i + 1) bs.length fr ∧ ρ = [.bag, .fz (.str z), .fz (.bl once), .fz (.int late), .own (bs.map bP), .own (nsL ds), .fz (.int ((i + 1 : Nat) : Int)), .fz (.tup [.int k, .bl f]), .fz (.int (m : Int)), .fz (.lst (nsL g)), s10, .own (fr.map bP), t12, .fz (.int c), t14, s15]) (fun K' hk => ?_) (fun ρ e => ?_)
  · acc_peel
    refine rg1K_ok (inB_of (by omega) (by omega)) ?_
    acc_peel
    rw [rgP_map]
    refine forL_inv (fun n ρ => ∃ (fr : List Blk) (t14 : SV), fr.length ≤ 2 + n ∧ frB (i + 1) bs.length fr ∧ ρ = [.bag, .fz (.str z), .fz (.bl once), .fz (.int late), .own (bs.map bP), .own (nsL ds), .fz (.int ((i + 1 : Nat) : Int)), .fz (.tup [.int k, .bl f]), .fz (.int (m : Int)), .fz (.lst (nsL g)), s10, .own (fr.map bP), t12, .fz (.int c), t14, s15]) ⟨fr, s14, by omega, fb, rfl⟩ (fun n x ρ K hx hp kk => ?_) (fun ρ hp => ?_)
    · obtain ⟨fr, t14, fl, fb, rfl⟩ := hp
      obtain ⟨rfl, hn⟩ := rg_at hx
      refine q_name (erO_ok ?_)
      unfold b1__law_foe_tree
      acc_peel
      refine lp__law_near (by omega) (by omega) (fun y hy => ?_)
      acc_peel
      refine ⟨by simp, ?_⟩
      acc_peel
      refine ⟨by rw [List.length_map]; omega, kk.nx _ ⟨fr ++ [(i + 1, false, y)], .fz (.int (0 + (x : Int) * 1)), by rw [List.length_append]; show fr.length + 1 ≤ _; omega, fb.snoc ⟨rfl, by show y ≤ _; omega⟩, ?_⟩⟩
      rw [List.map_append]
      rfl
    · obtain ⟨fr, t14, fl, fb, rfl⟩ := hp
      rw [List.length_range] at fl
      exact hk _ ⟨fr, t14, by omega, fb, rfl⟩
  obtain ⟨fr, t14, fl, fb, rfl⟩ := e
  acc_peel
  refine forL_inv (fun n ρ => ∃ (ds' : List Nat) (t15 : SV), okB (bs ++ fr.take n) ∧ ds'.length = bs.length + n + 1 ∧ ρ = [.bag, .fz (.str z), .fz (.bl once), .fz (.int late), .own ((bs ++ fr.take n).map bP), .own (nsL ds'), .fz (.int ((i + 1 : Nat) : Int)), .fz (.tup [.int k, .bl f]), .fz (.int (m : Int)), .fz (.lst (nsL g)), s10, .fz (.lst (fr.map bP)), t12, .fz (.int c), t14, t15]) ⟨ds, s15, by rw [List.take_zero, List.append_nil]; exact ob, hd, by rw [List.take_zero, List.append_nil]; rfl⟩ (fun n x ρ K hx hp kk => ?_) (fun ρ hp => ?_)
  · obtain ⟨ds', t15, ob', dl, rfl⟩ := hp
    have hn := (List.getElem?_eq_some_iff.mp hx).1
    obtain ⟨x1, x2⟩ := fb x (List.mem_of_getElem? hx)
    have tl2 : (fr.take n).length = n := by rw [List.length_take]; omega
    refine q_name (erO_ok ?_)
    unfold b2__law_foe_tree
    acc_peel
    refine ⟨by rw [List.length_map, List.length_append]; omega, ?_⟩
    acc_peel
    refine k_IxT (p := nI x.2.2) rfl ?_
    acc_peel
    refine k_IxL (nsL_at (k := x.2.2) (by omega) rfl) ?_
    acc_peel
    refine ⟨by rw [nsL_len]; omega, kk.nx _ ⟨ds' ++ [ds'[x.2.2]'(by omega) + 1], .fz (bP x), ?_, by simp only [List.length_append, List.length_cons, List.length_nil]; omega, ?_⟩⟩
    · rw [List.take_succ, hx, ← List.append_assoc]
      exact ob'.snoc ⟨by omega, by omega, by rw [List.length_append, tl2]; omega⟩
    · rw [List.take_succ, hx, ← List.append_assoc, List.map_append (l₁ := bs ++ fr.take n)]
      unfold nsL
      rw [List.map_append (l₁ := ds')]
      rfl
  · obtain ⟨ds', t15, ob', dl, rfl⟩ := hp
    rw [List.take_length] at ob' ⊢
    exact h (bs ++ fr) ds' _ _ _ _ _ _ _ _ _ (by rw [List.length_append]; omega) ob' (by rw [dl, List.length_append])
theorem lp__law_foe_tree {z : Str} {once : Bool} {late : Int} {post : Res RV → Prop} (hz : z.length ≤ 40) (h : ∀ bs, okT bs → post (.ok (.own (bs.map bP)))) : w__law_foe_tree [.bag, .fz (.str z), .fz (.bl once), .fz (.int late)] post := by
  unfold w__law_foe_tree bodyW s_v__law_foe_tree
  refine seq_gen (fun ρ => ρ = [.bag, .fz (.str z), .fz (.bl once), .fz (.int late), .own [], .un, .un, .un, .un, .un, .un, .un, .un, .un, .un, .un]) (fun K' hk => ?_) (fun ρ e => ?_)
  · acc_peel
    exact ⟨by simp, hk _ rfl⟩
  subst e
  refine seq_gen (fun ρ => ρ = [.bag, .fz (.str z), .fz (.bl once), .fz (.int late), .own [], .own (nsL [0]), .un, .un, .un, .un, .un, .un, .un, .un, .un, .un]) (fun K' hk => ?_) (fun ρ e => ?_)
  · acc_peel
    exact ⟨by simp, hk _ rfl⟩
  subst e
  acc_peel
  refine k_LenS (by omega) ?_
  acc_peel
  refine rg2K_ok (inB_of (by omega) (by omega)) (inB_of (by omega) (by omega)) ?_
  acc_peel
  rw [rgP_map]
  refine forL_inv (fun i ρ => ∃ (bs : List Blk) (ds : List Nat) (t6 t7 t8 t9 t10 t11 t12 t13 t14 t15 : SV), bs.length ≤ 5 * i ∧ okB bs ∧ ds.length = bs.length + 1 ∧ ρ = [.bag, .fz (.str z), .fz (.bl once), .fz (.int late), .own (bs.map bP), .own (nsL ds), t6, t7, t8, t9, t10, t11, t12, t13, t14, t15]) ⟨[], [0], .un, .un, .un, .un, .un, .un, .un, .un, .un, .un, by simp, okB.nil, rfl, rfl⟩ (fun i x ρ K hx hp hk => ?_) (fun ρ hp => ?_)
  · obtain ⟨bs, ds, t6, t7, t8, t9, t10, t11, t12, t13, t14, t15, bl, ob, dl, rfl⟩ := hp
    obtain ⟨rfl, hi⟩ := rg_at hx
    refine q_name (erO_ok ?_)
    rw [show (1 : Int) + (x : Int) * 1 = ((x + 1 : Nat) : Int) by omega]
    exact lp_ft_body hz (by omega) bl ob dl fun bs' ds' u7 u8 u9 u10 u11 u12 u13 u14 u15 b1 b2 b3 => hk.nx _ ⟨bs', ds', _, u7, u8, u9, u10, u11, u12, u13, u14, u15, b1, b2, b3, rfl⟩
  · obtain ⟨bs, ds, t6, t7, t8, t9, t10, t11, t12, t13, t14, t15, bl, ob, dl, rfl⟩ := hp
    rw [List.length_range] at bl
    acc_peel
    exact h bs (ob.t (by omega))

end My
end

section
set_option Elab.async false
set_option maxRecDepth 100000
set_option maxHeartbeats 4000000
set_option linter.all false
namespace My
open PySem L2
local macro_rules | `(tactic| acc_open) => `(tactic| with_reducible first
  | refine sqK_nx ?_ | refine sqK_rt ?_ | refine sqK_bk ?_ | refine sqK_ct ?_ | refine sqK_er ?_ | refine bk_ok ?_ | refine bk_er ?_ | refine erO_ok ?_ | refine erO_er ?_
  | refine testK_ok ?_ | refine partK_ok ?_ | refine frz_fz ?_ | refine frz_own ?_ | refine frz_er ?_ | refine own_own ?_ | refine own_er ?_ | refine noR_ok ?_ | refine retD_rt ?_ | refine retD_nx ?_ | refine retD_er ?_
  | refine loopK_nx ?_ | refine loopK_ct ?_ | refine loopK_bk ?_ | refine loopK_rt ?_ | refine loopK_er ?_ | refine objR_ok ?_ | refine objR_er ?_
  | refine q_seq ?_ | refine q_next ?_ | refine q_retN ?_ | refine q_break ?_ | refine q_cont ?_ | refine q_if ?_ | refine q_ret ?_ | refine q_retO ?_ | refine q_drop ?_ | refine q_asg ?_ | refine q_asgO ?_ | refine q_app rfl ?_ | refine q_retV rfl ?_ | refine q_retVo rfl ?_ | refine q_frz rfl ?_ | refine q_frz0 rfl ?_ | refine q_par ?_ | refine q_for ?_ | refine q_forN ?_
  | refine q_name ?_ | refine q_gtup rfl ?_ | refine q_gunl rfl ?_ | refine q_gcons ?_ | refine gcK_ok ?_ | refine q_gnil ?_
  | refine q_bind ?_ | refine q_var rfl ?_ | refine q_varB rfl ?_ | refine q_varBo rfl ?_ | refine q_c ?_ | refine q_op ?_ | refine q_p2 ?_ | refine q_p1 ?_ | refine q_ixK ?_ | refine q_neg ?_ | refine q_pif ?_ | refine q_test ?_ | refine q_tand ?_ | refine q_tor ?_ | refine q_tnot ?_ | refine q_yes ?_ | refine q_tru ?_ | refine truK_bl ?_ | refine truK_int ?_ | refine truK_lst ?_ | refine truK_tup ?_
  | refine q_andV ?_ | refine q_orV ?_ | refine q_notV ?_ | refine andVK_ok ?_ | refine orVK_ok ?_ | refine notVK_ok ?_ | refine q_anil ?_ | refine q_acons ?_ | refine q_tup ?_ | refine q_lst ?_ | refine q_pfrz ?_ | refine q_nopart ?_ | refine q_part ?_ | refine q_slS ?_ | refine slSK_ok ?_ | refine q_slL ?_ | refine slLK_ok ?_ | refine slLK2_ok ?_
  | refine q_len ?_ | refine lenK_l ?_ | refine lenK_t ?_ | refine q_listO ?_ | refine seqK_l ?_ | refine seqK_t ?_ | refine q_cat ?_ | refine q_rep ?_ | refine q_join ?_ | refine joinK_ok ?_
  | refine q_itL ?_ | refine q_itT ?_ | refine q_itS ?_ | refine itLK_ok ?_ | refine itTK_ok ?_ | refine itSK_ok ?_ | refine q_rng1 ?_ | refine q_rng2 ?_ | refine q_rev1 ?_ | refine q_lrg1 ?_ | refine q_lrg2 ?_ | refine q_enum ?_ | refine q_enumS ?_ | refine q_enumSK ?_ | refine enK_ok ?_ | refine enSK_ok ?_ | refine q_zip ?_ | refine zipK_l ?_ | refine zipK_t ?_ | refine q_itRev ?_ | refine q_revL ?_ | refine revK_ok ?_ | refine q_revL2 ?_ | refine rev2K_ok ?_
  | refine q_cnil ?_ | refine q_ccons ?_ | refine q_cbag rfl ?_ | refine q_call ?_ | refine q_call0 ?_ | refine q_callO ?_ | refine q_callO0 ?_ | refine q_callK ?_ | refine q_callK0 ?_ | refine q_make ?_ | refine q_make0 ?_ | refine q_meth ?_ | refine q_meth0 ?_ | refine q_lenC ?_ | refine q_fld ?_ | refine q_isi ?_ | refine q_said ?_ | refine saidK_ok ?_
  | refine k_Plus ?_ | refine k_Minus ?_ | refine k_Lt0 ?_ | refine k_Le0 ?_ | refine k_Gt0 ?_ | refine k_Ge0 ?_ | refine k_EqI ?_ | refine k_EqS ?_ | refine k_EqB ?_ | refine k_NeI ?_ | refine k_NeS ?_ | refine k_NeB ?_ | refine k_IsN ?_ | refine k_NotN ?_ | refine k_InS ?_ | refine k_NotInS ?_ | refine k_Int ?_ | refine k_IntB ?_ | refine q_lc ?_
  | refine q_loose rfl ?_ | refine looseK_bl ?_ | refine looseK_int ?_ | refine looseK_str ?_ | refine looseK_non ?_ | refine looseK_er ?_ | refine n_int ?_ | refine n_str ?_ | refine n_bl ?_ | refine n_lst ?_ | refine n_tup ?_ | refine n_obj ?_ | refine n_non ?_ | refine m_int ?_ | refine m_str ?_ | refine m_bl ?_ | refine m_lst ?_ | refine m_tup ?_ | refine m_obj ?_ | refine m_non ?_
  | refine q_fs ?_ | refine q_j0 ?_ | refine q_j1 ?_ | refine q_fmt ?_ | refine q_split ?_ | refine splitK_ok ?_ | refine q_idx ?_ | refine idxK_ok ?_
  | refine i_t ?_ | refine i_f ?_ | refine i_nt ?_ | refine i_nf ?_)
local macro_rules | `(tactic| acc_peel) => `(tactic| repeat' acc_open)
/-! ### the same tree told in a drawn order -/
theorem lookD_put (ds : List (Key × PV)) (k k' : Key) (p : PV) : lookD (putD ds k p) k' = if k = k' then some p else lookD ds k' := by
  unfold putD
  split
  · rename_i ha
    induction ds with
    | nil => cases ha
    | cons x ds ih =>
      obtain ⟨xk, xv⟩ := x
      rw [List.map_cons]
      unfold lookD at ih ⊢
      rw [List.find?_cons, List.find?_cons]
      dsimp only
      by_cases hx : xk = k
      · subst hx
        rw [if_pos rfl]
        dsimp only
        by_cases hk : xk = k'
        · rw [if_pos hk, decide_eq_true hk]; rfl
        · rw [if_neg hk, decide_eq_false hk]
          dsimp only
          by_cases h2 : (ds.any fun kv => decide (kv.1 = xk)) = true
          · rw [ih h2, if_neg hk]
          · have : ds.map (fun kv => if kv.1 = xk then (kv.1, p) else kv) = ds := by
              have h3 : ∀ y ∈ ds, ¬ y.1 = xk := fun y hy e => h2 (List.any_eq_true.mpr ⟨y, hy, decide_eq_true e⟩)
              clear ih ha h2
              induction ds with
              | nil => rfl
              | cons y ds ih2 => rw [List.map_cons, if_neg (h3 y (.head _)), ih2 fun z hz => h3 z (.tail _ hz)]
            rw [this]
      · have h2 : (ds.any fun kv => decide (kv.1 = k)) = true := by
          rw [List.any_cons, decide_eq_false hx, Bool.false_or] at ha; exact ha
        rw [if_neg hx]
        dsimp only
        by_cases hk : xk = k'
        · rw [decide_eq_true hk, if_neg (fun e => hx (hk.trans e.symm))]
        · rw [decide_eq_false hk]
          exact ih h2
  · rename_i ha
    unfold lookD
    rw [List.find?_append]
    by_cases hk : k = k'
    · rw [if_pos hk]
      have : ds.find? (fun kv => decide (kv.1 = k')) = none := by
        rw [List.find?_eq_none]
        intro y hy e
        exact ha (List.any_eq_true.mpr ⟨y, hy, by rw [hk]; exact e⟩)
      rw [this, List.find?_cons, decide_eq_true hk]
      rfl
    · rw [if_neg hk, List.find?_cons, decide_eq_false hk]
      simp
theorem putD_len (ds : List (Key × PV)) (k : Key) (p : PV) : (putD ds k p).length ≤ ds.length + 1 := by
  unfold putD
  split
  · rw [List.length_map]; omega
  · rw [List.length_append]; exact Nat.le_refl _
abbrev kI (n : Nat) : Key := .inl (n : Int)
structure dOK (ds : List (Key × PV)) (left : List Nat) (n t : Nat) : Prop where
  len : ds.length ≤ t + 1
  yes : ∀ a : Nat, a ≤ n → a ∉ left → (lookD ds (kI a)).isSome = true
  all : ∀ (a : Nat) (p : PV), lookD ds (kI a) = some p → ∃ v : Nat, v ≤ t ∧ p = nI v
theorem least {left : List Nat} (h : left ≠ []) : ∃ m ∈ left, ∀ y ∈ left, m ≤ y := by
  induction left with
  | nil => exact absurd rfl h
  | cons a l ih =>
    by_cases hl : l = []
    · subst hl
      exact ⟨a, .head _, fun y hy => by rw [List.mem_singleton.mp hy]; exact Nat.le_refl _⟩
    · obtain ⟨m, hm, hy⟩ := ih hl
      by_cases hle : a ≤ m
      · exact ⟨a, .head _, fun y h => by rcases List.mem_cons.mp h with q | q; exact q ▸ Nat.le_refl _; exact Nat.le_trans hle (hy y q)⟩
      · exact ⟨m, .tail _ hm, fun y h => by rcases List.mem_cons.mp h with q | q; omega; exact hy y q⟩
theorem lp_turned_body {bs : List Blk} {ds : List (Key × PV)} {left : List Nat} {made : List Blk} {i : Nat} {s6 s7 : SV} {K : Out → Prop} (o : okT bs) (hi : i < bs.length) (d : dOK ds left bs.length i) (nd : left.Nodup) (hl : left.length + i = bs.length) (hr : ∀ y ∈ left, 1 ≤ y ∧ y ≤ bs.length) (om : okB made) (ml : made.length = i)
    (h : ∀ (ds' : List (Key × PV)) (left' : List Nat) (made' : List Blk) (t6 t7 : SV), dOK ds' left' bs.length (i + 1) → left'.Nodup → left'.length + (i + 1) = bs.length → (∀ y ∈ left', 1 ≤ y ∧ y ≤ bs.length) → okB made' → made'.length = i + 1 → K (.nx [.bag, .fz (bsP bs), .cel (.dct ds'), .fz (.lst (nsL left')), .own (made'.map bP), .fz (.int (i : Int)), t6, t7])) :
    b0__law_turned [.bag, .fz (bsP bs), .cel (.dct ds), .fz (.lst (nsL left)), .own (made.map bP), .fz (.int (i : Int)), s6, s7] K := by
  have hbl := o.len
  unfold b0__law_turned
  refine seq_gen (fun ρ => ∃ p : Nat, p ∈ left ∧ (lookD ds (kI (bhd bs p))).isSome = true ∧ ρ = [.bag, .fz (bsP bs), .cel (.dct ds), .fz (.lst (nsL left)), .own (made.map bP), .fz (.int (i : Int)), .fz (nI p), s7]) (fun K' hk => ?_) (fun ρ e => ?_)
  · acc_peel
    refine lc_filter (fun k : Nat => (lookD ds (kI (bhd bs k))).isSome) (fun k : Nat => nI k) (by omega) (fun k acc K hk ha h1 h2 => ?_) ?_
    · obtain ⟨k1, k2⟩ := hr k hk
      have hlt : k - 1 < bs.length := by omega
      have hbk : bhd bs k = (bs[k - 1]).2.2 := by unfold bhd; rw [List.getElem?_eq_getElem hlt]
      rw [hbk] at h1 h2
      refine q_name (lk1_ok (q_test ⟨ds, rfl, ?_⟩))
      acc_peel
      refine k_IxL (bs_at (List.getElem?_eq_getElem hlt) (by omega)) ?_
      acc_peel
      refine k_IxT (p := nI (bs[k - 1]).2.2) rfl ?_
      acc_peel
      refine ⟨_, rfl, ?_⟩
      acc_peel
      refine lk2_b ?_
      show if (lookD ds (kI (bs[k - 1]).2.2)).isSome = true then _ else _
      split
      · rename_i e
        acc_peel
        exact lk3_ok ha (h1 e)
      · rename_i e
        exact h2 (by simpa using e)
    · acc_peel
      have hne : left ≠ [] := fun e => by rw [e] at hl; simp at hl; omega
      obtain ⟨m, hm, hmin⟩ := least hne
      obtain ⟨m1, m2⟩ := hr m hm
      have hbm := o.bhd_lt (show 0 < m by omega)
      have hnb : bhd bs m ∉ left := fun hx => by have := hmin _ hx; omega
      refine lp__law_of ?_ ?_ (fun q hq => ?_)
      · refine List.ne_nil_of_mem (a := nI m) (List.mem_map.mpr ⟨m, List.mem_filter.mpr ⟨hm, d.yes (bhd bs m) (by omega) hnb⟩, rfl⟩)
      · rw [List.length_map]
        exact Nat.le_trans (List.length_filter_le _ _) (by omega)
      · obtain ⟨y, hy, rfl⟩ := List.mem_map.mp hq
        obtain ⟨y1, y2⟩ := List.mem_filter.mp hy
        acc_peel
        exact hk _ ⟨y, y1, y2, rfl⟩
  obtain ⟨p, hp, hs, rfl⟩ := e
  obtain ⟨p1, p2⟩ := hr p hp
  have hlt : p - 1 < bs.length := by omega
  have hbp : bhd bs p = (bs[p - 1]).2.2 := by unfold bhd; rw [List.getElem?_eq_getElem hlt]
  obtain ⟨o1, o2, o3⟩ := o.at_ (p - 1) _ (List.getElem?_eq_getElem hlt)
  refine seq_gen (fun ρ => ρ = [.bag, .fz (bsP bs), .cel (.dct ds), .fz (.lst (nsL (left.filter fun k => !decide (k = p)))), .own (made.map bP), .fz (.int (i : Int)), .fz (nI p), s7]) (fun K' hk => ?_) (fun ρ e => ?_)
  · acc_peel
    refine lc_filter (fun k : Nat => !decide (k = p)) (fun k : Nat => nI k) (by omega) (fun k acc K hk ha h1 h2 => ?_) ?_
    · refine q_name (lk1_ok ?_)
      acc_peel
      refine lk2_b ?_
      refine i_ndec (fun e => ?_) (fun e => ?_)
      · acc_peel
        exact lk3_ok ha (h1 (by simp; omega))
      · exact h2 (by simp; omega)
    · acc_peel
      exact hk _ rfl
  subst e
  have hf : (left.filter fun k => !decide (k = p)) = left.erase p := by
    rw [nd.erase_eq_filter]
    refine List.filter_congr fun x _ => ?_
    by_cases e : x = p <;> simp [e]
  have hlen : (left.filter fun k => !decide (k = p)).length + (i + 1) = bs.length := by
    rw [hf, List.length_erase_of_mem hp]
    have := List.length_pos_of_mem hp
    omega
  refine seq_gen (fun ρ => ρ = [.bag, .fz (bsP bs), .cel (.dct (putD ds (kI p) (nI (i + 1)))), .fz (.lst (nsL (left.filter fun k => !decide (k = p)))), .own (made.map bP), .fz (.int (i : Int)), .fz (nI p), s7]) (fun K' hk => ?_) (fun ρ e => ?_)
  · refine ⟨ds, rfl, ?_⟩
    acc_peel
    refine ⟨kI p, rfl, by have := d.len; omega, ?_⟩
    exact hk _ rfl
  subst e
  have hne : ¬ p = bhd bs p := by have := o.bhd_lt (show 0 < p by omega); omega
  obtain ⟨pv, hv⟩ := Option.isSome_iff_exists.mp hs
  obtain ⟨v, v1, rfl⟩ := d.all _ _ hv
  rw [hbp] at hne hv
  acc_peel
  refine k_IxL (bs_at (List.getElem?_eq_getElem hlt) (by omega)) ?_
  acc_peel
  refine k_IxT (p := nI (bs[p - 1]).1) rfl ?_
  acc_peel
  refine k_IxL (bs_at (List.getElem?_eq_getElem hlt) (by omega)) ?_
  acc_peel
  refine k_IxT (p := .bl (bs[p - 1]).2.1) rfl ?_
  acc_peel
  refine ⟨_, rfl, ?_⟩
  acc_peel
  refine k_IxL (bs_at (List.getElem?_eq_getElem hlt) (by omega)) ?_
  acc_peel
  refine k_IxT (p := nI (bs[p - 1]).2.2) rfl ?_
  acc_peel
  refine ⟨kI (bs[p - 1]).2.2, nI v, rfl, by rw [lookD_put, if_neg (fun e => hne (by have := Sum.inl.inj e; omega))]; exact hv, ?_⟩
  acc_peel
  refine ⟨by simp, ?_⟩
  acc_peel
  refine ⟨by rw [List.length_map]; omega, ?_⟩
  have := h (putD ds (kI p) (nI (i + 1))) (left.filter fun k => !decide (k = p)) (made ++ [((bs[p - 1]).1, (bs[p - 1]).2.1, v)]) (.fz (nI p)) s7 ⟨?_, ?_, ?_⟩ (nd.filter _) hlen (fun y hy => hr y (List.mem_filter.mp hy).1) (om.snoc ⟨o1, o2, by show v ≤ _; omega⟩) (by rw [List.length_append, ml]; rfl)
  · rw [List.map_append] at this
    exact this
  · have h1 := putD_len ds (kI p) (nI (i + 1))
    have h2 := d.len
    omega
  · intro a ha hn
    rw [lookD_put]
    split
    · rfl
    · rename_i hk
      refine d.yes a ha fun hm => hn (List.mem_filter.mpr ⟨hm, ?_⟩)
      have : ¬ a = p := fun e => hk (by rw [e])
      simp [this]
  · intro a q hq
    rw [lookD_put] at hq
    split at hq
    · cases hq; exact ⟨i + 1, Nat.le_refl _, rfl⟩
    · obtain ⟨v, v1, rfl⟩ := d.all a q hq
      exact ⟨v, by omega, rfl⟩
theorem lp__law_turned {bs : List Blk} {post : Res RV → Prop} (o : okT bs) (h : ∀ bs', okT bs' → post (.ok (.own (bs'.map bP)))) : w__law_turned [.bag, .fz (bsP bs)] post := by
  have hbl := o.len
  unfold w__law_turned bodyW s_v__law_turned
  refine seq_gen (fun ρ => ρ = [.bag, .fz (bsP bs), .cel (.dct [(kI 0, nI 0)]), .un, .un, .un, .un, .un]) (fun K' hk => ?_) (fun ρ e => ?_)
  · unfold sAsgD1
    acc_peel
    exact ⟨kI 0, rfl, hk _ rfl⟩
  subst e
  refine seq_gen (fun ρ => ρ = [.bag, .fz (bsP bs), .cel (.dct [(kI 0, nI 0)]), .fz (.lst (nsL ((List.range bs.length).map (· + 1)))), .un, .un, .un, .un]) (fun K' hk => ?_) (fun ρ e => ?_)
  · acc_peel
    rw [List.length_map]
    refine lrg2K_ok ⟨by omega, by omega⟩ ?_
    acc_peel
    have e1 : rgP 1 1 ((bs.length : Int) + 1 - 1).toNat = nsL ((List.range bs.length).map (· + 1)) := by
      rw [rgP_map, show ((bs.length : Int) + 1 - 1).toNat = bs.length by omega]
      unfold nsL
      rw [List.map_map]
      refine List.map_congr_left fun x _ => ?_
      show PV.int (1 + (x : Int) * 1) = PV.int ((x + 1 : Nat) : Int)
      rw [show (1 : Int) + (x : Int) * 1 = ((x + 1 : Nat) : Int) by omega]
    rw [e1]
    exact hk _ rfl
  subst e
  acc_peel
  refine ⟨by simp, ?_⟩
  acc_peel
  rw [List.length_map]
  refine rg1K_ok (inB_of (by omega) (by omega)) ?_
  acc_peel
  rw [rgP_map]
  refine forL_inv (fun i ρ => ∃ (ds : List (Key × PV)) (left : List Nat) (made : List Blk) (t5 t6 t7 : SV), dOK ds left bs.length i ∧ left.Nodup ∧ left.length + i = bs.length ∧ (∀ y ∈ left, 1 ≤ y ∧ y ≤ bs.length) ∧ okB made ∧ made.length = i ∧ ρ = [.bag, .fz (bsP bs), .cel (.dct ds), .fz (.lst (nsL left)), .own (made.map bP), t5, t6, t7]) ⟨[(kI 0, nI 0)], (List.range bs.length).map (· + 1), [], .un, .un, .un, ⟨by simp, fun a ha hn => ?_, fun a p hp => ?_⟩, ?_, by simp, fun y hy => ?_, okB.nil, rfl, rfl⟩ (fun i x ρ K hx hp hk => ?_) (fun ρ hp => ?_)
  · by_cases h0 : a = 0
    · subst h0; rfl
    · exact absurd (List.mem_map.mpr ⟨a - 1, List.mem_range.mpr (by omega), by omega⟩) hn
  · unfold lookD at hp
    rw [List.find?_cons] at hp
    split at hp
    · cases hp; exact ⟨0, Nat.le_refl _, rfl⟩
    · simp at hp
  · exact List.Pairwise.map (R := fun a b : Nat => a ≠ b) _ (fun a b e => by show a + 1 ≠ b + 1; omega) List.nodup_range
  · obtain ⟨a, ha, rfl⟩ := List.mem_map.mp hy
    have := List.mem_range.mp ha
    omega
  · obtain ⟨ds, left, made, t5, t6, t7, d, nd, hl, hr, om, ml, rfl⟩ := hp
    obtain ⟨rfl, hi⟩ := rg_at hx
    refine q_name (erO_ok ?_)
    rw [show (0 : Int) + (x : Int) * 1 = (x : Int) by omega]
    exact lp_turned_body o (by omega) d nd hl hr om ml fun ds' left' made' u6 u7 a1 a2 a3 a4 a5 a6 => hk.nx _ ⟨ds', left', made', _, u6, u7, a1, a2, a3, a4, a5, a6, rfl⟩
  · obtain ⟨ds, left, made, t5, t6, t7, d, nd, hl, hr, om, ml, rfl⟩ := hp
    rw [List.length_range] at ml
    acc_peel
    exact h made (om.t (by omega))

end My
end

section
set_option Elab.async false
set_option maxRecDepth 100000
set_option maxHeartbeats 4000000
set_option linter.all false
namespace My
open PySem L2
local macro_rules | `(tactic| acc_open) => `(tactic| with_reducible first
  | refine sqK_nx ?_ | refine sqK_rt ?_ | refine sqK_bk ?_ | refine sqK_ct ?_ | refine sqK_er ?_ | refine bk_ok ?_ | refine bk_er ?_ | refine erO_ok ?_ | refine erO_er ?_
  | refine testK_ok ?_ | refine partK_ok ?_ | refine frz_fz ?_ | refine frz_own ?_ | refine frz_er ?_ | refine own_own ?_ | refine own_er ?_ | refine noR_ok ?_ | refine retD_rt ?_ | refine retD_nx ?_ | refine retD_er ?_
  | refine loopK_nx ?_ | refine loopK_ct ?_ | refine loopK_bk ?_ | refine loopK_rt ?_ | refine loopK_er ?_ | refine objR_ok ?_ | refine objR_er ?_
  | refine q_seq ?_ | refine q_next ?_ | refine q_retN ?_ | refine q_break ?_ | refine q_cont ?_ | refine q_if ?_ | refine q_ret ?_ | refine q_retO ?_ | refine q_drop ?_ | refine q_asg ?_ | refine q_asgO ?_ | refine q_app rfl ?_ | refine q_retV rfl ?_ | refine q_retVo rfl ?_ | refine q_frz rfl ?_ | refine q_frz0 rfl ?_ | refine q_par ?_ | refine q_for ?_ | refine q_forN ?_
  | refine q_name ?_ | refine q_gtup rfl ?_ | refine q_gunl rfl ?_ | refine q_gcons ?_ | refine gcK_ok ?_ | refine q_gnil ?_
  | refine q_bind ?_ | refine q_var rfl ?_ | refine q_varB rfl ?_ | refine q_varBo rfl ?_ | refine q_c ?_ | refine q_op ?_ | refine q_p2 ?_ | refine q_p1 ?_ | refine q_ixK ?_ | refine q_neg ?_ | refine q_pif ?_ | refine q_test ?_ | refine q_tand ?_ | refine q_tor ?_ | refine q_tnot ?_ | refine q_yes ?_ | refine q_tru ?_ | refine truK_bl ?_ | refine truK_int ?_ | refine truK_lst ?_ | refine truK_tup ?_
  | refine q_andV ?_ | refine q_orV ?_ | refine q_notV ?_ | refine andVK_ok ?_ | refine orVK_ok ?_ | refine notVK_ok ?_ | refine q_anil ?_ | refine q_acons ?_ | refine q_tup ?_ | refine q_lst ?_ | refine q_pfrz ?_ | refine q_nopart ?_ | refine q_part ?_ | refine q_slS ?_ | refine slSK_ok ?_ | refine q_slL ?_ | refine slLK_ok ?_ | refine slLK2_ok ?_
  | refine q_len ?_ | refine lenK_l ?_ | refine lenK_t ?_ | refine q_listO ?_ | refine seqK_l ?_ | refine seqK_t ?_ | refine q_cat ?_ | refine q_rep ?_ | refine q_join ?_ | refine joinK_ok ?_
  | refine q_itL ?_ | refine q_itT ?_ | refine q_itS ?_ | refine itLK_ok ?_ | refine itTK_ok ?_ | refine itSK_ok ?_ | refine q_rng1 ?_ | refine q_rng2 ?_ | refine q_rev1 ?_ | refine q_lrg1 ?_ | refine q_lrg2 ?_ | refine q_enum ?_ | refine q_enumS ?_ | refine q_enumSK ?_ | refine enK_ok ?_ | refine enSK_ok ?_ | refine q_zip ?_ | refine zipK_l ?_ | refine zipK_t ?_ | refine q_itRev ?_ | refine q_revL ?_ | refine revK_ok ?_ | refine q_revL2 ?_ | refine rev2K_ok ?_
  | refine q_cnil ?_ | refine q_ccons ?_ | refine q_cbag rfl ?_ | refine q_call ?_ | refine q_call0 ?_ | refine q_callO ?_ | refine q_callO0 ?_ | refine q_callK ?_ | refine q_callK0 ?_ | refine q_make ?_ | refine q_make0 ?_ | refine q_meth ?_ | refine q_meth0 ?_ | refine q_lenC ?_ | refine q_fld ?_ | refine q_isi ?_ | refine q_said ?_ | refine saidK_ok ?_
  | refine k_Plus ?_ | refine k_Minus ?_ | refine k_Lt0 ?_ | refine k_Le0 ?_ | refine k_Gt0 ?_ | refine k_Ge0 ?_ | refine k_EqI ?_ | refine k_EqS ?_ | refine k_EqB ?_ | refine k_NeI ?_ | refine k_NeS ?_ | refine k_NeB ?_ | refine k_IsN ?_ | refine k_NotN ?_ | refine k_InS ?_ | refine k_NotInS ?_ | refine k_Int ?_ | refine k_IntB ?_ | refine q_lc ?_
  | refine q_loose rfl ?_ | refine looseK_bl ?_ | refine looseK_int ?_ | refine looseK_str ?_ | refine looseK_non ?_ | refine looseK_er ?_ | refine n_int ?_ | refine n_str ?_ | refine n_bl ?_ | refine n_lst ?_ | refine n_tup ?_ | refine n_obj ?_ | refine n_non ?_ | refine m_int ?_ | refine m_str ?_ | refine m_bl ?_ | refine m_lst ?_ | refine m_tup ?_ | refine m_obj ?_ | refine m_non ?_
  | refine q_fs ?_ | refine q_j0 ?_ | refine q_j1 ?_ | refine q_fmt ?_ | refine q_split ?_ | refine splitK_ok ?_ | refine q_idx ?_ | refine idxK_ok ?_
  | refine i_t ?_ | refine i_f ?_ | refine i_nt ?_ | refine i_nf ?_)
local macro_rules | `(tactic| acc_peel) => `(tactic| repeat' acc_open)
theorem lp__law_any {n : Int} {post : Res RV → Prop} (n0 : 0 ≤ n) (n1 : n ≤ 40) (h : ∀ bs, okT bs → post (.ok (.fz (bsP bs)))) : w__law_any [.bag, .fz (.int n)] post := by
  unfold w__law_any bodyW s_v__law_any
  acc_peel
  refine q_draw (by omega) (by omega) (fun d d0 d1 => ?_)
  acc_peel
  refine i_dec (fun _ => ?_) (fun _ => ?_)
  · acc_peel
    refine lp__law_wild n0 n1 (fun bs o => ?_)
    acc_peel
    exact h bs o
  · acc_peel
    refine q_draw (by omega) (by omega) (fun e e0 e1 => ?_)
    acc_peel
    refine lp__law_late (fun l => ?_)
    acc_peel
    refine lp__law_letters n0 n1 (fun z hz => ?_)
    acc_peel
    refine lp__law_foe_tree hz (fun bs o => ?_)
    acc_peel
    refine lp__law_turned o (fun bs' o' => ?_)
    acc_peel
    exact h bs' o'
def rowsL (bs : List Blk) (n : Nat) : List PV := (List.range n).map fun k => PV.lst (nsL (rowOf bs k))
theorem rowsL_len {bs : List Blk} {n : Nat} : (rowsL bs n).length = n := by unfold rowsL; rw [List.length_map, List.length_range]
theorem rowsL_s {bs : List Blk} {n : Nat} : rowsL bs (n + 1) = rowsL bs n ++ [PV.lst (nsL (rowOf bs n))] := by unfold rowsL; rw [List.range_succ, List.map_append]; rfl
theorem rowsL_at {bs : List Blk} {n k : Nat} (h : k < n) : L2.atI (rowsL bs n) (k : Int) = some (PV.lst (nsL (rowOf bs k))) :=
  atI_nn (by omega) (by unfold rowsL; rw [Int.toNat_natCast, List.getElem?_map, List.getElem?_range h]; rfl)
theorem lp__law_rows {bs : List Blk} {post : Res RV → Prop} (o : okT bs) (h : post (.ok (.own (rowsL bs (bs.length + 1))))) : w__law_rows [.fz (bsP bs)] post := by
  have hl := o.len
  unfold w__law_rows bodyW s_v__law_rows
  refine seq_gen (fun ρ => ρ = [.fz (bsP bs), .own (rowsL bs 1), .un]) (fun K' hk => ?_) (fun ρ e => ?_)
  · acc_peel
    refine ⟨by simp, ?_⟩
    acc_peel
    exact ⟨by simp, hk _ rfl⟩
  subst e
  acc_peel
  rw [List.length_map]
  refine rg1K_ok (inB_of (by omega) (by omega)) ?_
  acc_peel
  rw [rgP_map]
  refine forL_inv (fun i ρ => ∃ s, ρ = [.fz (bsP bs), .own (rowsL bs (i + 1)), s]) ⟨_, rfl⟩ (fun i x ρ K hx hp hk => ?_) (fun ρ hp => ?_)
  · obtain ⟨s, rfl⟩ := hp
    obtain ⟨rfl, hi⟩ := rg_at hx
    have hlt : x < bs.length := by omega
    obtain ⟨_, _, b3⟩ := o.at_ x _ (List.getElem?_eq_getElem hlt)
    refine q_name (erO_ok ?_)
    rw [show (0 : Int) + (x : Int) * 1 = (x : Int) by omega]
    unfold b0__law_rows
    acc_peel
    refine k_IxL (bs_at (List.getElem?_eq_getElem hlt) rfl) ?_
    acc_peel
    refine k_IxT (p := nI (bs[x]).2.2) rfl ?_
    acc_peel
    refine k_IxL (rowsL_at (by omega)) ?_
    acc_peel
    refine ⟨by simp, ?_⟩
    acc_peel
    refine catK_ok (by rw [nsL_len]; have := row_len (bs := bs) (k := (bs[x]).2.2); show _ + 1 ≤ _; omega) ?_
    acc_peel
    refine ⟨by rw [rowsL_len]; omega, hk.nx _ ⟨.fz (.int (x : Int)), ?_⟩⟩
    rw [rowsL_s (n := x + 1), row_at o (List.getElem?_eq_getElem hlt)]
    unfold nsL
    rw [List.map_append]
    rfl
  · obtain ⟨s, rfl⟩ := hp
    rw [List.length_range, show ((bs.length : Int)).toNat = bs.length by omega]
    acc_peel
    exact h
abbrev outP : PV := .lst [.str "OutOf", .str "block"]
abbrev toldP (p : PV) : PV := .lst [.str "told", p]
theorem er_out : erTab "OutOf" outB = some outP := by
  unfold erTab
  rw [if_pos rfl]
  exact if_pos rfl
theorem tellB_er {post : Out → Prop} (h : post (.rt (.fz outP))) : tellBK erTab post (.er "OutOf" outB) := ⟨_, er_out, h⟩
theorem tellB_rt {et : ErTab} {post : Out → Prop} {r : RV} (h : post (.rt r)) : tellBK et post (.rt r) := h

end My
end

section
set_option Elab.async false
set_option maxRecDepth 100000
set_option maxHeartbeats 4000000
set_option linter.all false
namespace My
open PySem L2
local macro_rules | `(tactic| acc_open) => `(tactic| with_reducible first
  | refine sqK_nx ?_ | refine sqK_rt ?_ | refine sqK_bk ?_ | refine sqK_ct ?_ | refine sqK_er ?_ | refine bk_ok ?_ | refine bk_er ?_ | refine erO_ok ?_ | refine erO_er ?_
  | refine testK_ok ?_ | refine partK_ok ?_ | refine frz_fz ?_ | refine frz_own ?_ | refine frz_er ?_ | refine own_own ?_ | refine own_er ?_ | refine noR_ok ?_ | refine retD_rt ?_ | refine retD_nx ?_ | refine retD_er ?_
  | refine loopK_nx ?_ | refine loopK_ct ?_ | refine loopK_bk ?_ | refine loopK_rt ?_ | refine loopK_er ?_ | refine objR_ok ?_ | refine objR_er ?_
  | refine q_seq ?_ | refine q_next ?_ | refine q_retN ?_ | refine q_break ?_ | refine q_cont ?_ | refine q_if ?_ | refine q_ret ?_ | refine q_retO ?_ | refine q_drop ?_ | refine q_asg ?_ | refine q_asgO ?_ | refine q_app rfl ?_ | refine q_retV rfl ?_ | refine q_retVo rfl ?_ | refine q_frz rfl ?_ | refine q_frz0 rfl ?_ | refine q_par ?_ | refine q_for ?_ | refine q_forN ?_
  | refine q_name ?_ | refine q_gtup rfl ?_ | refine q_gunl rfl ?_ | refine q_gcons ?_ | refine gcK_ok ?_ | refine q_gnil ?_
  | refine q_bind ?_ | refine q_var rfl ?_ | refine q_varB rfl ?_ | refine q_varBo rfl ?_ | refine q_c ?_ | refine q_op ?_ | refine q_p2 ?_ | refine q_p1 ?_ | refine q_ixK ?_ | refine q_neg ?_ | refine q_pif ?_ | refine q_test ?_ | refine q_tand ?_ | refine q_tor ?_ | refine q_tnot ?_ | refine q_yes ?_ | refine q_tru ?_ | refine truK_bl ?_ | refine truK_int ?_ | refine truK_lst ?_ | refine truK_tup ?_
  | refine q_andV ?_ | refine q_orV ?_ | refine q_notV ?_ | refine andVK_ok ?_ | refine orVK_ok ?_ | refine notVK_ok ?_ | refine q_anil ?_ | refine q_acons ?_ | refine q_tup ?_ | refine q_lst ?_ | refine q_pfrz ?_ | refine q_nopart ?_ | refine q_part ?_ | refine q_slS ?_ | refine slSK_ok ?_ | refine q_slL ?_ | refine slLK_ok ?_ | refine slLK2_ok ?_
  | refine q_len ?_ | refine lenK_l ?_ | refine lenK_t ?_ | refine q_listO ?_ | refine seqK_l ?_ | refine seqK_t ?_ | refine q_cat ?_ | refine q_rep ?_ | refine q_join ?_ | refine joinK_ok ?_
  | refine q_itL ?_ | refine q_itT ?_ | refine q_itS ?_ | refine itLK_ok ?_ | refine itTK_ok ?_ | refine itSK_ok ?_ | refine q_rng1 ?_ | refine q_rng2 ?_ | refine q_rev1 ?_ | refine q_lrg1 ?_ | refine q_lrg2 ?_ | refine q_enum ?_ | refine q_enumS ?_ | refine q_enumSK ?_ | refine enK_ok ?_ | refine enSK_ok ?_ | refine q_zip ?_ | refine zipK_l ?_ | refine zipK_t ?_ | refine q_itRev ?_ | refine q_revL ?_ | refine revK_ok ?_ | refine q_revL2 ?_ | refine rev2K_ok ?_
  | refine q_cnil ?_ | refine q_ccons ?_ | refine q_cbag rfl ?_ | refine q_call ?_ | refine q_call0 ?_ | refine q_callO ?_ | refine q_callO0 ?_ | refine q_callK ?_ | refine q_callK0 ?_ | refine q_make ?_ | refine q_make0 ?_ | refine q_meth ?_ | refine q_meth0 ?_ | refine q_lenC ?_ | refine q_fld ?_ | refine q_isi ?_ | refine q_said ?_ | refine saidK_ok ?_
  | refine k_Plus ?_ | refine k_Minus ?_ | refine k_Lt0 ?_ | refine k_Le0 ?_ | refine k_Gt0 ?_ | refine k_Ge0 ?_ | refine k_EqI ?_ | refine k_EqS ?_ | refine k_EqB ?_ | refine k_NeI ?_ | refine k_NeS ?_ | refine k_NeB ?_ | refine k_IsN ?_ | refine k_NotN ?_ | refine k_InS ?_ | refine k_NotInS ?_ | refine k_Int ?_ | refine k_IntB ?_ | refine q_lc ?_
  | refine q_loose rfl ?_ | refine looseK_bl ?_ | refine looseK_int ?_ | refine looseK_str ?_ | refine looseK_non ?_ | refine looseK_er ?_ | refine n_int ?_ | refine n_str ?_ | refine n_bl ?_ | refine n_lst ?_ | refine n_tup ?_ | refine n_obj ?_ | refine n_non ?_ | refine m_int ?_ | refine m_str ?_ | refine m_bl ?_ | refine m_lst ?_ | refine m_tup ?_ | refine m_obj ?_ | refine m_non ?_
  | refine q_fs ?_ | refine q_j0 ?_ | refine q_j1 ?_ | refine q_fmt ?_ | refine q_split ?_ | refine splitK_ok ?_ | refine q_idx ?_ | refine idxK_ok ?_
  | refine i_t ?_ | refine i_f ?_ | refine i_nt ?_ | refine i_nf ?_)
local macro_rules | `(tactic| acc_peel) => `(tactic| repeat' acc_open)
/-! ### rows ascend -/
theorem row_mem {bs : List Blk} (o : okT bs) : ∀ (n k : Nat), k ≤ n → ∀ x ∈ rowOf bs k, 0 < x ∧ x ≤ k
  | 0, k, h, x, hx => by
    have : k = 0 := by omega
    subst this; cases hx
  | n + 1, k, h, x, hx => by
    by_cases h0 : k = 0
    · subst h0; cases hx
    · have hb := o.bhd_lt (Nat.pos_of_ne_zero h0)
      rw [row_s o (Nat.pos_of_ne_zero h0)] at hx
      rcases List.mem_append.mp hx with q | q
      · have := row_mem o n (bhd bs k) (by omega) x q
        omega
      · rw [List.mem_singleton.mp q]; omega
theorem row_asc {bs : List Blk} (o : okT bs) : ∀ (n k : Nat), k ≤ n → (rowOf bs k).Pairwise (· < ·)
  | 0, k, h => by
    have : k = 0 := by omega
    subst this; exact List.Pairwise.nil
  | n + 1, k, h => by
    by_cases h0 : k = 0
    · subst h0; exact List.Pairwise.nil
    · have hb := o.bhd_lt (Nat.pos_of_ne_zero h0)
      rw [row_s o (Nat.pos_of_ne_zero h0)]
      refine List.pairwise_append.mpr ⟨row_asc o n (bhd bs k) (by omega), List.pairwise_singleton _ _, fun x hx y hy => ?_⟩
      rw [List.mem_singleton.mp hy]
      have := row_mem o _ (bhd bs k) (Nat.le_refl _) x hx
      omega
theorem asc_ext : ∀ (l m : List Nat), l.Pairwise (· < ·) → m.Pairwise (· < ·) → (∀ x, x ∈ l ↔ x ∈ m) → l = m
  | [], [], _, _, _ => rfl
  | [], b :: m, _, _, h => absurd ((h b).mpr (.head _)) (by simp)
  | a :: l, [], _, _, h => absurd ((h a).mp (.head _)) (by simp)
  | a :: l, b :: m, hl, hm, h => by
    obtain ⟨l1, l2⟩ := List.pairwise_cons.mp hl
    obtain ⟨m1, m2⟩ := List.pairwise_cons.mp hm
    have e : a = b := by
      have h1 := (h a).mp (.head _)
      have h2 := (h b).mpr (.head _)
      rcases List.mem_cons.mp h1 with q | q
      · exact q
      · rcases List.mem_cons.mp h2 with r | r
        · exact r.symm
        · have := l1 b r; have := m1 a q; omega
    subst e
    refine congrArg (a :: ·) (asc_ext l m l2 m2 fun x => ⟨fun hx => ?_, fun hx => ?_⟩)
    · rcases List.mem_cons.mp ((h x).mp (.tail _ hx)) with q | q
      · have := l1 x hx; omega
      · exact q
    · rcases List.mem_cons.mp ((h x).mpr (.tail _ hx)) with q | q
      · have := m1 x hx; omega
      · exact q
def shr (bs : List Blk) (a b : Nat) : List Nat := (rowOf bs a).filter fun k => decide (k ∈ rowOf bs b)
theorem shr_sym {bs : List Blk} (o : okT bs) (a b : Nat) : shr bs a b = shr bs b a := by
  refine asc_ext _ _ ((row_asc o a a (Nat.le_refl _)).filter _) ((row_asc o b b (Nat.le_refl _)).filter _) fun x => ?_
  unfold shr
  rw [List.mem_filter, List.mem_filter]
  simp only [decide_eq_true_eq]
  exact ⟨fun h => ⟨h.2, h.1⟩, fun h => ⟨h.2, h.1⟩⟩
def slO (bs : List Blk) (k : Nat) : Nat := (bs.getD (k - 1) (0, false, 0)).1
def okS (bs : List Blk) (s : Int) (k : Nat) : Bool := decide (s ≤ (slO bs k : Int))
theorem slO_at {bs : List Blk} {k : Nat} {b : Blk} (e : bs[k - 1]? = some b) : slO bs k = b.1 := by unfold slO; rw [List.getD_eq_getElem?_getD, e]; rfl
def optP : Option Nat → PV
  | some k => nI k
  | none => .non
def comV (bs : List Blk) (a b : Nat) (s : Int) : PV := optP ((shr bs a b).find? (okS bs s))
theorem shr_mem {bs : List Blk} (o : okT bs) {a b k : Nat} (h : k ∈ shr bs a b) : 0 < k ∧ k ≤ a := row_mem o a a (Nat.le_refl _) k (List.mem_filter.mp h).1
theorem intL_nsL (ns : List Nat) : intL (nsL ns) = some (ns.map fun n : Nat => (n : Int)) := by rw [nsL_int]; exact intL_map _
theorem lp_shared_row {bs : List Blk} {a b : Nat} {post : Res RV → Prop} (o : okT bs) (ha : a ≤ bs.length) (hb : b ≤ bs.length) (h : post (.ok (.own (nsL (shr bs a b))))) : w_shared_row [.fz (bsP bs), .fz (.int (a : Int)), .fz (.int (b : Int))] post := by
  have hl := o.len
  have ra := row_len (bs := bs) (k := a)
  have rb := row_len (bs := bs) (k := b)
  unfold w_shared_row bodyW s_v_shared_row
  refine seq_gen (fun ρ => ρ = [.fz (bsP bs), .fz (.int (a : Int)), .fz (.int (b : Int)), .cel (.set fun k => decide (k ∈ (rowOf bs b).map fun n : Nat => (n : Int))), .un]) (fun K' hk => ?_) (fun ρ e => ?_)
  · unfold sAsgS
    acc_peel
    refine lp_row_of o hb ?_
    acc_peel
    exact ⟨_, _, rfl, intL_nsL _, by rw [List.length_map]; omega, hk _ rfl⟩
  subst e
  acc_peel
  refine lp_row_of o ha ?_
  acc_peel
  refine lc_filter (fun k : Nat => decide (k ∈ rowOf bs b)) (fun k : Nat => nI k) (by omega) (fun k acc K hk hacc h1 h2 => ?_) ?_
  · refine q_name (lk1_ok (q_test ⟨_, rfl, ?_⟩))
    acc_peel
    refine ⟨(k : Int), rfl, ?_⟩
    acc_peel
    refine lk2_b ?_
    show if decide ((k : Int) ∈ (rowOf bs b).map fun n : Nat => (n : Int)) = true then _ else _
    have e : decide ((k : Int) ∈ (rowOf bs b).map fun n : Nat => (n : Int)) = decide (k ∈ rowOf bs b) := decide_eq_decide.mpr ⟨fun hm => by
      obtain ⟨n, hn, e⟩ := List.mem_map.mp hm
      have : n = k := by omega
      exact this ▸ hn, fun hm => List.mem_map.mpr ⟨k, hm, rfl⟩⟩
    rw [e]
    refine i_dec (fun e => ?_) (fun e => ?_)
    · acc_peel
      exact lk3_ok hacc (h1 (decide_eq_true e))
    · exact h2 (decide_eq_false e)
  · acc_peel
    exact h
theorem fc_loop {bs : List Blk} {a b : Nat} {s : Int} {K : Out → Prop} : ∀ (L : List Nat) (s4 : SV), (∀ k ∈ L, 0 < k ∧ k ≤ bs.length) → (∀ k, L.find? (okS bs s) = some k → K (.rt (.fz (nI k)))) → (L.find? (okS bs s) = none → ∀ s4, K (.nx [.fz (bsP bs), .fz (.int (a : Int)), .fz (.int (b : Int)), .fz (.int s), s4])) →
    forW (gpName 4) b0_first_common (L.map nI) [.fz (bsP bs), .fz (.int (a : Int)), .fz (.int (b : Int)), .fz (.int s), s4] K
  | [], s4, _, _, hn => q_forN (hn rfl s4)
  | k :: L, s4, hr, hs, hn => by
    obtain ⟨k0, k1⟩ := hr k (.head _)
    have hlt : k - 1 < bs.length := by omega
    have eb := List.getElem?_eq_getElem hlt
    have ih := fc_loop (bs := bs) (a := a) (b := b) (s := s) (K := K) L (.fz (nI k)) fun y hy => hr y (.tail _ hy)
    rw [List.find?_cons] at hs hn
    have ek : okS bs s k = decide (s ≤ ((bs[k - 1]).1 : Int)) := by unfold okS; rw [slO_at eb]
    rw [ek] at hs hn
    show forW (gpName 4) b0_first_common (nI k :: L.map nI) _ _
    refine q_forC (q_name (erO_ok ?_))
    unfold b0_first_common
    acc_peel
    refine lp_slot_of (fun e => absurd e (by omega)) (fun _ => ⟨_, eb, ?_⟩)
    acc_peel
    refine i_dec (fun e => ?_) (fun e => ?_)
    · rw [decide_eq_true e] at hs
      acc_peel
      exact hs k rfl
    · rw [decide_eq_false e] at hs hn
      acc_peel
      exact ih hs hn
theorem lp_first_common {bs : List Blk} {a b : Nat} {s : Int} {post : Res RV → Prop} (o : okT bs) (ha : a ≤ bs.length) (hb : b ≤ bs.length) (h : post (.ok (.fz (comV bs a b s)))) : w_first_common [.fz (bsP bs), .fz (.int (a : Int)), .fz (.int (b : Int)), .fz (.int s)] post := by
  unfold w_first_common bodyW s_v_first_common
  acc_peel
  refine lp_shared_row o ha hb ?_
  acc_peel
  refine fc_loop _ _ (fun k hk => ?_) (fun k e => ?_) (fun e s4 => ?_)
  · have := shr_mem o hk; omega
  · unfold comV at h
    rw [e] at h
    acc_peel
    exact h
  · unfold comV at h
    rw [e] at h
    acc_peel
    exact h
abbrev outSl : List (Str × PV) := [("what", .str "slot")]
abbrev outSP : PV := .lst [.str "OutOf", .str "slot"]
theorem er_slot : erTab "OutOf" outSl = some outSP := by
  unfold erTab
  rw [if_pos rfl]
  exact if_pos rfl
def inT (bs : List Blk) (i : Int) : Prop := 0 ≤ i ∧ i ≤ (bs.length : Int)
instance (bs : List Blk) (i : Int) : Decidable (inT bs i) := by unfold inT; infer_instance
def dueP (bs : List Blk) (i j s : Int) : PV := if s < 1 then outSP else if inT bs i ∧ inT bs j then toldP (comV bs i.toNat j.toNat s) else outP
theorem due_sym {bs : List Blk} (o : okT bs) (i j s : Int) : dueP bs i j s = dueP bs j i s := by
  unfold dueP comV
  rw [shr_sym o i.toNat j.toNat]
  by_cases hs : s < 1
  · rw [if_pos hs, if_pos hs]
  rw [if_neg hs, if_neg hs]
  by_cases h : inT bs i ∧ inT bs j
  · rw [if_pos h, if_pos (show inT bs j ∧ inT bs i from ⟨h.2, h.1⟩)]
  · rw [if_neg h, if_neg (show ¬ (inT bs j ∧ inT bs i) from fun z => h ⟨z.2, z.1⟩)]
theorem q_tell {et : ErTab} {w : WE} {ρ : List SV} {post : Out → Prop} (h : w (ρ.map SV.hide) (tellK et post)) : sTell et w ρ post := h
theorem tellK_ok {et : ErTab} {post : Out → Prop} {p : PV} (h : post (.rt (.fz p))) : tellK et post (.ok p) := h
theorem tellK_er {post : Out → Prop} {fs : List (Str × PV)} {l : PV} (e : erTab "OutOf" fs = some l) (h : post (.rt (.fz l))) : tellK erTab post (.er "OutOf" fs) := ⟨_, e, h⟩
theorem lp__law_told {bs : List Blk} {t : Str} {i j s : Int} {post : Res RV → Prop} (o : okT bs) (h : post (.ok (.fz (dueP bs i j s)))) : w__law_told [.fz (treeP bs t), .fz (.int i), .fz (.int j), .fz (.int s)] post := by
  unfold w__law_told bodyW s_v__law_told
  refine q_tell ?_
  show (pFrz _) [.fz (treeP bs t), .fz (.int i), .fz (.int j), .fz (.int s), .un] _
  acc_peel
  unfold w_common_block bodyW s_v_common_block
  acc_peel
  refine i_dec (fun e => ?_) (fun e => ?_)
  · refine q_raise ?_
    acc_peel
    refine ⟨rfl, by simp, ⟨"slot", rfl, by decide +kernel⟩, ?_⟩
    acc_peel
    refine tellK_er er_slot ?_
    acc_peel
    unfold dueP at h
    rw [if_pos e] at h
    exact h
  unfold dueP at h
  rw [if_neg e] at h
  have bad : ¬ (inT bs i ∧ inT bs j) → ∀ {K : Out → Prop} {ρ : List SV}, (K (.er "OutOf" outB)) → sRaise "OutOf" nm_OutOf (okP1 100) (pCons (pC (.str "block")) pNil) ρ K := fun _ {K ρ} hh => by
    refine q_raise ?_
    acc_peel
    exact ⟨rfl, by simp, ⟨"block", rfl, by decide +kernel⟩, hh⟩
  acc_peel
  refine q_inT (bs := bs) (t := t) rfl rfl ?_
  acc_peel
  refine i_ndec (fun e1 => ?_) (fun e1 => ?_)
  · have nn : ¬ (inT bs i ∧ inT bs j) := fun z => e1 z.1
    rw [if_neg nn] at h
    acc_peel
    refine bad nn ?_
    acc_peel
    refine tellK_er er_out ?_
    acc_peel
    exact h
  refine q_test ?_
  refine q_inT (bs := bs) (t := t) rfl rfl ?_
  acc_peel
  refine i_ndec (fun e2 => ?_) (fun e2 => ?_)
  · have nn : ¬ (inT bs i ∧ inT bs j) := fun z => e2 z.2
    rw [if_neg nn] at h
    refine bad nn ?_
    acc_peel
    refine tellK_er er_out ?_
    acc_peel
    exact h
  rw [if_pos ⟨e1, e2⟩] at h
  acc_peel
  refine fldK_ok (p := bsP bs) (by decide) rfl ?_
  acc_peel
  obtain ⟨a, rfl⟩ := Int.eq_ofNat_of_zero_le e1.1
  obtain ⟨b, rfl⟩ := Int.eq_ofNat_of_zero_le e2.1
  refine lp_first_common o (by have := e1.2; omega) (by have := e2.2; omega) ?_
  acc_peel
  refine ⟨by simp, ?_⟩
  acc_peel
  refine tellK_ok ?_
  acc_peel
  exact h

end My
end

section
set_option Elab.async false
set_option maxRecDepth 100000
set_option maxHeartbeats 4000000
set_option linter.all false
namespace My
open PySem L2
local macro_rules | `(tactic| acc_open) => `(tactic| with_reducible first
  | refine sqK_nx ?_ | refine sqK_rt ?_ | refine sqK_bk ?_ | refine sqK_ct ?_ | refine sqK_er ?_ | refine bk_ok ?_ | refine bk_er ?_ | refine erO_ok ?_ | refine erO_er ?_
  | refine testK_ok ?_ | refine partK_ok ?_ | refine frz_fz ?_ | refine frz_own ?_ | refine frz_er ?_ | refine own_own ?_ | refine own_er ?_ | refine noR_ok ?_ | refine retD_rt ?_ | refine retD_nx ?_ | refine retD_er ?_
  | refine loopK_nx ?_ | refine loopK_ct ?_ | refine loopK_bk ?_ | refine loopK_rt ?_ | refine loopK_er ?_ | refine objR_ok ?_ | refine objR_er ?_
  | refine q_seq ?_ | refine q_next ?_ | refine q_retN ?_ | refine q_break ?_ | refine q_cont ?_ | refine q_if ?_ | refine q_ret ?_ | refine q_retO ?_ | refine q_drop ?_ | refine q_asg ?_ | refine q_asgO ?_ | refine q_app rfl ?_ | refine q_retV rfl ?_ | refine q_retVo rfl ?_ | refine q_frz rfl ?_ | refine q_frz0 rfl ?_ | refine q_par ?_ | refine q_for ?_ | refine q_forN ?_
  | refine q_name ?_ | refine q_gtup rfl ?_ | refine q_gunl rfl ?_ | refine q_gcons ?_ | refine gcK_ok ?_ | refine q_gnil ?_
  | refine q_bind ?_ | refine q_var rfl ?_ | refine q_varB rfl ?_ | refine q_varBo rfl ?_ | refine q_c ?_ | refine q_op ?_ | refine q_p2 ?_ | refine q_p1 ?_ | refine q_ixK ?_ | refine q_neg ?_ | refine q_pif ?_ | refine q_test ?_ | refine q_tand ?_ | refine q_tor ?_ | refine q_tnot ?_ | refine q_yes ?_ | refine q_tru ?_ | refine truK_bl ?_ | refine truK_int ?_ | refine truK_lst ?_ | refine truK_tup ?_
  | refine q_andV ?_ | refine q_orV ?_ | refine q_notV ?_ | refine andVK_ok ?_ | refine orVK_ok ?_ | refine notVK_ok ?_ | refine q_anil ?_ | refine q_acons ?_ | refine q_tup ?_ | refine q_lst ?_ | refine q_pfrz ?_ | refine q_nopart ?_ | refine q_part ?_ | refine q_slS ?_ | refine slSK_ok ?_ | refine q_slL ?_ | refine slLK_ok ?_ | refine slLK2_ok ?_
  | refine q_len ?_ | refine lenK_l ?_ | refine lenK_t ?_ | refine q_listO ?_ | refine seqK_l ?_ | refine seqK_t ?_ | refine q_cat ?_ | refine q_rep ?_ | refine q_join ?_ | refine joinK_ok ?_
  | refine q_itL ?_ | refine q_itT ?_ | refine q_itS ?_ | refine itLK_ok ?_ | refine itTK_ok ?_ | refine itSK_ok ?_ | refine q_rng1 ?_ | refine q_rng2 ?_ | refine q_rev1 ?_ | refine q_lrg1 ?_ | refine q_lrg2 ?_ | refine q_enum ?_ | refine q_enumS ?_ | refine q_enumSK ?_ | refine enK_ok ?_ | refine enSK_ok ?_ | refine q_zip ?_ | refine zipK_l ?_ | refine zipK_t ?_ | refine q_itRev ?_ | refine q_revL ?_ | refine revK_ok ?_ | refine q_revL2 ?_ | refine rev2K_ok ?_
  | refine q_cnil ?_ | refine q_ccons ?_ | refine q_cbag rfl ?_ | refine q_call ?_ | refine q_call0 ?_ | refine q_callO ?_ | refine q_callO0 ?_ | refine q_callK ?_ | refine q_callK0 ?_ | refine q_make ?_ | refine q_make0 ?_ | refine q_meth ?_ | refine q_meth0 ?_ | refine q_lenC ?_ | refine q_fld ?_ | refine q_isi ?_ | refine q_said ?_ | refine saidK_ok ?_
  | refine k_Plus ?_ | refine k_Minus ?_ | refine k_Lt0 ?_ | refine k_Le0 ?_ | refine k_Gt0 ?_ | refine k_Ge0 ?_ | refine k_EqI ?_ | refine k_EqS ?_ | refine k_EqB ?_ | refine k_NeI ?_ | refine k_NeS ?_ | refine k_NeB ?_ | refine k_IsN ?_ | refine k_NotN ?_ | refine k_InS ?_ | refine k_NotInS ?_ | refine k_Int ?_ | refine k_IntB ?_ | refine q_lc ?_
  | refine q_loose rfl ?_ | refine looseK_bl ?_ | refine looseK_int ?_ | refine looseK_str ?_ | refine looseK_non ?_ | refine looseK_er ?_ | refine n_int ?_ | refine n_str ?_ | refine n_bl ?_ | refine n_lst ?_ | refine n_tup ?_ | refine n_obj ?_ | refine n_non ?_ | refine m_int ?_ | refine m_str ?_ | refine m_bl ?_ | refine m_lst ?_ | refine m_tup ?_ | refine m_obj ?_ | refine m_non ?_
  | refine q_fs ?_ | refine q_j0 ?_ | refine q_j1 ?_ | refine q_fmt ?_ | refine q_split ?_ | refine splitK_ok ?_ | refine q_idx ?_ | refine idxK_ok ?_
  | refine i_t ?_ | refine i_f ?_ | refine i_nt ?_ | refine i_nf ?_)
local macro_rules | `(tactic| acc_peel) => `(tactic| repeat' acc_open)
theorem k_inL {a : PV} {x : V} {ps : List PV} {xs : List V} {pE : Res PV → Prop} (hf : flatP a = some x) (hl : flatL ps = some xs) (h : pE (.ok (.bl (inV x xs)))) : qInG false a (.lst ps) pE := ⟨x, xs, hf, hl, h⟩
theorem inV_nats (k : Nat) : ∀ ns : List Nat, inV (.int (k : Int)) (ns.map fun n : Nat => V.int (n : Int)) = decide (k ∈ ns)
  | [] => rfl
  | n :: ns => by
    have ih := inV_nats k ns
    unfold inV at ih ⊢
    rw [List.map_cons, List.any_cons, ih]
    show (((n : Int) == (k : Int)) || decide (k ∈ ns)) = _
    by_cases e : n = k
    · subst e; simp
    · have : ((n : Int) == (k : Int)) = false := by
        rw [beq_eq_false_iff_ne]; omega
      rw [this, Bool.false_or]
      simp [List.mem_cons, Ne.symm e]
theorem flat_nsL (ns : List Nat) : flatL (nsL ns) = some (ns.map fun n : Nat => V.int (n : Int)) := by
  rw [nsL_int, flatL_int, List.map_map]
  rfl
theorem lk_due {bs : List Blk} {i j s : Int} : lkP 1 (dueP bs i j s) := by
  have two : ∀ a b : PV, lkP 0 a → lkP 0 b → lkP 1 (.lst [a, b]) := fun a b ha hb => ⟨by show 2 ≤ 1000; decide, fun q hq => by
    rcases List.mem_cons.mp hq with e | e
    · subst e; exact ha
    · rw [List.mem_singleton.mp e]; exact hb⟩
  unfold dueP
  split
  · exact two _ _ lk_str lk_str
  · split
    · refine two _ _ lk_str ?_
      unfold comV optP
      split
      · exact lk_int
      · exact lk_non
    · exact two _ _ lk_str lk_str
theorem lp_like_due {bs : List Blk} {i j s : Int} {post : Res RV → Prop} (h : post (.ok (.fz (.bl true)))) : w__law_like2 [.fz (.lst [dueP bs i j s, dueP bs i j s]), .fz (.lst [dueP bs i j s, dueP bs i j s])] post :=
  lp__law_like2 ⟨by show 2 ≤ 1000; decide, fun q hq => by
    rcases List.mem_cons.mp hq with e | e
    · subst e; exact lk_due
    · rw [List.mem_singleton.mp e]; exact lk_due⟩ h
theorem ff {α : Type} (p q : α → Bool) : ∀ l : List α, (l.filter p).find? q = (l.filter fun x => p x && q x).head?
  | [] => rfl
  | x :: l => by
    rw [List.filter_cons, List.filter_cons]
    by_cases hp : p x = true
    · rw [if_pos hp, List.find?_cons]
      cases hq : q x with
      | true => rw [if_pos (by rw [hp]; rfl)]; rfl
      | false => rw [if_neg (by rw [hp]; simp)]; exact ff p q l
    · rw [if_neg hp, if_neg (by simp [hp])]
      exact ff p q l
theorem q_out {bs : List Blk} {i : Int} {k : Nat} {ρ : List SV} {pE : Res PV → Prop} (e0 : ρ[0]? = some (.fz (bsP bs))) (e1 : ρ[k]? = some (.fz (.int i))) (h : pE (.ok (.bl (decide (inT bs i))))) : pChain qLe0 qLe0 (pC (.int 0)) (pVar k) (pLen (pVar 0)) ρ pE := by
  refine q_chain (q_c (bk_ok (q_bind (q_var e1 (bk_ok (k_Le0 (chK_ok ?_)))))))
  refine i_dec (fun h0 => ?_) (fun h0 => ?_)
  · refine q_len (q_var e0 (bk_ok (lenK_l (bk_ok (k_Le0 ?_)))))
    rw [List.length_map, show decide (i ≤ (bs.length : Int)) = decide (inT bs i) from decide_eq_decide.mpr ⟨fun z => ⟨h0, z⟩, fun z => z.2⟩]
    exact h
  · rw [decide_eq_false (show ¬ inT bs i from fun z => h0 z.1)] at h
    exact h
theorem lp__law_due {bs : List Blk} {i j s : Int} {post : Res RV → Prop} (o : okT bs) (h : ∀ l, PV.lst l = dueP bs i j s → post (.ok (.own l))) : w__law_due [.fz (bsP bs), .fz (.lst (rowsL bs (bs.length + 1))), .fz (.int i), .fz (.int j), .fz (.int s)] post := by
  have hl := o.len
  unfold w__law_due bodyW s_v__law_due
  acc_peel
  unfold dueP at h
  refine i_dec (fun e => ?_) (fun e => ?_)
  · rw [if_pos e] at h
    acc_peel
    refine ⟨by simp, ?_⟩
    acc_peel
    exact h _ rfl
  rw [if_neg e] at h
  acc_peel
  refine q_out (bs := bs) (i := i) (k := 2) rfl rfl ?_
  acc_peel
  refine i_ndec (fun e1 => ?_) (fun e1 => ?_)
  · rw [if_neg (show ¬ (inT bs i ∧ inT bs j) from fun z => e1 z.1)] at h
    acc_peel
    refine ⟨by simp, ?_⟩
    acc_peel
    exact h _ rfl
  acc_peel
  refine q_out (bs := bs) (i := j) (k := 3) rfl rfl ?_
  acc_peel
  refine i_ndec (fun e2 => ?_) (fun e2 => ?_)
  · rw [if_neg (show ¬ (inT bs i ∧ inT bs j) from fun z => e2 z.2)] at h
    acc_peel
    refine ⟨by simp, ?_⟩
    acc_peel
    exact h _ rfl
  rw [if_pos (show inT bs i ∧ inT bs j from ⟨e1, e2⟩)] at h
  obtain ⟨a, rfl⟩ := Int.eq_ofNat_of_zero_le e1.1
  obtain ⟨b, rfl⟩ := Int.eq_ofNat_of_zero_le e2.1
  have ha : a ≤ bs.length := by have := e1.2; omega
  have hb : b ≤ bs.length := by have := e2.2; omega
  have ra := row_len (bs := bs) (k := a)
  rw [Int.toNat_natCast, Int.toNat_natCast] at h
  refine q_next ?_
  refine sqK_nx ?_
  refine seq_gen (fun ρ => ρ = [.fz (bsP bs), .fz (.lst (rowsL bs (bs.length + 1))), .fz (.int (a : Int)), .fz (.int (b : Int)), .fz (.int s), .fz (.lst (nsL ((rowOf bs a).filter fun k => decide (k ∈ rowOf bs b) && okS bs s k))), .un]) (fun K' hk => ?_) (fun ρ e => ?_)
  · acc_peel
    refine k_IxL (rowsL_at (by omega)) ?_
    acc_peel
    refine lc_filter (fun k : Nat => decide (k ∈ rowOf bs b) && okS bs s k) (fun k : Nat => nI k) (by omega) (fun k acc K hm hacc h1 h2 => ?_) ?_
    · obtain ⟨m1, m2⟩ := row_mem o a a (Nat.le_refl _) k hm
      have hlt : k - 1 < bs.length := by omega
      have eb := List.getElem?_eq_getElem hlt
      have ek : okS bs s k = decide (s ≤ ((bs[k - 1]).1 : Int)) := by unfold okS; rw [slO_at eb]
      rw [ek] at h1 h2
      refine q_name (lk1_ok ?_)
      acc_peel
      refine k_IxL (rowsL_at (by omega)) ?_
      acc_peel
      refine k_inL (x := .int (k : Int)) rfl (flat_nsL _) ?_
      rw [inV_nats]
      acc_peel
      refine i_dec (fun e => ?_) (fun e => ?_)
      · rw [decide_eq_true e, Bool.true_and] at h1 h2
        acc_peel
        refine k_IxL (bs_at eb (by omega)) ?_
        acc_peel
        refine k_IxT (p := nI (bs[k - 1]).1) rfl ?_
        acc_peel
        refine lk2_b ?_
        refine i_dec (fun e => ?_) (fun e => ?_)
        · acc_peel
          exact lk3_ok hacc (h1 (decide_eq_true e))
        · exact h2 (decide_eq_false e)
      · rw [decide_eq_false e, Bool.false_and] at h2
        refine lk2_b ?_
        exact h2 rfl
    · acc_peel
      exact hk _ rfl
  subst e
  unfold comV shr at h
  rw [ff] at h
  revert h
  generalize ((rowOf bs a).filter fun k => decide (k ∈ rowOf bs b) && okS bs s k) = L
  intro h
  acc_peel
  cases L with
  | nil =>
    rw [if_neg (show ¬ ((!(nsL []).isEmpty) = true) by simp [nsL])]
    acc_peel
    refine ⟨by simp, ?_⟩
    acc_peel
    exact h _ rfl
  | cons k L =>
    rw [if_pos (show (!(nsL (k :: L)).isEmpty) = true by simp [nsL])]
    acc_peel
    refine k_IxL (p := nI k) (atI_nn (by omega) rfl) ?_
    acc_peel
    refine ⟨by simp, ?_⟩
    acc_peel
    exact h _ rfl
def prP (p : Nat × Nat) : PV := .tup [nI p.1, nI p.2]
def okPr (n : Nat) (prs : List (Nat × Nat)) : Prop := ∀ p ∈ prs, p.1 ≤ n ∧ p.2 ≤ n
theorem okPr.snoc {n : Nat} {prs : List (Nat × Nat)} {p : Nat × Nat} (h : okPr n prs) (hp : p.1 ≤ n ∧ p.2 ≤ n) : okPr n (prs ++ [p]) := fun y hy => by
  rcases List.mem_append.mp hy with q | q
  · exact h y q
  · rw [List.mem_singleton.mp q]; exact hp
theorem lp__law_pairs {n : Nat} {post : Res RV → Prop} (hn : n ≤ 200) (h : ∀ prs, okPr n prs → post (.ok (.own (prs.map prP)))) : w__law_pairs [.bag, .fz (.int (n : Int))] post := by
  unfold w__law_pairs bodyW s_v__law_pairs
  refine seq_gen (fun ρ => ρ = [.bag, .fz (.int (n : Int)), .own [], .un, .un, .un]) (fun K' hk => ?_) (fun ρ e => ?_)
  · acc_peel
    exact ⟨by simp, hk _ rfl⟩
  subst e
  refine seq_gen (fun ρ => ∃ (prs : List (Nat × Nat)) (s3 s4 : SV), okPr n prs ∧ prs.length ≤ 100 ∧ ρ = [.bag, .fz (.int (n : Int)), .own (prs.map prP), s3, s4, .un]) (fun K' hk => ?_) (fun ρ e => ?_)
  · acc_peel
    refine k_Min (fun m m1 m2 m3 => ?_)
    acc_peel
    refine rg1K_ok (inB_of (by omega) (by omega)) ?_
    acc_peel
    rw [rgP_map]
    refine forL_inv (fun i ρ => ∃ (prs : List (Nat × Nat)) (s3 s4 : SV), okPr n prs ∧ prs.length ≤ 10 * i ∧ ρ = [.bag, .fz (.int (n : Int)), .own (prs.map prP), s3, s4, .un]) ⟨[], _, _, (fun p hp => by cases hp), by simp, rfl⟩ (fun i x ρ K hx hp kk => ?_) (fun ρ hp => ?_)
    · obtain ⟨prs, s3, s4, ok, pl, rfl⟩ := hp
      obtain ⟨rfl, hi⟩ := rg_at hx
      refine q_name (erO_ok ?_)
      rw [show (0 : Int) + (x : Int) * 1 = (x : Int) by omega]
      unfold b1__law_pairs
      acc_peel
      refine rg1K_ok (inB_of (by omega) (by omega)) ?_
      acc_peel
      rw [rgP_map]
      refine forL_inv (fun y ρ => ∃ (prs : List (Nat × Nat)) (s4 : SV), okPr n prs ∧ prs.length ≤ 10 * x + y ∧ ρ = [.bag, .fz (.int (n : Int)), .own (prs.map prP), .fz (.int (x : Int)), s4, .un]) ⟨prs, s4, ok, pl, rfl⟩ (fun y z ρ K hz hp k2 => ?_) (fun ρ hp => ?_)
      · obtain ⟨prs, s4, ok, pl, rfl⟩ := hp
        obtain ⟨rfl, hy⟩ := rg_at hz
        refine q_name (erO_ok ?_)
        rw [show (0 : Int) + (z : Int) * 1 = (z : Int) by omega]
        unfold b0__law_pairs
        acc_peel
        refine ⟨by simp, ?_⟩
        acc_peel
        refine ⟨by rw [List.length_map]; omega, k2.nx _ ⟨prs ++ [(x, z)], .fz (.int (z : Int)), ok.snoc ⟨by show x ≤ n; omega, by show z ≤ n; omega⟩, by rw [List.length_append]; show prs.length + 1 ≤ _; omega, ?_⟩⟩
        rw [List.map_append]
        rfl
      · obtain ⟨prs, s4, ok, pl, rfl⟩ := hp
        rw [List.length_range] at pl
        exact kk.nx _ ⟨prs, _, s4, ok, by omega, rfl⟩
    · obtain ⟨prs, s3, s4, ok, pl, rfl⟩ := hp
      rw [List.length_range] at pl
      exact hk _ ⟨prs, s3, s4, ok, by omega, rfl⟩
  obtain ⟨prs, s3, s4, ok, pl, rfl⟩ := e
  acc_peel
  refine rg1K_ok (inB_of (by omega) (by omega)) ?_
  acc_peel
  rw [rgP_map]
  refine forL_inv (fun i ρ => ∃ (prs : List (Nat × Nat)) (s5 : SV), okPr n prs ∧ prs.length ≤ 100 + i ∧ ρ = [.bag, .fz (.int (n : Int)), .own (prs.map prP), s3, s4, s5]) ⟨prs, _, ok, by omega, rfl⟩ (fun i x ρ K hx hp kk => ?_) (fun ρ hp => ?_)
  · obtain ⟨prs, s5, ok, pl, rfl⟩ := hp
    obtain ⟨rfl, hi⟩ := rg_at hx
    refine q_name (erO_ok ?_)
    unfold b2__law_pairs
    acc_peel
    refine q_draw (by omega) (by omega) (fun d d0 d1 => ?_)
    acc_peel
    refine q_draw (by omega) (by omega) (fun e e0 e1 => ?_)
    acc_peel
    refine k_Max (fun m m1 m2 m3 => ?_)
    acc_peel
    refine ⟨by simp, ?_⟩
    acc_peel
    refine ⟨by rw [List.length_map]; omega, kk.nx _ ⟨prs ++ [(d.toNat, m.toNat)], .fz (.int (0 + (x : Int) * 1)), ok.snoc ⟨by show d.toNat ≤ n; omega, by show m.toNat ≤ n; omega⟩, by rw [List.length_append]; show prs.length + 1 ≤ _; omega, ?_⟩⟩
    rw [List.map_append]
    show _ = [_, _, SV.own (_ ++ [.tup [.int ((d.toNat : Nat) : Int), .int ((m.toNat : Nat) : Int)]]), _, _, _]
    rw [Int.toNat_of_nonneg d0, Int.toNat_of_nonneg (by omega : 0 ≤ m)]
    rfl
  · obtain ⟨prs, s5, ok, pl, rfl⟩ := hp
    acc_peel
    exact h prs ok

end My
end

section
set_option Elab.async false
set_option maxRecDepth 100000
set_option maxHeartbeats 4000000
set_option linter.all false
namespace My
open PySem L2
local macro_rules | `(tactic| acc_open) => `(tactic| with_reducible first
  | refine sqK_nx ?_ | refine sqK_rt ?_ | refine sqK_bk ?_ | refine sqK_ct ?_ | refine sqK_er ?_ | refine bk_ok ?_ | refine bk_er ?_ | refine erO_ok ?_ | refine erO_er ?_
  | refine testK_ok ?_ | refine partK_ok ?_ | refine frz_fz ?_ | refine frz_own ?_ | refine frz_er ?_ | refine own_own ?_ | refine own_er ?_ | refine noR_ok ?_ | refine retD_rt ?_ | refine retD_nx ?_ | refine retD_er ?_
  | refine loopK_nx ?_ | refine loopK_ct ?_ | refine loopK_bk ?_ | refine loopK_rt ?_ | refine loopK_er ?_ | refine objR_ok ?_ | refine objR_er ?_
  | refine q_seq ?_ | refine q_next ?_ | refine q_retN ?_ | refine q_break ?_ | refine q_cont ?_ | refine q_if ?_ | refine q_ret ?_ | refine q_retO ?_ | refine q_drop ?_ | refine q_asg ?_ | refine q_asgO ?_ | refine q_app rfl ?_ | refine q_retV rfl ?_ | refine q_retVo rfl ?_ | refine q_frz rfl ?_ | refine q_frz0 rfl ?_ | refine q_par ?_ | refine q_for ?_ | refine q_forN ?_
  | refine q_name ?_ | refine q_gtup rfl ?_ | refine q_gunl rfl ?_ | refine q_gcons ?_ | refine gcK_ok ?_ | refine q_gnil ?_
  | refine q_bind ?_ | refine q_var rfl ?_ | refine q_varB rfl ?_ | refine q_varBo rfl ?_ | refine q_c ?_ | refine q_op ?_ | refine q_p2 ?_ | refine q_p1 ?_ | refine q_ixK ?_ | refine q_neg ?_ | refine q_pif ?_ | refine q_test ?_ | refine q_tand ?_ | refine q_tor ?_ | refine q_tnot ?_ | refine q_yes ?_ | refine q_tru ?_ | refine truK_bl ?_ | refine truK_int ?_ | refine truK_lst ?_ | refine truK_tup ?_
  | refine q_andV ?_ | refine q_orV ?_ | refine q_notV ?_ | refine andVK_ok ?_ | refine orVK_ok ?_ | refine notVK_ok ?_ | refine q_anil ?_ | refine q_acons ?_ | refine q_tup ?_ | refine q_lst ?_ | refine q_pfrz ?_ | refine q_nopart ?_ | refine q_part ?_ | refine q_slS ?_ | refine slSK_ok ?_ | refine q_slL ?_ | refine slLK_ok ?_ | refine slLK2_ok ?_
  | refine q_len ?_ | refine lenK_l ?_ | refine lenK_t ?_ | refine q_listO ?_ | refine seqK_l ?_ | refine seqK_t ?_ | refine q_cat ?_ | refine q_rep ?_ | refine q_join ?_ | refine joinK_ok ?_
  | refine q_itL ?_ | refine q_itT ?_ | refine q_itS ?_ | refine itLK_ok ?_ | refine itTK_ok ?_ | refine itSK_ok ?_ | refine q_rng1 ?_ | refine q_rng2 ?_ | refine q_rev1 ?_ | refine q_lrg1 ?_ | refine q_lrg2 ?_ | refine q_enum ?_ | refine q_enumS ?_ | refine q_enumSK ?_ | refine enK_ok ?_ | refine enSK_ok ?_ | refine q_zip ?_ | refine zipK_l ?_ | refine zipK_t ?_ | refine q_itRev ?_ | refine q_revL ?_ | refine revK_ok ?_ | refine q_revL2 ?_ | refine rev2K_ok ?_
  | refine q_cnil ?_ | refine q_ccons ?_ | refine q_cbag rfl ?_ | refine q_call ?_ | refine q_call0 ?_ | refine q_callO ?_ | refine q_callO0 ?_ | refine q_callK ?_ | refine q_callK0 ?_ | refine q_make ?_ | refine q_make0 ?_ | refine q_meth ?_ | refine q_meth0 ?_ | refine q_lenC ?_ | refine q_fld ?_ | refine q_isi ?_ | refine q_said ?_ | refine saidK_ok ?_
  | refine k_Plus ?_ | refine k_Minus ?_ | refine k_Lt0 ?_ | refine k_Le0 ?_ | refine k_Gt0 ?_ | refine k_Ge0 ?_ | refine k_EqI ?_ | refine k_EqS ?_ | refine k_EqB ?_ | refine k_NeI ?_ | refine k_NeS ?_ | refine k_NeB ?_ | refine k_IsN ?_ | refine k_NotN ?_ | refine k_InS ?_ | refine k_NotInS ?_ | refine k_Int ?_ | refine k_IntB ?_ | refine q_lc ?_
  | refine q_loose rfl ?_ | refine looseK_bl ?_ | refine looseK_int ?_ | refine looseK_str ?_ | refine looseK_non ?_ | refine looseK_er ?_ | refine n_int ?_ | refine n_str ?_ | refine n_bl ?_ | refine n_lst ?_ | refine n_tup ?_ | refine n_obj ?_ | refine n_non ?_ | refine m_int ?_ | refine m_str ?_ | refine m_bl ?_ | refine m_lst ?_ | refine m_tup ?_ | refine m_obj ?_ | refine m_non ?_
  | refine q_fs ?_ | refine q_j0 ?_ | refine q_j1 ?_ | refine q_fmt ?_ | refine q_split ?_ | refine splitK_ok ?_ | refine q_idx ?_ | refine idxK_ok ?_
  | refine i_t ?_ | refine i_f ?_ | refine i_nt ?_ | refine i_nf ?_)
local macro_rules | `(tactic| acc_peel) => `(tactic| repeat' acc_open)
theorem lp_b0 {ns : List Int} {bs : List Blk} {t : Str} {i j s : Int} {s2 s5 s9 s10 s11 s13 : SV} {K : Out → Prop} (o : okT bs) (h : ∀ t13, K (.nx [.scr ns, .bag, s2, .fz (bsP bs), .fz (.lst (rowsL bs (bs.length + 1))), s5, .fz (treeP bs t), .fz (.int i), .fz (.int j), s9, s10, s11, .fz (.int s), t13])) :
    b0_law [.scr ns, .bag, s2, .fz (bsP bs), .fz (.lst (rowsL bs (bs.length + 1))), s5, .fz (treeP bs t), .fz (.int i), .fz (.int j), s9, s10, s11, .fz (.int s), s13] K := by
  unfold b0_law
  refine seq_gen (fun ρ => ρ = [.scr ns, .bag, s2, .fz (bsP bs), .fz (.lst (rowsL bs (bs.length + 1))), s5, .fz (treeP bs t), .fz (.int i), .fz (.int j), s9, s10, s11, .fz (.int s), .fz (dueP bs i j s)]) (fun K' hk => ?_) (fun ρ e => ?_)
  · acc_peel
    refine lp__law_due o (fun l e => ?_)
    acc_peel
    refine hk _ ?_
    rw [← e]
    rfl
  subst e
  acc_peel
  refine lp__law_told o ?_
  acc_peel
  refine lp__law_told o ?_
  rw [due_sym o j i s]
  acc_peel
  refine ⟨by simp, ?_⟩
  acc_peel
  refine ⟨by simp, ?_⟩
  acc_peel
  refine lp_like_due ?_
  acc_peel
  exact h _
theorem of_ints {zs : List Int} {post : Res RV → Prop} (h0 : zs ≠ []) (h1 : zs.length ≤ 1000) (h : ∀ d, post (.ok (.fz (.int d)))) : w__law_of [.bag, .fz (.lst (zs.map PV.int))] post := by
  refine lp__law_of (fun e => h0 (List.map_eq_nil_iff.mp e)) (by rw [List.length_map]; exact h1) (fun q hq => ?_)
  obtain ⟨d, _, rfl⟩ := List.mem_map.mp hq
  exact h d
theorem lp_b2 {ns : List Int} {bs : List Blk} {t : Str} {s2 s7 s8 s9 s10 s11 s12 s13 : SV} {K : Out → Prop} (o : okT bs) (h : ∀ t7 t8 t9 t10 t11 t12 t13, K (.nx [.scr ns, .bag, s2, .fz (bsP bs), .fz (.lst (rowsL bs (bs.length + 1))), .fz (nI bs.length), .fz (treeP bs t), t7, t8, t9, t10, t11, t12, t13])) :
    b2_law [.scr ns, .bag, s2, .fz (bsP bs), .fz (.lst (rowsL bs (bs.length + 1))), .fz (nI bs.length), .fz (treeP bs t), s7, s8, s9, s10, s11, s12, s13] K := by
  have hl := o.len
  unfold b2_law
  refine seq_gen (fun ρ => ∃ i : Int, ρ = [.scr ns, .bag, s2, .fz (bsP bs), .fz (.lst (rowsL bs (bs.length + 1))), .fz (nI bs.length), .fz (treeP bs t), .fz (.int i), s8, s9, s10, s11, s12, s13]) (fun K' hk => ?_) (fun ρ e => ?_)
  · acc_peel
    refine q_draw (by omega) (by omega) (fun d d0 d1 => ?_)
    acc_peel
    refine ⟨by simp, ?_⟩
    acc_peel
    refine of_ints (zs := [-1, (bs.length : Int) + 1, 0, (bs.length : Int), 123456789, -(bs.length : Int) - 1, d]) (by simp) (by simp) (fun i => ?_)
    acc_peel
    exact hk _ ⟨i, rfl⟩
  obtain ⟨i, rfl⟩ := e
  refine seq_gen (fun ρ => ∃ j : Int, ρ = [.scr ns, .bag, s2, .fz (bsP bs), .fz (.lst (rowsL bs (bs.length + 1))), .fz (nI bs.length), .fz (treeP bs t), .fz (.int i), .fz (.int j), s9, s10, s11, s12, s13]) (fun K' hk => ?_) (fun ρ e => ?_)
  · acc_peel
    refine q_draw (by omega) (by omega) (fun d d0 d1 => ?_)
    acc_peel
    refine ⟨by simp, ?_⟩
    acc_peel
    refine of_ints (zs := [0, (bs.length : Int), -2, (bs.length : Int) + 2, d]) (by simp) (by simp) (fun i => ?_)
    acc_peel
    exact hk _ ⟨i, rfl⟩
  obtain ⟨j, rfl⟩ := e
  refine seq_gen (fun ρ => ∃ s : Int, ρ = [.scr ns, .bag, s2, .fz (bsP bs), .fz (.lst (rowsL bs (bs.length + 1))), .fz (nI bs.length), .fz (treeP bs t), .fz (.int i), .fz (.int j), s9, s10, s11, .fz (.int s), s13]) (fun K' hk => ?_) (fun ρ e => ?_)
  · acc_peel
    refine ⟨by simp, ?_⟩
    acc_peel
    refine of_ints (zs := [1, 0, -1, 41, 2, -123456789]) (by simp) (by simp) (fun i => ?_)
    acc_peel
    exact hk _ ⟨i, rfl⟩
  obtain ⟨s, rfl⟩ := e
  show b0_law _ _
  exact lp_b0 o fun t13 => h _ _ _ _ _ _ _
theorem lp_b1 {ns : List Int} {bs : List Blk} {t : Str} {a b : Nat} {s2 s9 s10 s11 s12 s13 : SV} {K : Out → Prop} (o : okT bs) (ha : a ≤ bs.length) (hb : b ≤ bs.length) (h : ∀ t9 t10 t11 t12 t13, K (.nx [.scr ns, .bag, s2, .fz (bsP bs), .fz (.lst (rowsL bs (bs.length + 1))), .fz (nI bs.length), .fz (treeP bs t), .fz (nI a), .fz (nI b), t9, t10, t11, t12, t13])) :
    b1_law [.scr ns, .bag, s2, .fz (bsP bs), .fz (.lst (rowsL bs (bs.length + 1))), .fz (nI bs.length), .fz (treeP bs t), .fz (nI a), .fz (nI b), s9, s10, s11, s12, s13] K := by
  have hl := o.len
  have ra := row_len (bs := bs) (k := a)
  unfold b1_law
  refine seq_gen (fun ρ => ∃ zs : List Int, zs.length ≤ 900 ∧ ρ = [.scr ns, .bag, s2, .fz (bsP bs), .fz (.lst (rowsL bs (bs.length + 1))), .fz (nI bs.length), .fz (treeP bs t), .fz (nI a), .fz (nI b), .fz (.lst (zs.map PV.int)), s10, s11, s12, s13]) (fun K' hk => ?_) (fun ρ e => ?_)
  · acc_peel
    refine k_IxL (rowsL_at (by omega)) ?_
    acc_peel
    refine lc_filter (fun k : Nat => decide (k ∈ rowOf bs b)) (fun k : Nat => .int (slO bs k : Int)) (by omega) (fun k acc K hm hacc h1 h2 => ?_) ?_
    · obtain ⟨m1, m2⟩ := row_mem o a a (Nat.le_refl _) k hm
      have hlt : k - 1 < bs.length := by omega
      have eb := List.getElem?_eq_getElem hlt
      refine q_name (lk1_ok ?_)
      acc_peel
      refine k_IxL (rowsL_at (by omega)) ?_
      acc_peel
      refine k_inL (x := .int (k : Int)) rfl (flat_nsL _) ?_
      rw [inV_nats]
      acc_peel
      refine lk2_b ?_
      refine i_dec (fun e => ?_) (fun e => ?_)
      · acc_peel
        refine k_IxL (bs_at eb (by omega)) ?_
        acc_peel
        refine k_IxT (p := nI (bs[k - 1]).1) rfl ?_
        rw [← slO_at eb]
        exact lk3_ok hacc (h1 (decide_eq_true e))
      · exact h2 (decide_eq_false e)
    · acc_peel
      refine hk _ ⟨((rowOf bs a).filter fun k => decide (k ∈ rowOf bs b)).map fun k => (slO bs k : Int), by rw [List.length_map]; exact Nat.le_trans (List.length_filter_le _ _) (by omega), ?_⟩
      rw [List.map_map]
      rfl
  obtain ⟨zs, zl, rfl⟩ := e
  refine seq_gen (fun ρ => ∃ e : Int, ρ = [.scr ns, .bag, s2, .fz (bsP bs), .fz (.lst (rowsL bs (bs.length + 1))), .fz (nI bs.length), .fz (treeP bs t), .fz (nI a), .fz (nI b), .fz (.lst (zs.map PV.int)), s10, .fz (.int e), s12, s13]) (fun K' hk => ?_) (fun ρ e => ?_)
  · acc_peel
    refine ⟨by simp, ?_⟩
    acc_peel
    refine catK_ok (by rw [List.length_map]; show _ + 1 ≤ _; omega) ?_
    acc_peel
    rw [show zs.map PV.int ++ [PV.int 1] = (zs ++ [1]).map PV.int by rw [List.map_append]; rfl]
    refine of_ints (by simp) (by rw [List.length_append]; show _ + 1 ≤ _; omega) (fun d => ?_)
    acc_peel
    exact hk _ ⟨d, rfl⟩
  obtain ⟨e, rfl⟩ := e
  acc_peel
  refine k_Min (fun m m1 m2 m3 => ?_)
  acc_peel
  refine q_draw (by omega) (by omega) (fun d d0 d1 => ?_)
  acc_peel
  refine ⟨by simp, ?_⟩
  acc_peel
  refine forL_inv (f := PV.int) (xs := [1, e, m, 1 + d]) (fun n ρ => ∃ s12 s13 : SV, ρ = [.scr ns, .bag, s2, .fz (bsP bs), .fz (.lst (rowsL bs (bs.length + 1))), .fz (nI bs.length), .fz (treeP bs t), .fz (nI a), .fz (nI b), .fz (.lst (zs.map PV.int)), s10, .fz (.int e), s12, s13]) ⟨_, _, rfl⟩ (fun n x ρ K hx hp kk => ?_) (fun ρ hp => ?_)
  · obtain ⟨s12, s13, rfl⟩ := hp
    refine q_name (erO_ok ?_)
    exact lp_b0 o fun t13 => kk.nx _ ⟨_, t13, rfl⟩
  · obtain ⟨s12, s13, rfl⟩ := hp
    exact h _ _ _ _ _
theorem lp_b3 {ns : List Int} {x : Int} {s3 s4 s5 s6 s7 s8 s9 s10 s11 s12 s13 : SV} {K : Out → Prop} (h : ∀ t2 t3 t4 t5 t6 t7 t8 t9 t10 t11 t12 t13, K (.nx [.scr ns, .bag, t2, t3, t4, t5, t6, t7, t8, t9, t10, t11, t12, t13])) : b3_law [.scr ns, .bag, .fz (.int x), s3, s4, s5, s6, s7, s8, s9, s10, s11, s12, s13] K := by
  unfold b3_law
  refine seq_gen (fun ρ => ∃ bs, okT bs ∧ ρ = [.scr ns, .bag, .fz (.int x), .fz (bsP bs), s4, s5, s6, s7, s8, s9, s10, s11, s12, s13]) (fun K' hk => ?_) (fun ρ e => ?_)
  · have go : ∀ n : Int, 0 ≤ n → n ≤ 40 → w__law_any [.bag, .fz (.int n)] (frzR (noR (erO K' fun p => gpName 3 p [.scr ns, .bag, .fz (.int x), s3, s4, s5, s6, s7, s8, s9, s10, s11, s12, s13] (erO K' fun ρ' => K' (.nx ρ'))))) := fun n n0 n1 => lp__law_any n0 n1 fun bs o => by
      acc_peel
      exact hk _ ⟨bs, o, rfl⟩
    acc_peel
    refine i_dec (fun _ => ?_) (fun _ => ?_)
    · refine q_test ?_
      acc_peel
      refine q_draw (by omega) (by omega) (fun d d0 d1 => ?_)
      acc_peel
      refine i_dec (fun _ => ?_) (fun _ => ?_)
      · acc_peel
        exact go 40 (by omega) (by omega)
      · acc_peel
        exact go 10 (by omega) (by omega)
    · acc_peel
      exact go 10 (by omega) (by omega)
  obtain ⟨bs, o, rfl⟩ := e
  have hl := o.len
  refine seq_gen (fun ρ => ρ = [.scr ns, .bag, .fz (.int x), .fz (bsP bs), .fz (.lst (rowsL bs (bs.length + 1))), s5, s6, s7, s8, s9, s10, s11, s12, s13]) (fun K' hk => ?_) (fun ρ e => ?_)
  · acc_peel
    refine lp__law_rows o ?_
    acc_peel
    exact hk _ rfl
  subst e
  refine seq_gen (fun ρ => ρ = [.scr ns, .bag, .fz (.int x), .fz (bsP bs), .fz (.lst (rowsL bs (bs.length + 1))), .fz (nI bs.length), s6, s7, s8, s9, s10, s11, s12, s13]) (fun K' hk => ?_) (fun ρ e => ?_)
  · acc_peel
    rw [List.length_map]
    exact hk _ rfl
  subst e
  refine seq_gen (fun ρ => ∃ t, ρ = [.scr ns, .bag, .fz (.int x), .fz (bsP bs), .fz (.lst (rowsL bs (bs.length + 1))), .fz (nI bs.length), .fz (treeP bs t), s7, s8, s9, s10, s11, s12, s13]) (fun K' hk => ?_) (fun ρ e => ?_)
  · acc_peel
    refine lp_Tree_of o (fun t => ?_)
    acc_peel
    exact hk _ ⟨t, rfl⟩
  obtain ⟨t, rfl⟩ := e
  refine seq_gen (fun ρ => ∃ s7 s8 s9 s10 s11 s12 s13 : SV, ρ = [.scr ns, .bag, .fz (.int x), .fz (bsP bs), .fz (.lst (rowsL bs (bs.length + 1))), .fz (nI bs.length), .fz (treeP bs t), s7, s8, s9, s10, s11, s12, s13]) (fun K' hk => ?_) (fun ρ e => ?_)
  · acc_peel
    refine lp__law_pairs hl (fun prs ok => ?_)
    acc_peel
    refine forL_inv (fun n ρ => ∃ s7 s8 s9 s10 s11 s12 s13 : SV, ρ = [.scr ns, .bag, .fz (.int x), .fz (bsP bs), .fz (.lst (rowsL bs (bs.length + 1))), .fz (nI bs.length), .fz (treeP bs t), s7, s8, s9, s10, s11, s12, s13]) ⟨_, _, _, _, _, _, _, rfl⟩ (fun n p ρ K hx hp kk => ?_) (fun ρ hp => hk _ hp)
    obtain ⟨s7, s8, s9, s10, s11, s12, s13, rfl⟩ := hp
    obtain ⟨p1, p2⟩ := ok p (List.mem_of_getElem? hx)
    refine q_gtup (ps := [nI p.1, nI p.2]) rfl ?_
    refine q_gcons (q_name (gcK_ok (q_gcons (q_name (gcK_ok (q_gnil (erO_ok ?_)))))))
    exact lp_b1 o p1 p2 fun t9 t10 t11 t12 t13 => kk.nx _ ⟨_, _, t9, t10, t11, t12, t13, rfl⟩
  obtain ⟨s7, s8, s9, s10, s11, s12, s13, rfl⟩ := e
  acc_peel
  refine rg1K_ok (inB_of (by omega) (by omega)) ?_
  acc_peel
  rw [rgP_map]
  refine forL_inv (fun n ρ => ∃ s7 s8 s9 s10 s11 s12 s13 : SV, ρ = [.scr ns, .bag, .fz (.int x), .fz (bsP bs), .fz (.lst (rowsL bs (bs.length + 1))), .fz (nI bs.length), .fz (treeP bs t), s7, s8, s9, s10, s11, s12, s13]) ⟨_, _, _, _, _, _, _, rfl⟩ (fun n y ρ K hx hp kk => ?_) (fun ρ hp => ?_)
  · obtain ⟨s7, s8, s9, s10, s11, s12, s13, rfl⟩ := hp
    refine q_name (erO_ok ?_)
    exact lp_b2 o fun t7 t8 t9 t10 t11 t12 t13 => kk.nx _ ⟨t7, t8, t9, t10, t11, t12, t13, rfl⟩
  · obtain ⟨s7, s8, s9, s10, s11, s12, s13, rfl⟩ := hp
    exact h _ _ _ _ _ _ _ _ _ _ _ _
theorem sv_law {ns : List Int} : s_v_law (.scr ns :: .bag :: List.replicate 12 .un) (fun o => match o with | .rt (.fz p) => p = .bl true | _ => False) := by
  show s_v_law [.scr ns, .bag, .un, .un, .un, .un, .un, .un, .un, .un, .un, .un, .un, .un] _
  unfold s_v_law
  acc_peel
  refine rg1K_ok (inB_of (by omega) (by omega)) ?_
  acc_peel
  rw [rgP_map]
  refine forL_inv (fun n ρ => ∃ t2 t3 t4 t5 t6 t7 t8 t9 t10 t11 t12 t13, ρ = [.scr ns, .bag, t2, t3, t4, t5, t6, t7, t8, t9, t10, t11, t12, t13]) ⟨_, _, _, _, _, _, _, _, _, _, _, _, rfl⟩ (fun n x ρ K hx hp kk => ?_) (fun ρ hp => ?_)
  · obtain ⟨t2, t3, t4, t5, t6, t7, t8, t9, t10, t11, t12, t13, rfl⟩ := hp
    refine q_name (erO_ok ?_)
    exact lp_b3 fun u2 u3 u4 u5 u6 u7 u8 u9 u10 u11 u12 u13 => kk.nx _ ⟨u2, u3, u4, u5, u6, u7, u8, u9, u10, u11, u12, u13, rfl⟩
  · obtain ⟨t2, t3, t4, t5, t6, t7, t8, t9, t10, t11, t12, t13, rfl⟩ := hp
    acc_peel
    rfl

end My
end

section
set_option Elab.async false
set_option maxRecDepth 100000
set_option maxHeartbeats 4000000
set_option linter.all false
namespace My
open PySem L2
def r__law_bag (K : PySem.W.Frag) : TS := (tSeq (tAsg (tC (.int 16197)) (gName 1))
  (tSeq (tFor (iList K (tSl (rSlL K) (tVar 0) tNoPart (tPart (tC (.int 63))))) (gName 2)
   (tAsg (tOp rModP (tCB bInt (tCons (tOp rPlus (tOp rPlus (tOp rTimes (tVar 1) (tC (.int 48611))) (tOp rModP (tCB bInt (tCons (tVar 2) tNil)) (tC (.int 2147483549)))) (tC (.int 331))) tNil)) (tC (.int 2147483587))) (gName 1)))
  (tRet (tLst (tCons (tCB (bList K) (tCons (tSl (rSlL K) (tVar 0) tNoPart (tPart (tC (.int 63)))) tNil)) (tCons (tC (.int 0)) (tCons (tC (.int 0)) (tCons (tVar 1) (tCons (tC (.int 0)) (tCons (tC (.int 0)) tNil))))))))))
def r__law_draw (K : PySem.W.Frag) : TS := (tSeq (tAsg (tOp rPlus (tOp (rIxL K) (tVar 0) (tC (.int 4))) (tC (.int 1))) (gSub (tVar 0) (tC (.int 4)) rSetL))
  (C8.tCut (tIfS (tAnd (tTest (tOp rEq (tOp (rIxL K) (tVar 0) (tC (.int 2))) (tC (.int 0)))) (tTest (tOp rLt0 (tOp (rIxL K) (tVar 0) (tC (.int 1))) (tCB (bLen K) (tCons (tOp (rIxL K) (tVar 0) (tC (.int 0))) tNil))))) (tSeq (tAsg (tOp (rIxL K) (tOp (rIxL K) (tVar 0) (tC (.int 0))) (tOp (rIxL K) (tVar 0) (tC (.int 1)))) (gName 2))
  (tSeq (tAsg (tOp rPlus (tOp (rIxL K) (tVar 0) (tC (.int 1))) (tC (.int 1))) (gSub (tVar 0) (tC (.int 1)) rSetL))
  (tIfS (tTest (tOp rGe0 (tVar 2) (tOp rPow0 (tC (.int 10)) (tC (.int 18))))) (tSeq (tAsg (tVar 2) (gSub (tVar 0) (tC (.int 2)) rSetL))
  (tAsg (tC (.int 60)) (gSub (tVar 0) (tC (.int 5)) rSetL))) (tAsg (tOp rModP (tCB bInt (tCons (tOp rPlus (tOp rPlus (tOp rTimes (tOp (rIxL K) (tVar 0) (tC (.int 3))) (tC (.int 69621))) (tOp rTimes (tOp rModP (tCB bInt (tCons (tVar 2) tNil)) (tC (.int 2147483543))) (tC (.int 30103)))) (tC (.int 97))) tNil)) (tC (.int 2147483579))) (gSub (tVar 0) (tC (.int 3)) rSetL))))) tNext)
  (tSeq (tIfS (tTest (tOp rGt0 (tOp (rIxL K) (tVar 0) (tC (.int 2))) (tC (.int 0)))) (tSeq (tAsg (tOp rModP (tCB bInt (tCons (tOp (rIxL K) (tVar 0) (tC (.int 2))) tNil)) (tVar 1)) (gName 3))
  (tSeq (tAsg (tOp rMinus (tOp (rIxL K) (tVar 0) (tC (.int 5))) (tC (.int 1))) (gSub (tVar 0) (tC (.int 5)) rSetL))
  (tSeq (tAsg (tIf (tTest (tOp rGt0 (tOp (rIxL K) (tVar 0) (tC (.int 5))) (tC (.int 0)))) (tOp rFdivN (tOp (rIxL K) (tVar 0) (tC (.int 2))) (tVar 1)) (tC (.int 0))) (gSub (tVar 0) (tC (.int 2)) rSetL))
  (tRet (tVar 3))))) tNext)
  (tSeq (tAsg (tOp rModP (tCB bInt (tCons (tOp rPlus (tOp rPlus (tOp rPow0 (tOp (rIxL K) (tVar 0) (tC (.int 3))) (tC (.int 3))) (tOp rTimes (tOp (rIxL K) (tVar 0) (tC (.int 4))) (tC (.int 1299709)))) (tC (.int 60013))) tNil)) (tC (.int 2147483579))) (gSub (tVar 0) (tC (.int 3)) rSetL))
  (tRet (tOp rModP (tCB bInt (tCons (tOp rPlus (tOp rFdivN (tOp (rIxL K) (tVar 0) (tC (.int 3))) (tC (.int 97))) (tOp rTimes (tOp rModP (tCB bInt (tCons (tOp (rIxL K) (tVar 0) (tC (.int 3))) tNil)) (tC (.int 7901))) (tC (.int 67)))) tNil)) (tVar 1)))))))
theorem cut_map (ns : List Int) (lo hi : Option Int) : ∃ ms : List Int, cutV (ns.map V.int) lo hi = ms.map V.int ∧ ms.length ≤ ns.length := by
  unfold cutV
  rw [← List.map_drop, ← List.map_take]
  refine ⟨_, rfl, ?_⟩
  rw [List.length_take, List.length_drop]; omega
theorem len__law_bag {K : PySem.W.Frag} {vs : List V} {H : Hp} {Q : VK} {E : XK} (h : sp__law_bag K vs H Q E) : vs.length = P__law_bag.length := by
  obtain ⟨s, ns, rfl, _⟩ := h; rfl
theorem emod_range {x m : Int} (h : 0 < m) : 0 ≤ x % m ∧ x % m < m := ⟨Int.emod_nonneg _ (by omega), Int.emod_lt_of_pos _ h⟩
theorem len__law_draw {K : PySem.W.Frag} {vs : List V} {H : Hp} {Q : VK} {E : XK} (h : sm__law_draw K vs H Q E) : vs.length = P__law_draw.length := by
  obtain ⟨a, c, L, rfl, _⟩ := h; rfl
local macro_rules | `(tactic| apart_at) => `(tactic| first
  | assumption
  | exact upd_same
  | (refine upd_at ?n1 ?n2; (case n1 => apart_rest); (case n2 => apart_at))
  | exact same_at (by assumption) (by apart_at)
  | exact sb_at (by assumption) (by apart_rest) (by apart_at)
  | fail)
local macro_rules | `(tactic| apart_rest) => `(tactic| first
  | assumption
  | (apply Ne.symm; assumption)
  | (refine ne_bag ?_ ?_ <;> assumption)
  | exact ne_bagT (by assumption) (by apart_at)
  | exact ne_new (by assumption) (by apart_at)
  | exact ne_new' (by assumption) (by apart_at)
  | fail)
local macro_rules | `(tactic| acc_open) => `(tactic| first
  | with_reducible (first
  | refine s_seq ?_ | refine s_asg ?_ | refine s_ret ?_ | refine s_retN ?_ | refine s_drop ?_ | refine s_next ?_ | refine s_if ?_ | refine s_fld ?_ | refine e_fld ?_ | refine s_par ?_ | refine x_par ?_
  | refine g_name ?_ | refine g_cons ?_ | refine g_nil ?_ | refine g_sub ?_ | refine g_tup ?_ rfl ?_
  | refine e_var rfl ?_ | refine e_c ?_ | refine e_op ?_ | refine e_un ?_ | refine e_if ?_ | refine e_tup ?_ | refine e_lst ?_ | refine e_callD ?_ | refine e_smeth ?_ | refine e_cb ?_ | refine e_bm ?_ | refine e_bm0 ?_ | refine e_sl ?_
  | refine o_no ?_ | refine o_part ?_ | refine x_part ?_ | refine e_and ?_ | refine e_or ?_ | refine e_not ?_ | refine a_cons ?_ | refine a_nil ?_
  | refine t_test ?_ | refine t_b ?_ | refine t_and ?_ | refine t_or ?_ | refine t_not ?_ | refine t_tru ?_ | refine x_blE ?_
  | refine r_plus ?_ | refine r_minus ?_ | refine r_lt ?_ | refine r_le ?_ | refine r_gt ?_ | refine r_ge ?_ | refine r_eqI ?_ | refine r_eqB ?_ | refine r_eqS ?_ | refine r_neI ?_ | refine r_neB ?_ | refine r_neS ?_ | refine r_neg ?_
  | refine r_isNi ?_ | refine r_isNr ?_ | refine r_isNn ?_ | refine r_isNb ?_ | refine r_isNs ?_ | refine r_notNi ?_ | refine r_notNr ?_ | refine r_notNn ?_
  | refine b_int ?_ | refine x_ts ?_ | refine e_join ?_ | refine j_nil ?_ | refine j_cons ?_ | refine x_trB ?_
  | refine r_inS ?_ | refine r_notInS ?_ | refine t_yes ?_ | refine i_t ?_ | refine i_f ?_ | refine i_nt ?_ | refine i_nf ?_)
  | ((with_reducible refine' r_ixT ?k1 ?k0 ?k2 ?_); (case k1 => exact SqT.at (by assumption)); (case k0 => decide); (case k2 => rfl))
  | ((with_reducible refine' r_ixL ?k1 ?k0 ?k2 ?_); (case k1 => exact SqL.at (by assumption)); (case k0 => decide); (case k2 => rfl))
  | ((with_reducible refine' b_lenT ?k1 ?_); (case k1 => exact SqT.at (by assumption)))
  | ((with_reducible refine' b_lenL ?k1 ?_); (case k1 => exact SqL.at (by assumption)))
  | ((with_reducible refine' x_tl ?k1 ?_); (case k1 => exact SqL.at (by assumption)))
  | ((with_reducible refine' x_trT ?k1 ?_); (case k1 => exact SqT.at (by assumption)))
  | ((with_reducible refine' x_trL ?k1 ?_); (case k1 => exact SqL.at (by assumption)))
  | ((with_reducible refine' r_ixT ?k1 ?k0 ?k2 ?_); (case k1 => exact SqT.at (by apart_at)); (case k0 => decide); (case k2 => rfl))
  | ((with_reducible refine' r_ixL ?k1 ?k0 ?k2 ?_); (case k1 => exact SqL.at (by apart_at)); (case k0 => decide); (case k2 => rfl))
  | ((with_reducible refine' r_set ?k1 ?k0 ?k2 ?k3 ?_); (case k1 => apart_at); (case k0 => decide); (case k2 => rfl); (case k3 => exact Nat.le_of_ble_eq_true rfl))
  | ((with_reducible refine' b_lenT ?k1 ?_); (case k1 => exact SqT.at (by apart_at)))
  | ((with_reducible refine' b_lenL ?k1 ?_); (case k1 => exact SqL.at (by apart_at)))
  | ((with_reducible refine' x_tl ?k1 ?_); (case k1 => exact SqL.at (by apart_at)))
  | ((with_reducible refine' b_tupT ?k1 ?_); (case k1 => exact SqT.at (by apart_at)))
  | ((with_reducible refine' x_trT ?k1 ?_); (case k1 => exact SqT.at (by apart_at)))
  | ((with_reducible refine' x_trL ?k1 ?_); (case k1 => exact SqL.at (by apart_at))))
local macro_rules | `(tactic| acc_peel) => `(tactic| repeat' acc_open)
theorem pure__law_bag {K : PySem.W.Frag} (vs : List V) (H : Hp) (Q : VK) (E : XK) (h : sp__law_bag K vs H Q E) : r__law_bag K { nx := fun _ H' => Q .non H', rt := Q } (start N__law_bag vs) H := by
  obtain ⟨s, ns, rfl, hs, hl, q⟩ := h
  unfold r__law_bag
  acc_peel
  refine s_for ?_
  refine i_list ?_
  acc_peel
  refine r_slL hs (fun l hl0 => ?_)
  obtain ⟨ms, em, hms⟩ := cut_map ns none (some 63)
  rw [em]
  have sm0 : Same H (upd H l (.lst (ms.map V.int))) := Same.new (Same.refl H) hl0
  refine ⟨l, rfl, ⟨_, SqL.at upd_same⟩, for_list (K := K) (a := l) (xs := ms.map V.int) (fun i σ H' => upd H l (.lst (ms.map V.int)) = H' ∧ ∃ (b : Int) (v : Option V), σ = [some (.ref s), some (.int b), v] ∧ 0 ≤ b ∧ b < 2147483648)
    ⟨rfl, 16197, none, rfl, by decide, by decide⟩ (fun i σ H' _ h => by rw [← h.1]; exact SqL.at upd_same) ?_ ?_⟩
  · rintro i x σ H' hx ⟨rfl, b, v, rfl, b0, b1⟩
    obtain ⟨n, rfl, hn⟩ := mapI_get hx
    acc_peel
    refine r_times (Or.inr (by decide)) ?_
    acc_peel
    refine r_mod (by decide) ?_
    acc_peel
    refine r_mod (by decide) ?_
    acc_peel
    have e := emod_range (x := b * 48611 + n % 2147483549 + 331) (m := 2147483587) (by decide)
    exact ⟨rfl, _, _, rfl, e.1, by omega⟩
  · rintro σ H' ⟨rfl, b, v, rfl, b0, b1⟩
    acc_peel
    refine r_slL (SqL.mono hs sm0) (fun l2 hl2 => ?_)
    rw [em]
    acc_peel
    refine b_listL (SqL.at upd_same) (fun l3 hl3 => ?_)
    acc_peel
    refine ⟨sz (by show 6 ≤ 100000; decide), fun a ha => ?_⟩
    have n2 : l3 ≠ l2 := fun e => by rw [e, upd_same] at hl3; cases hl3
    have na3 : l3 ≠ a := fun e => by rw [← e, upd_same] at ha; cases ha
    have na2 : l2 ≠ a := fun e => by rw [← e, upd_ne n2.symm, upd_same] at ha; cases ha
    have nl2 : l ≠ l2 := fun e => by rw [← e, upd_same] at hl2; cases hl2
    have sm1 := Same.new (o := .lst (ms.map V.int)) sm0 hl2
    have sm2 := Same.new (o := .lst (ms.map V.int)) sm1 hl3
    refine q _ a l3 (sm2.free ha) (sm1.free hl3) (Same.new sm2 ha) ⟨ms, 0, 0, b, 0, 0, upd_same, na3, upd_at na3 upd_same, by decide, by decide, b0, b1⟩
theorem pure__law_draw {K : PySem.W.Frag} (vs : List V) (H : Hp) (Q : VK) (E : XK) (h : sm__law_draw K vs H Q E) : r__law_draw K { nx := fun _ H' => Q .non H', rt := Q } (start N__law_draw vs) H := by
  obtain ⟨a, c, L, rfl, ⟨cs, i, r, m, n, d6, ha, nc, hc, i0, r0, m0, m1⟩, L0, L1, q⟩ := h
  unfold r__law_draw
  acc_peel
  refine s_cut (fun σ H' => ∃ v : Option V, σ = [some (.ref a), some (.int L), v, none] ∧ Sb a H H' ∧ BagAt a c H') ?_ ?_
  · acc_peel
    refine i_dec (fun hr => ?_) (fun hr => ?_)
    · acc_peel
      rw [List.length_map]
      refine i_dec (fun hi => ?_) (fun hi => ?_)
      · acc_peel
        have hlt : i.toNat < cs.length := by omega
        refine r_ixL (SqL.at (upd_at nc hc)) i0 (v := V.int (cs[i.toNat]'hlt)) (by rw [List.getElem?_map, List.getElem?_eq_getElem hlt]; rfl) ?_
        generalize (cs[i.toNat]'hlt) = w
        acc_peel
        refine r_pow (by unfold CPow; decide) ?_
        acc_peel
        refine i_dec (fun hw => ?_) (fun hw => ?_)
        · acc_peel
          refine ⟨_, rfl, Sb.own (Sb.own (Sb.own (Sb.own (Sb.refl a H)))), cs, i + 1, w, m, n + 1, 60, upd_same, nc, by apart_at, by omega, ?_, m0, m1⟩
          exact Int.le_trans (by decide) hw
        · acc_peel
          refine r_times (Or.inr (by decide)) ?_
          acc_peel
          refine r_mod (by decide) ?_
          acc_peel
          refine r_times (Or.inr (by decide)) ?_
          acc_peel
          refine r_mod (by decide) ?_
          acc_peel
          have e := emod_range (x := m * 69621 + w % 2147483543 * 30103 + 97) (m := 2147483579) (by decide)
          exact ⟨_, rfl, Sb.own (Sb.own (Sb.own (Sb.refl a H))), cs, i + 1, r, _, n + 1, d6, upd_same, nc, by apart_at, by omega, r0, e.1, by omega⟩
      · acc_peel
        exact ⟨_, rfl, Sb.own (Sb.refl a H), cs, i, r, m, n + 1, d6, upd_same, nc, by apart_at, i0, r0, m0, m1⟩
    · acc_peel
      exact ⟨_, rfl, Sb.own (Sb.refl a H), cs, i, r, m, n + 1, d6, upd_same, nc, by apart_at, i0, r0, m0, m1⟩
  clear hc ha m0 m1 i0 r0 nc
  clear cs i r m n d6
  rintro σ H1 ⟨v, rfl, sb, cs, i, r, m, n, d6, ha, nc, hc, i0, r0, m0, m1⟩
  acc_peel
  refine i_dec (fun hr => ?_) (fun hr => ?_)
  · acc_peel
    refine r_mod L0 ?_
    acc_peel
    have e := emod_range (x := r) (m := L) L0
    refine i_dec (fun h5 => ?_) (fun h5 => ?_)
    · acc_peel
      refine r_fdiv ⟨by omega, by omega⟩ ?_
      acc_peel
      refine q _ _ (Sb.own (Sb.own sb)) ⟨cs, i, r.fdiv L, m, n, d6 - 1, upd_same, nc, by apart_at, i0, ?_, m0, m1⟩ e.1 e.2
      rw [Int.fdiv_eq_ediv_of_nonneg _ (by omega)]
      exact Int.ediv_nonneg r0 (by omega)
    · acc_peel
      exact q _ _ (Sb.own (Sb.own sb)) ⟨cs, i, 0, m, n, d6 - 1, upd_same, nc, by apart_at, i0, by decide, m0, m1⟩ e.1 e.2
  acc_peel
  refine r_pow (by unfold CPow; exact ⟨by decide, by decide, by omega⟩) ?_
  acc_peel
  refine r_times (Or.inr (by decide)) ?_
  acc_peel
  refine r_mod (by decide) ?_
  acc_peel
  generalize hm : (m ^ (3 : Int).toNat + n * 1299709 + 60013) % 2147483579 = m2
  have e2 := emod_range (x := m ^ (3 : Int).toNat + n * 1299709 + 60013) (m := 2147483579) (by decide)
  rw [hm] at e2
  refine r_fdiv ⟨by decide, by decide⟩ ?_
  acc_peel
  refine r_mod (by decide) ?_
  acc_peel
  refine r_times (Or.inr (by decide)) ?_
  acc_peel
  refine r_mod L0 ?_
  have e := emod_range (x := m2.fdiv 97 + m2 % 7901 * 67) (m := L) L0
  exact q _ _ (Sb.own sb) ⟨cs, i, r, m2, n, d6, upd_same, nc, by apart_at, i0, r0, e2.1, by omega⟩ e.1 e.2
end My
end

section
set_option Elab.async false
set_option maxRecDepth 100000
set_option maxHeartbeats 4000000
set_option linter.all false
namespace My
open PySem L2
open LamX L2H
local macro_rules | `(tactic| apart_at) => `(tactic| first
  | assumption
  | exact upd_same
  | (refine upd_at ?n1 ?n2; (case n1 => apart_rest); (case n2 => apart_at))
  | exact same_at (by assumption) (by apart_at)
  | exact sb_at (by assumption) (by apart_rest) (by apart_at)
  | fail)
local macro_rules | `(tactic| apart_rest) => `(tactic| first
  | assumption
  | (apply Ne.symm; assumption)
  | (refine ne_bag ?_ ?_ <;> assumption)
  | exact ne_bagT (by assumption) (by apart_at)
  | exact ne_new (by assumption) (by apart_at)
  | exact ne_new' (by assumption) (by apart_at)
  | fail)
local macro_rules | `(tactic| acc_open) => `(tactic| first
  | with_reducible (first
  | refine s_seq ?_ | refine s_asg ?_ | refine s_ret ?_ | refine s_retN ?_ | refine s_drop ?_ | refine s_next ?_ | refine s_if ?_ | refine s_fld ?_ | refine e_fld ?_ | refine s_par ?_ | refine x_par ?_
  | refine g_name ?_ | refine g_cons ?_ | refine g_nil ?_ | refine g_sub ?_ | refine g_tup ?_ rfl ?_
  | refine e_var rfl ?_ | refine e_c ?_ | refine e_op ?_ | refine e_un ?_ | refine e_if ?_ | refine e_tup ?_ | refine e_lst ?_ | refine e_callD ?_ | refine e_smeth ?_ | refine e_cb ?_ | refine e_bm ?_ | refine e_bm0 ?_ | refine e_sl ?_
  | refine o_no ?_ | refine o_part ?_ | refine x_part ?_ | refine e_and ?_ | refine e_or ?_ | refine e_not ?_ | refine a_cons ?_ | refine a_nil ?_
  | refine t_test ?_ | refine t_b ?_ | refine t_and ?_ | refine t_or ?_ | refine t_not ?_ | refine t_tru ?_ | refine x_blE ?_
  | refine r_plus ?_ | refine r_minus ?_ | refine r_lt ?_ | refine r_le ?_ | refine r_gt ?_ | refine r_ge ?_ | refine r_eqI ?_ | refine r_eqB ?_ | refine r_eqS ?_ | refine r_neI ?_ | refine r_neB ?_ | refine r_neS ?_ | refine r_neg ?_
  | refine r_isNi ?_ | refine r_isNr ?_ | refine r_isNn ?_ | refine r_isNb ?_ | refine r_isNs ?_ | refine r_notNi ?_ | refine r_notNr ?_ | refine r_notNn ?_
  | refine b_int ?_ | refine x_ts ?_ | refine e_join ?_ | refine j_nil ?_ | refine j_cons ?_ | refine x_trB ?_
  | refine r_inS ?_ | refine r_notInS ?_ | refine t_yes ?_ | refine i_t ?_ | refine i_f ?_ | refine i_nt ?_ | refine i_nf ?_)
  | ((with_reducible refine' r_ixT ?k1 ?k0 ?k2 ?_); (case k1 => exact SqT.at (by assumption)); (case k0 => decide); (case k2 => rfl))
  | ((with_reducible refine' r_ixL ?k1 ?k0 ?k2 ?_); (case k1 => exact SqL.at (by assumption)); (case k0 => decide); (case k2 => rfl))
  | ((with_reducible refine' b_lenT ?k1 ?_); (case k1 => exact SqT.at (by assumption)))
  | ((with_reducible refine' b_lenL ?k1 ?_); (case k1 => exact SqL.at (by assumption)))
  | ((with_reducible refine' x_tl ?k1 ?_); (case k1 => exact SqL.at (by assumption)))
  | ((with_reducible refine' x_trT ?k1 ?_); (case k1 => exact SqT.at (by assumption)))
  | ((with_reducible refine' x_trL ?k1 ?_); (case k1 => exact SqL.at (by assumption)))
  | ((with_reducible refine' r_ixT ?k1 ?k0 ?k2 ?_); (case k1 => exact SqT.at (by apart_at)); (case k0 => decide); (case k2 => rfl))
  | ((with_reducible refine' r_ixL ?k1 ?k0 ?k2 ?_); (case k1 => exact SqL.at (by apart_at)); (case k0 => decide); (case k2 => rfl))
  | ((with_reducible refine' r_set ?k1 ?k0 ?k2 ?k3 ?_); (case k1 => apart_at); (case k0 => decide); (case k2 => rfl); (case k3 => exact Nat.le_of_ble_eq_true rfl))
  | ((with_reducible refine' b_lenT ?k1 ?_); (case k1 => exact SqT.at (by apart_at)))
  | ((with_reducible refine' b_lenL ?k1 ?_); (case k1 => exact SqL.at (by apart_at)))
  | ((with_reducible refine' x_tl ?k1 ?_); (case k1 => exact SqL.at (by apart_at)))
  | ((with_reducible refine' b_tupT ?k1 ?_); (case k1 => exact SqT.at (by apart_at)))
  | ((with_reducible refine' x_trT ?k1 ?_); (case k1 => exact SqT.at (by apart_at)))
  | ((with_reducible refine' x_trL ?k1 ?_); (case k1 => exact SqL.at (by apart_at))))
local macro_rules | `(tactic| acc_peel) => `(tactic| repeat' acc_open)
theorem fnOk_falseZ {P : Program} {w : World} {K : PySem.W.Frag} {mg : Str → Option Value} {base : Heap} {CX : CXT} {k : Nat} {f : Addr} {fd : FuncData} {ps : List Str} {sp : Sp} (h : ∀ vs H Q E, ¬ sp vs H Q E) : FnOk P w K mg base CX k f fd ps sp :=
  ⟨fun vs H Q E z => absurd z (h vs H Q E), fun A outer s H args us vs Q E _ _ _ _ z => absurd z (h vs H Q E)⟩
theorem false_spP {K : PySem.W.Frag} {T : List (Addr × Str)} {n : Nat} {vs : List V} {H : Hp} {Q : VK} {E : XK} (h : SpP K T n (fun _ _ => False) vs H Q E) : False := by
  obtain ⟨c, as, post, _, _, _, _, hw, _⟩ := h
  exact hw
theorem tabs_nil {T : List (Addr × Str)} {H : Hp} (h : ∀ p ∈ T, H p.1 = some (.tbl #[])) : LamX.Tabs T H := fun p hp => LamX.TabS.nil (h p hp)
def sp_law (K : PySem.W.Frag) : Sp := fun vs H Q _ => ∃ (a : Addr) (ns : List Int), vs = [.ref a] ∧ SqL K H a (ns.map V.int) ∧ ns.length ≤ 63 ∧ LamX.Tabs (Tb K) H ∧ ∀ H', Q (.bl true) H'
theorem kt_lst {K : PySem.W.Frag} {M : List Addr} {H H' : Hp} {l : Addr} {xs : List V} {ps : List PV} (dom : ∀ b ∈ M, ∃ o, H b = some o ∧ NT o) (hn : H l = none) (e : H' l = some (.lst xs)) (r : RepL K M H' xs ps) : Rep K M H' (.ref l) (.lst ps) :=
  .lst (fun h => by obtain ⟨o, e2, _⟩ := dom l h; rw [hn] at e2; cases e2) e r.1 r.2
theorem kt_tup {K : PySem.W.Frag} {M : List Addr} {H H' : Hp} {l : Addr} {xs : List V} {ps : List PV} (dom : ∀ b ∈ M, ∃ o, H b = some o ∧ NT o) (hn : H l = none) (e : H' l = some (.tup xs)) (r : RepL K M H' xs ps) : Rep K M H' (.ref l) (.tup ps) :=
  .tup (fun h => by obtain ⟨o, e2, _⟩ := dom l h; rw [hn] at e2; cases e2) e r.1 r.2
abbrev N__law_error : List Str := ["e", "found"]
abbrev P__law_error : List Str := ["e"]
theorem sc__law_error : FnScope N__law_error P__law_error (defScope s__law_error) := ⟨rfl, rfl, rfl, by decide +kernel, rfl, by decide +kernel, by decide +kernel⟩
structure EFW (K : PySem.W.Frag) : Prop where
  one : ∀ n ∈ (["BadRota", "BadWorld", "BadTree", "BadPlay", "BadBook", "BadCourse", "BadDie", "BadMill", "BadRoster", "BadScript", "NoTree", "TooMany", "NoSuch", "Ended"] : List Str), PySem.W.kitOne K (.ref (He.ga K "OutOf")) (.ref (He.ga K n)) = some false
  out : PySem.W.kitOne K (.ref (He.ga K "OutOf")) (.ref (He.ga K "OutOf")) = some true
def r__law_error (K : PySem.W.Frag) (a d : Addr) : TS := (tSeq (tAsg (tLst tNil) (gName 1))
  (tSeq (tIfS (tB (tCB (rIsP K (He.ga K "OutOf") a d) (tCons (tVar 0) (tCons (tC (.ref (He.ga K "BadRota"))) tNil)))) tNever tNext)
  (tSeq (tIfS (tB (tCB (rIsP K (He.ga K "OutOf") a d) (tCons (tVar 0) (tCons (tC (.ref (He.ga K "BadWorld"))) tNil)))) tNever tNext)
  (tSeq (tIfS (tB (tCB (rIsP K (He.ga K "OutOf") a d) (tCons (tVar 0) (tCons (tC (.ref (He.ga K "BadTree"))) tNil)))) tNever tNext)
  (tSeq (tIfS (tB (tCB (rIsP K (He.ga K "OutOf") a d) (tCons (tVar 0) (tCons (tC (.ref (He.ga K "BadPlay"))) tNil)))) tNever tNext)
  (tSeq (tIfS (tB (tCB (rIsP K (He.ga K "OutOf") a d) (tCons (tVar 0) (tCons (tC (.ref (He.ga K "BadBook"))) tNil)))) tNever tNext)
  (tSeq (tIfS (tB (tCB (rIsP K (He.ga K "OutOf") a d) (tCons (tVar 0) (tCons (tC (.ref (He.ga K "BadCourse"))) tNil)))) tNever tNext)
  (tSeq (tIfS (tB (tCB (rIsP K (He.ga K "OutOf") a d) (tCons (tVar 0) (tCons (tC (.ref (He.ga K "BadDie"))) tNil)))) tNever tNext)
  (tSeq (tIfS (tB (tCB (rIsP K (He.ga K "OutOf") a d) (tCons (tVar 0) (tCons (tC (.ref (He.ga K "BadMill"))) tNil)))) tNever tNext)
  (tSeq (tIfS (tB (tCB (rIsP K (He.ga K "OutOf") a d) (tCons (tVar 0) (tCons (tC (.ref (He.ga K "BadRoster"))) tNil)))) tNever tNext)
  (tSeq (tIfS (tB (tCB (rIsP K (He.ga K "OutOf") a d) (tCons (tVar 0) (tCons (tC (.ref (He.ga K "BadScript"))) tNil)))) tNever tNext)
  (tSeq (tIfS (tB (tCB (rIsP K (He.ga K "OutOf") a d) (tCons (tVar 0) (tCons (tC (.ref (He.ga K "NoTree"))) tNil)))) tNever tNext)
  (tSeq (tIfS (tB (tCB (rIsP K (He.ga K "OutOf") a d) (tCons (tVar 0) (tCons (tC (.ref (He.ga K "OutOf"))) tNil)))) (tAsg (tOp rCat (tVar 1) (tLst (tCons (tC (.str "OutOf")) (tCons (tXp a d "what" (tVar 0)) tNil)))) (gName 1)) tNext)
  (tSeq (tIfS (tB (tCB (rIsP K (He.ga K "OutOf") a d) (tCons (tVar 0) (tCons (tC (.ref (He.ga K "TooMany"))) tNil)))) tNever tNext)
  (tSeq (tIfS (tB (tCB (rIsP K (He.ga K "OutOf") a d) (tCons (tVar 0) (tCons (tC (.ref (He.ga K "NoSuch"))) tNil)))) tNever tNext)
  (tSeq (tIfS (tB (tCB (rIsP K (He.ga K "OutOf") a d) (tCons (tVar 0) (tCons (tC (.ref (He.ga K "Ended"))) tNil)))) tNever tNext)
  (tRet (tVar 1))))))))))))))))))
theorem len_OutOf {K : PySem.W.Frag} : ∀ vs H Q E, sp_OutOf K vs H Q E → vs.length = P_OutOf.length := fun vs H Q E ⟨_, us, e, l, _⟩ => by rw [e, List.length_cons, l]; rfl
theorem ok_OutOf {P : Program} {w : World} {K : PySem.W.Frag} {mg : Str → Option Value} {base : Heap} (e : d_OutOf.obs K = d_OutOf.val) (h : d_OutOf.ok P.main.file K = true) (hs : mg "super" = none) (ht : (P.main.scope.names.lookup ("super" : Str)).isSome = false)
    (hw : PySem.W.findIn K (.ref (He.ga K "OutOf")) "what" = some none) (hm : mg "OutOf" = some (.ref (He.ga K "OutOf"))) : CalR P w K mg base 1 "OutOf" (He.ga K "OutOf") P_OutOf (sp_OutOf K) := by
  obtain ⟨dV, kV, doc, pm, ct, an, cda, cc, rfl, Z, hi, hty⟩ := SupD.says (P := P) (mg := mg) e h hs ht
  refine ⟨_, _, Z.ex, hi, hty, fn_sup (N := N_OutOf) (ar := ((defArgs s_OutOf___init__).args.head?).getD default) Z (NdefX.nscope_by (by decide +kernel)) (by decide +kernel) (by rfl) (by rfl) (by decide +kernel) len_OutOf (fun _ => by rfl) (fun _ => by rfl) (fun _ => by rfl) (fun _ _ => by rfl) (fun A outer s H vs Q E hr hsp => ?_), Binds.all fun us hl => match us, hl with | [_, _], _ => rfl, hm⟩
  obtain ⟨a, us, rfl, _, ⟨x, rfl, hx⟩, ha, hq⟩ := hsp
  refine ⟨_, _, pa_cons (pe_joined (PJ.cons pe_str (PJ.cons (pe_fmt (pe_var (i := 1) rfl (Or.inl rfl))) PJ.nil))) pa_nil, pss_one (ps_ost (pe_var (i := 0) rfl (Or.inl rfl)) (pe_var (i := 1) rfl (Or.inl rfl))), a, rfl, ha, ?_⟩
  have fin : ∀ out : Str, [V.str out].length ≤ 1000 ∧ H a = some (exo a (He.ga K "OutOf") none) ∧ tOst K "what" (tVar 0) (tVar 1) { nx := fun _ H' => Q .non H', rt := Q } (NdefX.startF N_OutOf [V.ref a, V.str x] [none]) H := fun out =>
    ⟨show 1 ≤ 1000 by omega, ha, V.str x, rfl, V.ref a, rfl, a, _, rfl, Z.ex, hw, .inl ⟨ha, hq⟩⟩
  have e2 : ("there is no such " : Str).length = 17 := by decide +kernel
  have e3 := sizeLine_eq
  show tJs [tC (.str "there is no such "), tFmt (tVar 1)] Str.empty (NdefX.startF N_OutOf [V.ref a, V.str x] [none]) H fun out H1 => [V.str out].length ≤ 1000 ∧ H1 a = some (exo a (He.ga K "OutOf") none) ∧ tOst K "what" (tVar 0) (tVar 1) { nx := fun _ H' => Q .non H', rt := Q } (NdefX.startF N_OutOf [V.ref a, V.str x] [none]) H1
  simp only [tJs, tC, tFmt, tVar]
  have la : ∀ u v : Str, (u ++ v).length = u.length + v.length := fun u v => by
    show (u.cps ++ v.cps).size = _
    rw [Array.size_append]
    rfl
  have e4 : Str.empty.length = 0 := rfl
  exact ⟨_, rfl, by rw [la, e2, e4]; omega, V.str x, rfl, .inl ⟨x, rfl, by omega, x, rfl, by rw [la, la, e2, e4]; omega, fin _⟩⟩
theorem e_is1 {K : PySem.W.Frag} {D a d c : Addr} {fs : List (Str × V)} {H : Hp} {Q : VK} {b : Bool} (hd : H d = some (.xd fs)) (hk : PySem.W.kitOne K (.ref D) (.ref c) = some b) (h : Q (.bl b) H) : rIsP K D a d [.ref a, .ref c] H Q :=
  ⟨⟨fs, hd⟩, .ref c, b, rfl, h, .inl ⟨.ref c, fun u r => r, hk⟩⟩
theorem pure__law_error {K : PySem.W.Frag} (F : EFW K) {a dd : Addr} {x : Str} {H : Hp} {Q : VK} (hd : H dd = some (.xd [("what", .str x)])) (q : ∀ H' l, H l = none → Same H H' → H' l = some (.lst [.str "OutOf", .str x]) → Q (.ref l) H') :
    r__law_error K a dd { nx := fun _ H' => Q .non H', rt := Q } (start N__law_error [.ref a]) H := by
  unfold r__law_error
  acc_peel
  refine ⟨Nat.zero_le _, fun l hl => ?_⟩
  have nl : dd ≠ l := ne_of_none hd hl
  have hd1 : upd H l (.lst []) dd = some (.xd [("what", .str x)]) := (upd_ne nl).trans hd
  have hl1 : upd H l (.lst []) l = some (.lst []) := upd_same
  have s1 : Same H (upd H l (.lst [])) := Same.new (fun _ _ z => z) hl
  revert hd1 hl1 s1
  generalize upd H l (.lst []) = H1
  intro hd1 hl1 s1
  acc_peel
  refine e_is1 hd1 (F.one _ (by decide +kernel)) ?_
  acc_peel
  refine e_is1 hd1 (F.one _ (by decide +kernel)) ?_
  acc_peel
  refine e_is1 hd1 (F.one _ (by decide +kernel)) ?_
  acc_peel
  refine e_is1 hd1 (F.one _ (by decide +kernel)) ?_
  acc_peel
  refine e_is1 hd1 (F.one _ (by decide +kernel)) ?_
  acc_peel
  refine e_is1 hd1 (F.one _ (by decide +kernel)) ?_
  acc_peel
  refine e_is1 hd1 (F.one _ (by decide +kernel)) ?_
  acc_peel
  refine e_is1 hd1 (F.one _ (by decide +kernel)) ?_
  acc_peel
  refine e_is1 hd1 (F.one _ (by decide +kernel)) ?_
  acc_peel
  refine e_is1 hd1 (F.one _ (by decide +kernel)) ?_
  acc_peel
  refine e_is1 hd1 (F.one _ (by decide +kernel)) ?_
  acc_peel
  refine e_is1 hd1 F.out ?_
  acc_peel
  refine ⟨_, rfl, rfl, _, _, hd1, rfl, ?_⟩
  acc_peel
  refine ⟨show 2 ≤ sizeLine by rw [sizeLine_eq]; omega, fun l2 hl2 => ?_⟩
  have s2 : Same H1 (upd H1 l2 (.lst [.str "OutOf", .str x])) := Same.new (fun _ _ z => z) hl2
  have hb2 : upd H1 l2 (.lst [.str "OutOf", .str x]) l2 = some (.lst [.str "OutOf", .str x]) := upd_same
  revert s2 hb2
  generalize upd H1 l2 (.lst [.str "OutOf", .str x]) = H2
  intro s2 hb2
  acc_peel
  refine r_cat (s2 _ _ hl1) hb2 (show 0 + 2 ≤ sizeLine by rw [sizeLine_eq]; omega) (fun l3 hl3 => ?_)
  have s3 : Same H2 (upd H2 l3 (.lst ([] ++ [.str "OutOf", .str x]))) := Same.new (fun _ _ z => z) hl3
  have hb3 : upd H2 l3 (.lst ([] ++ [.str "OutOf", .str x])) l3 = some (.lst [.str "OutOf", .str x]) := upd_same
  revert s3 hb3
  generalize upd H2 l3 (.lst ([] ++ [.str "OutOf", .str x])) = H3
  intro s3 hb3
  have sAll : Same H H3 := fun y o e => s3 _ _ (s2 _ _ (s1 _ _ e))
  have hd3 := sAll _ _ hd
  have fl : H l3 = none := by
    cases z : H l3 with
    | none => rfl
    | some o => have := s2 _ _ (s1 _ _ z); rw [hl3] at this; cases this
  acc_peel
  refine e_is1 hd3 (F.one _ (by decide +kernel)) ?_
  acc_peel
  refine e_is1 hd3 (F.one _ (by decide +kernel)) ?_
  acc_peel
  refine e_is1 hd3 (F.one _ (by decide +kernel)) ?_
  acc_peel
  exact q H3 l3 fl sAll hb3
structure TxtF (K : PySem.W.Frag) (mg : Str → Option Value) : Prop where
  n_isinstance : mg "isinstance" = none
  c_BadBook : mg "BadBook" = some (.ref (He.ga K "BadBook"))
  c_BadCourse : mg "BadCourse" = some (.ref (He.ga K "BadCourse"))
  c_BadDie : mg "BadDie" = some (.ref (He.ga K "BadDie"))
  c_BadMill : mg "BadMill" = some (.ref (He.ga K "BadMill"))
  c_BadPlay : mg "BadPlay" = some (.ref (He.ga K "BadPlay"))
  c_BadRoster : mg "BadRoster" = some (.ref (He.ga K "BadRoster"))
  c_BadRota : mg "BadRota" = some (.ref (He.ga K "BadRota"))
  c_BadScript : mg "BadScript" = some (.ref (He.ga K "BadScript"))
  c_BadTree : mg "BadTree" = some (.ref (He.ga K "BadTree"))
  c_BadWorld : mg "BadWorld" = some (.ref (He.ga K "BadWorld"))
  c_Ended : mg "Ended" = some (.ref (He.ga K "Ended"))
  c_NoSuch : mg "NoSuch" = some (.ref (He.ga K "NoSuch"))
  c_NoTree : mg "NoTree" = some (.ref (He.ga K "NoTree"))
  c_OutOf : mg "OutOf" = some (.ref (He.ga K "OutOf"))
  c_TooMany : mg "TooMany" = some (.ref (He.ga K "TooMany"))
section
variable {P : Program} {w : World} {K : PySem.W.Frag} {mg : Str → Option Value} {base : Heap}
theorem ok__law_error {f : Addr} {fd : FuncData} {dvs : List V} {kws : List (Str × V)} (F : FunD K "_law_error" "_law_error" (defArgs s__law_error) (defBody s__law_error) (defScope s__law_error) dvs kws f fd) (T : TxtF K mg) (XC : ExcC K (He.ga K "OutOf")) (XF : XfC K (He.ga K "OutOf"))
    (no_what : PySem.W.findIn K (.ref (He.ga K "OutOf")) "what" = some none) (ew : EFW K) : FnE P w K mg base C8.CX0 1 f fd P__law_error (spP (spX__law_error K)) := by
  obtain ⟨oc, od, dV, kV, doc, pm, an, cdv, ct, osl, rfl, lk, hcd, _, _⟩ := F.ex
  refine fn_ofE2 (N := N__law_error) lk hcd sc__law_error (fun p vs H Q E h => by obtain ⟨_, rfl, _⟩ := h; rfl) fun A outer s H vs Q E p hr h => ?_
  obtain ⟨hf, rfl, dd, x, hdict, hc, hd, q⟩ := h
  have hz : Zc (.ref (He.ga K "OutOf")) (some dd) p.2 := ⟨hc, hdict⟩
  have hp : ∀ {qual : Str} {cd : Value}, (p.1, p.2) ∈ (cxH C8.CX0 P w K mg base N__law_error qual (defScope s__law_error) f cd A outer s H E p).pn := List.mem_cons_self
  refine ⟨r__law_error K p.1 dd, ?_, pure__law_error ew hd q⟩
  exact (pss_cons (ps_set (i := 1) sc__law_error.nd rfl (Or.inl rfl) (pe_lst pa_nil))
  (pss_cons (ps_if (pt_val (pe_callB (call_isP XC hz hf hp) (by rfl) T.n_isinstance (by decide +kernel) (pa_cons (pv 0) (pa_cons (pe_glob rfl T.c_BadRota rfl) pa_nil)))) pss_never pss_nil)
  (pss_cons (ps_if (pt_val (pe_callB (call_isP XC hz hf hp) (by rfl) T.n_isinstance (by decide +kernel) (pa_cons (pv 0) (pa_cons (pe_glob rfl T.c_BadWorld rfl) pa_nil)))) pss_never pss_nil)
  (pss_cons (ps_if (pt_val (pe_callB (call_isP XC hz hf hp) (by rfl) T.n_isinstance (by decide +kernel) (pa_cons (pv 0) (pa_cons (pe_glob rfl T.c_BadTree rfl) pa_nil)))) pss_never pss_nil)
  (pss_cons (ps_if (pt_val (pe_callB (call_isP XC hz hf hp) (by rfl) T.n_isinstance (by decide +kernel) (pa_cons (pv 0) (pa_cons (pe_glob rfl T.c_BadPlay rfl) pa_nil)))) pss_never pss_nil)
  (pss_cons (ps_if (pt_val (pe_callB (call_isP XC hz hf hp) (by rfl) T.n_isinstance (by decide +kernel) (pa_cons (pv 0) (pa_cons (pe_glob rfl T.c_BadBook rfl) pa_nil)))) pss_never pss_nil)
  (pss_cons (ps_if (pt_val (pe_callB (call_isP XC hz hf hp) (by rfl) T.n_isinstance (by decide +kernel) (pa_cons (pv 0) (pa_cons (pe_glob rfl T.c_BadCourse rfl) pa_nil)))) pss_never pss_nil)
  (pss_cons (ps_if (pt_val (pe_callB (call_isP XC hz hf hp) (by rfl) T.n_isinstance (by decide +kernel) (pa_cons (pv 0) (pa_cons (pe_glob rfl T.c_BadDie rfl) pa_nil)))) pss_never pss_nil)
  (pss_cons (ps_if (pt_val (pe_callB (call_isP XC hz hf hp) (by rfl) T.n_isinstance (by decide +kernel) (pa_cons (pv 0) (pa_cons (pe_glob rfl T.c_BadMill rfl) pa_nil)))) pss_never pss_nil)
  (pss_cons (ps_if (pt_val (pe_callB (call_isP XC hz hf hp) (by rfl) T.n_isinstance (by decide +kernel) (pa_cons (pv 0) (pa_cons (pe_glob rfl T.c_BadRoster rfl) pa_nil)))) pss_never pss_nil)
  (pss_cons (ps_if (pt_val (pe_callB (call_isP XC hz hf hp) (by rfl) T.n_isinstance (by decide +kernel) (pa_cons (pv 0) (pa_cons (pe_glob rfl T.c_BadScript rfl) pa_nil)))) pss_never pss_nil)
  (pss_cons (ps_if (pt_val (pe_callB (call_isP XC hz hf hp) (by rfl) T.n_isinstance (by decide +kernel) (pa_cons (pv 0) (pa_cons (pe_glob rfl T.c_NoTree rfl) pa_nil)))) pss_never pss_nil)
  (pss_cons (ps_if (pt_val (pe_callB (call_isP XC hz hf hp) (by rfl) T.n_isinstance (by decide +kernel) (pa_cons (pv 0) (pa_cons (pe_glob rfl T.c_OutOf rfl) pa_nil)))) (pss_one (ps_set (i := 1) sc__law_error.nd rfl (Or.inl rfl) (pe_op op_cat (pv 1) (pe_lst (pa_cons pe_str (pa_cons (pe_xp XF no_what hz hf hp (pv 0)) pa_nil)))))) pss_nil)
  (pss_cons (ps_if (pt_val (pe_callB (call_isP XC hz hf hp) (by rfl) T.n_isinstance (by decide +kernel) (pa_cons (pv 0) (pa_cons (pe_glob rfl T.c_TooMany rfl) pa_nil)))) pss_never pss_nil)
  (pss_cons (ps_if (pt_val (pe_callB (call_isP XC hz hf hp) (by rfl) T.n_isinstance (by decide +kernel) (pa_cons (pv 0) (pa_cons (pe_glob rfl T.c_NoSuch rfl) pa_nil)))) pss_never pss_nil)
  (pss_cons (ps_if (pt_val (pe_callB (call_isP XC hz hf hp) (by rfl) T.n_isinstance (by decide +kernel) (pa_cons (pv 0) (pa_cons (pe_glob rfl T.c_Ended rfl) pa_nil)))) pss_never pss_nil)
  (pss_one (ps_ret (pv 1)))))))))))))))))))
end
theorem tx_of {K : PySem.W.Frag} (hexW : PySem.W.exmAny K (.ref (He.ga K "OutOf")) (csE K) = some true) : TX K := by
  intro cn fs l h
  unfold erTab at h
  split at h
  · rename_i e
    subst e
    refine ⟨hexW, fun M H a dd vs Q dom hd rf ha k => ?_⟩
    split at h
    · rename_i n x
      split at h
      · rename_i e
        cases h
        have e1 : n = "what" := List.head_eq_of_cons_eq e
        subst e1
        obtain ⟨r1, r2⟩ := rf
        match vs, r1, r2 with
        | [(n2, v)], r1, r2 =>
          have e2 : n2 = "what" := List.head_eq_of_cons_eq r1
          subst e2
          have e3 := r2 0 _ _ rfl rfl
          cases e3
          refine ⟨rfl, dd, x, rfl, rfl, hd, fun H' l hl sm e1 => k H' (.ref l) sm ?_⟩
          exact kt_lst dom hl e1 (.cons (.str _) (.cons (.str _) .nil))
        | [], r1, r2 => cases r1
        | _ :: _ :: _, r1, r2 => exact absurd (congrArg List.length r1) (by simp)
      · cases h
    · cases h
  · cases h
theorem smZ_ok {P : Program} {w : World} {K : PySem.W.Frag} {mg : Str → Option Value} {base : Heap} {k : Nat} {C : Addr} {m : Str} {ps : List Str} {sp : Sp} {fd : FuncData} (h : smB K C m = true) (hk : PySem.W.keepIn K (.ref (smAt K C m)) = true)
    (F : FnOk P w K mg base (L2.CX P w) k (smAt K C m) fd ps sp) (B : Binds K fd ps []) : CalZS P w K mg base k C m ps sp := by
  obtain ⟨h1, h2⟩ := He.ba h
  obtain ⟨h3, h4⟩ := He5.wrapB_ok h2
  exact ⟨⟨_, _, _, fd, cread_of h1, ⟨h3, h4, hk⟩, F, B⟩⟩

end My
end

section
set_option Elab.async false
set_option maxRecDepth 100000
set_option maxHeartbeats 4000000
set_option linter.all false
namespace My
open PySem L2
open LamX L2H
/-! ### each def keeps its promise -/
structure Txt (w : World) (K : PySem.W.Frag) (mg : Str → Option Value) : Prop where
  n_bool : mg "bool" = none
  n_enumerate : mg "enumerate" = none
  n_int : mg "int" = none
  n_isinstance : mg "isinstance" = none
  n_len : mg "len" = none
  n_list : mg "list" = none
  n_max : mg "max" = none
  n_min : mg "min" = none
  n_range : mg "range" = none
  n_set : mg "set" = none
  n_str : mg "str" = none
  n_tuple : mg "tuple" = none
  i_DONE : ∃ t, mg "DONE" = some (.str "done" t)
  i_EMPTY_TREE : ∃ t, mg "EMPTY_TREE" = some (.str "tree\ndone\n" t)
  i_FALSE_WORD : ∃ t, mg "FALSE_WORD" = some (.str "false" t)
  i_HEAD : ∃ t, mg "HEAD" = some (.str "tree" t)
  i_MOST_BLOCKS : ∃ t, mg "MOST_BLOCKS" = some (.int 1000 t)
  i_MOST_CHARACTERS : ∃ t, mg "MOST_CHARACTERS" = some (.int 100000 t)
  i_MOST_SLOTS : ∃ t, mg "MOST_SLOTS" = some (.int 40 t)
  i_TRUE_WORD : ∃ t, mg "TRUE_WORD" = some (.str "true" t)
  c_Tree : mg "Tree" = some (.ref (He.ga K "Tree"))
section
variable {P : Program} {w : World} {K : PySem.W.Frag} {mg : Str → Option Value} {base : Heap}
theorem ok__law_bag {f : Addr} {fd : FuncData} {dvs : List V} {kws : List (Str × V)} (F : FunD K "_law_bag" "_law_bag" (defArgs s__law_bag) (defBody s__law_bag) (defScope s__law_bag) dvs kws f fd) (T : Txt w K mg) : FnOk P w K mg base CX0 1 f fd P__law_bag (sp__law_bag K) := by
  refine F.ok sc__law_bag (fun vs H Q E h => len__law_bag h) (fun cdv A outer s H vs Q E hr h => ⟨r__law_bag K, PSs.nox ?_, pure__law_bag vs H Q E h⟩)
  exact (pss_cons (ps_set (i := 1) sc__law_bag.nd rfl (Or.inl rfl) pe_int)
  (pss_cons (ps_for PassesOwn.never rfl (pi_list (pe_slice sl_list (pv 0) po_none (po_some pe_int))) (pg_name (i := 2) sc__law_bag.nd rfl (Or.inl rfl))
   (pss_one (ps_set (i := 1) sc__law_bag.nd rfl (Or.inl rfl) (pe_op op_mod (pe_callTy call_int1 (by rfl) T.n_int (by decide +kernel) (pa_cons (pe_op op_add (pe_op op_add (pe_op op_mul (pv 1) pe_int) (pe_op op_mod (pe_callTy call_int1 (by rfl) T.n_int (by decide +kernel) (pa_cons (pv 2) pa_nil)) pe_int)) pe_int) pa_nil)) pe_int))))
  (pss_one (ps_ret (pe_lst (pa_cons (pe_callTy call_list_of (by rfl) T.n_list (by decide +kernel) (pa_cons (pe_slice sl_list (pv 0) po_none (po_some pe_int)) pa_nil)) (pa_cons pe_int (pa_cons pe_int (pa_cons (pv 1) (pa_cons pe_int (pa_cons pe_int pa_nil)))))))))))
theorem ok__law_draw {f : Addr} {fd : FuncData} {dvs : List V} {kws : List (Str × V)} (F : FunD K "_law_draw" "_law_draw" (defArgs s__law_draw) (defBody s__law_draw) (defScope s__law_draw) dvs kws f fd) (T : Txt w K mg) : FnOk P w K mg base (L2.CX P w) 1 f fd P__law_draw (sm__law_draw K) := by
  refine F.ok sc__law_draw (fun vs H Q E h => len__law_draw h) (fun cdv A outer s H vs Q E hr h => ⟨r__law_draw K, PSs.nox ?_, pure__law_draw vs H Q E h⟩)
  exact (pss_cons (ps_asg (pe_op op_add (pe_ix ix_list (pv 0) pe_int (fun _ _ => rfl)) pe_int) (pg_sub (pv 0) pe_int set_list))
  (C8.pss_cut (ps_if (PW.pt (pw_and (pt_cmpR op_eq (pe_ix ix_list (pv 0) pe_int (fun _ _ => rfl)) pe_int (nomark _)) (pw_and1 (pt_cmpR op_lt (pe_ix ix_list (pv 0) pe_int (fun _ _ => rfl)) (pe_callB call_len_seq (by rfl) T.n_len boot_len (pa_cons (pe_ix ix_list (pv 0) pe_int (fun _ _ => rfl)) pa_nil)) (nomark _))))) (pss_cons (ps_set (i := 2) sc__law_draw.nd rfl (Or.inl rfl) (pe_ix ix_list (pe_ix ix_list (pv 0) pe_int (fun _ _ => rfl)) (pe_ix ix_list (pv 0) pe_int (fun _ _ => rfl)) (fun _ _ => rfl)))
  (pss_cons (ps_asg (pe_op op_add (pe_ix ix_list (pv 0) pe_int (fun _ _ => rfl)) pe_int) (pg_sub (pv 0) pe_int set_list))
  (pss_one (ps_if (pt_cmpR op_ge (pv 2) (pe_op op_pow pe_int pe_int) (nomark _)) (pss_cons (ps_asg (pv 2) (pg_sub (pv 0) pe_int set_list))
  (pss_one (ps_asg pe_int (pg_sub (pv 0) pe_int set_list)))) (pss_one (ps_asg (pe_op op_mod (pe_callTy call_int1 (by rfl) T.n_int (by decide +kernel) (pa_cons (pe_op op_add (pe_op op_add (pe_op op_mul (pe_ix ix_list (pv 0) pe_int (fun _ _ => rfl)) pe_int) (pe_op op_mul (pe_op op_mod (pe_callTy call_int1 (by rfl) T.n_int (by decide +kernel) (pa_cons (pv 2) pa_nil)) pe_int) pe_int)) pe_int) pa_nil)) pe_int) (pg_sub (pv 0) pe_int set_list))))))) pss_nil)
  (pss_cons (ps_if (pt_cmpR op_gt (pe_ix ix_list (pv 0) pe_int (fun _ _ => rfl)) pe_int (nomark _)) (pss_cons (ps_set (i := 3) sc__law_draw.nd rfl (Or.inl rfl) (pe_op op_mod (pe_callTy call_int1 (by rfl) T.n_int (by decide +kernel) (pa_cons (pe_ix ix_list (pv 0) pe_int (fun _ _ => rfl)) pa_nil)) (pv 1)))
  (pss_cons (ps_asg (pe_op op_sub (pe_ix ix_list (pv 0) pe_int (fun _ _ => rfl)) pe_int) (pg_sub (pv 0) pe_int set_list))
  (pss_cons (ps_asg (pe_ifExp (pt_cmpR op_gt (pe_ix ix_list (pv 0) pe_int (fun _ _ => rfl)) pe_int (nomark _)) (pe_op op_fdivN (pe_ix ix_list (pv 0) pe_int (fun _ _ => rfl)) (pv 1)) pe_int) (pg_sub (pv 0) pe_int set_list))
  (pss_one (ps_ret (pv 3)))))) pss_nil)
  (pss_cons (ps_asg (pe_op op_mod (pe_callTy call_int1 (by rfl) T.n_int (by decide +kernel) (pa_cons (pe_op op_add (pe_op op_add (pe_op op_pow (pe_ix ix_list (pv 0) pe_int (fun _ _ => rfl)) pe_int) (pe_op op_mul (pe_ix ix_list (pv 0) pe_int (fun _ _ => rfl)) pe_int)) pe_int) pa_nil)) pe_int) (pg_sub (pv 0) pe_int set_list))
  (pss_one (ps_ret (pe_op op_mod (pe_callTy call_int1 (by rfl) T.n_int (by decide +kernel) (pa_cons (pe_op op_add (pe_op op_fdivN (pe_ix ix_list (pv 0) pe_int (fun _ _ => rfl)) pe_int) (pe_op op_mul (pe_op op_mod (pe_callTy call_int1 (by rfl) T.n_int (by decide +kernel) (pa_cons (pe_ix ix_list (pv 0) pe_int (fun _ _ => rfl)) pa_nil)) pe_int) pe_int)) pa_nil)) (pv 1))))))))
theorem ok__law_wild {f : Addr} {fd : FuncData} {dvs : List V} {kws : List (Str × V)} (F : FunD K "_law_wild" "_law_wild" (defArgs s__law_wild) (defBody s__law_wild) (defScope s__law_wild) dvs kws f fd) (T : Txt w K mg) (kt : KT K) (ka : KAt K attrs) (tx : TX K) (Z__law_draw : CalZ P w K mg base 1 "_law_draw" P__law_draw [] (sp__law_draw K)) : FnOk P w K mg base (L2.CX P w) 2 f fd P__law_wild (sp__law_wild K) := by
  refine F.ok sc__law_wild (fun vs H Q E h => spP_len (N := []) h) (fun cdv A outer s H vs Q E hr h => ⟨r__law_wild K E, ?_, spP_run (v__law_wild kt ka tx) h⟩)
  exact (pss_cons (ps_set (i := 2) sc__law_wild.nd rfl (Or.inl rfl) (pe_lst pa_nil))
  (pss_cons (ps_for (passes_of rfl) rfl (pi_range1 (by rfl) T.n_range (pa_cons (pe_callZ Z__law_draw (pass_tk (takes_fn (CX := CX0))) hr rfl (pa_cons (pv 0) (pa_cons (pe_op op_add (pv 1) pe_int) pa_nil))) pa_nil)) (pg_name (i := 3) sc__law_wild.nd rfl (Or.inl rfl))
   (pss_cons (ps_set (i := 4) sc__law_wild.nd rfl (Or.inl rfl) (pe_ifExp (pt_cmpR op_eq (pe_callZ Z__law_draw (pass_tk (takes_fn (CX := CX0))) hr rfl (pa_cons (pv 0) (pa_cons pe_int pa_nil))) pe_int (nomark _)) (pe_op op_add pe_int (pe_callZ Z__law_draw (pass_tk (takes_fn (CX := CX0))) hr rfl (pa_cons (pv 0) (pa_cons pe_int pa_nil)))) (pe_op op_add pe_int (pe_callZ Z__law_draw (pass_tk (takes_fn (CX := CX0))) hr rfl (pa_cons (pv 0) (pa_cons pe_int pa_nil))))))
  (pss_one (ps_expr (pe_bm PySem.F.plainAttrs_list PySem.F.slot_list_append PySem.F.type_list_append mt_append (pv 2) (pa_cons (pe_tup (pa_cons (pv 4) (pa_cons (pe_cmpR op_eq (pe_callZ Z__law_draw (pass_tk (takes_fn (CX := CX0))) hr rfl (pa_cons (pv 0) (pa_cons pe_int pa_nil))) pe_int (nomark _)) (pa_cons (pe_ifExp (pt_cmpR op_eq (pe_callZ Z__law_draw (pass_tk (takes_fn (CX := CX0))) hr rfl (pa_cons (pv 0) (pa_cons pe_int pa_nil))) pe_int (nomark _)) (pv 3) (pe_callZ Z__law_draw (pass_tk (takes_fn (CX := CX0))) hr rfl (pa_cons (pv 0) (pa_cons (pe_op op_add (pv 3) pe_int) pa_nil)))) pa_nil)))) pa_nil))))))
  (pss_one (ps_ret (pv 2)))))
theorem ok__law_of {f : Addr} {fd : FuncData} {dvs : List V} {kws : List (Str × V)} (F : FunD K "_law_of" "_law_of" (defArgs s__law_of) (defBody s__law_of) (defScope s__law_of) dvs kws f fd) (T : Txt w K mg) (kt : KT K) (ka : KAt K attrs) (tx : TX K) (Z__law_draw : CalZ P w K mg base 1 "_law_draw" P__law_draw [] (sp__law_draw K)) : FnOk P w K mg base (L2.CX P w) 2 f fd P__law_of (sp__law_of K) := by
  refine F.ok sc__law_of (fun vs H Q E h => spP_len (N := []) h) (fun cdv A outer s H vs Q E hr h => ⟨r__law_of K E, ?_, spP_run (v__law_of kt ka tx) h⟩)
  exact (pss_one (ps_ret (pe_ix ix_list (pv 1) (pe_callZ Z__law_draw (pass_tk (takes_fn (CX := CX0))) hr rfl (pa_cons (pv 0) (pa_cons (pe_callB call_len_seq (by rfl) T.n_len boot_len (pa_cons (pv 1) pa_nil)) pa_nil))) (fun _ _ => rfl))))
theorem ok__law_late {f : Addr} {fd : FuncData} {dvs : List V} {kws : List (Str × V)} (F : FunD K "_law_late" "_law_late" (defArgs s__law_late) (defBody s__law_late) (defScope s__law_late) dvs kws f fd) (T : Txt w K mg) (kt : KT K) (ka : KAt K attrs) (tx : TX K) (Z__law_of : CalZ P w K mg base 2 "_law_of" P__law_of [] (sp__law_of K)) : FnOk P w K mg base (L2.CX P w) 3 f fd P__law_late (sp__law_late K) := by
  refine F.ok sc__law_late (fun vs H Q E h => spP_len (N := []) h) (fun cdv A outer s H vs Q E hr h => ⟨r__law_late K E, ?_, spP_run (v__law_late kt ka tx) h⟩)
  exact (pss_one (ps_ret (pe_callZ Z__law_of (pass_tk (takes_fn (CX := CX0))) hr rfl (pa_cons (pv 0) (pa_cons (pe_lst (pa_cons pe_int (pa_cons pe_int (pa_cons pe_int (pa_cons pe_int (pa_cons pe_int (pa_cons pe_int (pa_cons pe_int (pa_cons pe_int (pa_cons pe_int (pa_cons pe_int pa_nil))))))))))) pa_nil)))))
theorem ok__law_turned {f : Addr} {fd : FuncData} {dvs : List V} {kws : List (Str × V)} (F : FunD K "_law_turned" "_law_turned" (defArgs s__law_turned) (defBody s__law_turned) (defScope s__law_turned) dvs kws f fd) (T : Txt w K mg) (kt : KT K) (ka : KAt K attrs) (tx : TX K) (Z__law_of : CalZ P w K mg base 2 "_law_of" P__law_of [] (sp__law_of K)) : FnOk P w K mg base (L2.CX P w) 3 f fd P__law_turned (sp__law_turned K) := by
  refine F.ok sc__law_turned (fun vs H Q E h => spP_len (N := []) h) (fun cdv A outer s H vs Q E hr h => ⟨r__law_turned K E, ?_, spP_run (v__law_turned kt ka tx) h⟩)
  exact (pss_cons (ps_set (i := 2) sc__law_turned.nd rfl (Or.inr rfl) (pe_disp (pps_cons pe_int pe_int pps_nil) rfl rfl (by simp) (by decide)))
  (pss_cons (ps_set (i := 3) sc__law_turned.nd rfl (Or.inl rfl) (pe_listRg rfl (by rfl) T.n_list (prg_2 (by rfl) T.n_range pe_int (pe_op op_add (pe_callB call_len_seq (by rfl) T.n_len boot_len (pa_cons (pv 1) pa_nil)) pe_int))))
  (pss_cons (ps_set (i := 4) sc__law_turned.nd rfl (Or.inl rfl) (pe_lst pa_nil))
  (pss_cons (ps_for (passes_of rfl) rfl (pi_range1 (by rfl) T.n_range (pa_cons (pe_callB call_len_seq (by rfl) T.n_len boot_len (pa_cons (pv 1) pa_nil)) pa_nil)) (pg_name (i := 5) sc__law_turned.nd rfl (Or.inl rfl))
   (pss_cons (ps_set (i := 6) sc__law_turned.nd rfl (Or.inr rfl) (pe_callZ Z__law_of (pass_tk (takes_fn (CX := CX0))) hr rfl (pa_cons (pv 0) (pa_cons (pe_lc (own := [("k", 7)]) (by rfl) sc__law_turned.nd (pi_list (pv 3)) (blkOk_by (own := [("k", 7)]) (N := N__law_turned) (sc := defScope s__law_turned) (by decide +kernel))
     (fun _ _ _ _ _ => (pg_name (i := 7) sc__law_turned.nd rfl (by first | exact Or.inl rfl | exact Or.inr rfl))) (fun _ _ _ _ _ => (pts_one (pt_cmp (pc_din (units1 hr) (pe_ix ix_tup (pe_ix ix_list (pv 1) (pe_op op_sub (pv 7) pe_int) (fun _ _ => rfl)) pe_int (fun _ _ => rfl)) (pv 2)) (by rfl)))) (fun _ _ _ _ _ => (pv 7))) pa_nil))))
  (pss_cons (ps_setLc (i := 3) (own := [("k", 7)]) (by rfl) sc__law_turned.nd rfl rfl (sw_true rfl rfl rfl (by decide +kernel)) (pi_list (pv 3)) (blkOk_by (own := [("k", 7)]) (N := N__law_turned) (sc := defScope s__law_turned) (by decide +kernel))
     (fun _ _ _ _ _ => (pg_name (i := 7) sc__law_turned.nd rfl (by first | exact Or.inl rfl | exact Or.inr rfl))) (fun _ _ _ _ _ => (pts_one (pt_cmpR op_ne (pv 7) (pv 6) (nomark _)))) (fun _ _ _ _ _ => (pv 7)))
  (pss_cons (ps_dput (units1 hr) (pv 2) (pv 6) (pe_op op_add (pv 5) pe_int) rfl)
  (pss_one (ps_expr (pe_bm PySem.F.plainAttrs_list PySem.F.slot_list_append PySem.F.type_list_append mt_append (pv 4) (pa_cons (pe_tup (pa_cons (pe_ix ix_tup (pe_ix ix_list (pv 1) (pe_op op_sub (pv 6) pe_int) (fun _ _ => rfl)) pe_int (fun _ _ => rfl)) (pa_cons (pe_ix ix_tup (pe_ix ix_list (pv 1) (pe_op op_sub (pv 6) pe_int) (fun _ _ => rfl)) pe_int (fun _ _ => rfl)) (pa_cons (pe_dget (units1 hr) (pv 2) (pe_ix ix_tup (pe_ix ix_list (pv 1) (pe_op op_sub (pv 6) pe_int) (fun _ _ => rfl)) pe_int (fun _ _ => rfl)) (fun _ _ => rfl)) pa_nil)))) pa_nil))))))))
  (pss_one (ps_ret (pv 4)))))))
theorem ok__law_hands {f : Addr} {fd : FuncData} {dvs : List V} {kws : List (Str × V)} (F : FunD K "_law_hands" "_law_hands" (defArgs s__law_hands) (defBody s__law_hands) (defScope s__law_hands) dvs kws f fd) (T : Txt w K mg) (kt : KT K) (ka : KAt K attrs) (tx : TX K) : FnOk P w K mg base (L2.CX P w) 1 f fd P__law_hands (sp__law_hands K) := by
  refine F.ok sc__law_hands (fun vs H Q E h => spP_len (N := []) h) (fun cdv A outer s H vs Q E hr h => ⟨r__law_hands K E, ?_, spP_run (v__law_hands kt ka tx) h⟩)
  exact (pss_one (ps_ret (pe_tup (pa_cons (pe_op op_mod (pe_callTy call_int1 (by rfl) T.n_int (by decide +kernel) (pa_cons (pe_m1 PySem.F.slot_str_find PySem.F.type_str_find mt_find pe_str (pv 0)) pa_nil)) pe_int) (pa_cons (pe_cmpR op_inS (pv 0) pe_str (by rfl)) pa_nil)))))
theorem ok__law_known {f : Addr} {fd : FuncData} {dvs : List V} {kws : List (Str × V)} (F : FunD K "_law_known" "_law_known" (defArgs s__law_known) (defBody s__law_known) (defScope s__law_known) dvs kws f fd) (T : Txt w K mg) (kt : KT K) (ka : KAt K attrs) (tx : TX K) : FnOk P w K mg base (L2.CX P w) 1 f fd P__law_known (sp__law_known K) := by
  refine F.ok sc__law_known (fun vs H Q E h => spP_len (N := []) h) (fun cdv A outer s H vs Q E hr h => ⟨r__law_known K E, ?_, spP_run (v__law_known kt ka tx) h⟩)
  exact (pss_cons (ps_set (i := 4) sc__law_known.nd rfl (Or.inl rfl) pe_int)
  (pss_cons (ps_for (passes_of rfl) rfl (pi_range1 (by rfl) T.n_range (pa_cons (pe_callB call_len_seq (by rfl) T.n_len boot_len (pa_cons (pv 0) pa_nil)) pa_nil)) (pg_name (i := 5) sc__law_known.nd rfl (Or.inl rfl))
   (pss_one (ps_if (PW.pt (pw_and (pt_truth (pe_ix ix_tup (pe_ix ix_list (pv 0) (pv 5) (fun _ _ => rfl)) pe_int (fun _ _ => rfl)) (by intro _; rfl)) (pw_and1 (pt_cmpR op_le (pe_ix ix_tup (pe_ix ix_list (pv 0) (pv 5) (fun _ _ => rfl)) pe_int (fun _ _ => rfl)) (pe_op op_sub (pv 3) (pv 2)) (nomark _))))) (pss_one (ps_set (i := 4) sc__law_known.nd rfl (Or.inl rfl) (pe_callB (call_max2 rfl) (by rfl) T.n_max (by decide +kernel) (pa_cons (pv 4) (pa_cons (pe_ix ix_list (pv 1) (pe_op op_add (pv 5) pe_int) (fun _ _ => rfl)) pa_nil))))) pss_nil)))
  (pss_one (ps_ret (pv 4)))))
theorem ok__law_near {f : Addr} {fd : FuncData} {dvs : List V} {kws : List (Str × V)} (F : FunD K "_law_near" "_law_near" (defArgs s__law_near) (defBody s__law_near) (defScope s__law_near) dvs kws f fd) (T : Txt w K mg) (kt : KT K) (ka : KAt K attrs) (tx : TX K) (Z__law_draw : CalZ P w K mg base 2 "_law_draw" P__law_draw [] (sp__law_draw K)) (Z__law_of : CalZ P w K mg base 2 "_law_of" P__law_of [] (sp__law_of K)) : FnOk P w K mg base (L2.CX P w) 3 f fd P__law_near (sp__law_near K) := by
  refine F.ok sc__law_near (fun vs H Q E h => spP_len (N := []) h) (fun cdv A outer s H vs Q E hr h => ⟨r__law_near K E, ?_, spP_run (v__law_near kt ka tx) h⟩)
  exact (pss_cons (ps_set (i := 2) sc__law_near.nd rfl (Or.inr rfl) (pe_callZ Z__law_draw (pass_tk (takes_fn (CX := CX0))) hr rfl (pa_cons (pv 0) (pa_cons pe_int pa_nil))))
  (pss_cons (ps_set (i := 3) sc__law_near.nd rfl (Or.inr rfl) (pe_callB (cr_max rfl) (by rfl) T.n_max (by decide +kernel) (pa_cons (pv 1) pa_nil)))
  (pss_cons (ps_setLc (i := 4) (own := [("k", 5)]) (by rfl) sc__law_near.nd rfl rfl (sw_true rfl rfl rfl (by decide +kernel)) (pi_range1 (by rfl) T.n_range (pa_cons (pe_callB call_len_seq (by rfl) T.n_len boot_len (pa_cons (pv 1) pa_nil)) pa_nil)) (blkOk_by (own := [("k", 5)]) (N := N__law_near) (sc := defScope s__law_near) (by decide +kernel))
     (fun _ _ _ _ _ => (pg_name (i := 5) sc__law_near.nd rfl (by first | exact Or.inl rfl | exact Or.inr rfl))) (fun _ _ _ _ _ => (pts_one (pt_cmpR op_ge (pe_ix ix_list (pv 1) (pv 5) (fun _ _ => rfl)) (pe_op op_sub (pv 3) (pv 2)) (nomark _)))) (fun _ _ _ _ _ => (pv 5)))
  (pss_one (ps_ret (pe_ifExp (pt_cmpR op_lt (pv 2) pe_int (nomark _)) (pe_callZ Z__law_of (pass_tk (takes_fn (CX := CX0))) hr rfl (pa_cons (pv 0) (pa_cons (pv 4) pa_nil))) (pe_callZ Z__law_draw (pass_tk (takes_fn (CX := CX0))) hr rfl (pa_cons (pv 0) (pa_cons (pe_callB call_len_seq (by rfl) T.n_len boot_len (pa_cons (pv 1) pa_nil)) pa_nil)))))))))
theorem ok__law_foe_tree {f : Addr} {fd : FuncData} {dvs : List V} {kws : List (Str × V)} (F : FunD K "_law_foe_tree" "_law_foe_tree" (defArgs s__law_foe_tree) (defBody s__law_foe_tree) (defScope s__law_foe_tree) dvs kws f fd) (T : Txt w K mg) (kt : KT K) (ka : KAt K attrs) (tx : TX K) (Z__law_hands : CalZ P w K mg base 3 "_law_hands" P__law_hands [] (sp__law_hands K)) (Z__law_known : CalZ P w K mg base 3 "_law_known" P__law_known [] (sp__law_known K)) (Z__law_of : CalZ P w K mg base 3 "_law_of" P__law_of [] (sp__law_of K)) (Z__law_near : CalZ P w K mg base 3 "_law_near" P__law_near [] (sp__law_near K)) : FnOk P w K mg base (L2.CX P w) 4 f fd P__law_foe_tree (sp__law_foe_tree K) := by
  refine F.ok sc__law_foe_tree (fun vs H Q E h => spP_len (N := []) h) (fun cdv A outer s H vs Q E hr h => ⟨r__law_foe_tree K E, ?_, spP_run (v__law_foe_tree kt ka tx) h⟩)
  exact (pss_cons (ps_set (i := 4) sc__law_foe_tree.nd rfl (Or.inl rfl) (pe_lst pa_nil))
  (pss_cons (ps_set (i := 5) sc__law_foe_tree.nd rfl (Or.inr rfl) (pe_lst (pa_cons pe_int pa_nil)))
  (pss_cons (ps_for (passes_of rfl) rfl (pi_range2 (by rfl) T.n_range (pa_cons pe_int (pa_cons (pe_op op_add (pe_callB call_lenS (by rfl) T.n_len boot_len (pa_cons (pv 1) pa_nil)) pe_int) pa_nil))) (pg_name (i := 6) sc__law_foe_tree.nd rfl (Or.inl rfl))
   (pss_cons (ps_set (i := 7) sc__law_foe_tree.nd rfl (Or.inl rfl) (pe_callZ Z__law_hands (pass_tk (takes_fn (CX := CX0))) hr rfl (pa_cons (pe_item_str (pv 1) (pe_op op_sub (pv 6) pe_int) (fun _ _ => rfl)) pa_nil)))
  (pss_cons (ps_set (i := 8) sc__law_foe_tree.nd rfl (Or.inr rfl) (pe_callZ Z__law_known (pass_tk (takes_fn (CX := CX0))) hr rfl (pa_cons (pv 4) (pa_cons (pv 5) (pa_cons (pv 3) (pa_cons (pe_op op_sub (pv 6) pe_int) pa_nil))))))
  (pss_cons (ps_setLc (i := 9) (own := [("k", 10)]) (by rfl) sc__law_foe_tree.nd rfl rfl (sw_true rfl rfl rfl (by decide +kernel)) (pi_range1 (by rfl) T.n_range (pa_cons (pe_callB call_len_seq (by rfl) T.n_len boot_len (pa_cons (pv 5) pa_nil)) pa_nil)) (blkOk_by (own := [("k", 10)]) (N := N__law_foe_tree) (sc := defScope s__law_foe_tree) (by decide +kernel))
     (fun _ _ _ _ _ => (pg_name (i := 10) sc__law_foe_tree.nd rfl (by first | exact Or.inl rfl | exact Or.inr rfl))) (fun _ _ _ _ _ => (pts_one (pt_cmpR op_ge (pe_ix ix_list (pv 5) (pv 10) (fun _ _ => rfl)) (pv 8) (nomark _)))) (fun _ _ _ _ _ => (pv 10)))
  (pss_cons (ps_set (i := 11) sc__law_foe_tree.nd rfl (Or.inl rfl) (pe_lst pa_nil))
  (pss_cons (ps_for (passes_of rfl) rfl (pi_range1 (by rfl) T.n_range (pa_cons (pe_ix ix_tup (pv 7) pe_int (fun _ _ => rfl)) pa_nil)) (pg_name (i := 12) sc__law_foe_tree.nd rfl (Or.inl rfl))
   (pss_one (ps_expr (pe_bm PySem.F.plainAttrs_list PySem.F.slot_list_append PySem.F.type_list_append mt_append (pv 11) (pa_cons (pe_tup (pa_cons (pv 6) (pa_cons pe_bl (pa_cons (pe_callZ Z__law_of (pass_tk (takes_fn (CX := CX0))) hr rfl (pa_cons (pv 0) (pa_cons (pv 9) pa_nil))) pa_nil)))) pa_nil)))))
  (pss_cons (ps_set (i := 13) sc__law_foe_tree.nd rfl (Or.inl rfl) pe_int)
  (pss_cons (ps_if (pt_truth (pe_ix ix_tup (pv 7) pe_int (fun _ _ => rfl)) (by intro _; rfl)) (pss_one (ps_set (i := 13) sc__law_foe_tree.nd rfl (Or.inl rfl) (pe_ifExp (pt_truth (pv 2) (by intro _; rfl)) (pe_callZ Z__law_of (pass_tk (takes_fn (CX := CX0))) hr rfl (pa_cons (pv 0) (pa_cons (pe_lst (pa_cons pe_int (pa_cons pe_int (pa_cons pe_int pa_nil)))) pa_nil))) (pe_callZ Z__law_of (pass_tk (takes_fn (CX := CX0))) hr rfl (pa_cons (pv 0) (pa_cons (pe_lst (pa_cons pe_int (pa_cons pe_int (pa_cons pe_int (pa_cons pe_int (pa_cons pe_int pa_nil)))))) pa_nil)))))) pss_nil)
  (pss_cons (ps_for (passes_of rfl) rfl (pi_range1 (by rfl) T.n_range (pa_cons (pv 13) pa_nil)) (pg_name (i := 14) sc__law_foe_tree.nd rfl (Or.inl rfl))
   (pss_one (ps_expr (pe_bm PySem.F.plainAttrs_list PySem.F.slot_list_append PySem.F.type_list_append mt_append (pv 11) (pa_cons (pe_tup (pa_cons (pv 6) (pa_cons pe_bl (pa_cons (pe_callZ Z__law_near (pass_tk (takes_fn (CX := CX0))) hr rfl (pa_cons (pv 0) (pa_cons (pv 5) pa_nil))) pa_nil)))) pa_nil)))))
  (pss_one (ps_for (passes_of rfl) rfl (pi_list (pv 11)) (pg_name (i := 15) sc__law_foe_tree.nd rfl (Or.inl rfl))
   (pss_cons (ps_expr (pe_bm PySem.F.plainAttrs_list PySem.F.slot_list_append PySem.F.type_list_append mt_append (pv 4) (pa_cons (pv 15) pa_nil)))
  (pss_one (ps_expr (pe_bm PySem.F.plainAttrs_list PySem.F.slot_list_append PySem.F.type_list_append mt_append (pv 5) (pa_cons (pe_op op_add (pe_ix ix_list (pv 5) (pe_ix ix_tup (pv 15) pe_int (fun _ _ => rfl)) (fun _ _ => rfl)) pe_int) pa_nil))))))))))))))))
  (pss_one (ps_ret (pv 4))))))
theorem ok__law_ofS {f : Addr} {fd : FuncData} {dvs : List V} {kws : List (Str × V)} (F : FunD K "_law_of" "_law_of" (defArgs s__law_ofS) (defBody s__law_ofS) (defScope s__law_ofS) dvs kws f fd) (T : Txt w K mg) (kt : KT K) (ka : KAt K attrs) (tx : TX K) (Z__law_draw : CalZ P w K mg base 1 "_law_draw" P__law_draw [] (sp__law_draw K)) : FnOk P w K mg base (L2.CX P w) 2 f fd P__law_ofS (sp__law_ofS K) := by
  refine F.ok sc__law_ofS (fun vs H Q E h => spP_len (N := []) h) (fun cdv A outer s H vs Q E hr h => ⟨r__law_ofS K E, ?_, spP_run (v__law_ofS kt ka tx) h⟩)
  exact (pss_one (ps_ret (pe_item_str (pv 1) (pe_callZ Z__law_draw (pass_tk (takes_fn (CX := CX0))) hr rfl (pa_cons (pv 0) (pa_cons (pe_callB call_lenS (by rfl) T.n_len boot_len (pa_cons (pv 1) pa_nil)) pa_nil))) (fun _ _ => rfl))))
theorem ok__law_letters {f : Addr} {fd : FuncData} {dvs : List V} {kws : List (Str × V)} (F : FunD K "_law_letters" "_law_letters" (defArgs s__law_letters) (defBody s__law_letters) (defScope s__law_letters) dvs kws f fd) (T : Txt w K mg) (kt : KT K) (ka : KAt K attrs) (tx : TX K) (Z__law_of : CalZ P w K mg base 2 "_law_of" P__law_of [] (sp__law_of K)) (Z__law_draw : CalZ P w K mg base 2 "_law_draw" P__law_draw [] (sp__law_draw K)) (Z__law_ofS : CalZ P w K mg base 2 "_law_of" P__law_ofS [] (sp__law_ofS K)) : FnOk P w K mg base (L2.CX P w) 3 f fd P__law_letters (sp__law_letters K) := by
  refine F.ok sc__law_letters (fun vs H Q E h => spP_len (N := []) h) (fun cdv A outer s H vs Q E hr h => ⟨r__law_letters K E, ?_, spP_run (v__law_letters kt ka tx) h⟩)
  exact (pss_cons (ps_set (i := 2) sc__law_letters.nd rfl (Or.inr rfl) (pe_callZ Z__law_of (pass_tk (takes_fn (CX := CX0))) hr rfl (pa_cons (pv 0) (pa_cons (pe_lst (pa_cons pe_str (pa_cons pe_str (pa_cons pe_str (pa_cons pe_str (pa_cons pe_str (pa_cons pe_str (pa_cons pe_str (pa_cons pe_str (pa_cons pe_str (pa_cons pe_str pa_nil))))))))))) pa_nil))))
  (pss_one (ps_ret (pe_bm PySem.F.plainAttrs_str PySem.F.slot_str_join PySem.F.type_str_join mt_join pe_str (pa_cons (pe_lc (own := [("k", 3)]) (by rfl) sc__law_letters.nd (pi_range1 (by rfl) T.n_range (pa_cons (pe_callZ Z__law_draw (pass_tk (takes_fn (CX := CX0))) hr rfl (pa_cons (pv 0) (pa_cons (pe_op op_add (pv 1) pe_int) pa_nil))) pa_nil)) (blkOk_by (own := [("k", 3)]) (N := N__law_letters) (sc := defScope s__law_letters) (by decide +kernel))
     (fun _ _ _ _ _ => (pg_name (i := 3) sc__law_letters.nd rfl (by first | exact Or.inl rfl | exact Or.inr rfl))) (fun _ _ _ _ _ => pts_nil) (fun _ _ _ _ _ => (pe_callZ Z__law_ofS pass_none hr rfl (pa_cons (pv 0) (pa_cons (pv 2) pa_nil))))) pa_nil)))))
theorem ok__law_any {f : Addr} {fd : FuncData} {dvs : List V} {kws : List (Str × V)} (F : FunD K "_law_any" "_law_any" (defArgs s__law_any) (defBody s__law_any) (defScope s__law_any) dvs kws f fd) (T : Txt w K mg) (kt : KT K) (ka : KAt K attrs) (tx : TX K) (Z__law_draw : CalZ P w K mg base 4 "_law_draw" P__law_draw [] (sp__law_draw K)) (Z__law_wild : CalZ P w K mg base 4 "_law_wild" P__law_wild [] (sp__law_wild K)) (Z__law_late : CalZ P w K mg base 4 "_law_late" P__law_late [] (sp__law_late K)) (Z__law_turned : CalZ P w K mg base 4 "_law_turned" P__law_turned [] (sp__law_turned K)) (Z__law_foe_tree : CalZ P w K mg base 4 "_law_foe_tree" P__law_foe_tree [] (sp__law_foe_tree K)) (Z__law_letters : CalZ P w K mg base 4 "_law_letters" P__law_letters [] (sp__law_letters K)) : FnOk P w K mg base (L2.CX P w) 5 f fd P__law_any (sp__law_any K) := by
  refine F.ok sc__law_any (fun vs H Q E h => spP_len (N := []) h) (fun cdv A outer s H vs Q E hr h => ⟨r__law_any K E, ?_, spP_run (v__law_any kt ka tx) h⟩)
  exact (pss_cons (ps_if (pt_cmpR op_eq (pe_callZ Z__law_draw (pass_tk (takes_fn (CX := CX0))) hr rfl (pa_cons (pv 0) (pa_cons pe_int pa_nil))) pe_int (nomark _)) (pss_one (ps_ret (pe_callZ Z__law_wild (pass_tk (takes_fn (CX := CX0))) hr rfl (pa_cons (pv 0) (pa_cons (pv 1) pa_nil))))) pss_nil)
  (pss_cons (ps_set (i := 2) sc__law_any.nd rfl (Or.inl rfl) (pe_cmpR op_eq (pe_callZ Z__law_draw (pass_tk (takes_fn (CX := CX0))) hr rfl (pa_cons (pv 0) (pa_cons pe_int pa_nil))) pe_int (nomark _)))
  (pss_cons (ps_set (i := 3) sc__law_any.nd rfl (Or.inl rfl) (pe_callZ Z__law_late (pass_tk (takes_fn (CX := CX0))) hr rfl (pa_cons (pv 0) pa_nil)))
  (pss_one (ps_ret (pe_callZ Z__law_turned (pass_tk (takes_fn (CX := CX0))) hr rfl (pa_cons (pv 0) (pa_cons (pe_callZ Z__law_foe_tree (pass_tk (takes_fn (CX := CX0))) hr rfl (pa_cons (pv 0) (pa_cons (pe_callZ Z__law_letters (pass_tk (takes_fn (CX := CX0))) hr rfl (pa_cons (pv 0) (pa_cons (pv 1) pa_nil))) (pa_cons (pv 2) (pa_cons (pv 3) pa_nil))))) pa_nil))))))))
theorem ok__law_rows {f : Addr} {fd : FuncData} {dvs : List V} {kws : List (Str × V)} (F : FunD K "_law_rows" "_law_rows" (defArgs s__law_rows) (defBody s__law_rows) (defScope s__law_rows) dvs kws f fd) (T : Txt w K mg) (kt : KT K) (ka : KAt K attrs) (tx : TX K) : FnOk P w K mg base (L2.CX P w) 1 f fd P__law_rows (sp__law_rows K) := by
  refine F.ok sc__law_rows (fun vs H Q E h => spP_len (N := []) h) (fun cdv A outer s H vs Q E hr h => ⟨r__law_rows K E, ?_, spP_run (v__law_rows kt ka tx) h⟩)
  exact (pss_cons (ps_set (i := 1) sc__law_rows.nd rfl (Or.inl rfl) (pe_lst (pa_cons (pe_lst pa_nil) pa_nil)))
  (pss_cons (ps_for (passes_of rfl) rfl (pi_range1 (by rfl) T.n_range (pa_cons (pe_callB call_len_seq (by rfl) T.n_len boot_len (pa_cons (pv 0) pa_nil)) pa_nil)) (pg_name (i := 2) sc__law_rows.nd rfl (Or.inl rfl))
   (pss_one (ps_expr (pe_bm PySem.F.plainAttrs_list PySem.F.slot_list_append PySem.F.type_list_append mt_append (pv 1) (pa_cons (pe_op op_cat (pe_ix ix_list (pv 1) (pe_ix ix_tup (pe_ix ix_list (pv 0) (pv 2) (fun _ _ => rfl)) pe_int (fun _ _ => rfl)) (fun _ _ => rfl)) (pe_lst (pa_cons (pe_op op_add (pv 2) pe_int) pa_nil))) pa_nil)))))
  (pss_one (ps_ret (pv 1)))))
theorem ok_can_stand {f : Addr} {fd : FuncData} {dvs : List V} {kws : List (Str × V)} (F : FunD K "can_stand" "can_stand" (defArgs s_can_stand) (defBody s_can_stand) (defScope s_can_stand) dvs kws f fd) (T : Txt w K mg) (kt : KT K) (ka : KAt K attrs) (tx : TX K) : FnOk P w K mg base (L2.CX P w) 1 f fd P_can_stand (sp_can_stand K) := by
  refine F.ok sc_can_stand (fun vs H Q E h => spP_len (N := []) h) (fun cdv A outer s H vs Q E hr h => ⟨r_can_stand K E, ?_, spP_run (v_can_stand kt ka tx) h⟩)
  exact (pss_cons (ps_asg (pv 0) (pg_tup (by rfl) (pgs_cons (pg_name (i := 2) sc_can_stand.nd rfl (Or.inl rfl)) (pgs_cons (pg_name (i := 3) sc_can_stand.nd rfl (Or.inl rfl)) (pgs_cons (pg_name (i := 4) sc_can_stand.nd rfl (Or.inl rfl)) pgs_nil)))))
  (pss_one (ps_ret (pe_and (pe_chain op_le op_le pe_int (pv 2) (pe_glob rfl T.i_MOST_SLOTS.choose_spec ⟨_, rfl⟩)) (pe_one (pe_chain op_le op_lt pe_int (pv 4) (pv 1)))))))
theorem ok_line_of_wrong_triple {f : Addr} {fd : FuncData} {dvs : List V} {kws : List (Str × V)} (F : FunD K "line_of_wrong_triple" "line_of_wrong_triple" (defArgs s_line_of_wrong_triple) (defBody s_line_of_wrong_triple) (defScope s_line_of_wrong_triple) dvs kws f fd) (T : Txt w K mg) (kt : KT K) (ka : KAt K attrs) (tx : TX K) (Z_can_stand : CalZ P w K mg base 1 "can_stand" P_can_stand [] (sp_can_stand K)) : FnOk P w K mg base (L2.CX P w) 2 f fd P_line_of_wrong_triple (sp_line_of_wrong_triple K) := by
  refine F.ok sc_line_of_wrong_triple (fun vs H Q E h => spP_len (N := []) h) (fun cdv A outer s H vs Q E hr h => ⟨r_line_of_wrong_triple K E, ?_, spP_run (v_line_of_wrong_triple kt ka tx) h⟩)
  exact (pss_cons (ps_for (passes_of rfl) rfl (pi_enum (by rfl) T.n_enumerate (pa_cons (pv 0) pa_nil)) (pg_tup (by rfl) (pgs_cons (pg_name (i := 1) sc_line_of_wrong_triple.nd rfl (Or.inl rfl)) (pgs_cons (pg_name (i := 2) sc_line_of_wrong_triple.nd rfl (Or.inl rfl)) pgs_nil)))
   (pss_one (ps_if (pt_not (pt_val (pe_callZ Z_can_stand (pass_tk (takes_fn (CX := CX0))) hr rfl (pa_cons (pv 2) (pa_cons (pe_op op_add (pv 1) pe_int) pa_nil))))) (pss_one (ps_ret (pe_op op_add (pv 1) pe_int))) pss_nil)))
  (pss_one (ps_ret pe_non)))
theorem ok_check_length {f : Addr} {fd : FuncData} {dvs : List V} {kws : List (Str × V)} (F : FunD K "check_length" "check_length" (defArgs s_check_length) (defBody s_check_length) (defScope s_check_length) dvs kws f fd) (T : Txt w K mg) (kt : KT K) (ka : KAt K attrs) (tx : TX K) : FnOk P w K mg base (L2.CX P w) 1 f fd P_check_length (sp_check_length K) := by
  refine F.ok sc_check_length (fun vs H Q E h => spP_len (N := []) h) (fun cdv A outer s H vs Q E hr h => ⟨r_check_length K E, ?_, spP_run (v_check_length kt ka tx) h⟩)
  exact (pss_one (ps_if (pt_cmpR op_gt (pe_callB call_lenS (by rfl) T.n_len boot_len (pa_cons (pv 0) pa_nil)) (pe_glob rfl T.i_MOST_CHARACTERS.choose_spec ⟨_, rfl⟩) (nomark _)) pss_never pss_nil))
theorem ok_lines_of {f : Addr} {fd : FuncData} {dvs : List V} {kws : List (Str × V)} (F : FunD K "lines_of" "lines_of" (defArgs s_lines_of) (defBody s_lines_of) (defScope s_lines_of) dvs kws f fd) (T : Txt w K mg) (kt : KT K) (ka : KAt K attrs) (tx : TX K) : FnOk P w K mg base (L2.CX P w) 1 f fd P_lines_of (sp_lines_of K) := by
  refine F.ok sc_lines_of (fun vs H Q E h => spP_len (N := []) h) (fun cdv A outer s H vs Q E hr h => ⟨r_lines_of K E, ?_, spP_run (v_lines_of kt ka tx) h⟩)
  exact (pss_cons (ps_set (i := 1) sc_lines_of.nd rfl (Or.inl rfl) (pe_bm PySem.F.plainAttrs_str PySem.F.slot_str_split PySem.F.type_str_split mt_split (pv 0) (pa_cons pe_str pa_nil)))
  (pss_one (ps_ret (pe_tup (pa_cons (pe_slice sl_list (pv 1) po_none (po_some (pe_un un_neg pe_int))) (pa_cons (pe_ix ix_list (pv 1) (pe_un un_neg pe_int) (fun _ _ => rfl)) pa_nil))))))
theorem ok_head_fault {f : Addr} {fd : FuncData} {dvs : List V} {kws : List (Str × V)} (F : FunD K "head_fault" "head_fault" (defArgs s_head_fault) (defBody s_head_fault) (defScope s_head_fault) dvs kws f fd) (T : Txt w K mg) (kt : KT K) (ka : KAt K attrs) (tx : TX K) : FnOk P w K mg base (L2.CX P w) 1 f fd P_head_fault (sp_head_fault K) := by
  refine F.ok sc_head_fault (fun vs H Q E h => spP_len (N := []) h) (fun cdv A outer s H vs Q E hr h => ⟨r_head_fault K E, ?_, spP_run (v_head_fault kt ka tx) h⟩)
  exact (pss_cons (ps_if (pt_cmpR op_eq (pe_callB call_len_seq (by rfl) T.n_len boot_len (pa_cons (pv 0) pa_nil)) pe_int (nomark _)) pss_never pss_nil)
  (pss_cons (ps_if (pt_cmpR op_ne (pe_ix ix_list (pv 0) pe_int (fun _ _ => rfl)) (pv 2) (nomark _)) pss_never pss_nil)
  (pss_one (ps_ret pe_non))))
theorem ok_end_fault {f : Addr} {fd : FuncData} {dvs : List V} {kws : List (Str × V)} (F : FunD K "end_fault" "end_fault" (defArgs s_end_fault) (defBody s_end_fault) (defScope s_end_fault) dvs kws f fd) (T : Txt w K mg) (kt : KT K) (ka : KAt K attrs) (tx : TX K) : FnOk P w K mg base (L2.CX P w) 1 f fd P_end_fault (sp_end_fault K) := by
  refine F.ok sc_end_fault (fun vs H Q E h => spP_len (N := []) h) (fun cdv A outer s H vs Q E hr h => ⟨r_end_fault K E, ?_, spP_run (v_end_fault kt ka tx) h⟩)
  exact (pss_cons (ps_if (PW.pt (pw_or (pt_cmpR op_gt (pe_callB call_len_seq (by rfl) T.n_len boot_len (pa_cons (pv 0) pa_nil)) (pe_op op_add (pv 2) pe_int) (nomark _)) (pw_or1 (pt_cmpR op_ne (pv 1) pe_str (nomark _))))) pss_never pss_nil)
  (pss_one (ps_ret pe_non)))
theorem ok_read_tree {f : Addr} {fd : FuncData} {dvs : List V} {kws : List (Str × V)} (F : FunD K "read_tree" "read_tree" (defArgs s_read_tree) (defBody s_read_tree) (defScope s_read_tree) dvs kws f fd) (T : Txt w K mg) (kt : KT K) (ka : KAt K attrs) (tx : TX K) (Z_lines_of : CalZ P w K mg base 1 "lines_of" P_lines_of [] (sp_lines_of K)) (Z_head_fault : CalZ P w K mg base 1 "head_fault" P_head_fault [] (sp_head_fault K)) (Z_end_fault : CalZ P w K mg base 1 "end_fault" P_end_fault [] (sp_end_fault K)) : FnOk P w K mg base (L2.CX P w) 2 f fd P_read_tree (sp_read_tree K) := by
  refine F.ok sc_read_tree (fun vs H Q E h => spP_len (N := []) h) (fun cdv A outer s H vs Q E hr h => ⟨r_read_tree K E, ?_, spP_run (v_read_tree kt ka tx) h⟩)
  exact (pss_cons (ps_asg (pe_callZ Z_lines_of (pass_tk (takes_fn (CX := CX0))) hr rfl (pa_cons (pv 0) pa_nil)) (pg_tup (by rfl) (pgs_cons (pg_name (i := 1) sc_read_tree.nd rfl (Or.inl rfl)) (pgs_cons (pg_name (i := 2) sc_read_tree.nd rfl (Or.inl rfl)) pgs_nil))))
  (pss_cons (ps_set (i := 3) sc_read_tree.nd rfl (Or.inl rfl) (pe_callZ Z_head_fault (pass_tk (takes_fn (CX := CX0))) hr rfl (pa_cons (pv 1) (pa_cons (pv 2) (pa_cons (pe_glob rfl T.i_HEAD.choose_spec ⟨_, rfl⟩) pa_nil)))))
  (pss_cons (ps_if (pt_cmpR op_notN (pv 3) pe_non (nomark _)) pss_never pss_nil)
  (pss_cons (ps_set (i := 4) sc_read_tree.nd rfl (Or.inl rfl) (pe_lst pa_nil))
  (pss_cons (ps_for (passes_of rfl) rfl (pi_range2 (by rfl) T.n_range (pa_cons pe_int (pa_cons (pe_callB call_len_seq (by rfl) T.n_len boot_len (pa_cons (pv 1) pa_nil)) pa_nil))) (pg_name (i := 5) sc_read_tree.nd rfl (Or.inl rfl))
   (pss_cons (ps_if (pt_cmpR op_eq (pe_ix ix_list (pv 1) (pv 5) (fun _ _ => rfl)) (pe_glob rfl T.i_DONE.choose_spec ⟨_, rfl⟩) (nomark _)) (pss_one (ps_ret (pe_tup (pa_cons (pv 4) (pa_cons (pe_callZ Z_end_fault (pass_tk (takes_fn (CX := CX0))) hr rfl (pa_cons (pv 1) (pa_cons (pv 2) (pa_cons (pv 5) pa_nil)))) pa_nil))))) pss_nil)
  pss_never))
  pss_never)))))
theorem ok_depths_of {f : Addr} {fd : FuncData} {dvs : List V} {kws : List (Str × V)} (F : FunD K "depths_of" "depths_of" (defArgs s_depths_of) (defBody s_depths_of) (defScope s_depths_of) dvs kws f fd) (T : Txt w K mg) (kt : KT K) (ka : KAt K attrs) (tx : TX K) : FnOk P w K mg base (L2.CX P w) 1 f fd P_depths_of (sp_depths_of K) := by
  refine F.ok sc_depths_of (fun vs H Q E h => spP_len (N := []) h) (fun cdv A outer s H vs Q E hr h => ⟨r_depths_of K E, ?_, spP_run (v_depths_of kt ka tx) h⟩)
  exact (pss_cons (ps_set (i := 1) sc_depths_of.nd rfl (Or.inl rfl) (pe_lst (pa_cons pe_int pa_nil)))
  (pss_cons (ps_for (passes_of rfl) rfl (pi_list (pv 0)) (pg_name (i := 2) sc_depths_of.nd rfl (Or.inl rfl))
   (pss_one (ps_expr (pe_bm PySem.F.plainAttrs_list PySem.F.slot_list_append PySem.F.type_list_append mt_append (pv 1) (pa_cons (pe_op op_add (pe_ix ix_list (pv 1) (pe_ix ix_tup (pv 2) pe_int (fun _ _ => rfl)) (fun _ _ => rfl)) pe_int) pa_nil)))))
  (pss_one (ps_ret (pv 1)))))
theorem ok_Tree___init__ {f : Addr} {fd : FuncData} {dvs : List V} {kws : List (Str × V)} (F : FunD K "__init__" "Tree.__init__" (defArgs s_Tree___init__) (defBody s_Tree___init__) (defScope s_Tree___init__) dvs kws f fd) (T : Txt w K mg) (kt : KT K) (ka : KAt K attrs) (tx : TX K) (Z_check_length : CalZ P w K mg base 2 "check_length" P_check_length [] (sp_check_length K)) (Z_read_tree : CalZ P w K mg base 2 "read_tree" P_read_tree [] (sp_read_tree K)) (Z_depths_of : CalZ P w K mg base 2 "depths_of" P_depths_of [] (sp_depths_of K)) : FnOk P w K mg base (L2.CX P w) 3 f fd P_Tree___init__ (sp_Tree___init__ K) := by
  refine F.ok sc_Tree___init__ (fun vs H Q E h => spN_len h) (fun cdv A outer s H vs Q E hr h => ⟨r_Tree___init__ K E, ?_, spN_run (v_Tree___init__ kt ka tx) h⟩)
  exact (pss_cons (ps_expr (pe_callZ Z_check_length (pass_tk (takes_fn (CX := CX0))) hr rfl (pa_cons (pv 1) pa_nil)))
  (pss_cons (ps_asg (pe_callZ Z_read_tree (pass_tk (takes_fn (CX := CX0))) hr rfl (pa_cons (pv 1) pa_nil)) (pg_tup (by rfl) (pgs_cons (pg_name (i := 2) sc_Tree___init__.nd rfl (Or.inl rfl)) (pgs_cons (pg_name (i := 3) sc_Tree___init__.nd rfl (Or.inl rfl)) pgs_nil))))
  (pss_cons (ps_if (pt_cmpR op_notN (pv 3) pe_non (nomark _)) pss_never pss_nil)
  (pss_cons (ps_if (pt_cmpR op_gt (pe_callB call_len_seq (by rfl) T.n_len boot_len (pa_cons (pv 2) pa_nil)) (pe_glob rfl T.i_MOST_BLOCKS.choose_spec ⟨_, rfl⟩) (nomark _)) pss_never pss_nil)
  (pss_cons (ps_fld (pv 0) (pv 2) rfl)
  (pss_cons (ps_fld (pv 0) (pe_callZ Z_depths_of (pass_tk (takes_fn (CX := CX0))) hr rfl (pa_cons (pv 2) pa_nil)) rfl)
  (pss_one (ps_fld (pv 0) (pv 1) rfl))))))))
theorem ok_word_of_truth {f : Addr} {fd : FuncData} {dvs : List V} {kws : List (Str × V)} (F : FunD K "word_of_truth" "word_of_truth" (defArgs s_word_of_truth) (defBody s_word_of_truth) (defScope s_word_of_truth) dvs kws f fd) (T : Txt w K mg) (kt : KT K) (ka : KAt K attrs) (tx : TX K) : FnOk P w K mg base (L2.CX P w) 1 f fd P_word_of_truth (sp_word_of_truth K) := by
  refine F.ok sc_word_of_truth (fun vs H Q E h => spP_len (N := []) h) (fun cdv A outer s H vs Q E hr h => ⟨r_word_of_truth K E, ?_, spP_run (v_word_of_truth kt ka tx) h⟩)
  exact (pss_cons (ps_if (pt_truth (pv 0) (by intro _; rfl)) (pss_one (ps_ret (pe_glob rfl T.i_TRUE_WORD.choose_spec ⟨_, rfl⟩))) pss_nil)
  (pss_one (ps_ret (pe_glob rfl T.i_FALSE_WORD.choose_spec ⟨_, rfl⟩))))
theorem ok_block_line {f : Addr} {fd : FuncData} {dvs : List V} {kws : List (Str × V)} (F : FunD K "block_line" "block_line" (defArgs s_block_line) (defBody s_block_line) (defScope s_block_line) dvs kws f fd) (T : Txt w K mg) (kt : KT K) (ka : KAt K attrs) (tx : TX K) (Z_word_of_truth : CalZ P w K mg base 1 "word_of_truth" P_word_of_truth [] (sp_word_of_truth K)) : FnOk P w K mg base (L2.CX P w) 2 f fd P_block_line (sp_block_line K) := by
  refine F.ok sc_block_line (fun vs H Q E h => spP_len (N := []) h) (fun cdv A outer s H vs Q E hr h => ⟨r_block_line K E, ?_, spP_run (v_block_line kt ka tx) h⟩)
  exact (pss_cons (ps_asg (pv 1) (pg_tup (by rfl) (pgs_cons (pg_name (i := 2) sc_block_line.nd rfl (Or.inl rfl)) (pgs_cons (pg_name (i := 3) sc_block_line.nd rfl (Or.inl rfl)) (pgs_cons (pg_name (i := 4) sc_block_line.nd rfl (Or.inl rfl)) pgs_nil)))))
  (pss_one (ps_ret (pe_joined (PJ.cons pe_str (PJ.cons (pe_fmt (pv 0)) (PJ.cons pe_str (PJ.cons (pe_fmt (pv 2)) (PJ.cons pe_str (PJ.cons (pe_fmt (pe_callZ Z_word_of_truth (pass_tk (takes_fn (CX := CX0))) hr rfl (pa_cons (pv 3) pa_nil))) (PJ.cons pe_str (PJ.cons (pe_fmt (pv 4)) PJ.nil))))))))))))
theorem ok_tree_text {f : Addr} {fd : FuncData} {dvs : List V} {kws : List (Str × V)} (F : FunD K "tree_text" "tree_text" (defArgs s_tree_text) (defBody s_tree_text) (defScope s_tree_text) dvs kws f fd) (T : Txt w K mg) (kt : KT K) (ka : KAt K attrs) (tx : TX K) (Z_block_line : CalZ P w K mg base 2 "block_line" P_block_line [] (sp_block_line K)) : FnOk P w K mg base (L2.CX P w) 3 f fd P_tree_text (sp_tree_text K) := by
  refine F.ok sc_tree_text (fun vs H Q E h => spP_len (N := []) h) (fun cdv A outer s H vs Q E hr h => ⟨r_tree_text K E, ?_, spP_run (v_tree_text kt ka tx) h⟩)
  exact (pss_cons (ps_set (i := 1) sc_tree_text.nd rfl (Or.inl rfl) (pe_lst (pa_cons (pe_glob rfl T.i_HEAD.choose_spec ⟨_, rfl⟩) pa_nil)))
  (pss_cons (ps_for (passes_of rfl) rfl (pi_enum (by rfl) T.n_enumerate (pa_cons (pv 0) pa_nil)) (pg_tup (by rfl) (pgs_cons (pg_name (i := 2) sc_tree_text.nd rfl (Or.inl rfl)) (pgs_cons (pg_name (i := 3) sc_tree_text.nd rfl (Or.inl rfl)) pgs_nil)))
   (pss_one (ps_expr (pe_bm PySem.F.plainAttrs_list PySem.F.slot_list_append PySem.F.type_list_append mt_append (pv 1) (pa_cons (pe_callZ Z_block_line (pass_tk (takes_fn (CX := CX0))) hr rfl (pa_cons (pe_op op_add (pv 2) pe_int) (pa_cons (pv 3) pa_nil))) pa_nil)))))
  (pss_cons (ps_expr (pe_bm PySem.F.plainAttrs_list PySem.F.slot_list_append PySem.F.type_list_append mt_append (pv 1) (pa_cons (pe_glob rfl T.i_DONE.choose_spec ⟨_, rfl⟩) pa_nil)))
  (pss_one (ps_ret (pe_op op_add_str (pe_bm PySem.F.plainAttrs_str PySem.F.slot_str_join PySem.F.type_str_join mt_join pe_str (pa_cons (pv 1) pa_nil)) pe_str))))))
theorem ok_tree_from {f : Addr} {fd : FuncData} {dvs : List V} {kws : List (Str × V)} (F : FunD K "tree_from" "tree_from" (defArgs s_tree_from) (defBody s_tree_from) (defScope s_tree_from) dvs kws f fd) (T : Txt w K mg) (kt : KT K) (ka : KAt K attrs) (tx : TX K) (I_Tree : CalZI P w K mg base 3 "Tree" (He.ga K "Tree") P_Tree___init__ (sp_Tree___init__ K)) (Z_depths_of : CalZ P w K mg base 4 "depths_of" P_depths_of [] (sp_depths_of K)) (Z_tree_text : CalZ P w K mg base 4 "tree_text" P_tree_text [] (sp_tree_text K)) : FnOk P w K mg base (L2.CX P w) 5 f fd P_tree_from (sp_tree_from K) := by
  refine F.ok sc_tree_from (fun vs H Q E h => spP_len (N := []) h) (fun cdv A outer s H vs Q E hr h => ⟨r_tree_from K E, ?_, spP_run (v_tree_from kt ka tx) h⟩)
  exact (pss_cons (ps_set (i := 1) sc_tree_from.nd rfl (Or.inl rfl) (pe_makeZ I_Tree (pass_tk (takes_fn (CX := CX0))) hr rfl (pa_cons (pe_glob rfl T.i_EMPTY_TREE.choose_spec ⟨_, rfl⟩) pa_nil)))
  (pss_cons (ps_fld (pv 1) (pe_callTy call_list_of (by rfl) T.n_list (by decide +kernel) (pa_cons (pv 0) pa_nil)) rfl)
  (pss_cons (ps_fld (pv 1) (pe_callZ Z_depths_of (pass_tk (takes_fn (CX := CX0))) hr rfl (pa_cons (pv 0) pa_nil)) rfl)
  (pss_cons (ps_fld (pv 1) (pe_callZ Z_tree_text (pass_tk (takes_fn (CX := CX0))) hr rfl (pa_cons (pv 0) pa_nil)) rfl)
  (pss_one (ps_ret (pv 1)))))))
theorem ok_Tree_of {f : Addr} {fd : FuncData} {dvs : List V} {kws : List (Str × V)} (F : FunD K "of" "Tree.of" (defArgs s_Tree_of) (defBody s_Tree_of) (defScope s_Tree_of) dvs kws f fd) (T : Txt w K mg) (kt : KT K) (ka : KAt K attrs) (tx : TX K) (Z_line_of_wrong_triple : CalZ P w K mg base 5 "line_of_wrong_triple" P_line_of_wrong_triple [] (sp_line_of_wrong_triple K)) (Z_tree_from : CalZ P w K mg base 5 "tree_from" P_tree_from [] (sp_tree_from K)) : FnOk P w K mg base (L2.CX P w) 6 f fd P_Tree_of (sp_Tree_of K) := by
  refine F.ok sc_Tree_of (fun vs H Q E h => spP_len (N := []) h) (fun cdv A outer s H vs Q E hr h => ⟨r_Tree_of K E, ?_, spP_run (v_Tree_of kt ka tx) h⟩)
  exact (pss_cons (ps_setLc (i := 1) (own := [("slot", 2), ("true", 3), ("behind", 4)]) (by rfl) sc_Tree_of.nd rfl rfl (sw_true rfl rfl rfl (by decide +kernel)) (pi_list (pv 0)) (blkOk_by (own := [("slot", 2), ("true", 3), ("behind", 4)]) (N := N_Tree_of) (sc := defScope s_Tree_of) (by decide +kernel))
     (fun _ _ _ _ _ => (pg_tup (by rfl) (pgs_cons (pg_name (i := 2) sc_Tree_of.nd rfl (by first | exact Or.inl rfl | exact Or.inr rfl)) (pgs_cons (pg_name (i := 3) sc_Tree_of.nd rfl (by first | exact Or.inl rfl | exact Or.inr rfl)) (pgs_cons (pg_name (i := 4) sc_Tree_of.nd rfl (by first | exact Or.inl rfl | exact Or.inr rfl)) pgs_nil))))) (fun _ _ _ _ _ => pts_nil) (fun _ _ _ _ _ => (pe_tup (pa_cons (pv 2) (pa_cons (pv 3) (pa_cons (pv 4) pa_nil))))))
  (pss_cons (ps_set (i := 5) sc_Tree_of.nd rfl (Or.inl rfl) (pe_callZ Z_line_of_wrong_triple (pass_tk (takes_fn (CX := CX0))) hr rfl (pa_cons (pv 1) pa_nil)))
  (pss_cons (ps_if (pt_cmpR op_notN (pv 5) pe_non (nomark _)) pss_never pss_nil)
  (pss_cons (ps_if (pt_cmpR op_gt (pe_callB call_len_seq (by rfl) T.n_len boot_len (pa_cons (pv 1) pa_nil)) (pe_glob rfl T.i_MOST_BLOCKS.choose_spec ⟨_, rfl⟩) (nomark _)) pss_never pss_nil)
  (pss_one (ps_ret (pe_callZ Z_tree_from (pass_tk (takes_fn (CX := CX0))) hr rfl (pa_cons (pv 1) pa_nil))))))))
theorem ok__law_pairs {f : Addr} {fd : FuncData} {dvs : List V} {kws : List (Str × V)} (F : FunD K "_law_pairs" "_law_pairs" (defArgs s__law_pairs) (defBody s__law_pairs) (defScope s__law_pairs) dvs kws f fd) (T : Txt w K mg) (kt : KT K) (ka : KAt K attrs) (tx : TX K) (Z__law_draw : CalZ P w K mg base 1 "_law_draw" P__law_draw [] (sp__law_draw K)) : FnOk P w K mg base (L2.CX P w) 2 f fd P__law_pairs (sp__law_pairs K) := by
  refine F.ok sc__law_pairs (fun vs H Q E h => spP_len (N := []) h) (fun cdv A outer s H vs Q E hr h => ⟨r__law_pairs K E, ?_, spP_run (v__law_pairs kt ka tx) h⟩)
  exact (pss_cons (ps_set (i := 2) sc__law_pairs.nd rfl (Or.inl rfl) (pe_lst pa_nil))
  (pss_cons (ps_for (passes_of rfl) rfl (pi_range1 (by rfl) T.n_range (pa_cons (pe_op op_add (pe_callB (call_min2 rfl) (by rfl) T.n_min (by decide +kernel) (pa_cons (pv 1) (pa_cons pe_int pa_nil))) pe_int) pa_nil)) (pg_name (i := 3) sc__law_pairs.nd rfl (Or.inl rfl))
   (pss_one (ps_for (passes_of rfl) rfl (pi_range1 (by rfl) T.n_range (pa_cons (pe_op op_add (pv 3) pe_int) pa_nil)) (pg_name (i := 4) sc__law_pairs.nd rfl (Or.inl rfl))
   (pss_one (ps_expr (pe_bm PySem.F.plainAttrs_list PySem.F.slot_list_append PySem.F.type_list_append mt_append (pv 2) (pa_cons (pe_tup (pa_cons (pv 3) (pa_cons (pv 4) pa_nil))) pa_nil)))))))
  (pss_cons (ps_for (passes_of rfl) rfl (pi_range1 (by rfl) T.n_range (pa_cons pe_int pa_nil)) (pg_name (i := 5) sc__law_pairs.nd rfl (Or.inl rfl))
   (pss_one (ps_expr (pe_bm PySem.F.plainAttrs_list PySem.F.slot_list_append PySem.F.type_list_append mt_append (pv 2) (pa_cons (pe_tup (pa_cons (pe_callZ Z__law_draw (pass_tk (takes_fn (CX := CX0))) hr rfl (pa_cons (pv 0) (pa_cons (pe_op op_add (pv 1) pe_int) pa_nil))) (pa_cons (pe_callB (call_max2 rfl) (by rfl) T.n_max (by decide +kernel) (pa_cons pe_int (pa_cons (pe_op op_sub (pv 1) (pe_callZ Z__law_draw (pass_tk (takes_fn (CX := CX0))) hr rfl (pa_cons (pv 0) (pa_cons pe_int pa_nil)))) pa_nil))) pa_nil))) pa_nil)))))
  (pss_one (ps_ret (pv 2))))))
theorem ok__law_due {f : Addr} {fd : FuncData} {dvs : List V} {kws : List (Str × V)} (F : FunD K "_law_due" "_law_due" (defArgs s__law_due) (defBody s__law_due) (defScope s__law_due) dvs kws f fd) (T : Txt w K mg) (kt : KT K) (ka : KAt K attrs) (tx : TX K) : FnOk P w K mg base (L2.CX P w) 1 f fd P__law_due (sp__law_due K) := by
  refine F.ok sc__law_due (fun vs H Q E h => spP_len (N := []) h) (fun cdv A outer s H vs Q E hr h => ⟨r__law_due K E, ?_, spP_run (v__law_due kt ka tx) h⟩)
  exact (pss_cons (ps_if (pt_cmpR op_lt (pv 4) pe_int (nomark _)) (pss_one (ps_ret (pe_lst (pa_cons pe_str (pa_cons pe_str pa_nil))))) pss_nil)
  (pss_cons (ps_if (PW.pt (pw_or (pt_not (pt_chain op_le op_le pe_int (pv 2) (pe_callB call_len_seq (by rfl) T.n_len boot_len (pa_cons (pv 0) pa_nil)))) (pw_or1 (pt_not (pt_chain op_le op_le pe_int (pv 3) (pe_callB call_len_seq (by rfl) T.n_len boot_len (pa_cons (pv 0) pa_nil))))))) (pss_one (ps_ret (pe_lst (pa_cons pe_str (pa_cons pe_str pa_nil))))) pss_nil)
  (pss_cons (ps_setLc (i := 5) (own := [("k", 6)]) (by rfl) sc__law_due.nd rfl rfl (sw_true rfl rfl rfl (by decide +kernel)) (pi_list (pe_ix ix_list (pv 1) (pv 2) (fun _ _ => rfl))) (blkOk_by (own := [("k", 6)]) (N := N__law_due) (sc := defScope s__law_due) (by decide +kernel))
     (fun _ _ _ _ _ => (pg_name (i := 6) sc__law_due.nd rfl (by first | exact Or.inl rfl | exact Or.inr rfl))) (fun _ _ _ _ _ => (pts_one (PW.pt (pw_and (pt_cmpR op_in_seq (pv 6) (pe_ix ix_list (pv 1) (pv 3) (fun _ _ => rfl)) (by rfl)) (pw_and1 (pt_cmpR op_ge (pe_ix ix_tup (pe_ix ix_list (pv 0) (pe_op op_sub (pv 6) pe_int) (fun _ _ => rfl)) pe_int (fun _ _ => rfl)) (pv 4) (nomark _))))))) (fun _ _ _ _ _ => (pv 6)))
  (pss_one (ps_ret (pe_lst (pa_cons pe_str (pa_cons (pe_ifExp (pt_truth (pv 5) (by intro _; rfl)) (pe_ix ix_list (pv 5) pe_int (fun _ _ => rfl)) pe_non) pa_nil))))))))
theorem ok__law_like0 {f : Addr} {fd : FuncData} {dvs : List V} {kws : List (Str × V)} (F : FunD K "_law_like" "_law_like" (defArgs s__law_like0) (defBody s__law_like0) (defScope s__law_like0) dvs kws f fd) (T : Txt w K mg) (kt : KT K) (ka : KAt K attrs) (tx : TX K) (Z__law_likeZ : CalZ P w K mg base 0 "_law_like" P__law_like0 [] (sp__law_likeZ K)) : FnOk P w K mg base (L2.CX P w) 1 f fd P__law_like0 (sp__law_like0 K) := by
  refine F.ok sc__law_like0 (fun vs H Q E h => spP_len (N := []) h) (fun cdv A outer s H vs Q E hr h => ⟨r__law_like0 K E, ?_, spP_run (v__law_like0 kt ka tx) h⟩)
  exact (pss_cons (ps_if (pt_val (pe_callB call_isi (by rfl) T.n_isinstance (by decide +kernel) (pa_cons (pv 1) (pa_cons (pe_bltn (by rfl) T.n_bool (by decide +kernel) rfl) pa_nil)))) (pss_one (ps_ret (pe_and (pe_callB call_isi (by rfl) T.n_isinstance (by decide +kernel) (pa_cons (pv 0) (pa_cons (pe_bltn (by rfl) T.n_bool (by decide +kernel) rfl) pa_nil))) (pe_one (pe_cmpR op_eq (pv 0) (pv 1) (nomark _)))))) pss_nil)
  (pss_cons (ps_if (pt_val (pe_callB call_isi (by rfl) T.n_isinstance (by decide +kernel) (pa_cons (pv 1) (pa_cons (pe_bltn (by rfl) T.n_int (by decide +kernel) rfl) pa_nil)))) (pss_one (ps_ret (pe_and (pe_callB call_isi (by rfl) T.n_isinstance (by decide +kernel) (pa_cons (pv 0) (pa_cons (pe_bltn (by rfl) T.n_int (by decide +kernel) rfl) pa_nil))) (pe_and (pe_not (pe_callB call_isi (by rfl) T.n_isinstance (by decide +kernel) (pa_cons (pv 0) (pa_cons (pe_bltn (by rfl) T.n_bool (by decide +kernel) rfl) pa_nil)))) (pe_one (pe_cmpR op_eq (pv 0) (pv 1) (nomark _))))))) pss_nil)
  (pss_cons (ps_if (pt_val (pe_callB call_isi (by rfl) T.n_isinstance (by decide +kernel) (pa_cons (pv 1) (pa_cons (pe_bltn (by rfl) T.n_str (by decide +kernel) rfl) pa_nil)))) (pss_one (ps_ret (pe_and (pe_callB call_isi (by rfl) T.n_isinstance (by decide +kernel) (pa_cons (pv 0) (pa_cons (pe_bltn (by rfl) T.n_str (by decide +kernel) rfl) pa_nil))) (pe_one (pe_cmpR op_eq (pv 0) (pv 1) (nomark _)))))) pss_nil)
  (pss_cons (ps_if (PW.pt (pw_or (pt_val (pe_callB call_isi (by rfl) T.n_isinstance (by decide +kernel) (pa_cons (pv 1) (pa_cons (pe_bltn (by rfl) T.n_list (by decide +kernel) rfl) pa_nil)))) (pw_or1 (pt_val (pe_callB call_isi (by rfl) T.n_isinstance (by decide +kernel) (pa_cons (pv 1) (pa_cons (pe_bltn (by rfl) T.n_tuple (by decide +kernel) rfl) pa_nil))))))) (pss_cons (ps_if (PW.pt (pw_or (pt_cmpR op_ne (pe_callB call_isi (by rfl) T.n_isinstance (by decide +kernel) (pa_cons (pv 0) (pa_cons (pe_bltn (by rfl) T.n_list (by decide +kernel) rfl) pa_nil))) (pe_callB call_isi (by rfl) T.n_isinstance (by decide +kernel) (pa_cons (pv 1) (pa_cons (pe_bltn (by rfl) T.n_list (by decide +kernel) rfl) pa_nil))) (nomark _)) (pw_or1 (pt_cmpR op_ne (pe_callB call_isi (by rfl) T.n_isinstance (by decide +kernel) (pa_cons (pv 0) (pa_cons (pe_bltn (by rfl) T.n_tuple (by decide +kernel) rfl) pa_nil))) (pe_callB call_isi (by rfl) T.n_isinstance (by decide +kernel) (pa_cons (pv 1) (pa_cons (pe_bltn (by rfl) T.n_tuple (by decide +kernel) rfl) pa_nil))) (nomark _))))) (pss_one (ps_ret pe_bl)) pss_nil)
  (pss_cons (ps_if (pt_cmpR op_ne (pe_callB call_len_seq (by rfl) T.n_len boot_len (pa_cons (pv 0) pa_nil)) (pe_callB call_len_seq (by rfl) T.n_len boot_len (pa_cons (pv 1) pa_nil)) (nomark _)) (pss_one (ps_ret pe_bl)) pss_nil)
  (pss_cons (ps_for (passes_of rfl) rfl (pi_range1 (by rfl) T.n_range (pa_cons (pe_callB call_len_seq (by rfl) T.n_len boot_len (pa_cons (pv 1) pa_nil)) pa_nil)) (pg_name (i := 2) sc__law_like0.nd rfl (Or.inl rfl))
   (pss_one (ps_if (pt_not (pt_val (pe_callZ Z__law_likeZ (pass_tk (takes_fn (CX := CX0))) hr rfl (pa_cons (pe_ix ix_seq (pv 0) (pv 2) (fun _ _ => rfl)) (pa_cons (pe_ix ix_seq (pv 1) (pv 2) (fun _ _ => rfl)) pa_nil))))) (pss_one (ps_ret pe_bl)) pss_nil)))
  (pss_one (ps_ret pe_bl))))) pss_nil)
  (pss_one (ps_ret (pe_and (pe_cmpR op_isN (pv 1) pe_non (nomark _)) (pe_one (pe_cmpR op_isN (pv 0) pe_non (nomark _))))))))))
theorem ok__law_like1 {f : Addr} {fd : FuncData} {dvs : List V} {kws : List (Str × V)} (F : FunD K "_law_like" "_law_like" (defArgs s__law_like1) (defBody s__law_like1) (defScope s__law_like1) dvs kws f fd) (T : Txt w K mg) (kt : KT K) (ka : KAt K attrs) (tx : TX K) (Z__law_like0 : CalZ P w K mg base 1 "_law_like" P__law_like0 [] (sp__law_like0 K)) : FnOk P w K mg base (L2.CX P w) 2 f fd P__law_like1 (sp__law_like1 K) := by
  refine F.ok sc__law_like1 (fun vs H Q E h => spP_len (N := []) h) (fun cdv A outer s H vs Q E hr h => ⟨r__law_like1 K E, ?_, spP_run (v__law_like1 kt ka tx) h⟩)
  exact (pss_cons (ps_if (pt_val (pe_callB call_isi (by rfl) T.n_isinstance (by decide +kernel) (pa_cons (pv 1) (pa_cons (pe_bltn (by rfl) T.n_bool (by decide +kernel) rfl) pa_nil)))) (pss_one (ps_ret (pe_and (pe_callB call_isi (by rfl) T.n_isinstance (by decide +kernel) (pa_cons (pv 0) (pa_cons (pe_bltn (by rfl) T.n_bool (by decide +kernel) rfl) pa_nil))) (pe_one (pe_cmpR op_eq (pv 0) (pv 1) (nomark _)))))) pss_nil)
  (pss_cons (ps_if (pt_val (pe_callB call_isi (by rfl) T.n_isinstance (by decide +kernel) (pa_cons (pv 1) (pa_cons (pe_bltn (by rfl) T.n_int (by decide +kernel) rfl) pa_nil)))) (pss_one (ps_ret (pe_and (pe_callB call_isi (by rfl) T.n_isinstance (by decide +kernel) (pa_cons (pv 0) (pa_cons (pe_bltn (by rfl) T.n_int (by decide +kernel) rfl) pa_nil))) (pe_and (pe_not (pe_callB call_isi (by rfl) T.n_isinstance (by decide +kernel) (pa_cons (pv 0) (pa_cons (pe_bltn (by rfl) T.n_bool (by decide +kernel) rfl) pa_nil)))) (pe_one (pe_cmpR op_eq (pv 0) (pv 1) (nomark _))))))) pss_nil)
  (pss_cons (ps_if (pt_val (pe_callB call_isi (by rfl) T.n_isinstance (by decide +kernel) (pa_cons (pv 1) (pa_cons (pe_bltn (by rfl) T.n_str (by decide +kernel) rfl) pa_nil)))) (pss_one (ps_ret (pe_and (pe_callB call_isi (by rfl) T.n_isinstance (by decide +kernel) (pa_cons (pv 0) (pa_cons (pe_bltn (by rfl) T.n_str (by decide +kernel) rfl) pa_nil))) (pe_one (pe_cmpR op_eq (pv 0) (pv 1) (nomark _)))))) pss_nil)
  (pss_cons (ps_if (PW.pt (pw_or (pt_val (pe_callB call_isi (by rfl) T.n_isinstance (by decide +kernel) (pa_cons (pv 1) (pa_cons (pe_bltn (by rfl) T.n_list (by decide +kernel) rfl) pa_nil)))) (pw_or1 (pt_val (pe_callB call_isi (by rfl) T.n_isinstance (by decide +kernel) (pa_cons (pv 1) (pa_cons (pe_bltn (by rfl) T.n_tuple (by decide +kernel) rfl) pa_nil))))))) (pss_cons (ps_if (PW.pt (pw_or (pt_cmpR op_ne (pe_callB call_isi (by rfl) T.n_isinstance (by decide +kernel) (pa_cons (pv 0) (pa_cons (pe_bltn (by rfl) T.n_list (by decide +kernel) rfl) pa_nil))) (pe_callB call_isi (by rfl) T.n_isinstance (by decide +kernel) (pa_cons (pv 1) (pa_cons (pe_bltn (by rfl) T.n_list (by decide +kernel) rfl) pa_nil))) (nomark _)) (pw_or1 (pt_cmpR op_ne (pe_callB call_isi (by rfl) T.n_isinstance (by decide +kernel) (pa_cons (pv 0) (pa_cons (pe_bltn (by rfl) T.n_tuple (by decide +kernel) rfl) pa_nil))) (pe_callB call_isi (by rfl) T.n_isinstance (by decide +kernel) (pa_cons (pv 1) (pa_cons (pe_bltn (by rfl) T.n_tuple (by decide +kernel) rfl) pa_nil))) (nomark _))))) (pss_one (ps_ret pe_bl)) pss_nil)
  (pss_cons (ps_if (pt_cmpR op_ne (pe_callB call_len_seq (by rfl) T.n_len boot_len (pa_cons (pv 0) pa_nil)) (pe_callB call_len_seq (by rfl) T.n_len boot_len (pa_cons (pv 1) pa_nil)) (nomark _)) (pss_one (ps_ret pe_bl)) pss_nil)
  (pss_cons (ps_for (passes_of rfl) rfl (pi_range1 (by rfl) T.n_range (pa_cons (pe_callB call_len_seq (by rfl) T.n_len boot_len (pa_cons (pv 1) pa_nil)) pa_nil)) (pg_name (i := 2) sc__law_like1.nd rfl (Or.inl rfl))
   (pss_one (ps_if (pt_not (pt_val (pe_callZ Z__law_like0 (pass_tk (takes_fn (CX := CX0))) hr rfl (pa_cons (pe_ix ix_seq (pv 0) (pv 2) (fun _ _ => rfl)) (pa_cons (pe_ix ix_seq (pv 1) (pv 2) (fun _ _ => rfl)) pa_nil))))) (pss_one (ps_ret pe_bl)) pss_nil)))
  (pss_one (ps_ret pe_bl))))) pss_nil)
  (pss_one (ps_ret (pe_and (pe_cmpR op_isN (pv 1) pe_non (nomark _)) (pe_one (pe_cmpR op_isN (pv 0) pe_non (nomark _))))))))))
theorem ok__law_like2 {f : Addr} {fd : FuncData} {dvs : List V} {kws : List (Str × V)} (F : FunD K "_law_like" "_law_like" (defArgs s__law_like2) (defBody s__law_like2) (defScope s__law_like2) dvs kws f fd) (T : Txt w K mg) (kt : KT K) (ka : KAt K attrs) (tx : TX K) (Z__law_like1 : CalZ P w K mg base 2 "_law_like" P__law_like1 [] (sp__law_like1 K)) : FnOk P w K mg base (L2.CX P w) 3 f fd P__law_like2 (sp__law_like2 K) := by
  refine F.ok sc__law_like2 (fun vs H Q E h => spP_len (N := []) h) (fun cdv A outer s H vs Q E hr h => ⟨r__law_like2 K E, ?_, spP_run (v__law_like2 kt ka tx) h⟩)
  exact (pss_cons (ps_if (pt_val (pe_callB call_isi (by rfl) T.n_isinstance (by decide +kernel) (pa_cons (pv 1) (pa_cons (pe_bltn (by rfl) T.n_bool (by decide +kernel) rfl) pa_nil)))) (pss_one (ps_ret (pe_and (pe_callB call_isi (by rfl) T.n_isinstance (by decide +kernel) (pa_cons (pv 0) (pa_cons (pe_bltn (by rfl) T.n_bool (by decide +kernel) rfl) pa_nil))) (pe_one (pe_cmpR op_eq (pv 0) (pv 1) (nomark _)))))) pss_nil)
  (pss_cons (ps_if (pt_val (pe_callB call_isi (by rfl) T.n_isinstance (by decide +kernel) (pa_cons (pv 1) (pa_cons (pe_bltn (by rfl) T.n_int (by decide +kernel) rfl) pa_nil)))) (pss_one (ps_ret (pe_and (pe_callB call_isi (by rfl) T.n_isinstance (by decide +kernel) (pa_cons (pv 0) (pa_cons (pe_bltn (by rfl) T.n_int (by decide +kernel) rfl) pa_nil))) (pe_and (pe_not (pe_callB call_isi (by rfl) T.n_isinstance (by decide +kernel) (pa_cons (pv 0) (pa_cons (pe_bltn (by rfl) T.n_bool (by decide +kernel) rfl) pa_nil)))) (pe_one (pe_cmpR op_eq (pv 0) (pv 1) (nomark _))))))) pss_nil)
  (pss_cons (ps_if (pt_val (pe_callB call_isi (by rfl) T.n_isinstance (by decide +kernel) (pa_cons (pv 1) (pa_cons (pe_bltn (by rfl) T.n_str (by decide +kernel) rfl) pa_nil)))) (pss_one (ps_ret (pe_and (pe_callB call_isi (by rfl) T.n_isinstance (by decide +kernel) (pa_cons (pv 0) (pa_cons (pe_bltn (by rfl) T.n_str (by decide +kernel) rfl) pa_nil))) (pe_one (pe_cmpR op_eq (pv 0) (pv 1) (nomark _)))))) pss_nil)
  (pss_cons (ps_if (PW.pt (pw_or (pt_val (pe_callB call_isi (by rfl) T.n_isinstance (by decide +kernel) (pa_cons (pv 1) (pa_cons (pe_bltn (by rfl) T.n_list (by decide +kernel) rfl) pa_nil)))) (pw_or1 (pt_val (pe_callB call_isi (by rfl) T.n_isinstance (by decide +kernel) (pa_cons (pv 1) (pa_cons (pe_bltn (by rfl) T.n_tuple (by decide +kernel) rfl) pa_nil))))))) (pss_cons (ps_if (PW.pt (pw_or (pt_cmpR op_ne (pe_callB call_isi (by rfl) T.n_isinstance (by decide +kernel) (pa_cons (pv 0) (pa_cons (pe_bltn (by rfl) T.n_list (by decide +kernel) rfl) pa_nil))) (pe_callB call_isi (by rfl) T.n_isinstance (by decide +kernel) (pa_cons (pv 1) (pa_cons (pe_bltn (by rfl) T.n_list (by decide +kernel) rfl) pa_nil))) (nomark _)) (pw_or1 (pt_cmpR op_ne (pe_callB call_isi (by rfl) T.n_isinstance (by decide +kernel) (pa_cons (pv 0) (pa_cons (pe_bltn (by rfl) T.n_tuple (by decide +kernel) rfl) pa_nil))) (pe_callB call_isi (by rfl) T.n_isinstance (by decide +kernel) (pa_cons (pv 1) (pa_cons (pe_bltn (by rfl) T.n_tuple (by decide +kernel) rfl) pa_nil))) (nomark _))))) (pss_one (ps_ret pe_bl)) pss_nil)
  (pss_cons (ps_if (pt_cmpR op_ne (pe_callB call_len_seq (by rfl) T.n_len boot_len (pa_cons (pv 0) pa_nil)) (pe_callB call_len_seq (by rfl) T.n_len boot_len (pa_cons (pv 1) pa_nil)) (nomark _)) (pss_one (ps_ret pe_bl)) pss_nil)
  (pss_cons (ps_for (passes_of rfl) rfl (pi_range1 (by rfl) T.n_range (pa_cons (pe_callB call_len_seq (by rfl) T.n_len boot_len (pa_cons (pv 1) pa_nil)) pa_nil)) (pg_name (i := 2) sc__law_like2.nd rfl (Or.inl rfl))
   (pss_one (ps_if (pt_not (pt_val (pe_callZ Z__law_like1 (pass_tk (takes_fn (CX := CX0))) hr rfl (pa_cons (pe_ix ix_seq (pv 0) (pv 2) (fun _ _ => rfl)) (pa_cons (pe_ix ix_seq (pv 1) (pv 2) (fun _ _ => rfl)) pa_nil))))) (pss_one (ps_ret pe_bl)) pss_nil)))
  (pss_one (ps_ret pe_bl))))) pss_nil)
  (pss_one (ps_ret (pe_and (pe_cmpR op_isN (pv 1) pe_non (nomark _)) (pe_one (pe_cmpR op_isN (pv 0) pe_non (nomark _))))))))))
theorem ok_Tree___contains__ {f : Addr} {fd : FuncData} {dvs : List V} {kws : List (Str × V)} (F : FunD K "__contains__" "Tree.__contains__" (defArgs s_Tree___contains__) (defBody s_Tree___contains__) (defScope s_Tree___contains__) dvs kws f fd) (T : Txt w K mg) (kt : KT K) (ka : KAt K attrs) (tx : TX K) : FnOk P w K mg base (L2.CX P w) 1 f fd P_Tree___contains__ (sp_Tree___contains__ K) := by
  refine F.ok sc_Tree___contains__ (fun vs H Q E h => spP_len (N := []) h) (fun cdv A outer s H vs Q E hr h => ⟨r_Tree___contains__ K E, ?_, spP_run (v_Tree___contains__ kt ka tx) h⟩)
  exact (pss_one (ps_ret (pe_chain op_le op_le pe_int (pv 1) (pe_callB call_len_seq (by rfl) T.n_len boot_len (pa_cons (pe_fld (pv 0) rfl) pa_nil)))))
theorem ok_behind_of {f : Addr} {fd : FuncData} {dvs : List V} {kws : List (Str × V)} (F : FunD K "behind_of" "behind_of" (defArgs s_behind_of) (defBody s_behind_of) (defScope s_behind_of) dvs kws f fd) (T : Txt w K mg) (kt : KT K) (ka : KAt K attrs) (tx : TX K) : FnOk P w K mg base (L2.CX P w) 1 f fd P_behind_of (sp_behind_of K) := by
  refine F.ok sc_behind_of (fun vs H Q E h => spP_len (N := []) h) (fun cdv A outer s H vs Q E hr h => ⟨r_behind_of K E, ?_, spP_run (v_behind_of kt ka tx) h⟩)
  exact (pss_one (ps_ret (pe_ix ix_tup (pe_ix ix_list (pv 0) (pe_op op_sub (pv 1) pe_int) (fun _ _ => rfl)) pe_int (fun _ _ => rfl))))
theorem ok_row_of {f : Addr} {fd : FuncData} {dvs : List V} {kws : List (Str × V)} (F : FunD K "row_of" "row_of" (defArgs s_row_of) (defBody s_row_of) (defScope s_row_of) dvs kws f fd) (T : Txt w K mg) (kt : KT K) (ka : KAt K attrs) (tx : TX K) (Z_behind_of : CalZ P w K mg base 1 "behind_of" P_behind_of [] (sp_behind_of K)) : FnOk P w K mg base (L2.CX P w) 2 f fd P_row_of (sp_row_of K) := by
  refine F.ok sc_row_of (fun vs H Q E h => spP_len (N := []) h) (fun cdv A outer s H vs Q E hr h => ⟨r_row_of K E, ?_, spP_run (v_row_of kt ka tx) h⟩)
  exact (pss_cons (ps_set (i := 2) sc_row_of.nd rfl (Or.inl rfl) (pe_lst pa_nil))
  (pss_cons (ps_set (i := 3) sc_row_of.nd rfl (Or.inl rfl) (pv 1))
  (pss_cons (ps_while (passes_of rfl) (pt_cmpR op_ne (pv 3) pe_int (nomark _)) (pss_cons (ps_expr (pe_bm PySem.F.plainAttrs_list PySem.F.slot_list_append PySem.F.type_list_append mt_append (pv 2) (pa_cons (pv 3) pa_nil)))
  (pss_one (ps_set (i := 3) sc_row_of.nd rfl (Or.inl rfl) (pe_callZ Z_behind_of (pass_tk (takes_fn (CX := CX0))) hr rfl (pa_cons (pv 0) (pa_cons (pv 3) pa_nil)))))))
  (pss_one (ps_ret (pe_revL (pv 2)))))))
theorem ok_shared_row {f : Addr} {fd : FuncData} {dvs : List V} {kws : List (Str × V)} (F : FunD K "shared_row" "shared_row" (defArgs s_shared_row) (defBody s_shared_row) (defScope s_shared_row) dvs kws f fd) (T : Txt w K mg) (kt : KT K) (ka : KAt K attrs) (tx : TX K) (Z_row_of : CalZ P w K mg base 2 "row_of" P_row_of [] (sp_row_of K)) : FnOk P w K mg base (L2.CX P w) 3 f fd P_shared_row (sp_shared_row K) := by
  refine F.ok sc_shared_row (fun vs H Q E h => spP_len (N := []) h) (fun cdv A outer s H vs Q E hr h => ⟨r_shared_row K E, ?_, spP_run (v_shared_row kt ka tx) h⟩)
  exact (pss_cons (ps_set (i := 3) sc_shared_row.nd rfl (Or.inr rfl) (pe_callTy (cr_setI (by rfl)) (by rfl) T.n_set (by decide +kernel) (pa_cons (pe_callZ Z_row_of (pass_tk (takes_fn (CX := CX0))) hr rfl (pa_cons (pv 0) (pa_cons (pv 2) pa_nil))) pa_nil)))
  (pss_one (ps_ret (pe_lc (own := [("block", 4)]) (by rfl) sc_shared_row.nd (pi_list (pe_callZ Z_row_of (pass_tk (takes_fn (CX := CX0))) hr rfl (pa_cons (pv 0) (pa_cons (pv 1) pa_nil)))) (blkOk_by (own := [("block", 4)]) (N := N_shared_row) (sc := defScope s_shared_row) (by decide +kernel))
     (fun _ _ _ _ _ => (pg_name (i := 4) sc_shared_row.nd rfl (by first | exact Or.inl rfl | exact Or.inr rfl))) (fun _ _ _ _ _ => (pts_one (pt_cmpR or_sinI (pv 4) (pv 3) (by rfl)))) (fun _ _ _ _ _ => (pv 4))))))
theorem ok_slot_of {f : Addr} {fd : FuncData} {dvs : List V} {kws : List (Str × V)} (F : FunD K "slot_of" "slot_of" (defArgs s_slot_of) (defBody s_slot_of) (defScope s_slot_of) dvs kws f fd) (T : Txt w K mg) (kt : KT K) (ka : KAt K attrs) (tx : TX K) : FnOk P w K mg base (L2.CX P w) 1 f fd P_slot_of (sp_slot_of K) := by
  refine F.ok sc_slot_of (fun vs H Q E h => spP_len (N := []) h) (fun cdv A outer s H vs Q E hr h => ⟨r_slot_of K E, ?_, spP_run (v_slot_of kt ka tx) h⟩)
  exact (pss_cons (ps_if (pt_cmpR op_eq (pv 1) pe_int (nomark _)) (pss_one (ps_ret pe_int)) pss_nil)
  (pss_one (ps_ret (pe_ix ix_tup (pe_ix ix_list (pv 0) (pe_op op_sub (pv 1) pe_int) (fun _ _ => rfl)) pe_int (fun _ _ => rfl)))))
theorem ok_first_common {f : Addr} {fd : FuncData} {dvs : List V} {kws : List (Str × V)} (F : FunD K "first_common" "first_common" (defArgs s_first_common) (defBody s_first_common) (defScope s_first_common) dvs kws f fd) (T : Txt w K mg) (kt : KT K) (ka : KAt K attrs) (tx : TX K) (Z_shared_row : CalZ P w K mg base 3 "shared_row" P_shared_row [] (sp_shared_row K)) (Z_slot_of : CalZ P w K mg base 3 "slot_of" P_slot_of [] (sp_slot_of K)) : FnOk P w K mg base (L2.CX P w) 4 f fd P_first_common (sp_first_common K) := by
  refine F.ok sc_first_common (fun vs H Q E h => spP_len (N := []) h) (fun cdv A outer s H vs Q E hr h => ⟨r_first_common K E, ?_, spP_run (v_first_common kt ka tx) h⟩)
  exact (pss_cons (ps_for (passes_of rfl) rfl (pi_list (pe_callZ Z_shared_row (pass_tk (takes_fn (CX := CX0))) hr rfl (pa_cons (pv 0) (pa_cons (pv 1) (pa_cons (pv 2) pa_nil))))) (pg_name (i := 4) sc_first_common.nd rfl (Or.inl rfl))
   (pss_one (ps_if (pt_cmpR op_ge (pe_callZ Z_slot_of (pass_tk (takes_fn (CX := CX0))) hr rfl (pa_cons (pv 0) (pa_cons (pv 4) pa_nil))) (pv 3) (nomark _)) (pss_one (ps_ret (pv 4))) pss_nil)))
  (pss_one (ps_ret pe_non)))
theorem ok_common_block {f : Addr} {fd : FuncData} {dvs : List V} {kws : List (Str × V)} (F : FunD K "common_block" "common_block" (defArgs s_common_block) (defBody s_common_block) (defScope s_common_block) dvs kws f fd) (T : Txt w K mg) (kt : KT K) (ka : KAt K attrs) (tx : TX K) (R_OutOf : CalR P w K mg base 3 "OutOf" (He.ga K "OutOf") P_OutOf (sp_OutOf K)) (IN_Tree : CalI P w K mg base 4 (He.ga K "Tree") P_Tree___contains__ (sp_Tree___contains__ K)) (Z_first_common : CalZ P w K mg base 4 "first_common" P_first_common [] (sp_first_common K)) : FnOk P w K mg base (L2.CX P w) 5 f fd P_common_block (sp_common_block K) := by
  refine F.ok sc_common_block (fun vs H Q E h => spP_len (N := []) h) (fun cdv A outer s H vs Q E hr h => ⟨r_common_block K E, ?_, spP_run (v_common_block kt ka tx) h⟩)
  exact (pss_cons (ps_if (pt_cmpR op_lt (pv 3) pe_int (nomark _)) (pss_one (ps_raiseC R_OutOf (takes_fn (CX := CX0)) rfl (hr.mono (by decide)) rfl (pa_cons pe_str pa_nil))) pss_nil)
  (pss_cons (ps_if (PW.pt (pw_or (pt_cmpR (op_notInC IN_Tree pass_none hr) (pv 1) (pv 0) (by rfl)) (pw_or1 (pt_cmpR (op_notInC IN_Tree pass_none hr) (pv 2) (pv 0) (by rfl))))) (pss_one (ps_raiseC R_OutOf (takes_fn (CX := CX0)) rfl (hr.mono (by decide)) rfl (pa_cons pe_str pa_nil))) pss_nil)
  (pss_one (ps_ret (pe_callZ Z_first_common (pass_tk (takes_fn (CX := CX0))) hr rfl (pa_cons (pe_fld (pv 0) rfl) (pa_cons (pv 1) (pa_cons (pv 2) (pa_cons (pv 3) pa_nil)))))))))
theorem ok__law_told {f : Addr} {fd : FuncData} {dvs : List V} {kws : List (Str × V)} (F : FunD K "_law_told" "_law_told" (defArgs s__law_told) (defBody s__law_told) (defScope s__law_told) dvs kws f fd) (T : Txt w K mg) (kt : KT K) (ka : KAt K attrs) (tx : TX K) (T__law_error : CalT P w K mg base 5 "_law_error" (spX__law_error K) NMS) (Z_common_block : CalZ P w K mg base 5 "common_block" P_common_block [] (sp_common_block K)) : FnOk P w K mg base (L2.CX P w) 6 f fd P__law_told (sp__law_told K) := by
  refine F.ok sc__law_told (fun vs H Q E h => spP_len (N := []) h) (fun cdv A outer s H vs Q E hr h => ⟨r__law_told K E, ?_, spP_run (v__law_told kt ka tx) h⟩)
  exact (pss_tellC T__law_error (i := 4) rfl rfl sc__law_told.nd rfl rfl rfl (.cons (nmT T__law_error (by decide +kernel) (by rfl) (by decide)) (.cons (nmT T__law_error (by decide +kernel) (by rfl) (by decide)) (.cons (nmT T__law_error (by decide +kernel) (by rfl) (by decide)) (.cons (nmT T__law_error (by decide +kernel) (by rfl) (by decide)) (.cons (nmT T__law_error (by decide +kernel) (by rfl) (by decide)) (.cons (nmT T__law_error (by decide +kernel) (by rfl) (by decide)) (.cons (nmT T__law_error (by decide +kernel) (by rfl) (by decide)) (.cons (nmT T__law_error (by decide +kernel) (by rfl) (by decide)) (.cons (nmT T__law_error (by decide +kernel) (by rfl) (by decide)) .nil))))))))) (Nat.le_of_ble_eq_true rfl) takes0 (fun W pn xe Ec tk hW => (pe_lst (pa_cons pe_str (pa_cons (pe_callZ Z_common_block (passes_call tk hW) hr rfl (pa_cons (pv 0) (pa_cons (pv 1) (pa_cons (pv 2) (pa_cons (pv 3) pa_nil))))) pa_nil)))) ⟨hr.dp, hr.un⟩ rfl)
theorem ok_law {f : Addr} {fd : FuncData} {dvs : List V} {kws : List (Str × V)} (F : FunD K "law" "law" (defArgs s_law) (defBody s_law) (defScope s_law) dvs kws f fd) (T : Txt w K mg) (kt : KT K) (ka : KAt K attrs) (tx : TX K) (C__law_bag : Cal P w K mg base 6 "_law_bag" P__law_bag (sp__law_bag K)) (Z__law_any : CalZ P w K mg base 6 "_law_any" P__law_any [] (sp__law_any K)) (Z__law_draw : CalZ P w K mg base 6 "_law_draw" P__law_draw [] (sp__law_draw K)) (Z__law_rows : CalZ P w K mg base 6 "_law_rows" P__law_rows [] (sp__law_rows K)) (S_Tree_of : CalZS P w K mg base 6 (He.ga K "Tree") "of" P_Tree_of (sp_Tree_of K)) (Z__law_pairs : CalZ P w K mg base 6 "_law_pairs" P__law_pairs [] (sp__law_pairs K)) (Z__law_of : CalZ P w K mg base 6 "_law_of" P__law_of [] (sp__law_of K)) (Z__law_due : CalZ P w K mg base 6 "_law_due" P__law_due [] (sp__law_due K)) (Z__law_like2 : CalZ P w K mg base 6 "_law_like" P__law_like2 [] (sp__law_like2 K)) (Z__law_told : CalZ P w K mg base 6 "_law_told" P__law_told [] (sp__law_told K)) : FnOk P w K mg base CX0 7 f fd P_law (sp_law K) := by
  refine F.ok sc_law (fun vs H Q E h => by obtain ⟨a, ns, rfl, _⟩ := h; rfl) (fun cdv A outer s H vs Q E hr h => ⟨r_law K, PSs.nox ?_, by obtain ⟨a, ns, rfl, hs, hl, tb, q⟩ := h; exact law_bag rfl (v_law kt ka tx) hs hl tb sv_law q⟩)
  exact (pss_cons (ps_set (i := 1) sc_law.nd rfl (Or.inl rfl) (pe_callC C__law_bag hr rfl (pa_cons (pv 0) pa_nil)))
  (pss_cons (ps_for PassesOwn.never rfl (pi_range1 (by rfl) T.n_range (pa_cons pe_int pa_nil)) (pg_name (i := 2) sc_law.nd rfl (Or.inl rfl))
   (pss_cons (ps_set (i := 3) sc_law.nd rfl (Or.inr rfl) (pe_callZ Z__law_any pass_none hr rfl (pa_cons (pv 1) (pa_cons (pe_ifExp (PW.pt (pw_and (pt_cmpR op_eq (pv 2) pe_int (nomark _)) (pw_and1 (pt_cmpR op_eq (pe_callZ Z__law_draw pass_none hr rfl (pa_cons (pv 1) (pa_cons pe_int pa_nil))) pe_int (nomark _))))) pe_int pe_int) pa_nil))))
  (pss_cons (ps_set (i := 4) sc_law.nd rfl (Or.inr rfl) (pe_callZ Z__law_rows pass_none hr rfl (pa_cons (pv 3) pa_nil)))
  (pss_cons (ps_set (i := 5) sc_law.nd rfl (Or.inl rfl) (pe_callB call_len_seq (by rfl) T.n_len boot_len (pa_cons (pv 3) pa_nil)))
  (pss_cons (ps_set (i := 6) sc_law.nd rfl (Or.inl rfl) (pe_smethZ S_Tree_of pass_none hr (pe_glob rfl T.c_Tree rfl) (pa_cons (pe_callTy call_list_of (by rfl) T.n_list (by decide +kernel) (pa_cons (pv 3) pa_nil)) pa_nil)))
  (pss_cons (ps_for PassesOwn.never rfl (pi_list (pe_callZ Z__law_pairs pass_none hr rfl (pa_cons (pv 1) (pa_cons (pv 5) pa_nil)))) (pg_tup (by rfl) (pgs_cons (pg_name (i := 7) sc_law.nd rfl (Or.inl rfl)) (pgs_cons (pg_name (i := 8) sc_law.nd rfl (Or.inr rfl)) pgs_nil)))
   (pss_cons (ps_setLc (i := 9) (own := [("k", 10)]) (by rfl) sc_law.nd rfl rfl (sw_true rfl rfl rfl (by decide +kernel)) (pi_list (pe_ix ix_list (pv 4) (pv 7) (fun _ _ => rfl))) (blkOk_by (own := [("k", 10)]) (N := N_law) (sc := defScope s_law) (by decide +kernel))
     (fun _ _ _ _ _ => (pg_name (i := 10) sc_law.nd rfl (by first | exact Or.inl rfl | exact Or.inr rfl))) (fun _ _ _ _ _ => (pts_one (pt_cmpR op_in_seq (pv 10) (pe_ix ix_list (pv 4) (pv 8) (fun _ _ => rfl)) (by rfl)))) (fun _ _ _ _ _ => (pe_ix ix_tup (pe_ix ix_list (pv 3) (pe_op op_sub (pv 10) pe_int) (fun _ _ => rfl)) pe_int (fun _ _ => rfl))))
  (pss_cons (ps_set (i := 11) sc_law.nd rfl (Or.inl rfl) (pe_callZ Z__law_of pass_none hr rfl (pa_cons (pv 1) (pa_cons (pe_op op_cat (pv 9) (pe_lst (pa_cons pe_int pa_nil))) pa_nil))))
  (pss_one (ps_for PassesOwn.never rfl (pi_list (pe_lst (pa_cons pe_int (pa_cons (pv 11) (pa_cons (pe_callB (call_min2 rfl) (by rfl) T.n_min (by decide +kernel) (pa_cons (pe_op op_add (pv 11) pe_int) (pa_cons pe_int pa_nil))) (pa_cons (pe_op op_add pe_int (pe_callZ Z__law_draw pass_none hr rfl (pa_cons (pv 1) (pa_cons pe_int pa_nil)))) pa_nil)))))) (pg_name (i := 12) sc_law.nd rfl (Or.inl rfl))
   (pss_cons (ps_set (i := 13) sc_law.nd rfl (Or.inl rfl) (pe_callZ Z__law_due pass_none hr rfl (pa_cons (pv 3) (pa_cons (pv 4) (pa_cons (pv 7) (pa_cons (pv 8) (pa_cons (pv 12) pa_nil)))))))
  (pss_one (ps_if (pt_not (pt_val (pe_callZ Z__law_like2 pass_none hr rfl (pa_cons (pe_lst (pa_cons (pe_callZ Z__law_told pass_none hr rfl (pa_cons (pv 6) (pa_cons (pv 7) (pa_cons (pv 8) (pa_cons (pv 12) pa_nil))))) (pa_cons (pe_callZ Z__law_told pass_none hr rfl (pa_cons (pv 6) (pa_cons (pv 8) (pa_cons (pv 7) (pa_cons (pv 12) pa_nil))))) pa_nil))) (pa_cons (pe_lst (pa_cons (pv 13) (pa_cons (pv 13) pa_nil))) pa_nil))))) (pss_one (ps_ret pe_bl)) pss_nil))))))))
  (pss_one (ps_for PassesOwn.never rfl (pi_range1 (by rfl) T.n_range (pa_cons pe_int pa_nil)) (pg_name (i := 10) sc_law.nd rfl (Or.inl rfl))
   (pss_cons (ps_set (i := 7) sc_law.nd rfl (Or.inl rfl) (pe_callZ Z__law_of pass_none hr rfl (pa_cons (pv 1) (pa_cons (pe_lst (pa_cons (pe_un un_neg pe_int) (pa_cons (pe_op op_add (pv 5) pe_int) (pa_cons pe_int (pa_cons (pv 5) (pa_cons pe_int (pa_cons (pe_op op_sub (pe_un un_neg (pv 5)) pe_int) (pa_cons (pe_callZ Z__law_draw pass_none hr rfl (pa_cons (pv 1) (pa_cons (pe_op op_add (pv 5) pe_int) pa_nil))) pa_nil)))))))) pa_nil))))
  (pss_cons (ps_set (i := 8) sc_law.nd rfl (Or.inr rfl) (pe_callZ Z__law_of pass_none hr rfl (pa_cons (pv 1) (pa_cons (pe_lst (pa_cons pe_int (pa_cons (pv 5) (pa_cons (pe_un un_neg pe_int) (pa_cons (pe_op op_add (pv 5) pe_int) (pa_cons (pe_callZ Z__law_draw pass_none hr rfl (pa_cons (pv 1) (pa_cons (pe_op op_add (pv 5) pe_int) pa_nil))) pa_nil)))))) pa_nil))))
  (pss_cons (ps_set (i := 12) sc_law.nd rfl (Or.inl rfl) (pe_callZ Z__law_of pass_none hr rfl (pa_cons (pv 1) (pa_cons (pe_lst (pa_cons pe_int (pa_cons pe_int (pa_cons (pe_un un_neg pe_int) (pa_cons pe_int (pa_cons pe_int (pa_cons (pe_un un_neg pe_int) pa_nil))))))) pa_nil))))
  (pss_cons (ps_set (i := 13) sc_law.nd rfl (Or.inl rfl) (pe_callZ Z__law_due pass_none hr rfl (pa_cons (pv 3) (pa_cons (pv 4) (pa_cons (pv 7) (pa_cons (pv 8) (pa_cons (pv 12) pa_nil)))))))
  (pss_one (ps_if (pt_not (pt_val (pe_callZ Z__law_like2 pass_none hr rfl (pa_cons (pe_lst (pa_cons (pe_callZ Z__law_told pass_none hr rfl (pa_cons (pv 6) (pa_cons (pv 7) (pa_cons (pv 8) (pa_cons (pv 12) pa_nil))))) (pa_cons (pe_callZ Z__law_told pass_none hr rfl (pa_cons (pv 6) (pa_cons (pv 8) (pa_cons (pv 7) (pa_cons (pv 12) pa_nil))))) pa_nil))) (pa_cons (pe_lst (pa_cons (pv 13) (pa_cons (pv 13) pa_nil))) pa_nil))))) (pss_one (ps_ret pe_bl)) pss_nil))))))))))))))
  (pss_one (ps_ret pe_bl))))
theorem mkCal {k : Nat} {x qual : Str} {params : Arguments} {body : List Stmt} {scope : Scope} {kws : List (Str × V)} {f : Addr} {fd : FuncData} {ps : List Str} {sp : Sp} (F : FunD K x qual params body scope [] kws f fd) (ok : FnOk P w K mg base CX0 k f fd ps sp) (hm : mg x = some (.ref f))
    (hb : ∀ (kV doc pm : Value) (an : Option Addr) (cdv ct : Value) (us : List Value), us.length = ps.length → bindArgs (PySem.W.fnOf x qual params body scope .none kV doc pm an cdv ct) ⟨us, []⟩ = pure (ps.zip us)) : Cal P w K mg base k x ps sp := ⟨f, fd, ok, hm, F.kp, F.bindsN hb⟩
end
end My
end

section
set_option Elab.async false
set_option maxRecDepth 100000
set_option maxHeartbeats 4000000
set_option linter.all false
namespace My
open PySem L2
open LamX L2H
theorem facts {w : World} {K : PySem.W.Frag} {h : Heap} {mg : Str → Option Value} {f : Addr} (X : K.In h) (G : h.Ns mainGlobals mg) (hfa : mg ("law" : Str) = some (.ref f)) (cy : SaysY fa fn ts tf sf file0 ex w h K) :
    LamX.LawAtS PySem.Challenge.rw_buriedsure_k09_whole_common_blocks w K CX0 7 63 "script" mg f h := by
  have cc := cy.z
  have c := cc.d
  have hx := cc.more
  obtain ⟨P, hP⟩ : ∃ P, (PySem.Challenge.rw_buriedsure_k09_whole_common_blocks).prog = P := ⟨_, rfl⟩
  have hfile : file0 = P.main.file := by rw [← hP]; rfl
  obtain ⟨fd__law_bag, F__law_bag⟩ := c.def_ 0 (d := d__law_bag) rfl
  obtain ⟨fd__law_draw, F__law_draw⟩ := c.def_ 1 (d := d__law_draw) rfl
  obtain ⟨fd__law_wild, F__law_wild⟩ := c.def_ 2 (d := d__law_wild) rfl
  obtain ⟨fd__law_of, F__law_of⟩ := c.def_ 3 (d := d__law_of) rfl
  obtain ⟨fd__law_late, F__law_late⟩ := c.def_ 4 (d := d__law_late) rfl
  obtain ⟨fd__law_turned, F__law_turned⟩ := c.def_ 5 (d := d__law_turned) rfl
  obtain ⟨fd__law_hands, F__law_hands⟩ := c.def_ 6 (d := d__law_hands) rfl
  obtain ⟨fd__law_known, F__law_known⟩ := c.def_ 7 (d := d__law_known) rfl
  obtain ⟨fd__law_near, F__law_near⟩ := c.def_ 8 (d := d__law_near) rfl
  obtain ⟨fd__law_foe_tree, F__law_foe_tree⟩ := c.def_ 9 (d := d__law_foe_tree) rfl
  obtain ⟨fd__law_ofS, F__law_ofS⟩ := c.def_ 10 (d := d__law_ofS) rfl
  obtain ⟨fd__law_letters, F__law_letters⟩ := c.def_ 11 (d := d__law_letters) rfl
  obtain ⟨fd__law_any, F__law_any⟩ := c.def_ 12 (d := d__law_any) rfl
  obtain ⟨fd__law_rows, F__law_rows⟩ := c.def_ 13 (d := d__law_rows) rfl
  obtain ⟨fd_can_stand, F_can_stand⟩ := c.def_ 14 (d := d_can_stand) rfl
  obtain ⟨fd_line_of_wrong_triple, F_line_of_wrong_triple⟩ := c.def_ 15 (d := d_line_of_wrong_triple) rfl
  obtain ⟨fd_check_length, F_check_length⟩ := c.def_ 16 (d := d_check_length) rfl
  obtain ⟨fd_lines_of, F_lines_of⟩ := c.def_ 17 (d := d_lines_of) rfl
  obtain ⟨fd_head_fault, F_head_fault⟩ := c.def_ 18 (d := d_head_fault) rfl
  obtain ⟨fd_end_fault, F_end_fault⟩ := c.def_ 19 (d := d_end_fault) rfl
  obtain ⟨fd_read_tree, F_read_tree⟩ := c.def_ 20 (d := d_read_tree) rfl
  obtain ⟨fd_depths_of, F_depths_of⟩ := c.def_ 21 (d := d_depths_of) rfl
  obtain ⟨fd_Tree___init__, F_Tree___init__⟩ := c.def_ 22 (d := d_Tree___init__) rfl
  obtain ⟨fd_word_of_truth, F_word_of_truth⟩ := c.def_ 23 (d := d_word_of_truth) rfl
  obtain ⟨fd_block_line, F_block_line⟩ := c.def_ 24 (d := d_block_line) rfl
  obtain ⟨fd_tree_text, F_tree_text⟩ := c.def_ 25 (d := d_tree_text) rfl
  obtain ⟨fd_tree_from, F_tree_from⟩ := c.def_ 26 (d := d_tree_from) rfl
  obtain ⟨fd_Tree_of, F_Tree_of⟩ := c.def_ 27 (d := d_Tree_of) rfl
  obtain ⟨fd__law_pairs, F__law_pairs⟩ := c.def_ 28 (d := d__law_pairs) rfl
  obtain ⟨fd__law_due, F__law_due⟩ := c.def_ 29 (d := d__law_due) rfl
  obtain ⟨fd__law_like0, F__law_like0⟩ := c.def_ 30 (d := d__law_like0) rfl
  obtain ⟨fd__law_like1, F__law_like1⟩ := c.def_ 31 (d := d__law_like1) rfl
  obtain ⟨fd__law_like2, F__law_like2⟩ := c.def_ 32 (d := d__law_like2) rfl
  obtain ⟨fd_Tree___contains__, F_Tree___contains__⟩ := c.def_ 33 (d := d_Tree___contains__) rfl
  obtain ⟨fd_behind_of, F_behind_of⟩ := c.def_ 34 (d := d_behind_of) rfl
  obtain ⟨fd_row_of, F_row_of⟩ := c.def_ 35 (d := d_row_of) rfl
  obtain ⟨fd_shared_row, F_shared_row⟩ := c.def_ 36 (d := d_shared_row) rfl
  obtain ⟨fd_slot_of, F_slot_of⟩ := c.def_ 37 (d := d_slot_of) rfl
  obtain ⟨fd_first_common, F_first_common⟩ := c.def_ 38 (d := d_first_common) rfl
  obtain ⟨fd_common_block, F_common_block⟩ := c.def_ 39 (d := d_common_block) rfl
  obtain ⟨fd__law_told, F__law_told⟩ := c.def_ 40 (d := d__law_told) rfl
  obtain ⟨fd_law, F_law⟩ := c.def_ 41 (d := d_law) rfl
  obtain ⟨fd__law_error, F__law_error⟩ := c.def_ 42 (d := d__law_error) rfl
  have e := hfa.symm.trans (He.glo_ok X G (c.fact 35 (f := .glo "law") rfl))
  cases e
  have b := FunD.bindsA (ps := P_law) F_law fun _ _ _ _ _ _ us hl => match us, hl with | [_], _ => rfl
  have T : Txt w K mg := ⟨He.free_ok X G (c.fact 37 (f := .free "bool") rfl), He.free_ok X G (c.fact 38 (f := .free "enumerate") rfl), He.free_ok X G (c.fact 39 (f := .free "int") rfl), He.free_ok X G (c.fact 40 (f := .free "isinstance") rfl), He.free_ok X G (c.fact 41 (f := .free "len") rfl), He.free_ok X G (c.fact 42 (f := .free "list") rfl), He.free_ok X G (c.fact 43 (f := .free "max") rfl), He.free_ok X G (c.fact 44 (f := .free "min") rfl), He.free_ok X G (c.fact 45 (f := .free "range") rfl), He.free_ok X G (c.fact 46 (f := .free "set") rfl), He.free_ok X G (c.fact 47 (f := .free "str") rfl), He.free_ok X G (c.fact 48 (f := .free "tuple") rfl), He.str_ok X G (c.fact 49 (f := .str "DONE" "done") rfl), He.str_ok X G (c.fact 50 (f := .str "EMPTY_TREE" "tree\ndone\n") rfl), He.str_ok X G (c.fact 51 (f := .str "FALSE_WORD" "false") rfl), He.str_ok X G (c.fact 52 (f := .str "HEAD" "tree") rfl), He.int_ok X G (c.fact 53 (f := .int "MOST_BLOCKS" 1000) rfl), He.int_ok X G (c.fact 54 (f := .int "MOST_CHARACTERS" 100000) rfl), He.int_ok X G (c.fact 55 (f := .int "MOST_SLOTS" 40) rfl), He.str_ok X G (c.fact 56 (f := .str "TRUE_WORD" "true") rfl), He.glo_ok X G (c.fact 57 (f := .glo "Tree") rfl)⟩
  obtain ⟨x1, hx⟩ := He.ba hx
  obtain ⟨x2, hx⟩ := He.ba hx
  obtain ⟨x3, hx⟩ := He.ba hx
  obtain ⟨x4, hx⟩ := He.ba hx
  obtain ⟨x5, hx⟩ := He.ba hx
  obtain ⟨x6, x7⟩ := He.ba hx
  have kt : KT K := ⟨trivial⟩
  have NB_Tree : PySem.W.findIn K (.ref (He.ga K "Tree")) "__bool__" = some none := of_decide_eq_true x7
  have tx : TX K := tx_of (of_decide_eq_true x5)
  have ka : KAt K attrs := fun q hq => by
    simp only [attrs, List.mem_cons, List.not_mem_nil, or_false] at hq
    rcases hq with rfl | rfl | rfl
    · exact ⟨He.cls_ok (c.fact 59 (f := .cls "Tree") rfl), He.noat_ok (c.fact 61 (f := .noat "Tree" "_blocks") rfl)⟩
    · exact ⟨He.cls_ok (c.fact 59 (f := .cls "Tree") rfl), He.noat_ok (c.fact 62 (f := .noat "Tree" "_depths") rfl)⟩
    · exact ⟨He.cls_ok (c.fact 59 (f := .cls "Tree") rfl), He.noat_ok (c.fact 63 (f := .noat "Tree" "text") rfl)⟩
  refine ⟨fd_law, [], sp_law K, fun p hp => ?_, fun p hp => ?_, fun p hp => ?_, fun s v => b s [v] rfl, fun H a ns hl _ hT hS => ⟨a, ns, rfl, hS, hl, ?_, fun _ => rfl⟩, fun base _ _ hTB => ?_⟩
  · cases hp
  · cases hp
  · cases hp
  · exact tabs_nil fun p hp => by cases hp
  have ew : EFW K := by
    obtain ⟨y1, y2⟩ := He.ba x1
    exact ⟨fun n hn => of_decide_eq_true (List.all_eq_true.mp y1 n hn), of_decide_eq_true y2⟩
  have xc : ExcC K (He.ga K "OutOf") := by
    obtain ⟨y1, hy⟩ := He.ba x2
    obtain ⟨y2, hy⟩ := He.ba hy
    obtain ⟨y3, hy⟩ := He.ba hy
    obtain ⟨y4, hy⟩ := He.ba hy
    obtain ⟨y5, hy⟩ := He.ba hy
    obtain ⟨y6, hy⟩ := He.ba hy
    obtain ⟨y7, y8⟩ := He.ba hy
    exact ⟨of_decide_eq_true y1, of_decide_eq_true y2, of_decide_eq_true y3, of_decide_eq_true y4, of_decide_eq_true y5, of_decide_eq_true y6, of_decide_eq_true y7, of_decide_eq_true y8⟩
  have TF : TxtF K mg := ⟨He.free_ok X G (c.fact 40 (f := .free "isinstance") rfl), He.glo_ok X G (c.fact 70 (f := .glo "BadBook") rfl), He.glo_ok X G (c.fact 71 (f := .glo "BadCourse") rfl), He.glo_ok X G (c.fact 72 (f := .glo "BadDie") rfl), He.glo_ok X G (c.fact 73 (f := .glo "BadMill") rfl), He.glo_ok X G (c.fact 69 (f := .glo "BadPlay") rfl), He.glo_ok X G (c.fact 74 (f := .glo "BadRoster") rfl), He.glo_ok X G (c.fact 66 (f := .glo "BadRota") rfl), He.glo_ok X G (c.fact 75 (f := .glo "BadScript") rfl), He.glo_ok X G (c.fact 68 (f := .glo "BadTree") rfl), He.glo_ok X G (c.fact 67 (f := .glo "BadWorld") rfl), He.glo_ok X G (c.fact 79 (f := .glo "Ended") rfl), He.glo_ok X G (c.fact 78 (f := .glo "NoSuch") rfl), He.glo_ok X G (c.fact 76 (f := .glo "NoTree") rfl), He.glo_ok X G (c.fact 65 (f := .glo "OutOf") rfl), He.glo_ok X G (c.fact 77 (f := .glo "TooMany") rfl)⟩
  have R_OutOf : CalR P w K mg base 1 "OutOf" (He.ga K "OutOf") P_OutOf (sp_OutOf K) := ok_OutOf (cy.sup 0 (d := d_OutOf)).1 (by rw [← hfile]; exact (cy.sup 0 (d := d_OutOf)).2) (He.free_ok X G (c.fact 64 (f := .free "super") rfl)) (by rw [← hP]; decide +kernel) (of_decide_eq_true x4) (He.glo_ok X G (c.fact 65 (f := .glo "OutOf") rfl))
  have O__law_error := ok__law_error (P := P) (base := base) (w := w) F__law_error TF xc (xfB_ok x3) (of_decide_eq_true x4) ew
  have B__law_error : Binds K fd__law_error ["e"] [] := F__law_error.bindsN fun _ _ _ _ _ _ us hl => match us, hl with | [_], _ => rfl
  have T__law_error : CalT P w K mg base 1 "_law_error" (spX__law_error K) NMS := ⟨⟨_, fd__law_error, O__law_error, He.glo_ok X G (c.fact 36 (f := .glo "_law_error") rfl), F__law_error.kp, B__law_error⟩, fun n hn => by
    simp only [NMS, List.mem_cons, List.not_mem_nil, or_false] at hn
    rcases hn with rfl | rfl | rfl | rfl | rfl | rfl | rfl | rfl | rfl
    · exact He.glo_ok X G (c.fact 68 (f := .glo "BadTree") rfl)
    · exact He.glo_ok X G (c.fact 69 (f := .glo "BadPlay") rfl)
    · exact He.glo_ok X G (c.fact 66 (f := .glo "BadRota") rfl)
    · exact He.glo_ok X G (c.fact 67 (f := .glo "BadWorld") rfl)
    · exact He.glo_ok X G (c.fact 76 (f := .glo "NoTree") rfl)
    · exact He.glo_ok X G (c.fact 65 (f := .glo "OutOf") rfl)
    · exact He.glo_ok X G (c.fact 77 (f := .glo "TooMany") rfl)
    · exact He.glo_ok X G (c.fact 78 (f := .glo "NoSuch") rfl)
    · exact He.glo_ok X G (c.fact 79 (f := .glo "Ended") rfl)⟩
  have Z__law_likeZ : CalZ P w K mg base 0 "_law_like" P__law_like0 [] (sp__law_likeZ K) := calZ_all F__law_like0 (fnOk_falseZ fun _ _ _ _ z => false_spP z) (He.glo_ok X G (c.fact 27 (f := .glo "_law_like") rfl)) fun _ _ _ _ _ _ us hl => match us, hl with | [_, _], _ => rfl
  have O__law_bag := ok__law_bag (P := P) (base := base) F__law_bag T
  have C__law_bag : Cal P w K mg base 1 "_law_bag" P__law_bag (sp__law_bag K) := mkCal F__law_bag O__law_bag (He.glo_ok X G (c.fact 0 (f := .glo "_law_bag") rfl)) fun _ _ _ _ _ _ us hl => match us, hl with | [_], _ => rfl
  have O__law_draw := ok__law_draw (P := P) (base := base) F__law_draw T
  have O__law_draw := O__law_draw.imp (sp' := sp__law_draw K) (fun vs H Q E h => draw_imp h)
  have Z__law_draw : CalZ P w K mg base 1 "_law_draw" P__law_draw [] (sp__law_draw K) := calZ_all F__law_draw O__law_draw (He.glo_ok X G (c.fact 1 (f := .glo "_law_draw") rfl)) fun _ _ _ _ _ _ us hl => match us, hl with | [_, _], _ => rfl
  have O__law_hands := ok__law_hands (P := P) (base := base) F__law_hands T kt ka tx
  have Z__law_hands : CalZ P w K mg base 1 "_law_hands" P__law_hands [] (sp__law_hands K) := calZ_all F__law_hands O__law_hands (He.glo_ok X G (c.fact 6 (f := .glo "_law_hands") rfl)) fun _ _ _ _ _ _ us hl => match us, hl with | [_], _ => rfl
  have O__law_known := ok__law_known (P := P) (base := base) F__law_known T kt ka tx
  have Z__law_known : CalZ P w K mg base 1 "_law_known" P__law_known [] (sp__law_known K) := calZ_all F__law_known O__law_known (He.glo_ok X G (c.fact 7 (f := .glo "_law_known") rfl)) fun _ _ _ _ _ _ us hl => match us, hl with | [_, _, _, _], _ => rfl
  have O__law_rows := ok__law_rows (P := P) (base := base) F__law_rows T kt ka tx
  have Z__law_rows : CalZ P w K mg base 1 "_law_rows" P__law_rows [] (sp__law_rows K) := calZ_all F__law_rows O__law_rows (He.glo_ok X G (c.fact 12 (f := .glo "_law_rows") rfl)) fun _ _ _ _ _ _ us hl => match us, hl with | [_], _ => rfl
  have O_can_stand := ok_can_stand (P := P) (base := base) F_can_stand T kt ka tx
  have Z_can_stand : CalZ P w K mg base 1 "can_stand" P_can_stand [] (sp_can_stand K) := calZ_all F_can_stand O_can_stand (He.glo_ok X G (c.fact 13 (f := .glo "can_stand") rfl)) fun _ _ _ _ _ _ us hl => match us, hl with | [_, _], _ => rfl
  have O_check_length := ok_check_length (P := P) (base := base) F_check_length T kt ka tx
  have Z_check_length : CalZ P w K mg base 1 "check_length" P_check_length [] (sp_check_length K) := calZ_all F_check_length O_check_length (He.glo_ok X G (c.fact 15 (f := .glo "check_length") rfl)) fun _ _ _ _ _ _ us hl => match us, hl with | [_], _ => rfl
  have O_lines_of := ok_lines_of (P := P) (base := base) F_lines_of T kt ka tx
  have Z_lines_of : CalZ P w K mg base 1 "lines_of" P_lines_of [] (sp_lines_of K) := calZ_all F_lines_of O_lines_of (He.glo_ok X G (c.fact 16 (f := .glo "lines_of") rfl)) fun _ _ _ _ _ _ us hl => match us, hl with | [_], _ => rfl
  have O_head_fault := ok_head_fault (P := P) (base := base) F_head_fault T kt ka tx
  have Z_head_fault : CalZ P w K mg base 1 "head_fault" P_head_fault [] (sp_head_fault K) := calZ_all F_head_fault O_head_fault (He.glo_ok X G (c.fact 17 (f := .glo "head_fault") rfl)) fun _ _ _ _ _ _ us hl => match us, hl with | [_, _, _], _ => rfl
  have O_end_fault := ok_end_fault (P := P) (base := base) F_end_fault T kt ka tx
  have Z_end_fault : CalZ P w K mg base 1 "end_fault" P_end_fault [] (sp_end_fault K) := calZ_all F_end_fault O_end_fault (He.glo_ok X G (c.fact 18 (f := .glo "end_fault") rfl)) fun _ _ _ _ _ _ us hl => match us, hl with | [_, _, _], _ => rfl
  have O_depths_of := ok_depths_of (P := P) (base := base) F_depths_of T kt ka tx
  have Z_depths_of : CalZ P w K mg base 1 "depths_of" P_depths_of [] (sp_depths_of K) := calZ_all F_depths_of O_depths_of (He.glo_ok X G (c.fact 20 (f := .glo "depths_of") rfl)) fun _ _ _ _ _ _ us hl => match us, hl with | [_], _ => rfl
  have O_word_of_truth := ok_word_of_truth (P := P) (base := base) F_word_of_truth T kt ka tx
  have Z_word_of_truth : CalZ P w K mg base 1 "word_of_truth" P_word_of_truth [] (sp_word_of_truth K) := calZ_all F_word_of_truth O_word_of_truth (He.glo_ok X G (c.fact 21 (f := .glo "word_of_truth") rfl)) fun _ _ _ _ _ _ us hl => match us, hl with | [_], _ => rfl
  have O__law_due := ok__law_due (P := P) (base := base) F__law_due T kt ka tx
  have Z__law_due : CalZ P w K mg base 1 "_law_due" P__law_due [] (sp__law_due K) := calZ_all F__law_due O__law_due (He.glo_ok X G (c.fact 26 (f := .glo "_law_due") rfl)) fun _ _ _ _ _ _ us hl => match us, hl with | [_, _, _, _, _], _ => rfl
  have O__law_like0 := ok__law_like0 (P := P) (base := base) F__law_like0 T kt ka tx (Z__law_likeZ.mono (by decide))
  have Z__law_like0 : CalZ P w K mg base 1 "_law_like" P__law_like0 [] (sp__law_like0 K) := calZ_all F__law_like0 O__law_like0 (He.glo_ok X G (c.fact 27 (f := .glo "_law_like") rfl)) fun _ _ _ _ _ _ us hl => match us, hl with | [_, _], _ => rfl
  have O_Tree___contains__ := ok_Tree___contains__ (P := P) (base := base) F_Tree___contains__ T kt ka tx
  have B_Tree___contains__ : Binds K fd_Tree___contains__ P_Tree___contains__ [] := F_Tree___contains__.bindsN fun _ _ _ _ _ _ us hl => match us, hl with | [_, _], _ => rfl
  have IN_Tree : CalI P w K mg base 1 (He.ga K "Tree") P_Tree___contains__ (sp_Tree___contains__ K) := ⟨_, fd_Tree___contains__, He.meth_ok (c.fact 60 (f := .meth "Tree" "__contains__") rfl), O_Tree___contains__, B_Tree___contains__⟩
  have O_behind_of := ok_behind_of (P := P) (base := base) F_behind_of T kt ka tx
  have Z_behind_of : CalZ P w K mg base 1 "behind_of" P_behind_of [] (sp_behind_of K) := calZ_all F_behind_of O_behind_of (He.glo_ok X G (c.fact 28 (f := .glo "behind_of") rfl)) fun _ _ _ _ _ _ us hl => match us, hl with | [_, _], _ => rfl
  have O_slot_of := ok_slot_of (P := P) (base := base) F_slot_of T kt ka tx
  have Z_slot_of : CalZ P w K mg base 1 "slot_of" P_slot_of [] (sp_slot_of K) := calZ_all F_slot_of O_slot_of (He.glo_ok X G (c.fact 31 (f := .glo "slot_of") rfl)) fun _ _ _ _ _ _ us hl => match us, hl with | [_, _], _ => rfl
  have O__law_wild := ok__law_wild (P := P) (base := base) F__law_wild T kt ka tx (Z__law_draw.mono (by decide))
  have Z__law_wild : CalZ P w K mg base 2 "_law_wild" P__law_wild [] (sp__law_wild K) := calZ_all F__law_wild O__law_wild (He.glo_ok X G (c.fact 2 (f := .glo "_law_wild") rfl)) fun _ _ _ _ _ _ us hl => match us, hl with | [_, _], _ => rfl
  have O__law_of := ok__law_of (P := P) (base := base) F__law_of T kt ka tx (Z__law_draw.mono (by decide))
  have Z__law_of : CalZ P w K mg base 2 "_law_of" P__law_of [] (sp__law_of K) := calZ_all F__law_of O__law_of (He.glo_ok X G (c.fact 3 (f := .glo "_law_of") rfl)) fun _ _ _ _ _ _ us hl => match us, hl with | [_, _], _ => rfl
  have O__law_ofS := ok__law_ofS (P := P) (base := base) F__law_ofS T kt ka tx (Z__law_draw.mono (by decide))
  have Z__law_ofS : CalZ P w K mg base 2 "_law_of" P__law_ofS [] (sp__law_ofS K) := calZ_all F__law_ofS O__law_ofS (He.glo_ok X G (c.fact 3 (f := .glo "_law_of") rfl)) fun _ _ _ _ _ _ us hl => match us, hl with | [_, _], _ => rfl
  have O_line_of_wrong_triple := ok_line_of_wrong_triple (P := P) (base := base) F_line_of_wrong_triple T kt ka tx (Z_can_stand.mono (by decide))
  have Z_line_of_wrong_triple : CalZ P w K mg base 2 "line_of_wrong_triple" P_line_of_wrong_triple [] (sp_line_of_wrong_triple K) := calZ_all F_line_of_wrong_triple O_line_of_wrong_triple (He.glo_ok X G (c.fact 14 (f := .glo "line_of_wrong_triple") rfl)) fun _ _ _ _ _ _ us hl => match us, hl with | [_], _ => rfl
  have O_read_tree := ok_read_tree (P := P) (base := base) F_read_tree T kt ka tx (Z_lines_of.mono (by decide)) (Z_head_fault.mono (by decide)) (Z_end_fault.mono (by decide))
  have Z_read_tree : CalZ P w K mg base 2 "read_tree" P_read_tree [] (sp_read_tree K) := calZ_all F_read_tree O_read_tree (He.glo_ok X G (c.fact 19 (f := .glo "read_tree") rfl)) fun _ _ _ _ _ _ us hl => match us, hl with | [_], _ => rfl
  have O_block_line := ok_block_line (P := P) (base := base) F_block_line T kt ka tx (Z_word_of_truth.mono (by decide))
  have Z_block_line : CalZ P w K mg base 2 "block_line" P_block_line [] (sp_block_line K) := calZ_all F_block_line O_block_line (He.glo_ok X G (c.fact 22 (f := .glo "block_line") rfl)) fun _ _ _ _ _ _ us hl => match us, hl with | [_, _], _ => rfl
  have O__law_pairs := ok__law_pairs (P := P) (base := base) F__law_pairs T kt ka tx (Z__law_draw.mono (by decide))
  have Z__law_pairs : CalZ P w K mg base 2 "_law_pairs" P__law_pairs [] (sp__law_pairs K) := calZ_all F__law_pairs O__law_pairs (He.glo_ok X G (c.fact 25 (f := .glo "_law_pairs") rfl)) fun _ _ _ _ _ _ us hl => match us, hl with | [_, _], _ => rfl
  have O__law_like1 := ok__law_like1 (P := P) (base := base) F__law_like1 T kt ka tx (Z__law_like0.mono (by decide))
  have Z__law_like1 : CalZ P w K mg base 2 "_law_like" P__law_like1 [] (sp__law_like1 K) := calZ_all F__law_like1 O__law_like1 (He.glo_ok X G (c.fact 27 (f := .glo "_law_like") rfl)) fun _ _ _ _ _ _ us hl => match us, hl with | [_, _], _ => rfl
  have O_row_of := ok_row_of (P := P) (base := base) F_row_of T kt ka tx (Z_behind_of.mono (by decide))
  have Z_row_of : CalZ P w K mg base 2 "row_of" P_row_of [] (sp_row_of K) := calZ_all F_row_of O_row_of (He.glo_ok X G (c.fact 29 (f := .glo "row_of") rfl)) fun _ _ _ _ _ _ us hl => match us, hl with | [_, _], _ => rfl
  have O__law_late := ok__law_late (P := P) (base := base) F__law_late T kt ka tx (Z__law_of.mono (by decide))
  have Z__law_late : CalZ P w K mg base 3 "_law_late" P__law_late [] (sp__law_late K) := calZ_all F__law_late O__law_late (He.glo_ok X G (c.fact 4 (f := .glo "_law_late") rfl)) fun _ _ _ _ _ _ us hl => match us, hl with | [_], _ => rfl
  have O__law_turned := ok__law_turned (P := P) (base := base) F__law_turned T kt ka tx (Z__law_of.mono (by decide))
  have Z__law_turned : CalZ P w K mg base 3 "_law_turned" P__law_turned [] (sp__law_turned K) := calZ_all F__law_turned O__law_turned (He.glo_ok X G (c.fact 5 (f := .glo "_law_turned") rfl)) fun _ _ _ _ _ _ us hl => match us, hl with | [_, _], _ => rfl
  have O__law_near := ok__law_near (P := P) (base := base) F__law_near T kt ka tx (Z__law_draw.mono (by decide)) (Z__law_of.mono (by decide))
  have Z__law_near : CalZ P w K mg base 3 "_law_near" P__law_near [] (sp__law_near K) := calZ_all F__law_near O__law_near (He.glo_ok X G (c.fact 8 (f := .glo "_law_near") rfl)) fun _ _ _ _ _ _ us hl => match us, hl with | [_, _], _ => rfl
  have O__law_letters := ok__law_letters (P := P) (base := base) F__law_letters T kt ka tx (Z__law_of.mono (by decide)) (Z__law_draw.mono (by decide)) (Z__law_ofS.mono (by decide))
  have Z__law_letters : CalZ P w K mg base 3 "_law_letters" P__law_letters [] (sp__law_letters K) := calZ_all F__law_letters O__law_letters (He.glo_ok X G (c.fact 10 (f := .glo "_law_letters") rfl)) fun _ _ _ _ _ _ us hl => match us, hl with | [_, _], _ => rfl
  have O_Tree___init__ := ok_Tree___init__ (P := P) (base := base) F_Tree___init__ T kt ka tx (Z_check_length.mono (by decide)) (Z_read_tree.mono (by decide)) (Z_depths_of.mono (by decide))
  have B_Tree___init__ : Binds K fd_Tree___init__ P_Tree___init__ [] := F_Tree___init__.bindsN fun _ _ _ _ _ _ us hl => match us, hl with | [_, _], _ => rfl
  have I_Tree : CalZI P w K mg base 3 "Tree" (He.ga K "Tree") P_Tree___init__ (sp_Tree___init__ K) := ⟨_, fd_Tree___init__, He.mkr_ok (c.fact 58 (f := .mkr "Tree") rfl), O_Tree___init__, He.glo_ok X G (c.fact 57 (f := .glo "Tree") rfl), B_Tree___init__⟩
  have O_tree_text := ok_tree_text (P := P) (base := base) F_tree_text T kt ka tx (Z_block_line.mono (by decide))
  have Z_tree_text : CalZ P w K mg base 3 "tree_text" P_tree_text [] (sp_tree_text K) := calZ_all F_tree_text O_tree_text (He.glo_ok X G (c.fact 23 (f := .glo "tree_text") rfl)) fun _ _ _ _ _ _ us hl => match us, hl with | [_], _ => rfl
  have O__law_like2 := ok__law_like2 (P := P) (base := base) F__law_like2 T kt ka tx (Z__law_like1.mono (by decide))
  have Z__law_like2 : CalZ P w K mg base 3 "_law_like" P__law_like2 [] (sp__law_like2 K) := calZ_all F__law_like2 O__law_like2 (He.glo_ok X G (c.fact 27 (f := .glo "_law_like") rfl)) fun _ _ _ _ _ _ us hl => match us, hl with | [_, _], _ => rfl
  have O_shared_row := ok_shared_row (P := P) (base := base) F_shared_row T kt ka tx (Z_row_of.mono (by decide))
  have Z_shared_row : CalZ P w K mg base 3 "shared_row" P_shared_row [] (sp_shared_row K) := calZ_all F_shared_row O_shared_row (He.glo_ok X G (c.fact 30 (f := .glo "shared_row") rfl)) fun _ _ _ _ _ _ us hl => match us, hl with | [_, _, _], _ => rfl
  have O__law_foe_tree := ok__law_foe_tree (P := P) (base := base) F__law_foe_tree T kt ka tx (Z__law_hands.mono (by decide)) (Z__law_known.mono (by decide)) (Z__law_of.mono (by decide)) (Z__law_near.mono (by decide))
  have Z__law_foe_tree : CalZ P w K mg base 4 "_law_foe_tree" P__law_foe_tree [] (sp__law_foe_tree K) := calZ_all F__law_foe_tree O__law_foe_tree (He.glo_ok X G (c.fact 9 (f := .glo "_law_foe_tree") rfl)) fun _ _ _ _ _ _ us hl => match us, hl with | [_, _, _, _], _ => rfl
  have O_first_common := ok_first_common (P := P) (base := base) F_first_common T kt ka tx (Z_shared_row.mono (by decide)) (Z_slot_of.mono (by decide))
  have Z_first_common : CalZ P w K mg base 4 "first_common" P_first_common [] (sp_first_common K) := calZ_all F_first_common O_first_common (He.glo_ok X G (c.fact 32 (f := .glo "first_common") rfl)) fun _ _ _ _ _ _ us hl => match us, hl with | [_, _, _, _], _ => rfl
  have O__law_any := ok__law_any (P := P) (base := base) F__law_any T kt ka tx (Z__law_draw.mono (by decide)) (Z__law_wild.mono (by decide)) (Z__law_late.mono (by decide)) (Z__law_turned.mono (by decide)) (Z__law_foe_tree.mono (by decide)) (Z__law_letters.mono (by decide))
  have Z__law_any : CalZ P w K mg base 5 "_law_any" P__law_any [] (sp__law_any K) := calZ_all F__law_any O__law_any (He.glo_ok X G (c.fact 11 (f := .glo "_law_any") rfl)) fun _ _ _ _ _ _ us hl => match us, hl with | [_, _], _ => rfl
  have O_tree_from := ok_tree_from (P := P) (base := base) F_tree_from T kt ka tx (I_Tree.mono (by decide)) (Z_depths_of.mono (by decide)) (Z_tree_text.mono (by decide))
  have Z_tree_from : CalZ P w K mg base 5 "tree_from" P_tree_from [] (sp_tree_from K) := calZ_all F_tree_from O_tree_from (He.glo_ok X G (c.fact 24 (f := .glo "tree_from") rfl)) fun _ _ _ _ _ _ us hl => match us, hl with | [_], _ => rfl
  have O_common_block := ok_common_block (P := P) (base := base) F_common_block T kt ka tx (R_OutOf.mono (by decide)) (IN_Tree.mono (by decide)) (Z_first_common.mono (by decide))
  have Z_common_block : CalZ P w K mg base 5 "common_block" P_common_block [] (sp_common_block K) := calZ_all F_common_block O_common_block (He.glo_ok X G (c.fact 33 (f := .glo "common_block") rfl)) fun _ _ _ _ _ _ us hl => match us, hl with | [_, _, _, _], _ => rfl
  have O_Tree_of := ok_Tree_of (P := P) (base := base) F_Tree_of T kt ka tx (Z_line_of_wrong_triple.mono (by decide)) (Z_tree_from.mono (by decide))
  have B_Tree_of : Binds K fd_Tree_of P_Tree_of [] := F_Tree_of.bindsN fun _ _ _ _ _ _ us hl => match us, hl with | [_], _ => rfl
  have S_Tree_of : CalZS P w K mg base 6 (He.ga K "Tree") "of" P_Tree_of (sp_Tree_of K) := smZ_ok (x6) F_Tree_of.kp O_Tree_of B_Tree_of
  have O__law_told := ok__law_told (P := P) (base := base) F__law_told T kt ka tx (T__law_error.mono (by decide)) (Z_common_block.mono (by decide))
  have Z__law_told : CalZ P w K mg base 6 "_law_told" P__law_told [] (sp__law_told K) := calZ_all F__law_told O__law_told (He.glo_ok X G (c.fact 34 (f := .glo "_law_told") rfl)) fun _ _ _ _ _ _ us hl => match us, hl with | [_, _, _, _], _ => rfl
  rw [hP]
  exact ok_law (P := P) (base := base) F_law T kt ka tx (C__law_bag.mono (by decide)) (Z__law_any.mono (by decide)) (Z__law_draw.mono (by decide)) (Z__law_rows.mono (by decide)) (S_Tree_of.mono (by decide)) (Z__law_pairs.mono (by decide)) (Z__law_of.mono (by decide)) (Z__law_due.mono (by decide)) (Z__law_like2.mono (by decide)) (Z__law_told.mono (by decide))
end My
open PySem PySem.W PySem.Calls PyProof.Rows
theorem PySem.Challenge.cw_buriedsure_k09_whole_common_blocks_holds : PySem.Challenge.rw_buriedsure_k09_whole_common_blocks.Holds := by
  w_on; o_law
  refine HandSHeadRun.head_any (r := OpenLaw.row PySem.Challenge.rw_buriedsure_k09_whole_common_blocks) (q := view (OpenLaw.row PySem.Challenge.rw_buriedsure_k09_whole_common_blocks).prog [75]) (H := My.hk) (ob := My.ob) (M := 12000) (loose := My.loose) (d := HandSHeadRun.topDef (OpenLaw.row PySem.Challenge.rw_buriedsure_k09_whole_common_blocks).prog 75) (kwd := []) My.ob_eq
    (by kernel_rfl) (fun s => by kernel_rfl) My.run (by kernel_rfl) (by kernel_rfl) (by kernel_rfl) (by rfl) (by first | assumption | decide +kernel) (by decide +kernel) ⟨rfl, rfl, rfl, rfl, rfl, by decide +kernel⟩ ?hw ?hc
  case hw => w_witness2
  case hc =>
    refine LamX.walk_ofTsE (l := PySem.Challenge.rw_buriedsure_k09_whole_common_blocks) (n := 63) (k := 7) (x := "script") (CX := fun _ => L2.CX0) rfl (by decide) (by kernel_rfl) ⟨rfl, by decide, by decide⟩ ?F (fun _ _ _ _ _ z => z)
    intro w mg fa h Y G hmg0
    obtain ⟨K, KX, c⟩ := Y
    have hmg : mg ("law" : PySem.Str) = some (.ref fa) := by
      have e : (HandSHeadRun.topDef (OpenLaw.row PySem.Challenge.rw_buriedsure_k09_whole_common_blocks).prog 75).name = ("law" : PySem.Str) := by kernel_rfl
      rw [← e]
      exact hmg0
    exact ⟨K, KX, My.facts KX G hmg c⟩
end
